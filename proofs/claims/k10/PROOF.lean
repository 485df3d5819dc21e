import PyProof.Rows.All
import Wide.All
import OpenK.AllK
import Wide.FinOn
import PySem.Challenge.RW_standviews_k10_net_of_two_stores
import HandS.ForMost
import HandS.Flow
import KE.KDictKeyed
import PyProof.ReprReads
import HandS.Ends
import HandS.Zip
import KE.KEqNest
import PyProof.NeKinds
import HandS.TupAny
import HandS.Style
import HandS.IsInst
import HandS.Strs
import HandS.TupLe
import PyProof.Rows.IntBool
import PyProof.TwoTypesSub
import PyProof.CollectIter
import PyProof.MakeMany
import HandS.TupMul
import HandS.More
import HandS.EndBits
import HandS.Set
import PyProof.ReprRoads
import HandS.RaiseMore
import HandS.HeadHook3
import PyProof.AutoSeq1
import PyProof.SeqRoads
import HandS.TryOnly
import KE.GoesNew
import KE.GoesMore
import HandS.List
import KE.SortKeyHeap
import HandS.SortKw
import HandS.DictComp
import HandS.DictSubView
import KE.KDictList
import HandS.Iter
import KE.GoesEnum
import PyProof.ReprLen
set_option Elab.async false
set_option linter.all false
set_option maxRecDepth 1000000
set_option maxHeartbeats 2000000
/-! G0: deep values, stores, the relation to the tracked heap; judgements by functions. -/
namespace G
/-- the world whose hashes the dicts keyed by rows bear -/
class Wld where
  w : PySem.World
variable [Wld]
open PySem PySem.Spec PyProof.Rows L2

/-- deep data; ref: an object of the store -/
inductive D where
  | non | bl (b : Bool) | int (i : Int) | str (x : Str) | tup (ds : List D) | lst (ds : List D) | dic (ks : List Key) (ds : List D) | ref (n : Nat) | fn (a : Addr)
/-- an object that may change -/
inductive O where
  | lst (ds : List D) | dct (kvs : List (Key × D)) | kd (kvs : List (D × D))
/-- what an expression gives -/
inductive R where
  | d (x : D) | new (o : O) | brw (o : O) | loc (i : Nat)
/-- what a slot holds -/
inductive Sl where
  | d (x : D) | own (o : O) | brw (o : O)
abbrev SV := L2.St
abbrev En := List (Option Sl)
abbrev Sto := List O
abbrev M (α : Type) := En → Sto → Option (α × En × Sto)

mutual
/-- a row as a key -/
def nk : D → Option NestedKey
  | .non => some .none
  | .int i => some (.num i)
  | .str x => some (.text x)
  | .tup ds => (nks ds).map .tup
  | _ => none
def nks : List D → Option (List NestedKey)
  | [] => some []
  | d :: ds => match nk d, nks ds with
    | some k, some ks => some (k :: ks)
    | _, _ => none
end
/-- one object, just as it stands -/
abbrev exa (a : Addr) (o : PySem.Obj) : HO := .ext fun h => h.get? a = some o
/-- a list that nobody writes: locked, or of the text's own -/
def LF (K : PySem.W.Frag) (H : Hp) (a : Addr) (xs : List V) : Prop := (∃ o, H a = some (.frz o (.lst xs))) ∨
  ∃ (o : PySem.Obj) (its : Array Value) (n : Nat), K.lookup a = some o ∧ o.cls = .type "list" ∧ o.dict = none ∧ o.data = .seq its n ∧ its.size ≤ sizeLine ∧ Vals xs its.toList
theorem LF.sq {K : PySem.W.Frag} {H : Hp} {a : Addr} {xs : List V} (h : LF K H a xs) : SqL K H a xs := by
  rcases h with ⟨o, h⟩ | h
  · exact .inl (.inr ⟨o, h⟩)
  · exact .inr h
section
variable (K : PySem.W.Frag) (H : Hp) (ι : List Addr)
mutual
inductive RD : V → D → Prop
  | non : RD .non .non
  | bl (b : Bool) : RD (.bl b) (.bl b)
  | int (i : Int) : RD (.int i) (.int i)
  | str (x : Str) : RD (.str x) (.str x)
  | tup {a : Addr} {xs : List V} {ds : List D} : SqT K H a xs → RDs xs ds → RD (.ref a) (.tup ds)
  | lst {a : Addr} {xs : List V} {ds : List D} : LF K H a xs → RDs xs ds → RD (.ref a) (.lst ds)
  | dic {a : Addr} {o : PySem.Obj} {xs : List V} {ks : List Key} {ds : List D} : H a = some (.frz o (.dK (ks.zip xs))) → ks.length = ds.length → RDs xs ds → RD (.ref a) (.dic ks ds)
  | ref {n : Nat} {a : Addr} : ι[n]? = some a → RD (.ref a) (.ref n)
  | fn (a : Addr) : RD (.ref a) (.fn a)
inductive RDs : List V → List D → Prop
  | nil : RDs [] []
  | cons {v : V} {vs : List V} {d : D} {ds : List D} : RD v d → RDs vs ds → RDs (v :: vs) (d :: ds)
end
def RK (ws : List (Key × V)) (kvs : List (Key × D)) : Prop := Paired (fun (p : Key × V) (q : Key × D) => p.1 = q.1 ∧ RD K H ι p.2 q.2) ws kvs
/-- a dict keyed by rows, entry by entry -/
structure KdAt (a : Addr) (kvs : List (D × D)) (o : PySem.Obj) (es : Array DictEntry) (ep : Nat) (xs : List (NestedKey × Addr × V × Value)) : Prop where
  at_ : H a = some (exa a o)
  ex : o.ExactDict
  dt : o.data = .dict es ep
  en : es.toList = xs.map fun x => ⟨x.1.hash Wld.w, .ref x.2.1, x.2.2.2⟩
  nd : (xs.map (·.1)).Nodup
  sz : xs.length ≤ sizeLine
  sm : (a == sysModules) = false
  dp : ∀ x ∈ xs, x.1.depth ≤ 8
  pr : Paired (fun (x : NestedKey × Addr × V × Value) (q : D × D) => nk q.1 = some x.1 ∧ RD K H ι (.ref x.2.1) q.1 ∧ RelV x.2.2.1 x.2.2.2 ∧ RD K H ι x.2.2.1 q.2) xs kvs
def RO (a : Addr) : O → Prop
  | .kd kvs => ∃ o es ep xs, KdAt K H ι a kvs o es ep xs
  | .lst ds => ∃ xs, H a = some (.lst xs) ∧ RDs K H ι xs ds
  | .dct kvs => ∃ ws, H a = some (.dK ws) ∧ RK K H ι ws kvs
def RSl (v : V) : Sl → Prop
  | .d x => RD K H ι v x
  | .own o => ∃ a, v = .ref a ∧ RO K H ι a o
  | .brw o => ∃ a, v = .ref a ∧ RO K H ι a o
end
def Sl.isObj : Sl → Prop
  | .d _ => False
  | _ => True
def Own (σ : SV) (e : En) (a : Addr) : Prop := ∃ (i : Nat) (o : O), e[i]? = some (some (.own o)) ∧ σ[i]? = some (some (.ref a))
def Obj (σ : SV) (e : En) (a : Addr) : Prop := ∃ (i : Nat) (s : Sl), e[i]? = some (some s) ∧ s.isObj ∧ σ[i]? = some (some (.ref a))
structure Rel (K : PySem.W.Frag) (H : Hp) (ι : List Addr) (σ : SV) (e : En) (S : Sto) : Prop where
  len : σ.length = e.length
  sl : ∀ (i : Nat) (s : Sl), e[i]? = some (some s) → ∃ v, σ[i]? = some (some v) ∧ RSl K H ι v s
  ilen : ι.length = S.length
  st : ∀ (n : Nat) (o : O) (a : Addr), S[n]? = some o → ι[n]? = some a → RO K H ι a o
  nd : ι.Nodup
  own : ∀ (i : Nat) (o : O) (a : Addr), e[i]? = some (some (.own o)) → σ[i]? = some (some (.ref a)) → a ∉ ι ∧ ∀ (j : Nat) (s : Sl) (b : Addr), j ≠ i → e[j]? = some (some s) → s.isObj → σ[j]? = some (some (.ref b)) → a ≠ b
  brw : ∀ (i : Nat) (o : O) (a : Addr), e[i]? = some (some (.brw o)) → σ[i]? = some (some (.ref a)) → a ∉ ι
theorem Obj.of {σ : SV} {e : En} {a : Addr} (h : Own σ e a) : Obj σ e a := let ⟨i, o, h1, h2⟩ := h; ⟨i, _, h1, trivial, h2⟩
/-- tuples and locked things stay -/
structure Stay (H H' : Hp) : Prop where
  tup : ∀ a xs, H a = some (.tup xs) → H' a = some (.tup xs)
  frz : ∀ a o u, H a = some (.frz o u) → H' a = some (.frz o u)
structure Post (H : Hp) (ι : List Addr) (σ : SV) (e : En) (H' : Hp) (ι' : List Addr) (σ' : SV) (e' : En) : Prop where
  pre : ∃ l, ι' = ι ++ l
  stay : Stay H H'
  dom : ∀ a o, H a = some o → ∃ o', H' a = some o'
  keep : ∀ a o, H a = some o → a ∉ ι → ¬ Own σ e a → H' a = some o ∧ a ∉ ι' ∧ ¬ Own σ' e' a ∧ (¬ Obj σ e a → ¬ Obj σ' e' a)

theorem Stay.refl (H : Hp) : Stay H H := ⟨fun _ _ h => h, fun _ _ _ h => h⟩
theorem Stay.trans {H H1 H2 : Hp} (a : Stay H H1) (b : Stay H1 H2) : Stay H H2 := ⟨fun x y h => b.tup x y (a.tup x y h), fun x y z h => b.frz x y z (a.frz x y z h)⟩
theorem Stay.new {H : Hp} {p : Addr} {o : HO} (h : H p = none) : Stay H (upd H p o) :=
  ⟨fun a xs e => by rw [upd_ne (ne_of_none e h)]; exact e, fun a o xs e => by rw [upd_ne (ne_of_none e h)]; exact e⟩
theorem Stay.mut {H : Hp} {p : Addr} {o u : HO} (h : H p = some u) (n1 : ∀ xs, u ≠ .tup xs) (n2 : ∀ o x, u ≠ .frz o x) : Stay H (upd H p o) :=
  ⟨fun a xs e => by rw [upd_ne (ne_of e h (n1 xs).symm)]; exact e, fun a o xs e => by rw [upd_ne (ne_of e h (n2 _ _).symm)]; exact e⟩
theorem Post.refl {H : Hp} {ι : List Addr} {σ : SV} {e : En} : Post H ι σ e H ι σ e := ⟨⟨[], by simp⟩, .refl _, fun _ o h => ⟨o, h⟩, fun _ _ h1 h2 h3 => ⟨h1, h2, h3, fun h => h⟩⟩
theorem Post.trans {H H1 H2 : Hp} {ι ι1 ι2 : List Addr} {σ σ1 σ2 : SV} {e e1 e2 : En} (a : Post H ι σ e H1 ι1 σ1 e1) (b : Post H1 ι1 σ1 e1 H2 ι2 σ2 e2) : Post H ι σ e H2 ι2 σ2 e2 := by
  obtain ⟨⟨l, rfl⟩, s, d, k⟩ := a
  obtain ⟨⟨l', rfl⟩, s', d', k'⟩ := b
  exact ⟨⟨l ++ l', by simp⟩, s.trans s', fun x o h => let ⟨o1, h1⟩ := d x o h; d' x o1 h1, fun x o h1 h2 h3 => let ⟨q1, q2, q3, q4⟩ := k x o h1 h2 h3; let ⟨z1, z2, z3, z4⟩ := k' x o q1 q2 q3; ⟨z1, z2, z3, fun h => z4 (q4 h)⟩⟩

section
variable {K : PySem.W.Frag} {H H' : Hp} {ι ι' : List Addr}
theorem stay_t (s : Stay H H') {a : Addr} {xs : List V} (h : SqT K H a xs) : SqT K H' a xs := by
  rcases h with (h | ⟨o, h⟩) | h
  · exact .inl (.inl (s.tup _ _ h))
  · exact .inl (.inr ⟨o, s.frz _ _ _ h⟩)
  · exact .inr h
theorem stay_l (s : Stay H H') {a : Addr} {xs : List V} (h : LF K H a xs) : LF K H' a xs := by
  rcases h with ⟨o, h⟩ | h
  · exact .inl ⟨o, s.frz _ _ _ h⟩
  · exact .inr h
mutual
theorem RD.mono (s : Stay H H') (p : ∃ l, ι' = ι ++ l) : ∀ (d : D) (v : V), RD K H ι v d → RD K H' ι' v d
  | .non, _, h => by cases h; exact .non
  | .bl b, _, h => by cases h; exact .bl b
  | .int b, _, h => by cases h; exact .int b
  | .str b, _, h => by cases h; exact .str b
  | .tup ds, _, h => by cases h with | tup h1 h2 => exact .tup (stay_t s h1) (RDs.mono s p ds _ h2)
  | .lst ds, _, h => by cases h with | lst h1 h2 => exact .lst (stay_l s h1) (RDs.mono s p ds _ h2)
  | .dic ks ds, _, h => by cases h with | dic h1 h2 h3 => exact .dic (s.frz _ _ _ h1) h2 (RDs.mono s p ds _ h3)
  | .ref n, _, h => by
    cases h with | ref h1 =>
      obtain ⟨l, rfl⟩ := p
      exact .ref (by rw [List.getElem?_append_left (List.getElem?_eq_some_iff.mp h1).1]; exact h1)
  | .fn a, _, h => by cases h; exact .fn a
theorem RDs.mono (s : Stay H H') (p : ∃ l, ι' = ι ++ l) : ∀ (ds : List D) (vs : List V), RDs K H ι vs ds → RDs K H' ι' vs ds
  | [], _, h => by cases h; exact .nil
  | d :: ds, _, h => by cases h with | cons h1 h2 => exact .cons (RD.mono s p d _ h1) (RDs.mono s p ds _ h2)
end
theorem RK.mono (s : Stay H H') (p : ∃ l, ι' = ι ++ l) {ws : List (Key × V)} {kvs : List (Key × D)} (h : RK K H ι ws kvs) : RK K H' ι' ws kvs :=
  Paired.mapP h fun _ _ z => ⟨z.1, RD.mono s p _ _ z.2⟩
theorem RO.mono (s : Stay H H') (p : ∃ l, ι' = ι ++ l) {a : Addr} {o : O} (k : ∀ u, H a = some u → H' a = some u) (h : RO K H ι a o) : RO K H' ι' a o := by
  cases o with
  | lst ds => obtain ⟨xs, h1, h2⟩ := h; exact ⟨xs, k _ h1, RDs.mono s p _ _ h2⟩
  | dct kvs => obtain ⟨ws, h1, h2⟩ := h; exact ⟨ws, k _ h1, h2.mono s p⟩
  | kd kvs =>
    obtain ⟨o, es, ep, xs, h⟩ := h
    exact ⟨o, es, ep, xs, k _ h.at_, h.ex, h.dt, h.en, h.nd, h.sz, h.sm, h.dp, Paired.mapP h.pr fun _ _ z => ⟨z.1, RD.mono s p _ _ z.2.1, z.2.2.1, RD.mono s p _ _ z.2.2.2⟩⟩
theorem RO.there {a : Addr} {o : O} (h : RO K H ι a o) : ∃ u, H a = some u ∧ Mut (some u) ∧ (∀ xs, u ≠ .tup xs) ∧ ∀ o x, u ≠ .frz o x := by
  cases o with
  | lst ds => obtain ⟨xs, h1, h2⟩ := h; exact ⟨_, h1, trivial, fun _ z => (nomatch z), fun _ _ z => (nomatch z)⟩
  | dct kvs => obtain ⟨xs, h1, h2⟩ := h; exact ⟨_, h1, trivial, fun _ z => (nomatch z), fun _ _ z => (nomatch z)⟩
  | kd kvs => obtain ⟨o, es, ep, xs, h⟩ := h; exact ⟨_, h.at_, trivial, fun _ z => (nomatch z), fun _ _ z => (nomatch z)⟩
theorem RDs.length : ∀ {vs : List V} {ds : List D}, RDs K H ι vs ds → vs.length = ds.length
  | _, [], h => by cases h; rfl
  | _, _ :: _, h => by cases h with | cons _ h2 => simp [RDs.length h2]
theorem RDs.get : ∀ {vs : List V} {ds : List D} {i : Nat} {d : D}, RDs K H ι vs ds → ds[i]? = some d → ∃ v, vs[i]? = some v ∧ RD K H ι v d
  | _, [], _, _, h, e => by simp at e
  | _, _ :: _, 0, _, h, e => by cases h with | cons h1 h2 => simp at e; subst e; exact ⟨_, rfl, h1⟩
  | _, _ :: _, i + 1, d, h, e => by
    cases h with | cons h1 h2 =>
      obtain ⟨v, e1, r⟩ := RDs.get h2 (by simpa using e)
      exact ⟨v, by simpa using e1, r⟩
theorem RDs.append : ∀ {vs ws : List V} {ds es : List D}, RDs K H ι vs ds → RDs K H ι ws es → RDs K H ι (vs ++ ws) (ds ++ es)
  | _, _, [], _, h, h' => by cases h; exact h'
  | _, _, _ :: _, _, h, h' => by cases h with | cons h1 h2 => exact .cons h1 (RDs.append h2 h')
theorem RDs.take (n : Nat) : ∀ {vs : List V} {ds : List D}, RDs K H ι vs ds → RDs K H ι (vs.take n) (ds.take n) := by
  induction n with
  | zero => intro vs ds h; simp; exact .nil
  | succ n ih => intro vs ds h; cases h with
    | nil => simp; exact .nil
    | cons h1 h2 => simp; exact .cons h1 (ih h2)
theorem RDs.drop (n : Nat) : ∀ {vs : List V} {ds : List D}, RDs K H ι vs ds → RDs K H ι (vs.drop n) (ds.drop n) := by
  induction n with
  | zero => intro vs ds h; simpa using h
  | succ n ih => intro vs ds h; cases h with
    | nil => simp; exact .nil
    | cons h1 h2 => simp; exact ih h2
theorem RDs.set : ∀ {vs : List V} {ds : List D} {v : V} {d : D} (i : Nat), RDs K H ι vs ds → RD K H ι v d → RDs K H ι (vs.set i v) (ds.set i d)
  | _, _, _, _, _, .nil, _ => .nil
  | _, _, _, _, 0, .cons h1 h2, r => .cons r h2
  | _, _, _, _, i + 1, .cons h1 h2, r => .cons h1 (RDs.set i h2 r)
theorem RDs.reverse : ∀ {vs : List V} {ds : List D}, RDs K H ι vs ds → RDs K H ι vs.reverse ds.reverse
  | _, _, .nil => .nil
  | _, _, .cons h1 h2 => by rw [List.reverse_cons, List.reverse_cons]; exact (RDs.reverse h2).append (.cons h1 .nil)
end
theorem Post.back {H H' : Hp} {ι ι' : List Addr} {σ σ' : SV} {e e' : En} (P : Post H ι σ e H' ι' σ' e') {a : Addr} (h : H' a = none) : H a = none := by
  cases q : H a with
  | none => rfl
  | some o => obtain ⟨o', q'⟩ := P.dom a o q; rw [h] at q'; cases q'
end G

set_option Elab.async false
set_option linter.all false
set_option maxRecDepth 1000000
set_option maxHeartbeats 2000000
/-! G1: judgements by functions; expressions. -/
namespace G
variable [Wld]
open PySem PySem.Spec PyProof.Rows L2

def RR (K : PySem.W.Frag) (H : Hp) (ι : List Addr) (σ : SV) (e : En) (v : V) : R → Prop
  | .d x => RD K H ι v x
  | .new o => ∃ a, v = .ref a ∧ RO K H ι a o ∧ a ∉ ι ∧ ¬ Obj σ e a
  | .brw o => ∃ a, v = .ref a ∧ RO K H ι a o ∧ a ∉ ι ∧ ¬ Own σ e a
  | .loc i => σ[i]? = some (some v)
def Fresh (H : Hp) (v : V) : R → Prop
  | .new _ => ∃ a, v = .ref a ∧ H a = none
  | _ => True
section
variable {K : PySem.W.Frag} {H H' : Hp} {ι ι' : List Addr} {σ σ' : SV} {e e' : En} {S S' : Sto} {v : V} {r : R}
theorem RR.post (h : RR K H ι σ e v r) (P : Post H ι σ e H' ι' σ e') : RR K H' ι' σ e' v r := by
  cases r with
  | d x => exact RD.mono P.stay P.pre _ _ h
  | new o =>
    obtain ⟨a, rfl, ro, h1, h2⟩ := h
    obtain ⟨u, hu, _⟩ := ro.there
    have h3 : ¬ Own σ e a := fun z => h2 (.of z)
    obtain ⟨_, k1, _, k2⟩ := P.keep a u hu h1 h3
    exact ⟨a, rfl, ro.mono P.stay P.pre fun u' hu' => (P.keep a u' hu' h1 h3).1, k1, k2 h2⟩
  | brw o =>
    obtain ⟨a, rfl, ro, h1, h2⟩ := h
    obtain ⟨u, hu, _⟩ := ro.there
    obtain ⟨_, k1, k2, _⟩ := P.keep a u hu h1 h2
    exact ⟨a, rfl, ro.mono P.stay P.pre fun u' hu' => (P.keep a u' hu' h1 h2).1, k1, k2⟩
  | loc i => exact h
theorem Fresh.back (h : Fresh H' v r) (P : Post H ι σ e H' ι' σ' e') : Fresh H v r := by
  cases r with
  | new o => obtain ⟨a, rfl, h1⟩ := h; exact ⟨a, rfl, P.back h1⟩
  | _ => trivial
end
/-- the reading by a function -/
def tG (K : PySem.W.Frag) (m : M R) : TE := fun σ H Q => ∃ ι e S r e' S', Rel K H ι σ e S ∧ m e S = some (r, e', S') ∧
  ∀ v H' ι', Rel K H' ι' σ e' S' → Post H ι σ e H' ι' σ e' → RR K H' ι' σ e' v r → Fresh H v r → Q v H'
def tGT (K : PySem.W.Frag) (m : M Bool) : TT := fun σ H Q => ∃ ι e S r e' S', Rel K H ι σ e S ∧ m e S = some (r, e', S') ∧
  ∀ H' ι', Rel K H' ι' σ e' S' → Post H ι σ e H' ι' σ e' → Q r H'
inductive RRs (K : PySem.W.Frag) (H : Hp) (ι : List Addr) (σ : SV) (e : En) : List V → List R → Prop
  | nil : RRs K H ι σ e [] []
  | cons {v vs r rs} : RR K H ι σ e v r → RRs K H ι σ e vs rs → RRs K H ι σ e (v :: vs) (r :: rs)
def tGA (K : PySem.W.Frag) (m : M (List R)) : TA := fun σ H Q => ∃ ι e S r e' S', Rel K H ι σ e S ∧ m e S = some (r, e', S') ∧
  ∀ vs H' ι', Rel K H' ι' σ e' S' → Post H ι σ e H' ι' σ e' → RRs K H' ι' σ e' vs r → Q vs H'
theorem RRs.post {K : PySem.W.Frag} {H H' : Hp} {ι ι' : List Addr} {σ : SV} {e e' : En} {vs : List V} {rs : List R} (h : RRs K H ι σ e vs rs) (P : Post H ι σ e H' ι' σ e') : RRs K H' ι' σ e' vs rs := by
  induction h with
  | nil => exact .nil
  | cons h1 _ ih => exact .cons (h1.post P) ih

def bnd {α β : Type} (m : M α) (f : α → M β) : M β := fun e S => match m e S with
  | some (a, e', S') => f a e' S'
  | none => none
def pur {α : Type} (a : α) : M α := fun e S => some (a, e, S)
def stk {α : Type} : M α := fun _ _ => none
theorem bnd_eq {α β : Type} {m : M α} {f : α → M β} {e : En} {S : Sto} {z : β × En × Sto} (h : bnd m f e S = some z) : ∃ a e1 S1, m e S = some (a, e1, S1) ∧ f a e1 S1 = some z := by
  unfold bnd at h
  split at h
  · exact ⟨_, _, _, by assumption, h⟩
  · cases h
theorem PE.imp {X : Cx} {ex : Expr} {t t' : TE} (h : PE X ex t) (w : ∀ σ H Q, t' σ H Q → t σ H Q) : PE X ex t' := ⟨fun pins s σ H Q I q => h.run pins s σ H Q I (w σ H Q q)⟩
theorem PT.imp {X : Cx} {ex : Expr} {t t' : TT} (h : PT X ex t) (w : ∀ σ H Q, t' σ H Q → t σ H Q) : PT X ex t' := ⟨fun pins s σ H Q I q => h.run pins s σ H Q I (w σ H Q q)⟩
theorem PA.imp {X : Cx} {es : List Expr} {t t' : TA} (h : PA X es t) (w : ∀ σ H Q, t' σ H Q → t σ H Q) : PA X es t' := ⟨fun pos pins s σ H Q I q => h.run pos pins s σ H Q I (w σ H Q q)⟩
theorem PS.imp {X : Cx} {st : Stmt} {t t' : TS} (h : PS X st t) (w : ∀ D σ H, t' D σ H → t D σ H) : PS X st t' := ⟨fun pins s σ H D I q => h.run pins s σ H D I (w D σ H q)⟩
theorem PSs.imp {X : Cx} {st : List Stmt} {t t' : TS} (h : PSs X st t) (w : ∀ D σ H, t' D σ H → t D σ H) : PSs X st t' := ⟨fun pins s σ H D I q => h.run pins s σ H D I (w D σ H q)⟩
abbrev GE (X : Cx) (ex : Expr) (m : M R) : Prop := PE X ex (tG X.K m)
abbrev GT (X : Cx) (ex : Expr) (m : M Bool) : Prop := PT X ex (tGT X.K m)
abbrev GA (X : Cx) (es : List Expr) (m : M (List R)) : Prop := PA X es (tGA X.K m)

/-! ### names, constants -/
def mVar (i : Nat) : M R := fun e S => match e[i]? with
  | some (some (.d x)) => some (.d x, e, S)
  | some (some (.own _)) => some (.loc i, e, S)
  | some (some (.brw o)) => some (.brw o, e, S)
  | _ => none
def mC (x : D) : M R := pur (.d x)
section
variable {X : Cx} {pos : Pos}
theorem tG_pure {K : PySem.W.Frag} {m : M R} {σ : SV} {H : Hp} {Q : VK} (h : tG K m σ H Q) (f : ∀ ι e S r e' S', Rel K H ι σ e S → m e S = some (r, e', S') → ∃ v, Rel K H ι σ e' S' ∧ Post H ι σ e H ι σ e' ∧ RR K H ι σ e' v r ∧ Fresh H v r ∧ True) : ∃ v, Q v H := by
  obtain ⟨ι, e, S, r, e', S', R, hm, q⟩ := h
  obtain ⟨v, a, b, c, d, _⟩ := f ι e S r e' S' R hm
  exact ⟨v, q v H ι a b c d⟩
theorem ge_c {ex : Expr} {v : V} {x : D} (h : PE X ex (tC v)) (r : ∀ H ι, RD X.K H ι v x) : GE X ex (mC x) := PE.imp h fun σ H Q q => by
  obtain ⟨ι, e, S, r', e', S', R, hm, q⟩ := q
  cases hm
  exact q v H ι R .refl (r H ι) trivial
theorem ge_int {i : Int} {j} : GE X (.Constant (.int i) j pos) (mC (.int i)) := ge_c pe_int fun _ _ => .int i
theorem ge_bl {i : Bool} {j} : GE X (.Constant (.bool i) j pos) (mC (.bl i)) := ge_c pe_bl fun _ _ => .bl i
theorem ge_non {j} : GE X (.Constant .none j pos) (mC .non) := ge_c pe_non fun _ _ => .non
theorem ge_str {x : Str} {j} : GE X (.Constant (.str x) j pos) (mC (.str x)) := ge_c pe_str fun _ _ => .str x
/-- a constant of the module -/
theorem ge_glob {x : Str} {v : V} {d : D} {u : Value} (hg : Gl X x) (hm : X.mg x = some u) (r : RelV v u) (rd : ∀ H ι, RD X.K H ι v d) (hd : (x == ("__debug__" : Str)) = false := by decide) : GE X (.Name x pos) (mC d) := ge_c (pe_glob hg hm r hd) rd
theorem ge_var (i : Nat) {x : Str} (hN : X.N[i]? = some x := by rfl) (hv : Vis X.env.scope x := by first | exact Or.inl rfl | exact Or.inr (Or.inl rfl) | exact Or.inr (Or.inr rfl)) (hd : (x == ("__debug__" : Str)) = false := by decide)
    (hcd : (x == ("__classdict__" : Str)) = false := by decide) : GE X (.Name x pos) (mVar i) := PE.imp (pe_var hN hv hd hcd) fun σ H Q q => by
  obtain ⟨ι, e, S, r', e', S', R, hm, q⟩ := q
  unfold mVar at hm
  split at hm <;> cases hm
  · rename_i x he
    obtain ⟨v, hv, hr⟩ := R.sl i _ he
    exact ⟨v, hv, q v H ι R .refl hr trivial⟩
  · rename_i o he
    obtain ⟨v, hv, hr⟩ := R.sl i _ he
    exact ⟨v, hv, q v H ι R .refl hv trivial⟩
  · rename_i o he
    obtain ⟨v, hv, a, rfl, ro⟩ := R.sl i _ he
    have h1 := R.brw i o a he hv
    refine ⟨_, hv, q _ H ι R .refl ⟨a, rfl, ro, h1, ?_⟩ trivial⟩
    rintro ⟨j, o', hj, hσ⟩
    have hne : i ≠ j := fun z => by subst z; rw [he] at hj; cases hj
    exact (R.own j o' a hj hσ).2 i _ a hne he trivial hv rfl
end

/-! ### two places -/
def tO2 (K : PySem.W.Frag) (g : R → R → M R) : R2 := fun x y H Q => ∃ ι σ e S rx ry r e' S', Rel K H ι σ e S ∧ RR K H ι σ e x rx ∧ RR K H ι σ e y ry ∧ g rx ry e S = some (r, e', S') ∧
  ∀ v H' ι', Rel K H' ι' σ e' S' → Post H ι σ e H' ι' σ e' → RR K H' ι' σ e' v r → Fresh H v r → Q v H'
def tO1 (K : PySem.W.Frag) (g : R → M R) : V → Hp → VK → Prop := fun x H Q => ∃ ι σ e S rx r e' S', Rel K H ι σ e S ∧ RR K H ι σ e x rx ∧ g rx e S = some (r, e', S') ∧
  ∀ v H' ι', Rel K H' ι' σ e' S' → Post H ι σ e H' ι' σ e' → RR K H' ι' σ e' v r → Fresh H v r → Q v H'
def tOA (K : PySem.W.Frag) (g : List R → M R) : List V → Hp → VK → Prop := fun xs H Q => ∃ ι σ e S rs r e' S', Rel K H ι σ e S ∧ RRs K H ι σ e xs rs ∧ g rs e S = some (r, e', S') ∧
  ∀ v H' ι', Rel K H' ι' σ e' S' → Post H ι σ e H' ι' σ e' → RR K H' ι' σ e' v r → Fresh H v r → Q v H'
theorem OpR.imp {X : Cx} {f : Value → Value → Sem Value} {r r' : R2} (h : OpR X f r) (w : ∀ x y H Q, r' x y H Q → r x y H Q) : OpR X f r' := fun pins s σ H x y v u Q I rx ry q => h pins s σ H x y v u Q I rx ry (w _ _ _ _ q)
theorem UnR.imp {X : Cx} {f : Value → Sem Value} {r r' : V → Hp → VK → Prop} (h : UnR X f r) (w : ∀ x H Q, r' x H Q → r x H Q) : UnR X f r' := fun pins s σ H x v Q I rx q => h pins s σ H x v Q I rx (w _ _ _ q)
theorem CallR.imp {X : Cx} {f : Value} {r r' : List V → Hp → VK → Prop} (h : CallR X f r) (w : ∀ x H Q, r' x H Q → r x H Q) : CallR X f r' := fun pins s σ H x v Q I rx q => h pins s σ H x v Q I rx (w _ _ _ q)
def mBin (g : R → R → M R) (ma mb : M R) : M R := bnd ma fun x => bnd mb fun y => g x y
def mUn (g : R → M R) (ma : M R) : M R := bnd ma g
theorem tG_bin {K : PySem.W.Frag} {g : R → R → M R} {ma mb : M R} {σ : SV} {H : Hp} {Q : VK} (h : tG K (mBin g ma mb) σ H Q) : tOp (tO2 K g) (tG K ma) (tG K mb) σ H Q := by
  obtain ⟨ι, e, S, r, e', S', R, hm, q⟩ := h
  obtain ⟨x, e1, S1, h1, hm⟩ := bnd_eq hm
  obtain ⟨y, e2, S2, h2, hm⟩ := bnd_eq hm
  exact ⟨ι, e, S, x, e1, S1, R, h1, fun v H1 ι1 R1 P1 r1 _ => ⟨ι1, e1, S1, y, e2, S2, R1, h2, fun w H2 ι2 R2 P2 r2 _ =>
    ⟨ι2, σ, e2, S2, x, y, r, e', S', R2, r1.post P2, r2, hm, fun v H3 ι3 R3 P3 r3 f3 => q v H3 ι3 R3 ((P1.trans P2).trans P3) r3 (f3.back (P1.trans P2))⟩⟩⟩
section
variable {X : Cx} {pos : Pos} {a b : Expr} {ma mb : M R}
theorem ge_op {op : Operator} {g : R → R → M R} (ho : OpR X (binaryOp op) (tO2 X.K g)) (ha : GE X a ma) (hb : GE X b mb) : GE X (.BinOp a op b pos) (mBin g ma mb) := PE.imp (pe_op ho ha hb) fun σ H Q q => tG_bin q
theorem ge_cmp {op : CmpOp} {g : R → R → M R} (ho : OpR X (compareOp op) (tO2 X.K g)) (ha : GE X a ma) (hb : GE X b mb) (hm : behindInMarks op b = false := by first | exact nomark _ | rfl) : GE X (.Compare a [op] [b] pos) (mBin g ma mb) :=
  PE.imp (pe_cmpR ho ha hb hm) fun σ H Q q => tG_bin q
def asB (r : R) : M Bool := match r with
  | .d (.bl b) => pur b
  | _ => stk
theorem tG_test {K : PySem.W.Frag} {m : M R} {σ : SV} {H : Hp} {Q : Bool → Hp → Prop} (h : tGT K (bnd m asB) σ H Q) : tG K m σ H fun x H' => ∃ k, x = .bl k ∧ Q k H' := by
  obtain ⟨ι, e, S, r, e', S', R, hm, q⟩ := h
  obtain ⟨x, e1, S1, h1, hm⟩ := bnd_eq hm
  refine ⟨ι, e, S, x, e1, S1, R, h1, fun v H1 ι1 R1 P1 r1 _ => ?_⟩
  unfold asB at hm
  split at hm
  · cases hm
    cases r1
    exact ⟨_, rfl, q H1 ι1 R1 P1⟩
  · cases hm
theorem gt_cmp {op : CmpOp} {g : R → R → M R} (ho : OpR X (compareOp op) (tO2 X.K g)) (ha : GE X a ma) (hb : GE X b mb) (hm : behindInMarks op b = false := by first | exact nomark _ | rfl) : GT X (.Compare a [op] [b] pos) (bnd (mBin g ma mb) asB) :=
  PT.imp (pt_cmpR ho ha hb hm) fun σ H Q q => by
    have h := tG_test q
    exact tG_bin h
theorem gt_val {ex : Expr} {m : M R} (h : GE X ex m) (he : ∀ whole, isTrue ex X.env whole = (do let v ← whole; standAt ex.pos; holding [v] (truthy v)) := by intro _; rfl) : GT X ex (bnd m asB) :=
  PT.imp (pt_val h he) fun σ H Q q => tG_test q
theorem ge_un {op : UnaryOp} {g : R → M R} (ho : UnR X (unaryOp op) (tO1 X.K g)) (ha : GE X a ma) : GE X (.UnaryOp op a pos) (mUn g ma) := PE.imp (pe_un ho ha) fun σ H Q q => by
  obtain ⟨ι, e, S, r, e', S', R, hm, q⟩ := q
  obtain ⟨x, e1, S1, h1, hm⟩ := bnd_eq hm
  exact ⟨ι, e, S, x, e1, S1, R, h1, fun v H1 ι1 R1 P1 r1 _ => ⟨ι1, σ, e1, S1, x, r, e', S', R1, r1, hm, fun v H3 ι3 R3 P3 r3 f3 => q v H3 ι3 R3 (P1.trans P3) r3 (f3.back P1)⟩⟩
/-! ### and, or, not, if -/
def mIf {α : Type} (c : M Bool) (a b : M α) : M α := bnd c fun x => if x = true then a else b
def mNot (c : M Bool) : M Bool := bnd c fun x => pur (!x)
def mAnd (c d : M Bool) : M Bool := bnd c fun x => if x = true then d else pur false
def mOr (c d : M Bool) : M Bool := bnd c fun x => if x = true then pur true else d
def mB (c : M Bool) : M R := bnd c fun x => pur (.d (.bl x))
variable {c d : Expr} {mc md : M Bool} {rest : List Expr}
theorem gt_not (h : GT X c mc) : GT X (.UnaryOp .Not c pos) (mNot mc) := PT.imp (pt_not h) fun σ H Q q => by
  obtain ⟨ι, e, S, r, e', S', R, hm, q⟩ := q
  obtain ⟨x, e1, S1, h1, hm⟩ := bnd_eq hm
  cases hm
  exact ⟨ι, e, S, x, _, _, R, h1, q⟩
theorem tGT_bnd {K : PySem.W.Frag} {m : M Bool} {f : Bool → M Bool} {σ : SV} {H : Hp} {Q : Bool → Hp → Prop} (h : tGT K (bnd m f) σ H Q) : tGT K m σ H fun b H1 => tGT K (f b) σ H1 Q := by
  obtain ⟨ι, e, S, r, e', S', R, hm, q⟩ := h
  obtain ⟨x, e1, S1, h1, hm⟩ := bnd_eq hm
  exact ⟨ι, e, S, x, e1, S1, R, h1, fun H1 ι1 R1 P1 => ⟨ι1, e1, S1, r, e', S', R1, hm, fun H2 ι2 R2 P2 => q H2 ι2 R2 (P1.trans P2)⟩⟩
theorem tGT_pur {K : PySem.W.Frag} {b : Bool} {σ : SV} {H : Hp} {Q : Bool → Hp → Prop} (h : tGT K (pur b) σ H Q) : Q b H := by
  obtain ⟨ι, e, S, r, e', S', R, hm, q⟩ := h
  cases hm
  exact q H ι R .refl
theorem tGT_mono {K : PySem.W.Frag} {m : M Bool} {σ : SV} {H : Hp} {Q Q' : Bool → Hp → Prop} (h : tGT K m σ H Q) (w : ∀ b H, Q b H → Q' b H) : tGT K m σ H Q' := by
  obtain ⟨ι, e, S, r, e', S', R, hm, q⟩ := h
  exact ⟨ι, e, S, r, e', S', R, hm, fun H2 ι2 R2 P2 => w _ _ (q H2 ι2 R2 P2)⟩
theorem tG_bndT {K : PySem.W.Frag} {m : M Bool} {f : Bool → M R} {σ : SV} {H : Hp} {Q : VK} (h : tG K (bnd m f) σ H Q) : tGT K m σ H fun b H1 => tG K (f b) σ H1 Q := by
  obtain ⟨ι, e, S, r, e', S', R, hm, q⟩ := h
  obtain ⟨x, e1, S1, h1, hm⟩ := bnd_eq hm
  exact ⟨ι, e, S, x, e1, S1, R, h1, fun H1 ι1 R1 P1 => ⟨ι1, e1, S1, r, e', S', R1, hm, fun v H2 ι2 R2 P2 r2 f2 => q v H2 ι2 R2 (P1.trans P2) r2 (f2.back P1)⟩⟩
theorem tG_pur {K : PySem.W.Frag} {b : Bool} {σ : SV} {H : Hp} {Q : VK} (h : tG K (pur (.d (.bl b))) σ H Q) : Q (.bl b) H := by
  obtain ⟨ι, e, S, r, e', S', R, hm, q⟩ := h
  cases hm
  exact q _ H ι R .refl (.bl b) trivial
structure GW (X : Cx) (ex : Expr) (m : M Bool) : Prop where
  h : PW X ex (tGT X.K m)
theorem GW.gt {X : Cx} {ex : Expr} {m : M Bool} (g : GW X ex m) : GT X ex m := g.h.pt
theorem PW.imp {X : Cx} {ex : Expr} {t t' : TT} (h : PW X ex t) (w : ∀ σ H Q, t' σ H Q → t σ H Q) : PW X ex t' := ⟨fun wh pins s σ H Q I q => h.run wh pins s σ H Q I (w σ H Q q)⟩
theorem gw_and1 (h : GT X c mc) : GW X (.BoolOp .And [c] pos) mc := ⟨pw_and1 h⟩
theorem gw_or1 (h : GT X c mc) : GW X (.BoolOp .Or [c] pos) mc := ⟨pw_or1 h⟩
theorem gw_and (h : GT X c mc) (h2 : GW X (.BoolOp .And (d :: rest) pos) md) : GW X (.BoolOp .And (c :: d :: rest) pos) (mAnd mc md) := ⟨PW.imp (pw_and h h2.h) fun σ H Q q => tGT_mono (tGT_bnd q) fun b H1 q1 => by
  cases b with
  | true => exact q1
  | false => exact tGT_pur q1⟩
theorem gw_or (h : GT X c mc) (h2 : GW X (.BoolOp .Or (d :: rest) pos) md) : GW X (.BoolOp .Or (c :: d :: rest) pos) (mOr mc md) := ⟨PW.imp (pw_or h h2.h) fun σ H Q q => tGT_mono (tGT_bnd q) fun b H1 q1 => by
  cases b with
  | true => exact tGT_pur q1
  | false => exact q1⟩
theorem ge_ifExp {m1 m2 : M R} {p q : Expr} (hc : GT X c mc) (ha : GE X p m1) (hb : GE X q m2) : GE X (.IfExp c p q pos) (mIf mc m1 m2) := PE.imp (pe_ifExp hc ha hb) fun σ H Q q => tGT_mono (tG_bndT q) fun b H1 q1 => by
  cases b with
  | true => exact q1
  | false => exact q1
/-- .. as values: bools -/
def mAndV (a b : M R) : M R := bnd (bnd a asB) fun x => if x = true then b else pur (.d (.bl false))
def mOrV (a b : M R) : M R := bnd (bnd a asB) fun x => if x = true then pur (.d (.bl true)) else b
def mNotV (a : M R) : M R := bnd (bnd a asB) fun x => pur (.d (.bl (!x)))
theorem ge_one {op} (h : GE X a ma) : GE X (.BoolOp op [a] pos) ma := pe_one h
theorem ge_and {m2 : M R} (ha : GE X a ma) (hb : GE X (.BoolOp .And (b :: rest) pos) m2) : GE X (.BoolOp .And (a :: b :: rest) pos) (mAndV ma m2) := PE.imp (pe_and ha hb) fun σ H Q q => by
  have h := tG_test (tG_bndT q)
  obtain ⟨ι, e, S, r, e', S', R, hm, q⟩ := h
  refine ⟨ι, e, S, r, e', S', R, hm, fun v H' ι' R' P' r' f' => ?_⟩
  obtain ⟨k, rfl, q⟩ := q v H' ι' R' P' r' f'
  refine ⟨k, rfl, ?_⟩
  cases k with
  | true => exact q
  | false => exact tG_pur q
theorem ge_or {m2 : M R} (ha : GE X a ma) (hb : GE X (.BoolOp .Or (b :: rest) pos) m2) : GE X (.BoolOp .Or (a :: b :: rest) pos) (mOrV ma m2) := PE.imp (pe_or ha hb) fun σ H Q q => by
  have h := tG_test (tG_bndT q)
  obtain ⟨ι, e, S, r, e', S', R, hm, q⟩ := h
  refine ⟨ι, e, S, r, e', S', R, hm, fun v H' ι' R' P' r' f' => ?_⟩
  obtain ⟨k, rfl, q⟩ := q v H' ι' R' P' r' f'
  refine ⟨k, rfl, ?_⟩
  cases k with
  | true => exact tG_pur q
  | false => exact q
theorem ge_not (ha : GE X a ma) : GE X (.UnaryOp .Not a pos) (mNotV ma) := PE.imp (pe_not ha) fun σ H Q q => by
  have h := tG_test (tG_bndT q)
  obtain ⟨ι, e, S, r, e', S', R, hm, q⟩ := h
  refine ⟨ι, e, S, r, e', S', R, hm, fun v H' ι' R' P' r' f' => ?_⟩
  obtain ⟨k, rfl, q⟩ := q v H' ι' R' P' r' f'
  exact ⟨k, rfl, tG_pur q⟩
end
end G

set_option Elab.async false
set_option linter.all false
set_option maxRecDepth 1000000
set_option maxHeartbeats 2000000
/-! G2: objects read, written, locked, boxed; argument lists, displays; calls of own defs. -/
namespace G
variable [Wld]
open PySem PySem.Spec PyProof.Rows L2

def look (r : R) (e : En) (S : Sto) : Option O := match r with
  | .d (.ref n) => S[n]?
  | .d (.lst ds) => some (.lst ds)
  | .d (.dic ks ds) => some (.dct (ks.zip ds))
  | .new o => some o
  | .brw o => some o
  | .loc i => match e[i]? with
    | some (some (.own o)) => some o
    | _ => none
  | _ => none
def putE (r : R) (o : O) (e : En) : En := match r with
  | .loc i => e.set i (some (.own o))
  | _ => e
def putS (r : R) (o : O) (S : Sto) : Sto := match r with
  | .d (.ref n) => S.set n o
  | _ => S
/-- what may be written -/
def isW : R → Bool
  | .d (.ref _) => true
  | .loc _ => true
  | _ => false
section
variable {K : PySem.W.Frag} {H H' : Hp} {ι ι' : List Addr} {σ σ' : SV} {e e' : En} {S S' : Sto} {v : V} {r : R} {o : O}
theorem RDs.zipK : ∀ (ks : List Key) {xs : List V} {ds : List D}, RDs K H ι xs ds → RK K H ι (ks.zip xs) (ks.zip ds)
  | [], _, _, _ => .nil
  | _ :: _, _, _, .nil => .nil
  | k :: ks, _, _, .cons h1 h2 => .cons ⟨rfl, h1⟩ (RDs.zipK ks h2)
theorem nodup_at {α : Type} {l : List α} (h : l.Nodup) {i j : Nat} {a : α} (e1 : l[i]? = some a) (e2 : l[j]? = some a) : i = j := by
  obtain ⟨h1, q1⟩ := List.getElem?_eq_some_iff.mp e1
  obtain ⟨h2, q2⟩ := List.getElem?_eq_some_iff.mp e2
  exact (List.getElem_inj h).mp (q1.trans q2.symm)
/-- what is looked at -/
theorem Rel.look (R : Rel K H ι σ e S) (hr : RR K H ι σ e v r) (hl : look r e S = some o) :
    ∃ a, v = .ref a ∧ (RO K H ι a o ∨ (∃ xs ds, LF K H a xs ∧ o = .lst ds ∧ RDs K H ι xs ds) ∨ ∃ ob ws kvs, H a = some (.frz ob (.dK ws)) ∧ o = .dct kvs ∧ RK K H ι ws kvs) := by
  unfold G.look at hl
  split at hl
  · rename_i n
    cases hr with | ref h1 => exact ⟨_, rfl, .inl (R.st _ _ _ hl h1)⟩
  · cases hl
    cases hr with | lst h1 h2 => exact ⟨_, rfl, .inr (.inl ⟨_, _, h1, rfl, h2⟩)⟩
  · cases hl
    cases hr with | dic h1 h2 h3 => exact ⟨_, rfl, .inr (.inr ⟨_, _, _, h1, rfl, RDs.zipK _ h3⟩)⟩
  · cases hl
    obtain ⟨a, rfl, ro, _⟩ := hr
    exact ⟨a, rfl, .inl ro⟩
  · cases hl
    obtain ⟨a, rfl, ro, _⟩ := hr
    exact ⟨a, rfl, .inl ro⟩
  · split at hl
    · cases hl
      rename_i i _ he
      obtain ⟨w, hw, a, rfl, ro⟩ := R.sl _ _ he
      have hr' : σ[i]? = some (some v) := hr
      rw [hr'] at hw
      cases hw
      exact ⟨a, rfl, .inl ro⟩
    · cases hl
  · cases hl
theorem Rel.lookL {ds : List D} (R : Rel K H ι σ e S) (hr : RR K H ι σ e v r) (hl : G.look r e S = some (.lst ds)) : ∃ a xs, v = .ref a ∧ SqL K H a xs ∧ RDs K H ι xs ds := by
  obtain ⟨a, rfl, h | ⟨xs, ds', h, e1, rd⟩ | ⟨ob, ws, kvs, h, e1, rk⟩⟩ := R.look hr hl
  · obtain ⟨xs, h1, h2⟩ := h
    exact ⟨a, xs, rfl, .inl (.inl h1), h2⟩
  · cases e1
    exact ⟨a, xs, rfl, h.sq, rd⟩
  · cases e1
theorem Rel.lookD {kvs : List (Key × D)} (R : Rel K H ι σ e S) (hr : RR K H ι σ e v r) (hl : G.look r e S = some (.dct kvs)) : ∃ a ws, v = .ref a ∧ Rd H a (.dK ws) ∧ RK K H ι ws kvs := by
  obtain ⟨a, rfl, h | ⟨xs, ds', h, e1, rd⟩ | ⟨ob, ws, kvs, h, e1, rk⟩⟩ := R.look hr hl
  · obtain ⟨xs, h1, h2⟩ := h
    exact ⟨a, xs, rfl, .inl h1, h2⟩
  · cases e1
  · cases e1
    exact ⟨a, ws, rfl, .inr ⟨ob, h⟩, rk⟩
/-- a slot's object stands elsewhere than one of the store -/
theorem Rel.slot_ne (R : Rel K H ι σ e S) {i : Nat} {s : Sl} {b : Addr} (he : e[i]? = some (some s)) (hs : s.isObj) (hσ : σ[i]? = some (some (.ref b))) : b ∉ ι := by
  cases s with
  | d x => exact hs.elim
  | own o => exact (R.own i o b he hσ).1
  | brw o => exact R.brw i o b he hσ
theorem RSl.there (h : RSl K H ι v s) (hs : s.isObj) : ∃ a o u, v = .ref a ∧ RO K H ι a o ∧ H a = some u ∧ (s = .own o ∨ s = .brw o) := by
  cases s with
  | d x => exact hs.elim
  | own o =>
    obtain ⟨a, rfl, ro⟩ := h
    obtain ⟨u, hu, _⟩ := ro.there
    exact ⟨a, o, u, rfl, ro, hu, .inl rfl⟩
  | brw o =>
    obtain ⟨a, rfl, ro⟩ := h
    obtain ⟨u, hu, _⟩ := ro.there
    exact ⟨a, o, u, rfl, ro, hu, .inr rfl⟩
theorem RSl.mono (s' : Stay H H') (p : ∃ l, ι' = ι ++ l) {s : Sl} (k : ∀ a u, v = .ref a → s.isObj → H a = some u → H' a = some u) (h : RSl K H ι v s) : RSl K H' ι' v s := by
  cases s with
  | d x => exact RD.mono s' p _ _ h
  | own o => obtain ⟨a, rfl, ro⟩ := h; exact ⟨a, rfl, ro.mono s' p fun u hu => k a u rfl trivial hu⟩
  | brw o => obtain ⟨a, rfl, ro⟩ := h; exact ⟨a, rfl, ro.mono s' p fun u hu => k a u rfl trivial hu⟩
/-- an object that is neither the store's nor a slot's changes its kind, or what stands at a new place -/
theorem Rel.other (R : Rel K H ι σ e S) {a : Addr} {u : HO} (st : Stay H (upd H a u)) (hι : a ∉ ι) (ho : ¬ Obj σ e a) : Rel K (upd H a u) ι σ e S where
  len := R.len
  sl := fun i s he => by
    obtain ⟨w, hw, hs⟩ := R.sl i s he
    refine ⟨w, hw, hs.mono st ⟨[], by simp⟩ fun b x hb hob hx => ?_⟩
    subst hb
    rw [upd_ne (fun (z : b = a) => ho ⟨i, s, he, hob, z ▸ hw⟩)]
    exact hx
  ilen := R.ilen
  st := fun n o b h1 h2 => (R.st n o b h1 h2).mono st ⟨[], by simp⟩ fun x hx => by
    rw [upd_ne (fun (z : b = a) => hι (z ▸ List.mem_of_getElem? h2))]
    exact hx
  nd := R.nd
  own := R.own
  brw := R.brw
/-- a new object -/
theorem Rel.new (R : Rel K H ι σ e S) {a : Addr} {u : HO} (hn : H a = none) : Rel K (upd H a u) ι σ e S ∧ Post H ι σ e (upd H a u) ι σ e ∧ a ∉ ι ∧ ¬ Obj σ e a := by
  have hι : a ∉ ι := fun z => by
    obtain ⟨n, hn'⟩ := List.getElem?_of_mem z
    have hlt := (List.getElem?_eq_some_iff.mp hn').1
    rw [R.ilen] at hlt
    obtain ⟨u, hu, _⟩ := (R.st n _ a (List.getElem?_eq_getElem hlt) hn').there
    rw [hn] at hu; cases hu
  have ho : ¬ Obj σ e a := fun ⟨i, s, h1, h2, h3⟩ => by
    obtain ⟨w, hw, hs⟩ := R.sl i s h1
    rw [h3] at hw; cases hw
    obtain ⟨b, _, u, e1, _, hu, _⟩ := RSl.there hs h2
    cases e1
    rw [hn] at hu; cases hu
  have st : Stay H (upd H a u) := Stay.new hn
  refine ⟨R.other st hι ho, ⟨⟨[], by simp⟩, st, fun b x h => ?_, fun b x h1 h2 h3 => ?_⟩, hι, ho⟩
  · exact ⟨x, by rw [upd_ne (ne_of_none h hn)]; exact h⟩
  · exact ⟨by rw [upd_ne (ne_of_none h1 hn)]; exact h1, h2, h3, fun h => h⟩
/-- what was made since H0 changes -/
theorem Post.fresh {H0 : Hp} {ι0 : List Addr} {σ0 : SV} {e0 : En} (P : Post H0 ι0 σ0 e0 H ι σ e) {a : Addr} {u : HO} (f : H0 a = none) (st : Stay H (upd H a u)) : Post H0 ι0 σ0 e0 (upd H a u) ι σ e := by
  refine ⟨P.pre, P.stay.trans st, fun b x h => ?_, fun b x h1 h2 h3 => ?_⟩
  · rw [upd_ne (ne_of_none h f)]
    exact P.dom b x h
  · rw [upd_ne (ne_of_none h1 f)]
    exact P.keep b x h1 h2 h3
theorem RO.stay {a : Addr} (ro : RO K H ι a o) (u : HO) : Stay H (upd H a u) := by
  obtain ⟨w, hw, _, n1, n2⟩ := ro.there
  exact Stay.mut hw n1 n2
/-- an object is written -/
theorem Rel.write (R : Rel K H ι σ e S) (hr : RR K H ι σ e v r) (hl : G.look r e S = some o) (hw : isW r = true) :
    ∃ a, v = .ref a ∧ RO K H ι a o ∧ ∀ u o', RO K (upd H a u) ι a o' → Rel K (upd H a u) ι σ (putE r o' e) (putS r o' S) ∧ Post H ι σ e (upd H a u) ι σ (putE r o' e) := by
  cases r with
  | new o => cases hw
  | brw o => cases hw
  | d x =>
    cases x with
    | ref n =>
      have hl' : S[n]? = some o := hl
      cases hr with
      | ref h1 =>
        rename_i a
        have ro := R.st _ _ _ hl' h1
        have hmem := List.mem_of_getElem? h1
        refine ⟨a, rfl, ro, fun u o' ro' => ⟨⟨R.len, fun i s he => ?_, ?_, fun m q b h2 h3 => ?_, R.nd, R.own, R.brw⟩, ⟨⟨[], by simp⟩, ro.stay u, fun b x h => ?_, fun b x h2 h3 h4 => ?_⟩⟩⟩
        · obtain ⟨w, hw, hs⟩ := R.sl i s he
          refine ⟨w, hw, hs.mono (ro.stay u) ⟨[], by simp⟩ fun b x hb hob hx => ?_⟩
          subst hb
          rw [upd_ne (fun (z : b = a) => R.slot_ne he hob hw (z ▸ hmem))]
          exact hx
        · rw [R.ilen]; exact (List.length_set ..).symm
        · by_cases hm : n = m
          · subst hm
            rw [h1] at h3; cases h3
            have h2' : (S.set n o')[n]? = some q := h2
            rw [List.getElem?_set_self (List.getElem?_eq_some_iff.mp hl').1] at h2'
            cases h2'
            exact ro'
          · have h2' : (S.set n o')[m]? = some q := h2
            rw [List.getElem?_set_ne hm] at h2'
            refine (R.st m q b h2' h3).mono (ro.stay u) ⟨[], by simp⟩ fun x hx => ?_
            rw [upd_ne (fun (z : b = a) => hm (nodup_at R.nd h1 (z ▸ h3)))]
            exact hx
        · by_cases hb : b = a
          · subst hb; exact ⟨u, upd_same⟩
          · exact ⟨x, by rw [upd_ne hb]; exact h⟩
        · rw [upd_ne (fun (z : b = a) => h3 (z ▸ hmem))]
          exact ⟨h2, h3, h4, fun h => h⟩
    | _ => cases hw
  | loc i =>
    have hr' : σ[i]? = some (some v) := hr
    have hl' : (match e[i]? with
      | some (some (.own o)) => some o
      | _ => none) = some o := hl
    split at hl'
    all_goals try cases hl'
    rename_i he
    obtain ⟨w, hw', a, rfl, ro⟩ := R.sl _ _ he
    rw [hr'] at hw'; cases hw'
    obtain ⟨hι, hsep⟩ := R.own _ _ _ he hr'
    have hil : i < e.length := (List.getElem?_eq_some_iff.mp he).1
    have at_i : ∀ o', (e.set i (some (.own o')))[i]? = some (some (.own o')) := fun o' => List.getElem?_set_self hil
    have at_j : ∀ o' j, i ≠ j → (e.set i (some (.own o')))[j]? = e[j]? := fun o' j h => List.getElem?_set_ne h
    refine ⟨a, rfl, ro, fun u o' ro' => ⟨⟨?_, fun j s hj => ?_, R.ilen, fun n q b h2 h3 => ?_, R.nd, fun j q b h2 h3 => ?_, fun j q b h2 h3 => ?_⟩, ⟨⟨[], by simp⟩, ro.stay u, fun b x h => ?_, fun b x h2 h3 h4 => ?_⟩⟩⟩
    · rw [R.len]; exact (List.length_set ..).symm
    · have hj' : (e.set i (some (.own o')))[j]? = some (some s) := hj
      by_cases hij : i = j
      · subst hij
        rw [at_i] at hj'; cases hj'
        exact ⟨_, hr', a, rfl, ro'⟩
      · rw [at_j _ _ hij] at hj'
        obtain ⟨w, hw, hs⟩ := R.sl j s hj'
        refine ⟨w, hw, hs.mono (ro.stay u) ⟨[], by simp⟩ fun b x hb hob hx => ?_⟩
        subst hb
        rw [upd_ne (Ne.symm (hsep j s b (Ne.symm hij) hj' hob hw))]
        exact hx
    · refine (R.st n q b h2 h3).mono (ro.stay u) ⟨[], by simp⟩ fun x hx => ?_
      rw [upd_ne (fun (z : b = a) => hι (z ▸ List.mem_of_getElem? h3))]
      exact hx
    · have h2' : (e.set i (some (.own o')))[j]? = some (some (.own q)) := h2
      by_cases hij : i = j
      · subst hij
        rw [hr'] at h3; cases h3
        refine ⟨hι, fun k s c hk h4 h5 h6 => ?_⟩
        have h4' : (e.set i (some (.own o')))[k]? = some (some s) := h4
        rw [at_j _ _ (Ne.symm hk)] at h4'
        exact hsep k s c hk h4' h5 h6
      · rw [at_j _ _ hij] at h2'
        obtain ⟨q1, q2⟩ := R.own j q b h2' h3
        refine ⟨q1, fun k s c hk h4 h5 h6 => ?_⟩
        have h4' : (e.set i (some (.own o')))[k]? = some (some s) := h4
        by_cases hik : i = k
        · subst hik
          exact q2 i _ c hk he trivial h6
        · rw [at_j _ _ hik] at h4'
          exact q2 k s c hk h4' h5 h6
    · have h2' : (e.set i (some (.own o')))[j]? = some (some (.brw q)) := h2
      by_cases hij : i = j
      · subst hij
        rw [at_i] at h2'; cases h2'
      · rw [at_j _ _ hij] at h2'
        exact R.brw j q b h2' h3
    · by_cases hb : b = a
      · subst hb; exact ⟨u, upd_same⟩
      · exact ⟨x, by rw [upd_ne hb]; exact h⟩
    · have hba : b ≠ a := fun (z : b = a) => h4 ⟨i, _, he, z ▸ hr'⟩
      rw [upd_ne hba]
      refine ⟨h2, h3, ?_, ?_⟩
      · rintro ⟨j, q, h5, h6⟩
        have h5' : (e.set i (some (.own o')))[j]? = some (some (.own q)) := h5
        by_cases hij : i = j
        · subst hij
          rw [hr'] at h6; cases h6
          exact hba rfl
        · rw [at_j _ _ hij] at h5'
          exact h4 ⟨j, q, h5', h6⟩
      · rintro h7 ⟨j, s, h5, h5o, h6⟩
        have h5' : (e.set i (some (.own o')))[j]? = some (some s) := h5
        by_cases hij : i = j
        · subst hij
          rw [hr'] at h6; cases h6
          exact hba rfl
        · rw [at_j _ _ hij] at h5'
          exact h7 ⟨j, s, h5', h5o, h6⟩
end
end G

set_option Elab.async false
set_option linter.all false
set_option maxRecDepth 1000000
set_option maxHeartbeats 4000000
/-! GX: defs that are called where no repr is under way. -/
namespace G
variable [Wld]
open PySem PySem.Spec PyProof.Rows L2
/-- FnOk, where no guard stands -/
structure FnG (P : Program) (w : World) (K : PySem.W.Frag) (mg : Str → Option Value) (base : Heap) (k : Nat) (f : Addr) (fd : FuncData) (ps : List Str) (sp : Sp) : Prop where
  len : ∀ vs H Q E, sp vs H Q E → vs.length = ps.length
  run : ∀ (A : Around) (outer : List PySem.Env) (s : Shared) (H : Hp) (args : Args) (us : List Value) (vs : List V) (Q : VK) (E : XK), Room k A → A.guards = some [] → Env0 P w K mg base A outer s H →
    BindsTo s fd args (ps.zip us) → Vals vs us → sp vs H Q E → codeAny (model P w) A (.call (.ref f) args) (CR CX0 outer P w H s Q E) s
section
variable {X : Cx} {k : Nat} {f : Addr} {fd : FuncData} {ps : List Str} {sp : Sp} {dvs : List V} {ds : List Value} {E : XK}
theorem FnG.enter {pins : List (Addr × PySem.Obj)} {σ : SV} {H : Hp} {s : Shared} {Q : VK} {us : List Value} {vs : List V} (F : FnG X.prog X.w X.K X.mg X.base k f fd ps sp) (hr : Room k X.A) (hg : X.A.guards = some []) (hb : Binds X.K fd ps ds) (hd : Vals dvs ds) (hx : Passes CX0 X E)
    (I : Inv X pins σ H s) (r : Vals vs us) (h : sp (vs ++ dvs) H Q E) : wpAny (model X.prog X.w) X.A (call (.ref f) us) (EP X pins σ Q) X.xe s := by
  have rr : Vals (vs ++ dvs) (us ++ ds) := r.append hd
  refine wpAny_call (codeAny_mono (F.run X.A X.stack s H ⟨us, []⟩ _ _ Q E hr hg I.env0 (hb s us I.kIn (by rw [← rr.length]; exact F.len _ _ _ _ h)) rr h) fun z s' hz => ?_)
  match z, hz with
  | .error e, hz => exact hx pins σ H s e s' I hz
  | .ok (.ret u), hz => exact I.after hz
  | .ok .next, hz => exact hz.elim
  | .ok .brk, hz => exact hz.elim
  | .ok .cont, hz => exact hz.elim
theorem FnG.mono {P : Program} {w : World} {K : PySem.W.Frag} {mg : Str → Option Value} {base : Heap} {j k : Nat} {f : Addr} {fd : FuncData} {ps : List Str} {sp : Sp} (F : FnG P w K mg base j f fd ps sp) (h : j ≤ k) : FnG P w K mg base k f fd ps sp :=
  ⟨F.len, fun A outer s H args us vs Q E hr => F.run A outer s H args us vs Q E (hr.mono h)⟩
theorem pe_callG {x : Str} {e : Expr} {es : List Expr} {t : TA} {p pos : Pos} (F : FnG X.prog X.w X.K X.mg X.base k f fd ps sp) (hr : Room k X.A) (hgd : X.A.guards = some []) (hg : Gl X x) (hm : X.mg x = some (.ref f)) (hk : PySem.W.keepIn X.K (.ref f) = true) (hb : Binds X.K fd ps ds) (hd : Vals dvs ds) (hx : Passes CX0 X E)
    (ha : PA X (e :: es) t) (hdb : (x == ("__debug__" : Str)) = false := by decide) (he : starEach (e :: es) X.env = (false, eval e X.env) :: starEach es X.env := by rfl) (hpl : (backTo pos (starEach es X.env)).any (·.1) = false := by rfl) : PE X (.Call (.Name x p) (e :: es) [] pos) (tCall sp dvs E t) :=
  ⟨fun pins s σ H Q I h => wpAny_Call_Name_kw (ld_glob I hg hm (PySem.W.callWith_K (h₀ := X.base) I.ok.mod.kin hk (thn (ha.run pos pins s σ H _ I h) fun us s1 ⟨vs, H1, I1, r, q⟩ => ⟨I1.kIn, F.enter hr hgd hb hd hx I1 r q⟩) he hpl) hdb)⟩
end
section
variable {P : Program} {w : World} {K : PySem.W.Frag} {mg : Str → Option Value} {base : Heap}
theorem deeper_guards {A : Around} {env : PySem.Env} (h : A.guards = some []) : (A.deeper env).guards = some [] := by
  first | exact h | (simp [Around.deeper, pushGuards, h])
/-- a def by its body -/
theorem FnG.of {x qual : Str} {st : Stmt} {f : Addr} {fd : FuncData} {N ps : List Str} {k : Nat} {sp : Sp} (F : Fun K x qual st f fd) (S : FnScope N ps (defScope st)) (len : ∀ vs H Q E, sp vs H Q E → vs.length = ps.length)
    (body : ∀ (cdv : Value) (A : Around) (outer : List PySem.Env) (s : Shared) (H : Hp) (vs : List V) (Q : VK) (E : XK), Room k (A.deeper (envOfC qual (defScope st) s.heap.objs.size f cdv)) → (A.deeper (envOfC qual (defScope st) s.heap.objs.size f cdv)).guards = some [] → sp vs H Q E →
      ∃ t, PSs (cxOf CX0 P w K mg base N qual (defScope st) f cdv A outer s H E).nox (defBody st) t ∧ t { nx := fun _ H' => Q .non H', rt := Q } (start N vs) H) :
    FnG P w K mg base (k + 1) f fd ps sp := by
  obtain ⟨oc, od, kV, doc, pm, an, cdv, ct, osl, rfl, lk, hcd⟩ := F.ex
  refine ⟨len, fun A outer s H args us vs Q E hr hg e0 hb r hsp => ?_⟩
  have hl := len _ _ _ _ hsp
  have hK : K.In s.heap := e0.mod.kin.keeps fun b o z => (e0.bs b o z).1
  have hlim : s.heap.NoLimit := e0.mod.nolimit.keeps fun b o z => (e0.bs b o z).1
  refine codeAny_call_function hr.depth (hK _ _ lk) rfl S.co S.gen rfl (PySem.W.codeRec_of hK hcd) (hb _ _ _ _ ?_)
  refine wpAny_newFunctionEnv_cells S.kind (fun p hp => ?_) fun env he s1 x => ?_
  · rcases S.par p.1 (List.of_mem_zip (show (p.1, p.2) ∈ ps.zip us from hp)).1 with z | z
    · exact .inl z
    · exact .inr ⟨z, PySem.W.cellsFrom_some _ _ _ (.inl z)⟩
  subst he
  refine ⟨hlim.keeps x.toInCall.keep, codeAny_func ?_⟩
  obtain ⟨t, ht, hq⟩ := body cdv A outer s H vs Q E (hr.deeper _) (deeper_guards hg) hsp
  have I := inv_start (CX := CX0) (E := E) S hr.hd e0 hl r x
  refine wpAny_mono (ht.nox.run [] s1 (start N vs) H _ I hq) (fun fl s' hs => ?_) fun _ _ z => z
  match fl, hs with
  | .ret u, ⟨v, σ', H', J, rv, z⟩ => exact ⟨v, H', J.os, J.bare, J.base, J.hok, rv, z⟩
  | .next, ⟨σ', H', J, z⟩ => exact ⟨.non, H', J.os, J.bare, J.base, J.hok, rfl, z⟩
  | .brk, ⟨_, _, _, z⟩ => exact z.elim
  | .cont, ⟨_, _, _, z⟩ => exact z.elim
end
section
variable {P : Program} {w : World} {K : PySem.W.Frag}
/-- the law's call, where what is tracked is at most the script -/
theorem law_coreG {mg mb : Str → Option Value} {k : Nat} {fa a : Addr} {fd : FuncData} {x : Str} {sp : Sp} {s : Shared} {vs : List Value} {ns : List Int} {H : Hp}
    (KX : K.In s.heap) (hns : s.heap.Ns mainGlobals mg) (hb : s.heap.Ns builtinsNs mb) (hbb : ∀ x : Str, x ≠ "__name__" → mb x = bootBuiltins x) (hlim : s.heap.NoLimit) (hgen : s.gens = #[])
    (ha : s.heap.get? a = some { cls := .type "list", data := .seq vs.toArray }) (hr : Room k callerA)
    (F : ∀ base : Heap, K.In base → base.Ns mainGlobals mg → FnG P w K mg base k fa fd [x] sp) (hbind : ∀ (s : Shared) (u : Value), BindsTo s fd ⟨[u], []⟩ [(x, u)])
    (hO : Only H) (hsp : sp [.ref a] H (fun v _ => v = .bl true) fun _ _ _ => False) (hok : HOk P w H s.heap) (hA : ∀ b, H b ≠ none → b = a) (hK : H a ≠ none → K.lookup a = none) :
    codeAny (model P w) callerA (.call (.ref fa) ⟨[.ref a], []⟩) (fun r s' => r = .ok (.ret (.bool true)) ∧ OldK s.heap s'.heap ∧ s'.os = s.os ∧ AllBare s'.gens) s := by
  have other : ∀ {b : Addr} {o : PySem.Obj}, s.heap.get? b = some o → H b ≠ none → b = a ∧ o = { cls := .type "list", data := .seq vs.toArray } := fun {b o} e z => by
    have e' := hA b z
    subst e'
    rw [ha] at e
    exact ⟨rfl, (Option.some.inj e).symm⟩
  have dictFree : ∀ {b : Addr} {o : PySem.Obj} {es : Array DictEntry} {ep : Nat}, s.heap.get? b = some o → o.data = .dict es ep → H b = none := fun {b o es ep} e d => Classical.byContradiction fun z => by
    obtain ⟨_, rfl⟩ := other e z
    cases d
  have nsK : ∀ {b : Addr} {m : Str → Option Value}, s.heap.Ns b m → (hidT s.heap H).Ns b m := fun {b m} ⟨o, es, ep, e, d, r⟩ => ⟨o, es, ep, hidT_get e (dictFree e d), d, r⟩
  have inK : K.In (hidT s.heap H) := fun b o e => hidT_get (KX b o e) (Classical.byContradiction fun z => by
    obtain ⟨rfl, _⟩ := other (KX b o e) z
    rw [hK z] at e; cases e)
  have e0 : Env0 P w K mg (hidT s.heap H) callerA [] s H :=
    ⟨rfl, ⟨inK, nsK hns, ⟨mb, nsK hb, hbb⟩, let ⟨mc, h1, h2⟩ := hlim; ⟨mc, nsK h1, h2⟩⟩, fun b o e => of_hidT e, Nat.le_of_eq (hidT_size _ _), trivial, fun b hb => (nomatch hb), hok, .of_eq hgen⟩
  refine codeAny_mono ((F _ inK (nsK hns)).run callerA [] s H ⟨[.ref a], []⟩ [.ref a] [.ref a] _ _ hr rfl e0 (hbind s (.ref a)) (.cons rfl .nil) hsp) fun r s' h => ?_
  match r, h with
  | .error e, h => exact (show False from h).elim
  | .ok .next, h => exact h.elim
  | .ok .brk, h => exact h.elim
  | .ok .cont, h => exact h.elim
  | .ok (.ret u), ⟨v, H', os, bare, un, hok', r', q⟩ =>
    obtain rfl : v = .bl true := q
    obtain rfl : u = Value.bool true := r'
    refine ⟨rfl, OldK.of_keep fun b o e => ?_, os, bare⟩
    cases q : H b with
    | none => exact un.keep b o e q (fun z => nomatch z) (fun z => nomatch z)
    | some u =>
      rcases hO b with z | ⟨ob, xs, z⟩
      · rw [q] at z; cases z
      · obtain ⟨e1, _⟩ := hok b _ z
        obtain ⟨e2, _⟩ := hok' b _ (un.frzs b ob _ z)
        rw [e] at e1; cases e1
        exact e2
end
/-- the law's call: the script is locked from the start, or one of the text's own objects -/
theorem law_callG {P : Program} {w : World} {K : PySem.W.Frag} {mg mb : Str → Option Value} {k : Nat} {fa a : Addr} {fd : FuncData} {x : Str} {sp : Sp} {s : Shared} {vs : List Value} {ns : List Int}
    (KX : K.In s.heap) (hns : s.heap.Ns mainGlobals mg) (hb : s.heap.Ns builtinsNs mb) (hbb : ∀ x : Str, x ≠ "__name__" → mb x = bootBuiltins x) (hlim : s.heap.NoLimit) (hgen : s.gens = #[])
    (ha : s.heap.get? a = some { cls := .type "list", data := .seq vs.toArray }) (hi : IntsAre vs ns) (hl : ns.length ≤ sizeLine) (hr : Room k callerA)
    (F : ∀ base : Heap, K.In base → base.Ns mainGlobals mg → FnG P w K mg base k fa fd [x] sp) (hbind : ∀ (s : Shared) (u : Value), BindsTo s fd ⟨[u], []⟩ [(x, u)])
    (hsp : ∀ H : Hp, Only H → SqL K H a (ns.map V.int) → sp [.ref a] H (fun v _ => v = .bl true) fun _ _ _ => False) :
    codeAny (model P w) callerA (.call (.ref fa) ⟨[.ref a], []⟩) (fun r s' => r = .ok (.ret (.bool true)) ∧ OldK s.heap s'.heap ∧ s'.os = s.os ∧ AllBare s'.gens) s := by
  have rv := vals_ints hi
  have go := fun (H : Hp) (hO : Only H) (hS : SqL K H a (ns.map V.int)) => law_coreG (ns := ns) (H := H) KX hns hb hbb hlim hgen ha hr F hbind hO (hsp H hO hS)
  cases hk : K.lookup a with
  | some o =>
    obtain rfl : { cls := .type "list", data := .seq vs.toArray } = o := Option.some.inj (ha.symm.trans (KX a o hk))
    exact go (fun _ => none) (fun _ => .inl rfl) (.inr ⟨_, vs.toArray, _, hk, rfl, rfl, rfl, by rw [List.size_toArray, hi.length]; exact hl, by simpa using rv⟩) (fun _ _ z => nomatch z) (fun _ z => absurd rfl z) (fun z => absurd rfl z)
  | none =>
    let L : HO := .frz { cls := .type "list", data := .seq vs.toArray } (.lst (ns.map V.int))
    have at1 : ∀ b, b ≠ a → (fun b => if b = a then some L else none : Hp) b = none := fun b z => if_neg z
    refine go (fun b => if b = a then some L else none) (fun b => ?_) (.inl (.inr ⟨_, if_pos rfl⟩)) (fun b u z => ?_) (fun b z => Classical.byContradiction fun c => z (at1 b c)) (fun _ => hk)
    · by_cases c : b = a
      · exact .inr ⟨_, _, if_pos c⟩
      · exact .inl (at1 b c)
    · by_cases c : b = a
      · subst c
        obtain rfl : L = u := Option.some.inj ((if_pos rfl).symm.trans z)
        exact ⟨ha, by rw [List.length_map]; exact hl, vs, _, rv, ha⟩
      · rw [at1 b c] at z; cases z
end G

set_option Elab.async false
set_option linter.all false
set_option maxRecDepth 1000000
set_option maxHeartbeats 2000000
/-! G3: locking, boxing; argument lists, displays; calls of own defs. -/
namespace G
variable [Wld]
open PySem PySem.Spec PyProof.Rows L2

/-! ### locking -/
section
variable {X : Cx} {pins : List (Addr × PySem.Obj)} {σ : SV} {H : Hp} {s : Shared}
theorem Inv.freeze (I : Inv X pins σ H s) {a : Addr} {u : HO} (h : H a = some u) (hm : (∃ xs, u = .lst xs) ∨ ∃ kvs, u = .dK kvs) : ∃ o, Inv X pins σ (upd H a (.frz o u)) s := by
  have x := I.hok a u h
  have ob : ∃ o, s.heap.get? a = some o ∧ ∀ H', ObjOk X.prog X.w H' s.heap a u := by
    rcases hm with ⟨xs, rfl⟩ | ⟨kvs, rfl⟩
    · obtain ⟨z, its, n, r, e⟩ := x
      exact ⟨_, e, fun _ => ⟨z, its, n, r, e⟩⟩
    · obtain ⟨z, y, vs, r, o, es, ep, e, c⟩ := x
      exact ⟨o, e, fun _ => ⟨z, y, vs, r, o, es, ep, e, c⟩⟩
  obtain ⟨o, ho, hok⟩ := ob
  have nown : ∀ b y, H b = some (.own y) → b ≠ a := fun b y e z => by
    subst z; rw [h] at e; cases e
    rcases hm with ⟨_, e⟩ | ⟨_, e⟩ <;> cases e
  have ntup : ∀ b y, H b = some (.tup y) → b ≠ a := fun b y e z => by
    subst z; rw [h] at e; cases e
    rcases hm with ⟨_, e⟩ | ⟨_, e⟩ <;> cases e
  have nfrz : ∀ b y z, H b = some (.frz y z) → b ≠ a := fun b y _ e z => by
    subst z; rw [h] at e; cases e
    rcases hm with ⟨_, e⟩ | ⟨_, e⟩ <;> cases e
  have ntbl : ∀ b y, H b = some (.tbl y) → b ≠ a := fun b y e z => by
    subst z; rw [h] at e; cases e
    rcases hm with ⟨_, e⟩ | ⟨_, e⟩ <;> cases e
  have nnon : ∀ b, H b = none → b ≠ a := fun b e z => by subst z; rw [h] at e; cases e
  refine ⟨o, I.ok, I.os, I.bare, ⟨I.base.keep, I.base.slot, fun b q e n hx => ?_, I.base.there, fun b xs e => ?_, fun b q xs e => ?_, fun b ps e => ?_⟩, I.loc, I.cell, ?_, fun x c e => ?_, fun p hp => ?_, fun b q e => ?_, I.len⟩
  · have z := I.base.free b q e n hx
    rw [upd_ne (nnon b z)]; exact z
  · have z := I.base.tups b xs e
    rw [upd_ne (ntup b _ z)]; exact z
  · have z := I.base.frzs b q xs e
    rw [upd_ne (nfrz b _ _ z)]; exact z
  · obtain ⟨m, z⟩ := I.base.tbls b ps e
    exact ⟨m, by rw [upd_ne (ntbl b _ z)]; exact z⟩
  · rw [upd_ne (nnon _ I.free)]; exact I.free
  · rw [upd_ne (nnon _ (I.freeC x c e))]; exact I.freeC x c e
  · obtain ⟨e, n, ne, nf, d⟩ := I.pin p hp
    exact ⟨e, by rw [upd_ne (nnon _ n)]; exact n, ne, nf, d⟩
  · by_cases hb : b = a
    · subst hb
      rw [upd_same] at e; cases e
      exact ⟨ho, hok _⟩
    · rw [upd_ne hb] at e
      exact (I.hok b q e).stay (fun c v _ k => k) (fun c k => by rw [upd_ne (nown c b k)]; exact k) fun c xs k => by rw [upd_ne (ntup c xs k)]; exact k
end
def fzQ (Q : VK) : VK := fun v H1 => Q v H1 ∨ ∃ a u, v = .ref a ∧ H1 a = some u ∧ ((∃ xs, u = .lst xs) ∨ ∃ kvs, u = .dK kvs) ∧ ∀ o, Q v (upd H1 a (.frz o u))
theorem PE.freeze {X : Cx} {ex : Expr} {t : TE} (h : PE X ex t) : PE X ex (fun σ H Q => t σ H (fzQ Q)) := ⟨fun pins s σ H Q I q =>
  thn (h.run pins s σ H _ I q) fun v s1 ⟨x, H1, I1, r1, q1⟩ => by
    rcases q1 with q1 | ⟨a, u, rfl, hu, hm, q1⟩
    · exact ⟨x, H1, I1, r1, q1⟩
    · obtain ⟨o, I2⟩ := Inv.freeze I1 hu hm
      exact ⟨_, _, I2, r1, q1 o⟩⟩
def lock : O → Option D
  | .lst ds => some (.lst ds)
  | .dct kvs => some (.dic (kvs.map (·.1)) (kvs.map (·.2)))
  | .kd _ => none
theorem List.zip_map_fst_snd {α β : Type} (l : List (α × β)) : (l.map (·.1)).zip (l.map (·.2)) = l := by
  induction l with
  | nil => rfl
  | cons x l ih => simp [ih]
theorem RK.split {K : PySem.W.Frag} {H : Hp} {ι : List Addr} {ws : List (Key × V)} {kvs : List (Key × D)} (h : RK K H ι ws kvs) : ws.map (·.1) = kvs.map (·.1) ∧ RDs K H ι (ws.map (·.2)) (kvs.map (·.2)) := by
  induction h with
  | nil => exact ⟨rfl, .nil⟩
  | cons h1 _ ih => exact ⟨by rw [List.map_cons, List.map_cons, h1.1, ih.1], .cons h1.2 ih.2⟩
/-- as data: a new object is locked -/
def toD (r : R) : M R := fun e S => match r with
  | .d x => some (.d x, e, S)
  | .new o => (lock o).map fun d => (.d d, e, S)
  | .loc i => match e[i]? with
    | some (some (.own o)) => (lock o).map fun d => (.d d, e.set i (some (.d d)), S)
    | _ => none
  | .brw _ => none
def mD (m : M R) : M R := bnd m toD
/-- a new object is put into the store -/
def toBox (r : R) : M R := fun e S => match r with
  | .new o => some (.d (.ref S.length), e, S ++ [o])
  | _ => none
def mBox (m : M R) : M R := bnd m toBox
section
variable {K : PySem.W.Frag} {H : Hp} {ι : List Addr} {σ : SV} {e : En} {S : Sto} {v : V} {o : O} {a : Addr} {d : D}
theorem RO.lock (ro : RO K H ι a o) (hl : lock o = some d) : ∃ u, H a = some u ∧ ((∃ xs, u = .lst xs) ∨ ∃ kvs, u = .dK kvs) ∧ ∀ ob ι', Stay H (upd H a (.frz ob u)) → (∃ l, ι' = ι ++ l) → RD K (upd H a (.frz ob u)) ι' (.ref a) d := by
  cases o with
  | lst ds =>
    cases hl
    obtain ⟨xs, h1, h2⟩ := ro
    exact ⟨_, h1, .inl ⟨_, rfl⟩, fun ob ι' st p => .lst (.inl ⟨_, upd_same⟩) (RDs.mono st p _ _ h2)⟩
  | dct kvs =>
    cases hl
    obtain ⟨ws, h1, h2⟩ := ro
    obtain ⟨q1, q2⟩ := h2.split
    refine ⟨_, h1, .inr ⟨_, rfl⟩, fun ob ι' st p => .dic (xs := ws.map (·.2)) (o := ob) ?_ (by simp) (RDs.mono st p _ _ q2)⟩
    rw [← q1, List.zip_map_fst_snd ws]
    exact upd_same
  | kd kvs => cases hl
/-- the slot's object is locked -/
theorem Rel.lockSlot {i : Nat} {u : HO} {ob : PySem.Obj} (R : Rel K H ι σ e S) (he : e[i]? = some (some (.own o))) (hσ : σ[i]? = some (some (.ref a))) (ro : RO K H ι a o) (rd : RD K (upd H a (.frz ob u)) ι (.ref a) d) :
    Rel K (upd H a (.frz ob u)) ι σ (e.set i (some (.d d))) S ∧ Post H ι σ e (upd H a (.frz ob u)) ι σ (e.set i (some (.d d))) := by
  obtain ⟨hι, hsep⟩ := R.own _ _ _ he hσ
  have hil : i < e.length := (List.getElem?_eq_some_iff.mp he).1
  have at_i : (e.set i (some (.d d)))[i]? = some (some (.d d)) := List.getElem?_set_self hil
  have at_j : ∀ j, i ≠ j → (e.set i (some (.d d)))[j]? = e[j]? := fun j h => List.getElem?_set_ne h
  have st := ro.stay (.frz ob u)
  refine ⟨⟨by rw [R.len]; simp, fun j s hj => ?_, R.ilen, fun n q b h2 h3 => ?_, R.nd, fun j q b h2 h3 => ?_, fun j q b h2 h3 => ?_⟩, ⟨⟨[], by simp⟩, st, fun b x h => ?_, fun b x h2 h3 h4 => ?_⟩⟩
  · by_cases hij : i = j
    · subst hij
      rw [at_i] at hj; cases hj
      exact ⟨_, hσ, rd⟩
    · rw [at_j _ hij] at hj
      obtain ⟨w, hw, hs⟩ := R.sl j s hj
      refine ⟨w, hw, hs.mono st ⟨[], by simp⟩ fun b x hb hob hx => ?_⟩
      subst hb
      rw [upd_ne (Ne.symm (hsep j s b (Ne.symm hij) hj hob hw))]
      exact hx
  · refine (R.st n q b h2 h3).mono st ⟨[], by simp⟩ fun x hx => ?_
    rw [upd_ne (fun (z : b = a) => hι (z ▸ List.mem_of_getElem? h3))]
    exact hx
  · by_cases hij : i = j
    · subst hij
      rw [at_i] at h2; cases h2
    · rw [at_j _ hij] at h2
      obtain ⟨q1, q2⟩ := R.own j q b h2 h3
      refine ⟨q1, fun k s c hk h4 h5 h6 => ?_⟩
      by_cases hik : i = k
      · subst hik
        rw [at_i] at h4; cases h4
        exact h5.elim
      · rw [at_j _ hik] at h4
        exact q2 k s c hk h4 h5 h6
  · by_cases hij : i = j
    · subst hij
      rw [at_i] at h2; cases h2
    · rw [at_j _ hij] at h2
      exact R.brw j q b h2 h3
  · by_cases hb : b = a
    · subst hb; exact ⟨_, upd_same⟩
    · exact ⟨x, by rw [upd_ne hb]; exact h⟩
  · have hba : b ≠ a := fun (z : b = a) => h4 ⟨i, _, he, z ▸ hσ⟩
    rw [upd_ne hba]
    refine ⟨h2, h3, ?_, ?_⟩
    · rintro ⟨j, q, h5, h6⟩
      by_cases hij : i = j
      · subst hij
        rw [at_i] at h5; cases h5
      · rw [at_j _ hij] at h5
        exact h4 ⟨j, q, h5, h6⟩
    · rintro h7 ⟨j, s, h5, h5o, h6⟩
      by_cases hij : i = j
      · subst hij
        rw [at_i] at h5; cases h5
        exact h5o.elim
      · rw [at_j _ hij] at h5
        exact h7 ⟨j, s, h5, h5o, h6⟩
/-- a new object becomes one of the store -/
theorem Rel.box {H0 : Hp} {ι0 : List Addr} {σ0 : SV} {e0 : En} (R : Rel K H ι σ e S) (P : Post H0 ι0 σ0 e0 H ι σ e) (ro : RO K H ι a o) (h1 : a ∉ ι) (h2 : ¬ Obj σ e a) (f : H0 a = none) :
    Rel K H (ι ++ [a]) σ e (S ++ [o]) ∧ Post H0 ι0 σ0 e0 H (ι ++ [a]) σ e := by
  have p : ∃ l, ι ++ [a] = ι ++ l := ⟨[a], rfl⟩
  refine ⟨⟨R.len, fun i s he => ?_, by simp [R.ilen], fun n q b h3 h4 => ?_, ?_, fun i q b h3 h4 => ?_, fun i q b h3 h4 => ?_⟩, ⟨?_, P.stay, P.dom, fun b x h3 h4 h5 => ?_⟩⟩
  · obtain ⟨w, hw, hs⟩ := R.sl i s he
    exact ⟨w, hw, hs.mono (.refl _) p fun _ _ _ _ h => h⟩
  · by_cases hn : n < S.length
    · rw [List.getElem?_append_left hn] at h3
      rw [List.getElem?_append_left (by rw [R.ilen]; exact hn)] at h4
      exact (R.st n q b h3 h4).mono (.refl _) p fun _ h => h
    · have hlt := (List.getElem?_eq_some_iff.mp h3).1
      have e : n = S.length := by simp at hlt; omega
      subst e
      rw [List.getElem?_append_right (Nat.le_refl _)] at h3
      rw [List.getElem?_append_right (by rw [R.ilen]; exact Nat.le_refl _), R.ilen] at h4
      simp at h3 h4
      subst h3 h4
      exact ro.mono (.refl _) p fun _ h => h
  · rw [List.nodup_append]
    refine ⟨R.nd, by simp, fun x hx y hy => ?_⟩
    simp at hy; subst hy
    exact fun z => h1 (z ▸ hx)
  · obtain ⟨q1, q2⟩ := R.own i q b h3 h4
    refine ⟨fun hb => ?_, q2⟩
    rcases List.mem_append.mp hb with hb | hb
    · exact q1 hb
    · simp at hb; subst hb
      exact h2 ⟨i, _, h3, trivial, h4⟩
  · intro hb
    rcases List.mem_append.mp hb with hb | hb
    · exact R.brw i q b h3 h4 hb
    · simp at hb; subst hb
      exact h2 ⟨i, _, h3, trivial, h4⟩
  · obtain ⟨l, e⟩ := P.pre
    exact ⟨l ++ [a], by rw [e]; simp⟩
  · obtain ⟨q1, q2, q3, q4⟩ := P.keep b x h3 h4 h5
    refine ⟨q1, fun hb => ?_, q3, q4⟩
    rcases List.mem_append.mp hb with hb | hb
    · exact q2 hb
    · simp at hb; subst hb
      rw [f] at h3; cases h3
end
theorem ge_D {X : Cx} {ex : Expr} {m : M R} (h : GE X ex m) : GE X ex (mD m) := PE.imp (PE.freeze h) fun σ H Q q => by
  obtain ⟨ι, e, S, r, e', S', R, hm, q⟩ := q
  obtain ⟨x, e1, S1, h1, hm⟩ := bnd_eq hm
  refine ⟨ι, e, S, x, e1, S1, R, h1, fun v H1 ι1 R1 P1 r1 f1 => ?_⟩
  cases x with
  | d x => cases hm; exact .inl (q v H1 ι1 R1 P1 r1 trivial)
  | brw o => cases hm
  | new o =>
    obtain ⟨d, hd, e2⟩ := Option.map_eq_some_iff.mp (show (lock o).map (fun d => (G.R.d d, e1, S1)) = some (r, e', S') from hm)
    cases e2
    obtain ⟨a, rfl, ro, n1, n2⟩ := r1
    obtain ⟨a', ea, f1⟩ := f1
    cases ea
    obtain ⟨u, hu, hk, rd⟩ := ro.lock hd
    refine .inr ⟨a, u, rfl, hu, hk, fun ob => ?_⟩
    have st := ro.stay (.frz ob u)
    exact q _ _ ι1 (R1.other st n1 n2) (P1.fresh f1 st) (rd ob ι1 st ⟨[], by simp⟩) trivial
  | loc i =>
    have hm' : (match e1[i]? with
      | some (some (.own o)) => (lock o).map fun d => (G.R.d d, e1.set i (some (.d d)), S1)
      | _ => none) = some (r, e', S') := hm
    split at hm'
    · rename_i o he
      obtain ⟨d, hd, e2⟩ := Option.map_eq_some_iff.mp hm'
      cases e2
      obtain ⟨w, hw, a, rfl, ro⟩ := R1.sl _ _ he
      have hr : σ[i]? = some (some v) := r1
      rw [hr] at hw; cases hw
      obtain ⟨u, hu, hk, rd⟩ := ro.lock hd
      refine .inr ⟨a, u, rfl, hu, hk, fun ob => ?_⟩
      have st := ro.stay (.frz ob u)
      have rd' := rd ob ι1 st ⟨[], by simp⟩
      obtain ⟨R2, P2⟩ := R1.lockSlot he hr ro rd'
      exact q _ _ ι1 R2 (P1.trans P2) rd' trivial
    · cases hm'
theorem ge_box {X : Cx} {ex : Expr} {m : M R} (h : GE X ex m) : GE X ex (mBox m) := PE.imp h fun σ H Q q => by
  obtain ⟨ι, e, S, r, e', S', R, hm, q⟩ := q
  obtain ⟨x, e1, S1, h1, hm⟩ := bnd_eq hm
  refine ⟨ι, e, S, x, e1, S1, R, h1, fun v H1 ι1 R1 P1 r1 f1 => ?_⟩
  cases x with
  | new o =>
    cases hm
    obtain ⟨a, rfl, ro, n1, n2⟩ := r1
    obtain ⟨a', ea, f1⟩ := f1
    cases ea
    obtain ⟨R2, P2⟩ := R1.box P1 ro n1 n2 f1
    refine q _ H1 (ι1 ++ [a]) R2 P2 (.ref ?_) trivial
    rw [← R1.ilen]
    simp
  | _ => cases hm

/-! ### argument lists, displays -/
def mNil : M (List R) := pur []
def mCons (a : M R) (b : M (List R)) : M (List R) := bnd a fun x => bnd b fun xs => pur (x :: xs)
def dsOf : List R → Option (List D)
  | [] => some []
  | .d x :: rs => (dsOf rs).map (x :: ·)
  | _ :: _ => none
def dispOf (f : List D → R) (rs : List R) : M R := fun e S => match dsOf rs with
  | some ds => if ds.length ≤ 1000 then some (f ds, e, S) else none
  | none => none
def mTup (ms : M (List R)) : M R := bnd ms (dispOf fun ds => .d (.tup ds))
def mLst (ms : M (List R)) : M R := bnd ms (dispOf fun ds => .new (.lst ds))
theorem dispOf_eq {f : List D → R} {rs : List R} {e : En} {S : Sto} {z : R × En × Sto} (h : dispOf f rs e S = some z) : ∃ ds, dsOf rs = some ds ∧ ds.length ≤ 1000 ∧ z = (f ds, e, S) := by
  unfold dispOf at h
  split at h
  · split at h
    · exact ⟨_, by assumption, by assumption, (Option.some.inj h).symm⟩
    · cases h
  · cases h
theorem RRs.ds {K : PySem.W.Frag} {H : Hp} {ι : List Addr} {σ : SV} {e : En} {vs : List V} {rs : List R} (h : RRs K H ι σ e vs rs) : ∀ {ds : List D}, dsOf rs = some ds → RDs K H ι vs ds := by
  induction h with
  | nil => intro ds e; cases e; exact .nil
  | cons h1 _ ih =>
    rename_i v vs r rs _
    intro ds e
    cases r with
    | d x =>
      obtain ⟨es, e1, e2⟩ := Option.map_eq_some_iff.mp (show (dsOf rs).map (x :: ·) = some ds from e)
      subst e2
      exact .cons h1 (ih e1)
    | _ => cases e
section
variable {X : Cx} {ex : Expr} {es : List Expr} {ma : M R} {ms : M (List R)} {pos : Pos}
theorem ga_nil : GA X [] mNil := PA.imp pa_nil fun σ H Q q => by
  obtain ⟨ι, e, S, r, e', S', R, hm, q⟩ := q
  cases hm
  exact q [] H ι R .refl .nil
theorem ga_cons (ha : GE X ex ma) (hr : GA X es ms) (hs : starEach (ex :: es) X.env = (false, eval ex X.env) :: starEach es X.env := by rfl) : GA X (ex :: es) (mCons ma ms) := PA.imp (pa_cons ha hr hs) fun σ H Q q => by
  obtain ⟨ι, e, S, r, e', S', R, hm, q⟩ := q
  obtain ⟨x, e1, S1, h1, hm⟩ := bnd_eq hm
  obtain ⟨xs, e2, S2, h2, hm⟩ := bnd_eq hm
  cases hm
  exact ⟨ι, e, S, x, e1, S1, R, h1, fun v H1 ι1 R1 P1 r1 _ => ⟨ι1, e1, S1, xs, _, _, R1, h2, fun vs H2 ι2 R2 P2 r2 => q _ H2 ι2 R2 (P1.trans P2) (.cons (r1.post P2) r2)⟩⟩
theorem ge_tup {k} (h : GA X es ms) : GE X (.Tuple es k pos) (mTup ms) := PE.imp (pe_tup h) fun σ H Q q => by
  obtain ⟨ι, e, S, r, e', S', R, hm, q⟩ := q
  obtain ⟨rs, e1, S1, h1, hm⟩ := bnd_eq hm
  refine ⟨ι, e, S, rs, e1, S1, R, h1, fun vs H1 ι1 R1 P1 r1 => ?_⟩
  obtain ⟨ds, hds, hn, hz⟩ := dispOf_eq hm
  cases hz
  have rd := r1.ds hds
  refine ⟨by rw [rd.length]; exact Nat.le_of_lt (small1000 hn), fun p hp => ?_⟩
  obtain ⟨R2, P2, _⟩ := R1.new (u := .tup vs) hp
  exact q _ _ ι1 R2 (P1.trans P2) (.tup (.inl (.inl upd_same)) (RDs.mono P2.stay P2.pre _ _ rd)) trivial
theorem ge_lst (h : GA X es ms) : GE X (.List es pos) (mLst ms) := PE.imp (pe_lst h) fun σ H Q q => by
  obtain ⟨ι, e, S, r, e', S', R, hm, q⟩ := q
  obtain ⟨rs, e1, S1, h1, hm⟩ := bnd_eq hm
  refine ⟨ι, e, S, rs, e1, S1, R, h1, fun vs H1 ι1 R1 P1 r1 => ?_⟩
  obtain ⟨ds, hds, hn, hz⟩ := dispOf_eq hm
  cases hz
  have rd := r1.ds hds
  refine ⟨by rw [rd.length]; exact Nat.le_of_lt (small1000 hn), fun p hp => ?_⟩
  obtain ⟨R2, P2, n1, n2⟩ := R1.new (u := .lst vs) hp
  exact q _ _ ι1 R2 (P1.trans P2) ⟨p, rfl, ⟨_, upd_same, RDs.mono P2.stay P2.pre _ _ rd⟩, n1, n2⟩ ⟨p, rfl, P1.back hp⟩
end

/-! ### own defs -/
/-- what a def hands back -/
inductive Rt where
  | d (x : D) | new (o : O)
def Rt.r : Rt → R
  | .d x => .d x
  | .new o => .new o
abbrev Fn := List Sl → Sto → Option (Rt × Sto)
/-- an argument as its callee sees it -/
def toArg (r : R) (e : En) : Option Sl := match r with
  | .d x => some (.d x)
  | .new o => some (.brw o)
  | .brw o => some (.brw o)
  | .loc i => match e[i]? with
    | some (some (.own o)) => some (.brw o)
    | _ => none
def toArgs : List R → En → Option (List Sl)
  | [], _ => some []
  | r :: rs, e => match toArg r e, toArgs rs e with
    | some s, some ss => some (s :: ss)
    | _, _ => none
/-- the store alone -/
structure RelS (K : PySem.W.Frag) (H : Hp) (ι : List Addr) (S : Sto) : Prop where
  ilen : ι.length = S.length
  st : ∀ (n : Nat) (o : O) (a : Addr), S[n]? = some o → ι[n]? = some a → RO K H ι a o
  nd : ι.Nodup
def Sl.isOwn : Sl → Prop
  | .own _ => True
  | _ => False
inductive RSls (K : PySem.W.Frag) (H : Hp) (ι : List Addr) : List V → List Sl → Prop
  | nil : RSls K H ι [] []
  | cons {v vs s ss} : RSl K H ι v s → (∀ a, v = .ref a → s.isObj → a ∉ ι) → ¬ s.isOwn → RSls K H ι vs ss → RSls K H ι (v :: vs) (s :: ss)
structure PostC (H : Hp) (ι : List Addr) (H' : Hp) (ι' : List Addr) : Prop where
  pre : ∃ l, ι' = ι ++ l
  stay : Stay H H'
  dom : ∀ a o, H a = some o → ∃ o', H' a = some o'
  keep : ∀ a o, H a = some o → a ∉ ι → H' a = some o ∧ a ∉ ι'
def RRt (K : PySem.W.Frag) (H : Hp) (H' : Hp) (ι' : List Addr) (v : V) : Rt → Prop
  | .d x => RD K H' ι' v x
  | .new o => ∃ a, v = .ref a ∧ RO K H' ι' a o ∧ a ∉ ι' ∧ H a = none
def spG (K : PySem.W.Frag) (n : Nat) (m : Fn) : Sp := fun vs H Q _ => vs.length = n ∧ ∃ ι sls S r S', RelS K H ι S ∧ RSls K H ι vs sls ∧ m sls S = some (r, S') ∧
  ∀ v H' ι', RelS K H' ι' S' → PostC H ι H' ι' → RRt K H H' ι' v r → Q v H'
def mCall (n : Nat) (f : Fn) (ms : M (List R)) : M R := bnd ms fun rs => if rs.length = n then (fun e S => match toArgs rs e with
  | some sls => (f sls S).map fun (r, S') => (r.r, e, S')
  | none => none) else stk
/-- a def of the text and what it computes -/
structure GF (P : Program) (w : World) (K : PySem.W.Frag) (mg : Str → Option Value) (base : Heap) (k : Nat) (x : Str) (n : Nat) (m : Fn) : Prop where
  ex : ∃ f fd ps, FnG P w K mg base k f fd ps (spG K n m) ∧ mg x = some (.ref f) ∧ PySem.W.keepIn K (.ref f) = true ∧ Binds K fd ps []
section
variable {K : PySem.W.Frag} {H H' : Hp} {ι ι' : List Addr} {σ : SV} {e : En} {S S' : Sto} {v : V} {vs : List V} {r : R} {rs : List R}
theorem Rel.arg (R : Rel K H ι σ e S) (hr : RR K H ι σ e v r) {s : Sl} (h : toArg r e = some s) : RSl K H ι v s ∧ (∀ a, v = .ref a → s.isObj → a ∉ ι) ∧ ¬ s.isOwn := by
  cases r with
  | d x => cases h; exact ⟨hr, fun _ _ z => z.elim, fun z => z⟩
  | new o => cases h; obtain ⟨a, rfl, ro, n1, _⟩ := hr; exact ⟨⟨a, rfl, ro⟩, fun _ e _ => by cases e; exact n1, fun z => z⟩
  | brw o => cases h; obtain ⟨a, rfl, ro, n1, _⟩ := hr; exact ⟨⟨a, rfl, ro⟩, fun _ e _ => by cases e; exact n1, fun z => z⟩
  | loc i =>
    have h' : (match e[i]? with
      | some (some (.own o)) => some (Sl.brw o)
      | _ => none) = some s := h
    split at h'
    · cases h'
      rename_i o he
      obtain ⟨w, hw, a, rfl, ro⟩ := R.sl _ _ he
      have hr' : σ[i]? = some (some v) := hr
      rw [hr'] at hw; cases hw
      exact ⟨⟨a, rfl, ro⟩, fun _ e _ => by cases e; exact (R.own _ _ _ he hr').1, fun z => z⟩
    · cases h'
theorem Rel.args (R : Rel K H ι σ e S) (hr : RRs K H ι σ e vs rs) : ∀ {ss : List Sl}, toArgs rs e = some ss → RSls K H ι vs ss := by
  induction hr with
  | nil => intro ss h; cases h; exact .nil
  | cons h1 _ ih =>
    rename_i v vs r rs _
    intro ss h
    have h' : (match toArg r e, toArgs rs e with
      | some s, some ss => some (s :: ss)
      | _, _ => none) = some ss := h
    split at h'
    · cases h'
      rename_i q1 q2
      obtain ⟨a, b, c⟩ := R.arg h1 q1
      exact .cons a b c (ih q2)
    · cases h'
theorem Rel.s (R : Rel K H ι σ e S) : RelS K H ι S := ⟨R.ilen, R.st, R.nd⟩
/-- behind a call -/
theorem Rel.called (R : Rel K H ι σ e S) (R' : RelS K H' ι' S') (P : PostC H ι H' ι') : Rel K H' ι' σ e S' ∧ Post H ι σ e H' ι' σ e := by
  have kp : ∀ (i : Nat) (s : Sl) (b : Addr), e[i]? = some (some s) → s.isObj → σ[i]? = some (some (.ref b)) → ∀ u, H b = some u → H' b = some u ∧ b ∉ ι' := fun i s b h1 h2 h3 u hu => P.keep b u hu (R.slot_ne h1 h2 h3)
  refine ⟨⟨R.len, fun i s he => ?_, R'.ilen, R'.st, R'.nd, fun i o a h1 h2 => ?_, fun i o a h1 h2 => ?_⟩, ⟨P.pre, P.stay, P.dom, fun b x h1 h2 h3 => ?_⟩⟩
  · obtain ⟨w, hw, hs⟩ := R.sl i s he
    exact ⟨w, hw, hs.mono P.stay P.pre fun a u ha ho hu => by subst ha; exact (kp i s a he ho hw u hu).1⟩
  · obtain ⟨w, hw, hs⟩ := R.sl i _ h1
    rw [h2] at hw; cases hw
    obtain ⟨b, _, u, e1, _, hu, _⟩ := RSl.there hs trivial
    cases e1
    exact ⟨(kp i _ _ h1 trivial h2 u hu).2, (R.own i o a h1 h2).2⟩
  · obtain ⟨w, hw, hs⟩ := R.sl i _ h1
    rw [h2] at hw; cases hw
    obtain ⟨b, _, u, e1, _, hu, _⟩ := RSl.there hs trivial
    cases e1
    exact (kp i _ _ h1 trivial h2 u hu).2
  · obtain ⟨q1, q2⟩ := P.keep b x h1 h2
    exact ⟨q1, q2, h3, fun h => h⟩
theorem Rel.ne_none (R : Rel K H ι σ e S) {a : Addr} (h : H a = none) : ¬ Obj σ e a := fun ⟨i, s, h1, h2, h3⟩ => by
  obtain ⟨w, hw, hs⟩ := R.sl i s h1
  rw [h3] at hw; cases hw
  obtain ⟨b, _, u, e1, _, hu, _⟩ := RSl.there hs h2
  cases e1
  rw [h] at hu; cases hu
end
theorem RRs.length {K : PySem.W.Frag} {H : Hp} {ι : List Addr} {σ : SV} {e : En} {vs : List V} {rs : List R} (h : RRs K H ι σ e vs rs) : vs.length = rs.length := by
  induction h with
  | nil => rfl
  | cons _ _ ih => simp [ih]
theorem tG_call {K : PySem.W.Frag} {f : Fn} {ms : M (List R)} {σ : SV} {H : Hp} {Q : VK} {n : Nat} {E : XK} (q : tG K (bnd ms fun rs => if rs.length = n then (fun e S => match toArgs rs e with
  | some sls => (f sls S).map fun (r, S') => (r.r, e, S')
  | none => none) else stk) σ H Q) : tGA K ms σ H fun vs H1 => spG K n f vs H1 Q E := by
  obtain ⟨ι, e, S, r, e', S', R, hm, q⟩ := q
  obtain ⟨rs, e1, S1, h1, hm⟩ := bnd_eq hm
  refine ⟨ι, e, S, rs, e1, S1, R, h1, fun vs H1 ι1 R1 P1 r1 => ?_⟩
  dsimp only at hm
  split at hm
  · rename_i hn
    have hm' : (match toArgs rs e1 with
      | some sls => (f sls S1).map fun (r, S') => (r.r, e1, S')
      | none => none) = some (r, e', S') := hm
    split at hm'
    · rename_i sls hs
      obtain ⟨⟨rt, S2⟩, h2, e2⟩ := Option.map_eq_some_iff.mp hm'
      cases e2
      refine ⟨by rw [r1.length]; exact hn, ι1, sls, S1, rt, S', R1.s, R1.args r1 hs, h2, fun v H2 ι2 R2 P2 r2 => ?_⟩
      obtain ⟨R3, P3⟩ := R1.called R2 P2
      refine q v H2 ι2 R3 (P1.trans P3) ?_ ?_
      · cases rt with
        | d x => exact r2
        | new o =>
          obtain ⟨a, rfl, ro, n1, n2⟩ := r2
          exact ⟨a, rfl, ro, n1, R1.ne_none n2⟩
      · cases rt with
        | d x => trivial
        | new o =>
          obtain ⟨a, rfl, ro, n1, n2⟩ := r2
          exact ⟨a, rfl, P1.back n2⟩
    · cases hm'
  · cases hm
end G

set_option Elab.async false
set_option linter.all false
set_option maxRecDepth 1000000
set_option maxHeartbeats 2000000
/-! G4: statements, targets, bodies of defs. -/
namespace G
variable [Wld]
open PySem PySem.Spec PyProof.Rows L2

section
variable {X : Cx} {k : Nat} {x : Str} {n : Nat} {f : Fn} {ex : Expr} {es : List Expr} {ms : M (List R)} {p pos : Pos}
theorem ge_call (F : GF X.prog X.w X.K X.mg X.base k x n f) (hr : Room k X.A) (hgd : X.A.guards = some []) (hg : Gl X x) (ha : GA X (ex :: es) ms) (hdb : (x == ("__debug__" : Str)) = false := by decide)
    (he : starEach (ex :: es) X.env = (false, eval ex X.env) :: starEach es X.env := by rfl) (hpl : (backTo pos (starEach es X.env)).any (·.1) = false := by rfl) :
    GE X (.Call (.Name x p) (ex :: es) [] pos) (mCall n f ms) := by
  obtain ⟨fa, fd, ps, ok, hm, hk, hb⟩ := F.ex
  refine PE.imp (pe_callG ok hr hgd hg hm hk hb .nil pass0 ha hdb he hpl) fun σ H Q q => ?_
  have h : tGA X.K ms σ H fun vs H1 => spG X.K n f vs H1 Q E0 := tG_call q
  unfold tCall
  simpa using h
end

/-! ### statements -/
inductive Fl where
  | nx | bk | ct | rt (r : Rt)
/-- what is handed back, by what stood at the start -/
def RRr (K : PySem.W.Frag) (H : Hp) (ι : List Addr) (σ : SV) (e : En) (H' : Hp) (ι' : List Addr) (v : V) : Rt → Prop
  | .d x => RD K H' ι' v x
  | .new o => ∃ a, v = .ref a ∧ RO K H' ι' a o ∧ a ∉ ι' ∧ ∀ u, H a = some u → a ∉ ι → ¬ Own σ e a → False
def tGS (K : PySem.W.Frag) (m : M Fl) : TS := fun D σ H => ∃ ι e S fl e' S', Rel K H ι σ e S ∧ m e S = some (fl, e', S') ∧ match fl with
  | .nx => ∀ σ' H' ι', Rel K H' ι' σ' e' S' → Post H ι σ e H' ι' σ' e' → D.nx σ' H'
  | .bk => ∀ σ' H' ι', Rel K H' ι' σ' e' S' → Post H ι σ e H' ι' σ' e' → D.bk σ' H'
  | .ct => ∀ σ' H' ι', Rel K H' ι' σ' e' S' → Post H ι σ e H' ι' σ' e' → D.ct σ' H'
  | .rt r => ∀ v σ' H' ι', Rel K H' ι' σ' e' S' → Post H ι σ e H' ι' σ' e' → RRr K H ι σ e H' ι' v r → D.rt v H'
abbrev GS (X : Cx) (st : Stmt) (m : M Fl) : Prop := PS X st (tGS X.K m)
abbrev GSs (X : Cx) (st : List Stmt) (m : M Fl) : Prop := PSs X st (tGS X.K m)
/-- one behind the other -/
def mSeq (a b : M Fl) : M Fl := bnd a fun fl => match fl with
  | .nx => b
  | z => pur z
def mSkip : M Fl := pur .nx
theorem RRr.back {K : PySem.W.Frag} {H H1 H' : Hp} {ι ι1 ι' : List Addr} {σ σ1 : SV} {e e1 : En} {v : V} {r : Rt} (h : RRr K H1 ι1 σ1 e1 H' ι' v r) (P : Post H ι σ e H1 ι1 σ1 e1) : RRr K H ι σ e H' ι' v r := by
  cases r with
  | d x => exact h
  | new o =>
    obtain ⟨a, rfl, ro, n, f⟩ := h
    exact ⟨a, rfl, ro, n, fun u h1 h2 h3 => by
      obtain ⟨q1, q2, q3, _⟩ := P.keep a u h1 h2 h3
      exact f u q1 q2 q3⟩
theorem tGS_seq {K : PySem.W.Frag} {a b : M Fl} {D : Ends} {σ : SV} {H : Hp} (h : tGS K (mSeq a b) D σ H) : tSeq (tGS K a) (tGS K b) D σ H := by
  obtain ⟨ι, e, S, fl, e', S', R, hm, q⟩ := h
  obtain ⟨f1, e1, S1, h1, hm⟩ := bnd_eq hm
  refine ⟨ι, e, S, f1, e1, S1, R, h1, ?_⟩
  cases f1 with
  | nx =>
    intro σ1 H1 ι1 R1 P1
    refine ⟨ι1, e1, S1, fl, e', S', R1, hm, ?_⟩
    cases fl with
    | nx => exact fun σ2 H2 ι2 R2 P2 => q σ2 H2 ι2 R2 (P1.trans P2)
    | bk => exact fun σ2 H2 ι2 R2 P2 => q σ2 H2 ι2 R2 (P1.trans P2)
    | ct => exact fun σ2 H2 ι2 R2 P2 => q σ2 H2 ι2 R2 (P1.trans P2)
    | rt r => exact fun v σ2 H2 ι2 R2 P2 r2 => q v σ2 H2 ι2 R2 (P1.trans P2) (r2.back P1)
  | bk => cases hm; exact q
  | ct => cases hm; exact q
  | rt r => cases hm; exact q
section
variable {X : Cx} {st : Stmt} {rest : List Stmt} {a b : M Fl} {ex : Expr} {m : M R} {mt : M Bool} {pos : Pos}
theorem gss_nil : GSs X [] mSkip := PSs.imp pss_nil fun D σ H q => by
  obtain ⟨ι, e, S, fl, e', S', R, hm, q⟩ := q
  cases hm
  exact q σ H ι R .refl
theorem gss_cons (h1 : GS X st a) (h2 : GSs X rest b) : GSs X (st :: rest) (mSeq a b) := PSs.imp (pss_cons h1 h2) fun D σ H q => tGS_seq q
theorem gss_one (h1 : GS X st a) : GSs X [st] a := pss_one h1
theorem gs_pass : GS X (.Pass pos) mSkip := PS.imp ps_pass fun D σ H q => by
  obtain ⟨ι, e, S, fl, e', S', R, hm, q⟩ := q
  cases hm
  exact q σ H ι R .refl
theorem gs_break : GS X (.Break pos) (pur .bk) := PS.imp ps_break fun D σ H q => by
  obtain ⟨ι, e, S, fl, e', S', R, hm, q⟩ := q
  cases hm
  exact q σ H ι R .refl
theorem gs_continue : GS X (.Continue pos) (pur .ct) := PS.imp ps_continue fun D σ H q => by
  obtain ⟨ι, e, S, fl, e', S', R, hm, q⟩ := q
  cases hm
  exact q σ H ι R .refl
def mDrop (m : M R) : M Fl := bnd m fun _ => pur .nx
theorem gs_expr (h : GE X ex m) (hs : swapsWith ex none pos.line X.env = pure false := by rfl) : GS X (.Expr ex pos) (mDrop m) := PS.imp (ps_expr h hs) fun D σ H q => by
  obtain ⟨ι, e, S, fl, e', S', R, hm, q⟩ := q
  obtain ⟨x, e1, S1, h1, hm⟩ := bnd_eq hm
  cases hm
  exact ⟨ι, e, S, x, _, _, R, h1, fun v H1 ι1 R1 P1 _ _ => q σ H1 ι1 R1 P1⟩
def toRt (r : R) : M Fl := fun e S => match r with
  | .d x => some (.rt (.d x), e, S)
  | .new o => some (.rt (.new o), e, S)
  | .loc i => match e[i]? with
    | some (some (.own o)) => some (.rt (.new o), e, S)
    | _ => none
  | .brw _ => none
theorem toRt_loc {i : Nat} {e : En} {S : Sto} {z} (h : toRt (.loc i) e S = some z) : ∃ o, e[i]? = some (some (.own o)) ∧ z = (.rt (.new o), e, S) := by
  have h' : (match e[i]? with
      | some (some (.own o)) => some (Fl.rt (.new o), e, S)
      | _ => none) = some z := h
  split at h'
  · exact ⟨_, by assumption, (Option.some.inj h').symm⟩
  · cases h'
def mRet (m : M R) : M Fl := bnd m toRt
theorem gs_ret (h : GE X ex m) : GS X (.Return (some ex) pos) (mRet m) := PS.imp (ps_ret h) fun D σ H q => by
  obtain ⟨ι, e, S, fl, e', S', R, hm, q⟩ := q
  obtain ⟨x, e1, S1, h1, hm⟩ := bnd_eq hm
  refine ⟨ι, e, S, x, e1, S1, R, h1, fun v H1 ι1 R1 P1 r1 f1 => ?_⟩
  cases x with
  | d x => cases hm; exact q v σ H1 ι1 R1 P1 r1
  | brw o => cases hm
  | new o =>
    cases hm
    obtain ⟨a, rfl, ro, n1, n2⟩ := r1
    obtain ⟨a', ea, f1⟩ := f1
    cases ea
    exact q _ σ H1 ι1 R1 P1 ⟨a, rfl, ro, n1, fun u hu _ _ => by rw [f1] at hu; cases hu⟩
  | loc i =>
    obtain ⟨o, he, hz⟩ := toRt_loc hm
    cases hz
    obtain ⟨w, hw, a, rfl, ro⟩ := R1.sl _ _ he
    have hr : σ[i]? = some (some v) := r1
    rw [hr] at hw; cases hw
    refine q _ σ H1 ι1 R1 P1 ⟨a, rfl, ro, (R1.own _ _ _ he hr).1, fun u h1 h2 h3 => ?_⟩
    obtain ⟨_, _, n, _⟩ := P1.keep a u h1 h2 h3
    exact n ⟨i, _, he, hr⟩
def mRetN : M Fl := pur (.rt (.d .non))
theorem gs_retN : GS X (.Return none pos) mRetN := PS.imp ps_retN fun D σ H q => by
  obtain ⟨ι, e, S, fl, e', S', R, hm, q⟩ := q
  cases hm
  exact q _ σ H ι R .refl .non
def mIfS (c : M Bool) (a b : M Fl) : M Fl := bnd c fun x => if x = true then a else b
theorem gs_if {c : Expr} {s1 s2 : List Stmt} (hc : GT X c mt) (h1 : GSs X s1 a) (h2 : GSs X s2 b) : GS X (.If c s1 s2 pos) (mIfS mt a b) := PS.imp (ps_if hc h1 h2) fun D σ H q => by
  obtain ⟨ι, e, S, fl, e', S', R, hm, q⟩ := q
  obtain ⟨x, e1, S1, h1, hm⟩ := bnd_eq hm
  refine ⟨ι, e, S, x, e1, S1, R, h1, fun H1 ι1 R1 P1 => ?_⟩
  have go : tGS X.K (if x = true then a else b) D σ H1 := by
    refine ⟨ι1, e1, S1, fl, e', S', R1, hm, ?_⟩
    cases fl with
    | nx => exact fun σ2 H2 ι2 R2 P2 => q σ2 H2 ι2 R2 (P1.trans P2)
    | bk => exact fun σ2 H2 ι2 R2 P2 => q σ2 H2 ι2 R2 (P1.trans P2)
    | ct => exact fun σ2 H2 ι2 R2 P2 => q σ2 H2 ι2 R2 (P1.trans P2)
    | rt r => exact fun v σ2 H2 ι2 R2 P2 r2 => q v σ2 H2 ι2 R2 (P1.trans P2) (r2.back P1)
  cases x with
  | true => exact go
  | false => exact go
end

/-! ### names stored -/
/-- what a slot takes -/
def toSl : R → Option Sl
  | .d x => some (.d x)
  | .new o => some (.own o)
  | _ => none
def setS (i : Nat) (r : R) : M Fl := fun e S => match toSl r with
  | some s => if i < e.length then some (.nx, e.set i (some s), S) else none
  | none => none
def mSet (i : Nat) (m : M R) : M Fl := bnd m (setS i)
section
variable {K : PySem.W.Frag} {H H0 : Hp} {ι ι0 : List Addr} {σ σ0 : SV} {e e0 : En} {S : Sto} {v : V} {r : R}
theorem Rel.setSl {i : Nat} {s : Sl} (R : Rel K H ι σ e S) (hi : i < e.length) (rs : RSl K H ι v s) (hb : ∀ o, s ≠ .brw o) (hn : ∀ a, v = .ref a → s.isObj → a ∉ ι ∧ ¬ Obj σ e a) :
    Rel K H ι (σ.set i (some v)) (e.set i (some s)) S := by
  have hσ : i < σ.length := by rw [R.len]; exact hi
  have e_i : (e.set i (some s))[i]? = some (some s) := List.getElem?_set_self hi
  have e_j : ∀ j, i ≠ j → (e.set i (some s))[j]? = e[j]? := fun j h => List.getElem?_set_ne h
  have s_i : (σ.set i (some v))[i]? = some (some v) := List.getElem?_set_self hσ
  have s_j : ∀ j, i ≠ j → (σ.set i (some v))[j]? = σ[j]? := fun j h => List.getElem?_set_ne h
  refine ⟨by simp [R.len], fun j t hj => ?_, R.ilen, R.st, R.nd, fun j o a h1 h2 => ?_, fun j o a h1 h2 => ?_⟩
  · by_cases hij : i = j
    · subst hij
      rw [e_i] at hj; cases hj
      exact ⟨v, s_i, rs⟩
    · rw [e_j _ hij] at hj
      rw [s_j _ hij]
      exact R.sl j t hj
  · by_cases hij : i = j
    · subst hij
      rw [e_i] at h1; cases h1
      rw [s_i] at h2; cases h2
      obtain ⟨q1, q2⟩ := hn a rfl trivial
      refine ⟨q1, fun k t b hk h3 h4 h5 => ?_⟩
      rw [e_j _ (Ne.symm hk)] at h3
      rw [s_j _ (Ne.symm hk)] at h5
      exact fun z => q2 ⟨k, t, h3, h4, z ▸ h5⟩
    · rw [e_j _ hij] at h1
      rw [s_j _ hij] at h2
      obtain ⟨q1, q2⟩ := R.own j o a h1 h2
      refine ⟨q1, fun k t b hk h3 h4 h5 => ?_⟩
      by_cases hik : i = k
      · subst hik
        rw [e_i] at h3; cases h3
        rw [s_i] at h5; cases h5
        exact fun z => (hn b rfl h4).2 ⟨j, _, h1, trivial, z ▸ h2⟩
      · rw [e_j _ hik] at h3
        rw [s_j _ hik] at h5
        exact q2 k t b hk h3 h4 h5
  · by_cases hij : i = j
    · subst hij
      rw [e_i] at h1; cases h1
      exact (hb o rfl).elim
    · rw [e_j _ hij] at h1
      rw [s_j _ hij] at h2
      exact R.brw j o a h1 h2
theorem Post.setSl {i : Nat} {s : Sl} (P : Post H0 ι0 σ0 e0 H ι σ e) (hi : i < e.length) (hσ : σ.length = e.length) (f : ∀ a, v = .ref a → s.isObj → H0 a = none) : Post H0 ι0 σ0 e0 H ι (σ.set i (some v)) (e.set i (some s)) := by
  have e_i : (e.set i (some s))[i]? = some (some s) := List.getElem?_set_self hi
  have e_j : ∀ j, i ≠ j → (e.set i (some s))[j]? = e[j]? := fun j h => List.getElem?_set_ne h
  have s_i : (σ.set i (some v))[i]? = some (some v) := List.getElem?_set_self (by rw [hσ]; exact hi)
  have s_j : ∀ j, i ≠ j → (σ.set i (some v))[j]? = σ[j]? := fun j h => List.getElem?_set_ne h
  refine ⟨P.pre, P.stay, P.dom, fun b x h1 h2 h3 => ?_⟩
  obtain ⟨q1, q2, q3, q4⟩ := P.keep b x h1 h2 h3
  refine ⟨q1, q2, ?_, fun h => ?_⟩
  · rintro ⟨j, o, h4, h5⟩
    by_cases hij : i = j
    · subst hij
      rw [e_i] at h4; cases h4
      rw [s_i] at h5; cases h5
      rw [f b rfl trivial] at h1; cases h1
    · rw [e_j _ hij] at h4
      rw [s_j _ hij] at h5
      exact q3 ⟨j, o, h4, h5⟩
  · rintro ⟨j, t, h4, h6, h5⟩
    by_cases hij : i = j
    · subst hij
      rw [e_i] at h4; cases h4
      rw [s_i] at h5; cases h5
      rw [f b rfl h6] at h1; cases h1
    · rw [e_j _ hij] at h4
      rw [s_j _ hij] at h5
      exact q4 h ⟨j, t, h4, h6, h5⟩
theorem setS_eq {i : Nat} {r : R} {e : En} {S : Sto} {z} (h : setS i r e S = some z) : ∃ s, toSl r = some s ∧ i < e.length ∧ z = (.nx, e.set i (some s), S) := by
  unfold setS at h
  split at h
  · split at h
    · exact ⟨_, by assumption, by assumption, (Option.some.inj h).symm⟩
    · cases h
  · cases h
/-- a result put in a slot -/
theorem Rel.put {i : Nat} {s : Sl} (R : Rel K H ι σ e S) (P : Post H0 ι0 σ0 e0 H ι σ e) (hr : RR K H ι σ e v r) (f : Fresh H0 v r) (hs : toSl r = some s) (hi : i < e.length) :
    Rel K H ι (σ.set i (some v)) (e.set i (some s)) S ∧ Post H0 ι0 σ0 e0 H ι (σ.set i (some v)) (e.set i (some s)) := by
  cases r with
  | d x =>
    cases hs
    exact ⟨R.setSl hi hr (fun _ z => nomatch z) fun _ _ z => z.elim, P.setSl hi R.len fun _ _ z => z.elim⟩
  | new o =>
    cases hs
    obtain ⟨a, rfl, ro, n1, n2⟩ := hr
    obtain ⟨a', ea, f⟩ := f
    cases ea
    exact ⟨R.setSl hi ⟨a, rfl, ro⟩ (fun _ z => nomatch z) fun _ e _ => by cases e; exact ⟨n1, n2⟩, P.setSl hi R.len fun _ e _ => by cases e; exact f⟩
  | _ => cases hs
end
section
variable {X : Cx} {ex : Expr} {m : M R} {pos pos' : Pos}
theorem gs_set {i : Nat} {x : Str} (hN : X.N.Nodup) (hi : X.N[i]? = some x) (hx : Loc X.env.scope x) (h : GE X ex m) (hs : swapsWith ex (some (.Name x pos')) pos.line X.env = pure false := by rfl) (hf : X.fn x = true ∨ X.env.scope.names.lookup x = some .local := by first | exact .inl rfl | exact .inr rfl | assumption) :
    GS X (.Assign [.Name x pos'] ex pos) (mSet i m) := PS.imp (ps_set hN hi hx h hs hf) fun D σ H q => by
  obtain ⟨ι, e, S, fl, e', S', R, hm, q⟩ := q
  obtain ⟨r, e1, S1, h1, hm⟩ := bnd_eq hm
  obtain ⟨s, hsl, hil, hz⟩ := setS_eq hm
  cases hz
  refine ⟨ι, e, S, r, e1, _, R, h1, fun v H1 ι1 R1 P1 r1 f1 => ?_⟩
  obtain ⟨R2, P2⟩ := R1.put P1 r1 f1 hsl hil
  exact q _ H1 ι1 R2 P2
end

/-! ### bodies of defs -/
def runF (nl : Nat) (body : M Fl) : Fn := fun sls S => match body (sls.map some ++ List.replicate nl none) S with
  | some (.rt r, _, S') => some (r, S')
  | some (.nx, _, S') => some (.d .non, S')
  | _ => none
theorem RSls.length {K : PySem.W.Frag} {H : Hp} {ι : List Addr} {vs : List V} {ss : List Sl} (h : RSls K H ι vs ss) : vs.length = ss.length := by
  induction h with
  | nil => rfl
  | cons _ _ _ _ ih => simp [ih]
theorem RSls.get {K : PySem.W.Frag} {H : Hp} {ι : List Addr} {vs : List V} {ss : List Sl} (h : RSls K H ι vs ss) : ∀ {i : Nat} {s : Sl}, ss[i]? = some s → ∃ v, vs[i]? = some v ∧ RSl K H ι v s ∧ (∀ a, v = .ref a → s.isObj → a ∉ ι) ∧ ¬ s.isOwn := by
  induction h with
  | nil => intro i s e; simp at e
  | cons h1 h2 h3 _ ih =>
    intro i s e
    cases i with
    | zero => simp at e; subst e; exact ⟨_, rfl, h1, h2, h3⟩
    | succ i => exact ih (by simpa using e)
theorem at_start {sls : List Sl} {nl i : Nat} {s : Sl} (h : (sls.map some ++ List.replicate nl none)[i]? = some (some s)) : sls[i]? = some s := by
  by_cases hi : i < sls.length
  · rw [List.getElem?_append_left (by simpa using hi), List.getElem?_map] at h
    cases q : sls[i]? with
    | none => rw [q] at h; cases h
    | some t => rw [q] at h; simpa using h
  · rw [List.getElem?_append_right (by simpa using hi)] at h
    rw [List.getElem?_replicate] at h
    split at h <;> cases h
theorem RelS.start {K : PySem.W.Frag} {H : Hp} {ι : List Addr} {vs : List V} {sls : List Sl} {S : Sto} {N : List Str} (R : RelS K H ι S) (hs : RSls K H ι vs sls) : Rel K H ι (L2.start N vs) (sls.map some ++ List.replicate (N.length - sls.length) none) S := by
  have hl := hs.length
  have hv : ∀ {i : Nat} {v : V}, vs[i]? = some v → (L2.start N vs)[i]? = some (some v) := fun {i v} h => by
    unfold L2.start
    rw [List.getElem?_append_left (by simpa using (List.getElem?_eq_some_iff.mp h).1), List.getElem?_map, h]
    rfl
  refine ⟨by unfold L2.start; simp [hl], fun i s he => ?_, R.ilen, R.st, R.nd, fun i o a h1 h2 => ?_, fun i o a h1 h2 => ?_⟩
  · obtain ⟨v, e1, h1, _⟩ := hs.get (at_start he)
    exact ⟨v, hv e1, h1⟩
  · obtain ⟨v, e1, _, _, h3⟩ := hs.get (at_start h1)
    exact (h3 trivial).elim
  · obtain ⟨v, e1, _, h3, _⟩ := hs.get (at_start h1)
    rw [hv e1] at h2; cases h2
    exact h3 a rfl trivial
theorem no_own {K : PySem.W.Frag} {H : Hp} {ι : List Addr} {vs : List V} {sls : List Sl} {nl : Nat} {σ : SV} (hs : RSls K H ι vs sls) (a : Addr) : ¬ Own σ (sls.map some ++ List.replicate nl none) a := fun ⟨i, o, h1, _⟩ => by
  obtain ⟨v, e1, _, _, h3⟩ := hs.get (at_start h1)
  exact h3 trivial
/-- a def's promise by its body -/
theorem fn_ok {P : Program} {w : World} {K : PySem.W.Frag} {mg : Str → Option Value} {base : Heap} {x qual : Str} {st : Stmt} {f : Addr} {fd : FuncData} {N ps : List Str} {k : Nat} {body : M Fl} (F : Fun K x qual st f fd) (Sc : FnScope N ps (defScope st))
    (h : ∀ (cdv : Value) (A : Around) (outer : List PySem.Env) (s : Shared) (H : Hp) (vs : List V) (Q : VK) (E : XK), Room k (A.deeper (envOfC qual (defScope st) s.heap.objs.size f cdv)) → (A.deeper (envOfC qual (defScope st) s.heap.objs.size f cdv)).guards = some [] →
      GSs (cxOf CX0 P w K mg base N qual (defScope st) f cdv A outer s H E).nox (defBody st) body) :
    FnG P w K mg base (k + 1) f fd ps (spG K ps.length (runF (N.length - ps.length) body)) := by
  refine FnG.of F Sc (fun vs H Q E q => q.1) fun cdv A outer s H vs Q E hr hgd q => ?_
  refine ⟨_, h cdv A outer s H vs Q E hr hgd, ?_⟩
  obtain ⟨hl, ι, sls, S, r, S', R, hs, hm, q⟩ := q
  have hl2 := hs.length
  unfold runF at hm
  rw [show ps.length = sls.length by omega] at hm
  have R0 := R.start (N := N) hs
  have fin : ∀ {σ' : SV} {e' : En} {H' : Hp} {ι' : List Addr} {S' : Sto}, Rel K H' ι' σ' e' S' → Post H ι (L2.start N vs) (sls.map some ++ List.replicate (N.length - sls.length) none) H' ι' σ' e' → RelS K H' ι' S' ∧ PostC H ι H' ι' := fun R' P' =>
    ⟨R'.s, P'.pre, P'.stay, P'.dom, fun a o h1 h2 => let ⟨q1, q2, _⟩ := P'.keep a o h1 h2 (no_own hs a); ⟨q1, q2⟩⟩
  split at hm
  · rename_i r0 e' S1 hb
    cases hm
    refine ⟨ι, _, S, _, e', _, R0, hb, fun v σ' H' ι' R' P' r' => ?_⟩
    obtain ⟨Rs, Pc⟩ := fin R' P'
    refine q v H' ι' Rs Pc ?_
    cases r with
    | d x => exact r'
    | new o =>
      obtain ⟨a, rfl, ro, n, nk⟩ := r'
      refine ⟨a, rfl, ro, n, ?_⟩
      cases hq : H a with
      | none => rfl
      | some u =>
        refine (nk u hq (fun hm => ?_) (no_own hs a)).elim
        obtain ⟨l, e⟩ := P'.pre
        exact n (e ▸ List.mem_append_left _ hm)
  · rename_i e' S1 hb
    cases hm
    refine ⟨ι, _, S, _, e', _, R0, hb, fun σ' H' ι' R' P' => ?_⟩
    obtain ⟨Rs, Pc⟩ := fin R' P'
    exact q .non H' ι' Rs Pc .non
  · cases hm
end G

set_option Elab.async false
set_option linter.all false
set_option maxRecDepth 1000000
set_option maxHeartbeats 2000000
/-! G5: targets, what is walked, loops, comprehensions. -/
namespace G
variable [Wld]
open PySem PySem.Spec PyProof.Rows L2

/-! ### targets -/
def wipeE (e : En) : List Nat → En
  | [] => e
  | v :: vs => (wipeE e vs).set v none
theorem wipe_at {σ : SV} {j : Nat} : ∀ {vs : List Nat}, (wipe σ vs)[j]? = if j ∈ vs ∧ j < σ.length then some none else σ[j]?
  | [] => by simp [wipe]
  | v :: vs => by
    unfold wipe
    by_cases hj : v = j
    · subst hj
      by_cases hl : v < σ.length
      · rw [List.getElem?_set_self (by rw [wipe_length]; exact hl), if_pos ⟨by simp, hl⟩]
      · rw [if_neg (fun h => hl h.2), List.getElem?_eq_none (by rw [List.length_set, wipe_length]; omega), List.getElem?_eq_none (by omega)]
    · rw [List.getElem?_set_ne hj, wipe_at]
      have : (j ∈ vs ∧ j < σ.length) ↔ (j ∈ v :: vs ∧ j < σ.length) := by simp [Ne.symm hj]
      by_cases h : j ∈ vs ∧ j < σ.length
      · rw [if_pos h, if_pos (this.mp h)]
      · rw [if_neg h, if_neg (fun z => h (this.mpr z))]
theorem wipeE_length (e : En) : ∀ vs : List Nat, (wipeE e vs).length = e.length
  | [] => rfl
  | v :: vs => by unfold wipeE; rw [List.length_set, wipeE_length e vs]
theorem wipeE_some {e : En} {i : Nat} {x : Sl} : ∀ {vs : List Nat}, (wipeE e vs)[i]? = some (some x) → e[i]? = some (some x) ∧ i ∉ vs
  | [], h => ⟨h, by simp⟩
  | v :: vs, h => by
    unfold wipeE at h
    by_cases hi : v = i
    · subst hi
      by_cases hv : v < (wipeE e vs).length
      · rw [List.getElem?_set_self hv] at h; cases h
      · rw [List.getElem?_eq_none (by simpa using hv)] at h; cases h
    · rw [List.getElem?_set_ne hi] at h
      obtain ⟨h1, h2⟩ := wipeE_some h
      exact ⟨h1, by simp only [List.mem_cons, not_or]; exact ⟨fun e => hi e.symm, h2⟩⟩
theorem wipe_set {σ : SV} {i : Nat} {x : Option V} {vs : List Nat} (h : i ∈ vs) : wipe (σ.set i x) vs = wipe σ vs := by
  apply List.ext_getElem?
  intro j
  rw [wipe_at, wipe_at, List.length_set]
  by_cases hj : j ∈ vs ∧ j < σ.length
  · rw [if_pos hj, if_pos hj]
  · rw [if_neg hj, if_neg hj]
    by_cases hij : i = j
    · subst hij
      have : ¬ i < σ.length := fun z => hj ⟨h, z⟩
      rw [List.getElem?_eq_none (by rw [List.length_set]; omega), List.getElem?_eq_none (by omega)]
    · rw [List.getElem?_set_ne hij]
abbrev Tgt := D → En → Option En
abbrev Tgts := List D → En → Option En
def tGG (K : PySem.W.Frag) (vs : List Nat) (t : Tgt) : TG := fun v σ H Q => ∃ ι e S d e', Rel K H ι σ e S ∧ RD K H ι v d ∧ t d e = some e' ∧
  ∀ σ', Rel K H ι σ' e' S → Post H ι σ e H ι σ' e' → wipe σ' vs = wipe σ vs → Q σ' H
def tGGs (K : PySem.W.Frag) (vs : List Nat) (t : Tgts) : TGs := fun xs σ H Q => ∃ ι e S ds e', Rel K H ι σ e S ∧ RDs K H ι xs ds ∧ t ds e = some e' ∧
  ∀ σ', Rel K H ι σ' e' S → Post H ι σ e H ι σ' e' → wipe σ' vs = wipe σ vs → Q σ' H
abbrev GG (X : Cx) (vs : List Nat) (ex : Expr) (t : Tgt) : Prop := PG X ex (tGG X.K vs t)
abbrev GGs (X : Cx) (vs : List Nat) (es : List Expr) (t : Tgts) : Prop := PGs X es (tGGs X.K vs t)
theorem PG.imp {X : Cx} {ex : Expr} {t t' : TG} (h : PG X ex t) (w : ∀ v σ H Q, t' v σ H Q → t v σ H Q) : PG X ex t' := ⟨fun pins s σ H v u Q I r q => h.run pins s σ H v u Q I r (w v σ H Q q)⟩
theorem PGs.imp {X : Cx} {es : List Expr} {t t' : TGs} (h : PGs X es t) (w : ∀ v σ H Q, t' v σ H Q → t v σ H Q) : PGs X es t' := ⟨fun pins s σ H v u Q I r q => h.run pins s σ H v u Q I r (w v σ H Q q)⟩
def gtName (i : Nat) : Tgt := fun d e => if i < e.length then some (e.set i (some (.d d))) else none
def gtNil : Tgts := fun ds e => match ds with
  | [] => some e
  | _ => none
def gtCons (t : Tgt) (ts : Tgts) : Tgts := fun ds e => match ds with
  | d :: r => (t d e).bind fun e1 => ts r e1
  | [] => none
def gtTup (n : Nat) (ts : Tgts) : Tgt := fun d e => match d with
  | .tup ds => if ds.length = n then ts ds e else none
  | _ => none
section
variable {X : Cx} {vs : List Nat} {ex : Expr} {es : List Expr} {t : Tgt} {ts : Tgts} {pos : Pos}
theorem gg_name {i : Nat} {x : Str} (hN : X.N.Nodup) (hi : X.N[i]? = some x) (hx : Loc X.env.scope x) (hv : i ∈ vs := by decide) (hf : X.fn x = true ∨ X.env.scope.names.lookup x = some .local := by first | exact .inl rfl | exact .inr rfl | assumption) : GG X vs (.Name x pos) (gtName i) :=
  PG.imp (pg_name hN hi hx hf) fun v σ H Q q => by
    obtain ⟨ι, e, S, d, e', R, rd, ht, q⟩ := q
    unfold gtName at ht
    split at ht
    · cases ht
      rename_i hl
      exact q _ (R.setSl hl rd (fun _ z => nomatch z) fun _ _ z => z.elim) (Post.refl.setSl hl R.len fun _ _ z => z.elim) (wipe_set hv)
    · cases ht
theorem ggs_nil : GGs X vs [] gtNil := PGs.imp pgs_nil fun xs σ H Q q => by
  obtain ⟨ι, e, S, ds, e', R, rd, ht, q⟩ := q
  cases ds with
  | nil => cases ht; cases rd; exact ⟨rfl, q σ R .refl rfl⟩
  | cons _ _ => cases ht
theorem ggs_cons (h1 : GG X vs ex t) (h2 : GGs X vs es ts) (hs : (assignEach (ex :: es) X.env).map (·.2) = assign ex X.env :: (assignEach es X.env).map (·.2) := by rfl) : GGs X vs (ex :: es) (gtCons t ts) := PGs.imp (pgs_cons h1 h2 hs) fun xs σ H Q q => by
  obtain ⟨ι, e, S, ds, e', R, rd, ht, q⟩ := q
  cases rd with
  | nil => cases ht
  | cons r1 r2 =>
    obtain ⟨e1, h1, h2⟩ := Option.bind_eq_some_iff.mp (show (t _ e).bind (fun e1 => ts _ e1) = some e' from ht)
    exact ⟨_, _, rfl, ι, e, S, _, e1, R, r1, h1, fun σ1 R1 P1 w1 => ⟨ι, e1, S, _, e', R1, r2, h2, fun σ2 R2 P2 w2 => q σ2 R2 (P1.trans P2) (w2.trans w1)⟩⟩
theorem gg_tup {k n : Nat} (hc : X.calm = true) (h : GGs X vs es ts) (hn : (assignEach es X.env).length = n := by rfl) (hst : (assignEach es X.env).findIdx? (·.1) = none := by rfl) : GG X vs (.Tuple es k pos) (gtTup n ts) :=
  PG.imp (pg_tup hc h hn hst) fun v σ H Q q => by
    obtain ⟨ι, e, S, d, e', R, rd, ht, q⟩ := q
    cases d with
    | tup ds =>
      cases rd with
      | tup h1 h2 =>
        have ht' : (if ds.length = n then ts ds e else none) = some e' := ht
        split at ht'
        · exact ⟨_, _, rfl, h1, by rw [h2.length]; assumption, ι, e, S, ds, e', R, h2, ht', q⟩
        · cases ht'
    | _ => cases ht
/-- a, b, .. = e -/
def mAsg (t : Tgt) (m : M R) : M Fl := bnd m fun r e S => match r with
  | .d x => (t x e).map fun e' => (.nx, e', S)
  | _ => none
theorem gs_asg {tg : Expr} {m : M R} (he : GE X ex m) (hg : GG X vs tg t) (hs : swapsWithSole [tg] ex pos.line X.env = pure false := by rfl) (hw : swappedStores [tg] ex X.env = pure none := by rfl)
    (h1 : (assignEach [tg] X.env).map (·.2) = [assign tg X.env] := by rfl) : GS X (.Assign [tg] ex pos) (mAsg t m) := PS.imp (ps_asg he hg hs hw h1) fun D σ H q => by
  obtain ⟨ι, e, S, fl, e', S', R, hm, q⟩ := q
  obtain ⟨r, e1, S1, h1, hm⟩ := bnd_eq hm
  refine ⟨ι, e, S, r, e1, S1, R, h1, fun v H1 ι1 R1 P1 r1 f1 => ?_⟩
  cases r with
  | d x =>
    obtain ⟨e2, h2, h3⟩ := Option.map_eq_some_iff.mp (show (t x e1).map (fun e' => (Fl.nx, e', S1)) = some (fl, e', S') from hm)
    cases h3
    exact ⟨ι1, e1, S', x, _, R1, r1, h2, fun σ2 R2 P2 _ => q σ2 H1 ι1 R2 (P1.trans P2)⟩
  | _ => cases hm
/-- a, b = x, y with plain local names -/
def mPar (i j : Nat) (ms : M (List R)) : M Fl := bnd ms fun rs e S => match dsOf rs with
  | some [x, y] => if i < e.length ∧ j < e.length then some (.nx, (e.set i (some (.d x))).set j (some (.d y)), S) else none
  | _ => none
theorem gs_par {i j : Nat} {x y : Str} {a b : Expr} {ms : M (List R)} {px py pt : Pos} {kt k2 pt2} (hc : X.calm = true) (hN : X.N.Nodup) (hi : X.N[i]? = some x) (hj : X.N[j]? = some y) (hij : i ≠ j)
    (hx : X.env.scope.names.lookup x = some .local) (hy : X.env.scope.names.lookup y = some .local) (ha : GA X [a, b] ms)
    (hw : swappedStores [.Tuple [.Name x px, .Name y py] kt pt] (.Tuple [a, b] k2 pt2) X.env = pure (some [x, y]))
    (hs : swapsWithSole [.Tuple [.Name x px, .Name y py] kt pt] (.Tuple [a, b] k2 pt2) pos.line X.env = pure false := by rfl) :
    GS X (.Assign [.Tuple [.Name x px, .Name y py] kt pt] (.Tuple [a, b] k2 pt2) pos) (mPar i j ms) := PS.imp (ps_par hc hN hi hj hij hx hy ha hw hs) fun D σ H q => by
  obtain ⟨ι, e, S, fl, e', S', R, hm, q⟩ := q
  obtain ⟨rs, e1, S1, h1, hm⟩ := bnd_eq hm
  refine ⟨ι, e, S, rs, e1, S1, R, h1, fun vs H1 ι1 R1 P1 r1 => ?_⟩
  have hm' : (match dsOf rs with
  | some [x, y] => if i < e1.length ∧ j < e1.length then some (Fl.nx, (e1.set i (some (.d x))).set j (some (.d y)), S1) else none
  | _ => none) = some (fl, e', S') := hm
  split at hm'
  · rename_i d1 d2 hds
    split at hm'
    · rename_i hl
      cases hm'
      cases r1.ds hds with
      | cons ra rr =>
        cases rr with
        | cons rb rr =>
          cases rr
          obtain ⟨R2, P2⟩ := R1.put (r := .d d1) P1 ra trivial rfl hl.1
          have hl2 : j < (e1.set i (some (Sl.d d1))).length := by simpa using hl.2
          obtain ⟨R3, P3⟩ := R2.put (r := .d d2) P2 rb trivial rfl hl2
          exact ⟨_, _, rfl, q _ H1 ι1 R3 P3⟩
    · cases hm'
  · cases hm'
end

/-! ### what is walked -/
structure Src where
  items : List D
  ws : List (R × List D)
def Wat (ws : List (R × List D)) (e : En) (S : Sto) : Prop := ∀ p ∈ ws, look p.1 e S = some (.lst p.2)
def Feeds (K : PySem.W.Frag) (src : Src) (J : It) (H1 : Hp) (ι1 : List Addr) (σ1 : SV) (e1 : En) : Prop :=
  ∀ i H ι σ e S, Rel K H ι σ e S → Post H1 ι1 σ1 e1 H ι σ e → Wat src.ws e S → (∀ p ∈ src.ws, ∀ j, p.1 = .loc j → σ[j]? = σ1[j]?) →
    (∀ d, src.items[i]? = some d → J.go i H ∧ ∀ x H', J.yld i H x H' → Rel K H' ι σ e S ∧ Post H ι σ e H' ι σ e ∧ RD K H' ι x d ∧ ∀ b o, H b = some o → H' b = some o) ∧ (src.items.length ≤ i → J.stop i H)
def tGI (K : PySem.W.Frag) (m : M Src) : TI := fun σ H Rr => ∃ ι e S src e' S', Rel K H ι σ e S ∧ m e S = some (src, e', S') ∧
  ∀ J H' ι', Rel K H' ι' σ e' S' → Post H ι σ e H' ι' σ e' → Feeds K src J H' ι' σ e' → src.items.length ≤ sizeLine → Rr J H'
abbrev GI (X : Cx) (tg ex : Expr) (m : M Src) : Prop := PI X tg ex (tGI X.K m)
theorem PI.imp {X : Cx} {tg ex : Expr} {t t' : TI} (h : PI X tg ex t) (w : ∀ σ H Q, t' σ H Q → t σ H Q) : PI X tg ex t' := ⟨fun pins s σ H Q I q => h.run pins s σ H Q I (w σ H Q q)⟩
theorem PI.or {X : Cx} {tg ex : Expr} {t t' : TI} (h : PI X tg ex t) (h' : PI X tg ex t') : PI X tg ex (fun σ H R => t σ H R ∨ t' σ H R) := ⟨fun pins s σ H Q I q => q.elim (h.run pins s σ H Q I) (h'.run pins s σ H Q I)⟩
/-- lists and tuples that are there are not too long -/
def Bd (K : PySem.W.Frag) (H : Hp) : Prop := ∀ a xs, SqL K H a xs ∨ SqT K H a xs → xs.length ≤ sizeLine
theorem Inv.bd {X : Cx} {pins σ H s} (I : Inv X pins σ H s) : Bd X.K H := fun a xs h => by
  rcases h with h | h
  · obtain ⟨_, _, _, z⟩ := I.list h; exact z
  · obtain ⟨_, _, _, z⟩ := I.tuple h; exact z
theorem PI.bd {X : Cx} {tg ex : Expr} {t : TI} (h : PI X tg ex t) : PI X tg ex (fun σ H R => t σ H fun J H1 => Bd X.K H1 → R J H1) := ⟨fun pins s σ H Q I q =>
  thn (h.run pins s σ H _ I q) fun v s1 h1 => thn h1 fun itv s2 ⟨it, fp, tn, J, H', e, I', T, st, f, r⟩ => ⟨it, fp, tn, J, H', e, I', T, st, f, r (Inv.bd I')⟩⟩
/-- the items of a list or a tuple -/
def srcOf (r : R) : M Src := fun e S => match r with
  | .d (.tup ds) => some (⟨ds, []⟩, e, S)
  | .d (.lst ds) => some (⟨ds, []⟩, e, S)
  | .new (.lst ds) => some (⟨ds, []⟩, e, S)
  | .brw (.lst ds) => some (⟨ds, []⟩, e, S)
  | r => match look r e S with
    | some (.lst ds) => some (⟨ds, [(r, ds)]⟩, e, S)
    | _ => none
def mSrc (m : M R) : M Src := bnd m srcOf
theorem feeds_tup {K : PySem.W.Frag} {H1 : Hp} {ι1 : List Addr} {σ1 : SV} {e1 : En} {a : Addr} {xs : List V} {ds : List D} (h : SqT K H1 a xs) (rd : RDs K H1 ι1 xs ds) : Feeds K ⟨ds, []⟩ (Itt K a) H1 ι1 σ1 e1 := fun i H ι σ e S R P _ _ => by
  have h' := stay_t P.stay h
  have rd' := RDs.mono P.stay P.pre _ _ rd
  refine ⟨fun d hd => ?_, fun hl => ⟨xs, h', by rw [rd.length]; exact hl⟩⟩
  obtain ⟨v, hv, rv⟩ := rd'.get hd
  exact ⟨⟨xs, v, h', hv⟩, fun x H' hy => by
    obtain ⟨rfl, hy⟩ := hy
    have := hy xs h'
    rw [hv] at this; cases this
    exact ⟨R, .refl, rv, fun _ _ h => h⟩⟩
theorem feeds_lst {K : PySem.W.Frag} {H1 : Hp} {ι1 : List Addr} {σ1 : SV} {e1 : En} {a : Addr} {ds : List D} {ws : List (R × List D)}
    (h : ∀ H ι σ e S, Rel K H ι σ e S → Post H1 ι1 σ1 e1 H ι σ e → Wat ws e S → (∀ p ∈ ws, ∀ j, p.1 = .loc j → σ[j]? = σ1[j]?) → ∃ xs, SqL K H a xs ∧ RDs K H ι xs ds) : Feeds K ⟨ds, ws⟩ (Itl K a) H1 ι1 σ1 e1 := fun i H ι σ e S R P w1 w2 => by
  obtain ⟨xs, h', rd'⟩ := h H ι σ e S R P w1 w2
  refine ⟨fun d hd => ?_, fun hl => ⟨xs, h', by rw [rd'.length]; exact hl⟩⟩
  obtain ⟨v, hv, rv⟩ := rd'.get hd
  exact ⟨⟨xs, v, h', hv⟩, fun x H' hy => by
    obtain ⟨rfl, hy⟩ := hy
    have := hy xs h'
    rw [hv] at this; cases this
    exact ⟨R, .refl, rv, fun _ _ h => h⟩⟩
/-- a list that nobody here writes stays -/
theorem Post.list {K : PySem.W.Frag} {H H' : Hp} {ι ι' : List Addr} {σ σ' : SV} {e e' : En} {a : Addr} {ds : List D} (P : Post H ι σ e H' ι' σ' e') (ro : RO K H ι a (.lst ds)) (h1 : a ∉ ι) (h2 : ¬ Own σ e a) : ∃ xs, SqL K H' a xs ∧ RDs K H' ι' xs ds := by
  obtain ⟨xs, hx, rd⟩ := ro
  exact ⟨xs, .inl (.inl (P.keep a _ hx h1 h2).1), RDs.mono P.stay P.pre _ _ rd⟩
theorem gi_seq {X : Cx} {tg ex : Expr} {m : M R} (h : GE X ex m) : GI X tg ex (mSrc m) := PI.imp (PI.bd (PI.or (pi_list h) (pi_tup h))) fun σ H Q q => by
  obtain ⟨ι, e, S, src, e', S', R, hm, q⟩ := q
  obtain ⟨r, e1, S1, h1, hm⟩ := bnd_eq hm
  by_cases ht : ∃ ds, r = .d (.tup ds)
  · obtain ⟨ds, rfl⟩ := ht
    cases hm
    refine .inr ⟨ι, e, S, _, _, _, R, h1, fun v H1 ι1 R1 P1 r1 f1 => ?_⟩
    cases r1 with
    | tup g1 g2 => exact ⟨_, rfl, ⟨_, g1⟩, fun bd => q _ H1 ι1 R1 P1 (feeds_tup g1 g2) (by rw [← g2.length]; exact bd _ _ (.inr g1))⟩
  · refine .inl ⟨ι, e, S, r, e1, S1, R, h1, fun v H1 ι1 R1 P1 r1 f1 => ?_⟩
    have fin : ∀ {a ds ws}, v = .ref a → src = ⟨ds, ws⟩ → e1 = e' → S1 = S' → (∃ xs, SqL X.K H1 a xs ∧ RDs X.K H1 ι1 xs ds) → Feeds X.K ⟨ds, ws⟩ (Itl X.K a) H1 ι1 σ e1 →
        ∃ a, v = .ref a ∧ (∃ xs, SqL X.K H1 a xs) ∧ (Bd X.K H1 → Q (Itl X.K a) H1) := fun {a ds ws} ev es ee eS hx hf => by
      subst ev es ee eS
      obtain ⟨xs, g1, g2⟩ := hx
      exact ⟨_, rfl, ⟨_, g1⟩, fun bd => q _ H1 ι1 R1 P1 hf (by show ds.length ≤ _; rw [← g2.length]; exact bd _ _ (.inl g1))⟩
    unfold srcOf at hm
    split at hm
    · exact (ht ⟨_, rfl⟩).elim
    · cases hm
      cases r1 with
      | lst g1 g2 => exact fin rfl rfl rfl rfl ⟨_, g1.sq, g2⟩ (feeds_lst fun H2 ι2 σ2 e2 S2 R2 P2 _ _ => ⟨_, (stay_l P2.stay g1).sq, RDs.mono P2.stay P2.pre _ _ g2⟩)
    · cases hm
      obtain ⟨a, rfl, ro, n1, n2⟩ := r1
      exact fin rfl rfl rfl rfl (Post.refl.list ro n1 fun z => n2 (.of z)) (feeds_lst fun H2 ι2 σ2 e2 S2 R2 P2 _ _ => P2.list ro n1 fun z => n2 (.of z))
    · cases hm
      obtain ⟨a, rfl, ro, n1, n2⟩ := r1
      exact fin rfl rfl rfl rfl (Post.refl.list ro n1 n2) (feeds_lst fun H2 ι2 σ2 e2 S2 R2 P2 _ _ => P2.list ro n1 n2)
    · split at hm
      · rename_i hlk
        cases hm
        obtain ⟨a, xs, rfl, g1, g2⟩ := R1.lookL r1 hlk
        refine fin rfl rfl rfl rfl ⟨xs, g1, g2⟩ (feeds_lst fun H2 ι2 σ2 e2 S2 R2 P2 w1 w2 => ?_)
        have hl2 := w1 _ (List.mem_singleton.mpr rfl)
        have r2 : RR X.K H2 ι2 σ2 e2 (.ref a) r := by
          cases r with
          | d x => exact RD.mono P2.stay P2.pre _ _ r1
          | loc j =>
            have : σ2[j]? = σ[j]? := w2 _ (List.mem_singleton.mpr rfl) j rfl
            show σ2[j]? = _
            rw [this]
            exact r1
          | new o =>
            obtain ⟨a', ea, ro, n1, n2⟩ := r1
            cases ea
            cases o with
            | lst ds => rename_i z _; exact (z ds rfl).elim
            | dct kvs => cases hlk
            | kd kvs => cases hlk
          | brw o =>
            obtain ⟨a', ea, ro, n1, n2⟩ := r1
            cases ea
            cases o with
            | lst ds => rename_i z; exact (z ds rfl).elim
            | dct kvs => cases hlk
            | kd kvs => cases hlk
        obtain ⟨a', xs', ea, g3, g4⟩ := R2.lookL r2 hl2
        cases ea
        exact ⟨xs', g3, g4⟩
      · cases hm
end G

set_option Elab.async false
set_option linter.all false
set_option maxRecDepth 1000000
set_option maxHeartbeats 2000000
/-! G6: for, while, list comprehensions. -/
namespace G
variable [Wld]
open PySem PySem.Spec PyProof.Rows L2
open Classical in
noncomputable def wat (ws : List (R × List D)) (e : En) (S : Sto) : Bool := decide (Wat ws e S)
open Classical in
theorem wat_nil (e : En) (S : Sto) : wat [] e S = true := by unfold wat; exact decide_eq_true (fun _ h => nomatch h)
open Classical in
theorem wat_one {r : R} {ds : List D} {e : En} {S : Sto} (h : look r e S = some (.lst ds)) : wat [(r, ds)] e S = true := by
  unfold wat; exact decide_eq_true fun p hp => by cases List.mem_singleton.mp hp; exact h
open Classical in
theorem of_wat {ws : List (R × List D)} {e : En} {S : Sto} (h : wat ws e S = true) : Wat ws e S := by unfold wat at h; exact of_decide_eq_true h
def isRef : R → Bool
  | .d (.ref _) => true
  | _ => false

/-! ### for -/
noncomputable def forL (t : Tgt) (body : M Fl) (ws : List (R × List D)) : List D → M Fl
  | [] => fun e S => if wat ws e S then some (.nx, e, S) else none
  | d :: ds => fun e S => if wat ws e S then (match t d e with
    | some e1 => match body e1 S with
      | some (.nx, e2, S2) => forL t body ws ds e2 S2
      | some (.ct, e2, S2) => forL t body ws ds e2 S2
      | some (.bk, e2, S2) => some (.nx, e2, S2)
      | some (.rt r, e2, S2) => some (.rt r, e2, S2)
      | none => none
    | none => none) else none
noncomputable def mFor (t : Tgt) (mi : M Src) (body : M Fl) : M Fl := bnd mi fun src => if (src.ws.all fun p => isRef p.1) then forL t body src.ws src.items else stk
section
variable {X : Cx}
theorem gs_for {tg iter : Expr} {body : List Stmt} {mi : M Src} {vs : List Nat} {t : Tgt} {mb : M Fl} {pos : Pos} (hp : PassesOwn (model X.prog X.w) X.A X.env X.xe) (hc : X.calm = true) (hi : GI X tg iter mi) (hg : GG X vs tg t) (hb : GSs X body mb)
    (hs : ∀ x, foldedSetIterable iter X.env x = pure x := by intro _; rfl) : GS X (.For tg iter body [] pos) (mFor t mi mb) := PS.imp (ps_for hp hc hi hg hb hs) fun D σ H q => by
  obtain ⟨ι, e, S, fl, e', S', R, hm, q⟩ := q
  obtain ⟨src, e1, S1, h1, hm⟩ := bnd_eq hm
  refine ⟨ι, e, S, src, e1, S1, R, h1, fun J H1 ι1 R1 P1 fd hz => ?_⟩
  split at hm
  case isFalse => cases hm
  rename_i hall
  have noloc : ∀ p ∈ src.ws, ∀ j, p.1 = .loc j → False := fun p hp j hj => by
    have := List.all_eq_true.mp hall p hp
    rw [hj] at this; cases this
  refine ⟨fun i m σ' H' => m = src.items.length - i ∧ i ≤ src.items.length ∧ ∃ ι2 e2 S2, Rel X.K H' ι2 σ' e2 S2 ∧ Post H1 ι1 σ e1 H' ι2 σ' e2 ∧ forL t mb src.ws (src.items.drop i) e2 S2 = some (fl, e', S'),
    ⟨_, rfl, Nat.zero_le _, ι1, e1, S1, R1, .refl, by simpa using hm⟩, ?_⟩
  rintro i m σ2 H2 ⟨rfl, hi, ι2, e2, S2, R2, P2, hf⟩
  by_cases hlt : i < src.items.length
  · rw [List.drop_eq_getElem_cons hlt] at hf
    unfold forL at hf
    split at hf
    case isFalse => cases hf
    rename_i hw
    split at hf
    case h_2 => cases hf
    rename_i e3 ht
    obtain ⟨go, yld⟩ := (fd i H2 ι2 σ2 e2 S2 R2 P2 (of_wat hw) fun p hp j hj => (noloc p hp j hj).elim).1 _ (List.getElem?_eq_getElem hlt)
    refine .inr ⟨go, fun σ' H' => ∃ ι4 e4 S4, Rel X.K H' ι4 σ' e4 S4 ∧ Post H1 ι1 σ e1 H' ι4 σ' e4 ∧ forL t mb src.ws (src.items.drop (i + 1)) e4 S4 = some (fl, e', S'), fun σ' H' h => ⟨src.items.length - (i + 1), by omega, rfl, hlt, h⟩, fun x H3 hy => ?_⟩
    obtain ⟨R3, P3, rd, _⟩ := yld x H3 hy
    refine ⟨ι2, e2, S2, _, e3, R3, rd, ht, fun σ3 R4 P4 _ => ?_⟩
    have PA := (P2.trans P3).trans P4
    split at hf
    · rename_i e5 S5 hb
      exact ⟨ι2, e3, S2, .nx, e5, S5, R4, hb, fun σ5 H5 ι5 R5 P5 => ⟨ι5, e5, S5, R5, PA.trans P5, hf⟩⟩
    · rename_i e5 S5 hb
      exact ⟨ι2, e3, S2, .ct, e5, S5, R4, hb, fun σ5 H5 ι5 R5 P5 => ⟨ι5, e5, S5, R5, PA.trans P5, hf⟩⟩
    · rename_i e5 S5 hb
      cases hf
      exact ⟨ι2, e3, S2, .bk, _, _, R4, hb, fun σ5 H5 ι5 R5 P5 => q σ5 H5 ι5 R5 (P1.trans (PA.trans P5))⟩
    · rename_i r e5 S5 hb
      cases hf
      exact ⟨ι2, e3, S2, .rt r, _, _, R4, hb, fun v σ5 H5 ι5 R5 P5 r5 => q v σ5 H5 ι5 R5 (P1.trans (PA.trans P5)) (r5.back (P1.trans PA))⟩
    · cases hf
  · have ei : i = src.items.length := by omega
    subst ei
    rw [List.drop_length] at hf
    unfold forL at hf
    split at hf
    case isFalse => cases hf
    rename_i hw
    cases hf
    exact .inl ⟨(fd _ H2 ι2 σ2 _ _ R2 P2 (of_wat hw) fun p hp j hj => (noloc p hp j hj).elim).2 (Nat.le_refl _), q σ2 H2 ι2 R2 (P1.trans P2)⟩

/-! ### while -/
def whileL (c : M Bool) (body : M Fl) : Nat → M Fl
  | 0 => stk
  | n + 1 => fun e S => match c e S with
    | some (true, e1, S1) => (match body e1 S1 with
      | some (.nx, e2, S2) => whileL c body n e2 S2
      | some (.ct, e2, S2) => whileL c body n e2 S2
      | some (.bk, e2, S2) => some (.nx, e2, S2)
      | some (.rt r, e2, S2) => some (.rt r, e2, S2)
      | none => none)
    | some (false, e1, S1) => some (.nx, e1, S1)
    | none => none
theorem gs_while {c : Expr} {body : List Stmt} {mc : M Bool} {mb : M Fl} {pos : Pos} (n : Nat) (hp : PassesOwn (model X.prog X.w) X.A X.env X.xe) (hc : GT X c mc) (hb : GSs X body mb) : GS X (.While c body [] pos) (whileL mc mb n) := PS.imp (ps_while hp hc hb) fun D σ H q => by
  obtain ⟨ι, e, S, fl, e', S', R, hm, q⟩ := q
  refine ⟨fun m σ' H' => ∃ ι2 e2 S2, Rel X.K H' ι2 σ' e2 S2 ∧ Post H ι σ e H' ι2 σ' e2 ∧ whileL mc mb m e2 S2 = some (fl, e', S'), ⟨n, ι, e, S, R, .refl, hm⟩, ?_⟩
  rintro m σ2 H2 ⟨ι2, e2, S2, R2, P2, hf⟩
  cases m with
  | zero => cases hf
  | succ m =>
    unfold whileL at hf
    split at hf
    · rename_i e3 S3 h3
      refine ⟨ι2, e2, S2, true, e3, S3, R2, h3, fun H3 ι3 R3 P3 => ?_⟩
      refine iteT ?_
      refine ⟨fun σ' H' => ∃ ι4 e4 S4, Rel X.K H' ι4 σ' e4 S4 ∧ Post H ι σ e H' ι4 σ' e4 ∧ whileL mc mb m e4 S4 = some (fl, e', S'), fun σ' H' h => ⟨m, Nat.lt_succ_self m, h⟩, ?_⟩
      have PA := P2.trans P3
      split at hf
      · rename_i e5 S5 hb
        exact ⟨ι3, e3, S3, .nx, e5, S5, R3, hb, fun σ5 H5 ι5 R5 P5 => ⟨ι5, e5, S5, R5, PA.trans P5, hf⟩⟩
      · rename_i e5 S5 hb
        exact ⟨ι3, e3, S3, .ct, e5, S5, R3, hb, fun σ5 H5 ι5 R5 P5 => ⟨ι5, e5, S5, R5, PA.trans P5, hf⟩⟩
      · rename_i e5 S5 hb
        cases hf
        exact ⟨ι3, e3, S3, .bk, _, _, R3, hb, fun σ5 H5 ι5 R5 P5 => q σ5 H5 ι5 R5 (PA.trans P5)⟩
      · rename_i r e5 S5 hb
        cases hf
        exact ⟨ι3, e3, S3, .rt r, _, _, R3, hb, fun v σ5 H5 ι5 R5 P5 r5 => q v σ5 H5 ι5 R5 (PA.trans P5) (r5.back PA)⟩
      · cases hf
    · rename_i e3 S3 h3
      cases hf
      refine ⟨ι2, e2, S2, false, _, _, R2, h3, fun H3 ι3 R3 P3 => ?_⟩
      refine iteF ?_
      exact q σ2 H3 ι3 R3 (P2.trans P3)
    · cases hf
end

/-! ### list comprehensions -/
noncomputable def compL (vs : List Nat) (t : Tgt) (c : M Bool) (elt : M R) (ws : List (R × List D)) : List D → M (List D)
  | [] => fun e S => if wat ws e S then some ([], e, S) else none
  | d :: ds => fun e S => if wat ws e S then (match t d e with
    | some e1 => match c e1 S with
      | some (true, e2, S2) => (match elt e2 S2 with
        | some (.d y, e3, S3) => (match compL vs t c elt ws ds (wipeE e3 vs) S3 with
          | some (ys, e4, S4) => some (y :: ys, e4, S4)
          | none => none)
        | _ => none)
      | some (false, e2, S2) => compL vs t c elt ws ds (wipeE e2 vs) S2
      | none => none
    | none => none) else none
noncomputable def mLc (vs : List Nat) (t : Tgt) (mi : M Src) (c : M Bool) (elt : M R) : M R := bnd mi fun src => bnd (fun e S => compL vs t c elt src.ws src.items (wipeE e vs) S) fun ys => pur (.new (.lst ys))
section
variable {K : PySem.W.Frag} {H : Hp} {ι : List Addr} {σ : SV} {e : En} {S : Sto} {vs : List Nat}
theorem Rel.wipe (R : Rel K H ι σ e S) (vs : List Nat) : Rel K H ι (L2.wipe σ vs) (wipeE e vs) S ∧ Post H ι σ e H ι (L2.wipe σ vs) (wipeE e vs) := by
  have back : ∀ {i : Nat} {v : V}, (L2.wipe σ vs)[i]? = some (some v) → σ[i]? = some (some v) := fun h => (wipe_some h).1
  refine ⟨⟨by rw [wipe_length, wipeE_length]; exact R.len, fun i s he => ?_, R.ilen, R.st, R.nd, fun i o a h1 h2 => ?_, fun i o a h1 h2 => R.brw i o a (wipeE_some h1).1 (back h2)⟩, ⟨⟨[], by simp⟩, .refl _, fun a o h => ⟨o, h⟩, fun b x h1 h2 h3 => ⟨h1, h2, ?_, fun h => ?_⟩⟩⟩
  · obtain ⟨h1, h2⟩ := wipeE_some he
    obtain ⟨v, hv, hs⟩ := R.sl i s h1
    exact ⟨v, by rw [wipe_at, if_neg (fun z => h2 z.1)]; exact hv, hs⟩
  · obtain ⟨q1, q2⟩ := R.own i o a (wipeE_some h1).1 (back h2)
    exact ⟨q1, fun j s b hj h3 h4 h5 => q2 j s b hj (wipeE_some h3).1 h4 (back h5)⟩
  · rintro ⟨i, o, h4, h5⟩
    exact h3 ⟨i, o, (wipeE_some h4).1, back h5⟩
  · rintro ⟨i, s, h4, h6, h5⟩
    exact h ⟨i, s, (wipeE_some h4).1, h6, back h5⟩
/-- back from a block: what the block left of the slots stands in the def's -/
theorem Rel.unwipe (R : Rel K H ι (L2.wipe σ vs) e S) (hl : σ.length = e.length) (hw : ∀ i ∈ vs, ∀ s, e[i]? ≠ some (some s)) : Rel K H ι σ e S := by
  have fwd : ∀ {i : Nat} {s : Sl} {v : V}, e[i]? = some (some s) → (σ[i]? = some (some v) ↔ (L2.wipe σ vs)[i]? = some (some v)) := fun {i s v} h => by
    rw [wipe_at, if_neg (fun z => hw i z.1 s h)]
  refine ⟨hl, fun i s he => ?_, R.ilen, R.st, R.nd, fun i o a h1 h2 => ?_, fun i o a h1 h2 => R.brw i o a h1 ((fwd h1).mp h2)⟩
  · obtain ⟨v, hv, hs⟩ := R.sl i s he
    exact ⟨v, (fwd he).mpr hv, hs⟩
  · obtain ⟨q1, q2⟩ := R.own i o a h1 ((fwd h1).mp h2)
    exact ⟨q1, fun j s b hj h3 h4 h5 => q2 j s b hj h3 h4 ((fwd h3).mp h5)⟩
end
theorem wipeE_none {e : En} {vs : List Nat} {i : Nat} {s : Sl} (h : i ∈ vs) : (wipeE e vs)[i]? ≠ some (some s) := fun z => (wipeE_some z).2 h
theorem wipe_wipe (σ : SV) (vs : List Nat) : L2.wipe (L2.wipe σ vs) vs = L2.wipe σ vs := by
  apply List.ext_getElem?
  intro j
  rw [wipe_at, wipe_length, wipe_at]
  by_cases hj : j ∈ vs ∧ j < σ.length
  · rw [if_pos hj, if_pos hj]
  · rw [if_neg hj]
structure GTs (X : Cx) (ifs : List Expr) (m : M Bool) : Prop where
  h : PTs X ifs (tGT X.K m)
theorem gts_nil {X : Cx} : GTs X [] (pur true) := ⟨⟨fun pins s σ H Q I q => pts_nil.run pins s σ H Q I (tGT_pur q)⟩⟩
theorem gts_one {X : Cx} {c : Expr} {m : M Bool} (h : GT X c m) : GTs X [c] m := ⟨pts_one h⟩
theorem RO.lst_len {K : PySem.W.Frag} {H : Hp} {ι : List Addr} {vs : List V} {ds : List D} (h : RDs K H ι vs ds) : vs.length = ds.length := h.length
theorem Rel.len_at {K : PySem.W.Frag} {H : Hp} {ι : List Addr} {σ : SV} {e : En} {S : Sto} (R : Rel K H ι σ e S) : σ.length = e.length := R.len
theorem compL_env {vs : List Nat} {t : Tgt} {c : M Bool} {elt : M R} {ws : List (R × List D)} : ∀ {ds : List D} {e : En} {S : Sto} {z}, compL vs t c elt ws ds e S = some z → (∀ i ∈ vs, ∀ s, e[i]? ≠ some (some s)) → ∀ i ∈ vs, ∀ s, z.2.1[i]? ≠ some (some s)
  | [], e, S, z, h, hw => by
    unfold compL at h
    split at h
    · cases h; exact hw
    · cases h
  | d :: ds, e, S, z, h, hw => by
    unfold compL at h
    split at h
    case isFalse => cases h
    split at h
    case h_2 => cases h
    split at h
    · split at h
      · split at h
        · rename_i hh
          cases h
          exact fun i hi s => (compL_env hh (fun i hi s => wipeE_none hi) i hi s)
        · cases h
      · cases h
    · exact compL_env h fun i hi s => wipeE_none hi
    · cases h
theorem tLc_of {K : PySem.W.Frag} {mi : M Src} {vs : List Nat} {t : Tgt} {mc : M Bool} {me : M R} {σ : SV} {H : Hp} {Q : VK} (q : tG K (mLc vs t mi mc me) σ H Q) : tLc (tGI K mi) (tGG K vs t) (tGT K mc) (tG K me) vs σ H Q := by
  obtain ⟨ι, e, S, r, e', S', R, hm, q⟩ := q
  obtain ⟨src, e1, S1, h1, hm⟩ := bnd_eq hm
  obtain ⟨ys, e2, S2, h2, hm⟩ := bnd_eq hm
  cases hm
  refine ⟨ι, e, S, src, e1, S1, R, h1, fun J H1 ι1 R1 P1 fd hz => fun Da hD => ?_⟩
  have hend := compL_env h2 fun i hi s => wipeE_none hi
  obtain ⟨R2, P2, nD1, nD2⟩ := R1.new (u := .lst []) hD
  obtain ⟨R3, P3⟩ := R2.wipe vs
  have P3' := P2.trans P3
  -- the list's own place is no slot's, none of the store's
  have nD3 : ¬ L2.wipe σ vs = [] ∨ True := .inr trivial
  refine ⟨fun i m H' => m = src.items.length - i ∧ i ≤ src.items.length ∧ ∃ ι4 e4 S4 acc xs zs, Rel K H' ι4 (L2.wipe σ vs) e4 S4 ∧ Post H1 ι1 σ e1 H' ι4 (L2.wipe σ vs) e4 ∧ H' Da = some (.lst xs) ∧ RDs K H' ι4 xs acc ∧ Da ∉ ι4 ∧ ¬ Obj (L2.wipe σ vs) e4 Da ∧
      acc.length ≤ i ∧ compL vs t mc me src.ws (src.items.drop i) e4 S4 = some (zs, e', S') ∧ ys = acc ++ zs ∧ (∀ i ∈ vs, ∀ s, e4[i]? ≠ some (some s)) ∧ e4.length = e1.length,
    ⟨_, rfl, Nat.zero_le _, ι1, wipeE e1 vs, S1, [], [], ys, R3, P3', upd_same, .nil, nD1, fun ⟨i, s, z1, z2, z3⟩ => nD2 ⟨i, s, (wipeE_some z1).1, z2, (wipe_some z3).1⟩, Nat.le_refl _, by simpa using h2, rfl, fun i hi s => wipeE_none hi, wipeE_length _ _⟩, ?_⟩
  rintro i m H4 ⟨rfl, hi, ι4, e4, S4, acc, xs, zs, R4, P4, hD4, rd4, n1, n2, hacc, hc, rfl, hw4, hlen4⟩
  have hσe : (L2.wipe σ vs).length = e4.length := R4.len
  have hlen : σ.length = e4.length := by rw [← hσe, wipe_length]
  by_cases hlt : i < src.items.length
  · rw [List.drop_eq_getElem_cons hlt] at hc
    unfold compL at hc
    split at hc
    case isFalse => cases hc
    rename_i hwat
    split at hc
    case h_2 => cases hc
    rename_i e5 ht
    have wl : ∀ p ∈ src.ws, ∀ j, p.1 = .loc j → (L2.wipe σ vs)[j]? = σ[j]? := fun p hp j hj => by
      have z := of_wat hwat p hp
      rw [hj] at z
      have z' : (match e4[j]? with
        | some (some (.own o)) => some o
        | _ => none) = some (O.lst p.2) := z
      split at z'
      · rename_i hh
        rw [wipe_at, if_neg (fun zz => hw4 j zz.1 _ hh)]
      · cases z'
    obtain ⟨go, yld⟩ := (fd i H4 ι4 _ e4 S4 R4 P4 (of_wat hwat) wl).1 _ (List.getElem?_eq_getElem hlt)
    refine .inr ⟨go, fun H' => ∃ ι9 e9 S9 acc9 xs9 zs9, Rel K H' ι9 (L2.wipe σ vs) e9 S9 ∧ Post H1 ι1 σ e1 H' ι9 (L2.wipe σ vs) e9 ∧ H' Da = some (.lst xs9) ∧ RDs K H' ι9 xs9 acc9 ∧ Da ∉ ι9 ∧ ¬ Obj (L2.wipe σ vs) e9 Da ∧
      acc9.length ≤ i + 1 ∧ compL vs t mc me src.ws (src.items.drop (i + 1)) e9 S9 = some (zs9, e', S') ∧ acc ++ zs = acc9 ++ zs9 ∧ (∀ i ∈ vs, ∀ s, e9[i]? ≠ some (some s)) ∧ e9.length = e1.length,
      fun H' h => ⟨src.items.length - (i + 1), by omega, rfl, hlt, h⟩, fun x H5 hy => ?_⟩
    obtain ⟨R5, P5, rdx, keep5⟩ := yld x H5 hy
    refine ⟨ι4, e4, S4, _, e5, R5, rdx, ht, fun σ6 R6 P6 hwσ => ⟨by rw [hwσ, wipe_wipe], ?_⟩⟩
    have PA := (P4.trans P5).trans P6
    have hD5 : H5 Da = some (.lst xs) := keep5 _ _ hD4
    have P46 := P5.trans P6
    have kD : ∀ {H7 ι7 σ7 e7}, Post H5 ι4 σ6 e5 H7 ι7 σ7 e7 → H7 Da = some (.lst xs) ∧ Da ∉ ι7 ∧ ¬ Own σ7 e7 Da ∧ ¬ Obj σ7 e7 Da := fun P7 => by
      obtain ⟨z1, z2, z3, z4⟩ := (P46.trans P7).keep Da _ hD4 n1 fun z => n2 (.of z)
      exact ⟨z1, z2, z3, z4 n2⟩
    have back : ∀ {H7 ι7 e7 S7}, Rel K H7 ι7 σ6 e7 S7 → Post H5 ι4 σ6 e5 H7 ι7 σ6 e7 → Rel K H7 ι7 (L2.wipe σ vs) (wipeE e7 vs) S7 ∧ Post H1 ι1 σ e1 H7 ι7 (L2.wipe σ vs) (wipeE e7 vs) := fun {H7 ι7 e7 S7} R7 P7 => by
      obtain ⟨R8, P8⟩ := R7.wipe vs
      have hx : L2.wipe σ6 vs = L2.wipe σ vs := by rw [hwσ, wipe_wipe]
      rw [hx] at R8 P8
      exact ⟨R8, (PA.trans P7).trans P8⟩
    have nObj : ∀ {e7 : En}, ¬ Obj σ6 e7 Da → ¬ Obj (L2.wipe σ vs) (wipeE e7 vs) Da := fun {e7} h => by
      have hx : L2.wipe σ6 vs = L2.wipe σ vs := by rw [hwσ, wipe_wipe]
      rintro ⟨i, s, z1, z2, z3⟩
      rw [← hx] at z3
      exact h ⟨i, s, (wipeE_some z1).1, z2, (wipe_some z3).1⟩
    have lenE : ∀ {H7 ι7 e7 S7}, Rel K H7 ι7 σ6 e7 S7 → (wipeE e7 vs).length = e1.length := fun {H7 ι7 e7 S7} R7 => by
      have : (L2.wipe σ6 vs).length = (L2.wipe (L2.wipe σ vs) vs).length := by rw [hwσ]
      rw [wipe_length, wipe_length, wipe_length] at this
      rw [wipeE_length, ← R7.len, this]
      exact R1.len
    split at hc
    · rename_i e7 S7 hcond
      refine ⟨ι4, e5, S4, true, e7, S7, R6, hcond, fun H7 ι7 R7 P7 => ?_⟩
      refine iteT ?_
      split at hc
      · rename_i y e8 S8 helt
        split at hc
        case h_2 => cases hc
        rename_i zs' e9 S9 hrest
        cases hc
        refine ⟨ι7, e7, S7, _, e8, S8, R7, helt, fun v H8 ι8 R8 P8 r8 f8 => ?_⟩
        have P78 := P7.trans P8
        obtain ⟨k1, k2, k3, k4⟩ := kD P78
        refine ⟨xs, k1, by rw [rd4.length]; exact Nat.lt_of_lt_of_le (Nat.lt_of_le_of_lt hacc hlt) hz, ?_⟩
        obtain ⟨R9, P9⟩ := back R8 P78
        have st : Stay H8 (upd H8 Da (.lst (xs ++ [v]))) := Stay.mut k1 (fun _ z => nomatch z) fun _ _ z => nomatch z
        have n9 := nObj k4
        refine ⟨ι8, wipeE e8 vs, S8, acc ++ [y], xs ++ [v], zs', R9.other st k2 n9, P9.fresh hD st, upd_same, ?_, k2, n9, by simp; omega, hrest, by simp, fun i hi s => wipeE_none hi, lenE R8⟩
        exact RDs.mono st ⟨[], by simp⟩ _ _ (RDs.append (RDs.mono (P46.trans P78).stay (P46.trans P78).pre _ _ rd4) (.cons r8 .nil))
      · cases hc
    · rename_i e7 S7 hcond
      refine ⟨ι4, e5, S4, false, e7, S7, R6, hcond, fun H7 ι7 R7 P7 => ?_⟩
      refine iteF ?_
      obtain ⟨k1, k2, k3, k4⟩ := kD P7
      obtain ⟨R9, P9⟩ := back R7 P7
      exact ⟨ι7, wipeE e7 vs, S7, acc, xs, zs, R9, P9, k1, RDs.mono (P46.trans P7).stay (P46.trans P7).pre _ _ rd4, k2, nObj k4, by omega, hc, rfl, fun i hi s => wipeE_none hi, lenE R7⟩
    · cases hc
  · have ei : i = src.items.length := by omega
    subst ei
    rw [List.drop_length] at hc
    unfold compL at hc
    split at hc
    case isFalse => cases hc
    rename_i hwat
    cases hc
    have wl : ∀ p ∈ src.ws, ∀ j, p.1 = .loc j → (L2.wipe σ vs)[j]? = σ[j]? := fun p hp j hj => by
      have z := of_wat hwat p hp
      rw [hj] at z
      have z' : (match e'[j]? with
        | some (some (.own o)) => some o
        | _ => none) = some (O.lst p.2) := z
      split at z'
      · rename_i hh
        rw [wipe_at, if_neg (fun zz => hw4 j zz.1 _ hh)]
      · cases z'
    refine .inl ⟨(fd _ H4 ι4 _ _ _ R4 P4 (of_wat hwat) wl).2 (Nat.le_refl _), ?_⟩
    have RF := R4.unwipe hlen hw4
    have PF : Post H1 ι1 σ e1 H4 ι4 σ e' := by
      refine ⟨P4.pre, P4.stay, P4.dom, fun b x g1 g2 g3 => ?_⟩
      obtain ⟨z1, z2, z3, z4⟩ := P4.keep b x g1 g2 g3
      have fwd : ∀ {i : Nat} {s : Sl} {v : V}, e'[i]? = some (some s) → σ[i]? = some (some v) → (L2.wipe σ vs)[i]? = some (some v) := fun {i s v} h h' => by
        rw [wipe_at, if_neg (fun z => hw4 i z.1 s h)]; exact h'
      refine ⟨z1, z2, ?_, fun h => ?_⟩
      · rintro ⟨i, o, h5, h6⟩
        exact z3 ⟨i, o, h5, fwd h5 h6⟩
      · rintro ⟨i, s, h5, h7, h6⟩
        exact z4 h ⟨i, s, h5, h7, fwd h5 h6⟩
    refine q _ H4 ι4 RF (P1.trans PF) ⟨Da, rfl, ⟨xs, hD4, by simpa using rd4⟩, n1, fun ⟨i, s, h5, h7, h6⟩ => ?_⟩ ⟨Da, rfl, P1.back hD⟩
    refine n2 ⟨i, s, h5, h7, ?_⟩
    rw [wipe_at, if_neg (fun z => hw4 i z.1 s h5)]; exact h6
section
variable {X : Cx} {elt tg iter : Expr} {ifs : List Expr} {scope : Scope} {own : List (Str × Nat)} {pos : Pos} {mi : M Src} {t : Tgt} {mc : M Bool} {me : M R}
theorem ge_lc (hc : X.calm = true) (hN : X.N.Nodup) (hi : GI X tg iter mi) (ok : BlkOk X.N X.env.scope scope own)
    (hg : ∀ (s : Shared) (H : Hp) (C : Addr) (cl : List (Str × Addr)) (fp : List Addr), GG (X.blk s H scope (compEnvC scope cl C X.env) fp) (own.map (·.2)) tg t)
    (ht : ∀ (s : Shared) (H : Hp) (C : Addr) (cl : List (Str × Addr)) (fp : List Addr), GTs (X.blk s H scope (compEnvC scope cl C X.env) fp) ifs mc)
    (he : ∀ (s : Shared) (H : Hp) (C : Addr) (cl : List (Str × Addr)) (fp : List Addr), GE (X.blk s H scope (compEnvC scope cl C X.env) fp) elt me) (hs : ∀ x, foldedSetIterable iter X.env x = pure x := by intro _; rfl) :
    GE X (.ListComp elt [⟨tg, iter, ifs, 0⟩] scope pos) (mLc (own.map (·.2)) t mi mc me) := PE.imp (pe_lc hc hN hi ok hg (fun s H C cl fp => (ht s H C cl fp).h) he hs) fun σ H Q q => tLc_of q
end
end G

set_option Elab.async false
set_option linter.all false
set_option maxRecDepth 100000
set_option maxHeartbeats 4000000
/-! GQ: a dict is no other thing. -/
namespace G
open PySem PySem.Spec PyProof.Rows L2
open AutoSeq1 (wpAny_loadPart')
open MeetsSeq MeetsSeq2 MeetsSeq3 SeqRoads2 SeqAt
section
variable {A : Around} {s : Shared} {a : Addr}
def IsD (s : Shared) (a : Addr) : Prop := ∃ (dd : Option Addr) (es : Array DictEntry) (ep : Nat) (sl : Array (Option Value)), s.heap.get? a = some { cls := .type "dict", dict := dd, data := .dict es ep, slots := sl }
theorem IsD.ty (h : IsD s a) : s.TypeIs (.ref a) "dict" := let ⟨_, _, _, _, e⟩ := h; ⟨_, e, rfl⟩
theorem IsD.ne_list {l : Addr} {items : Array Value} (h : IsD s a) (hl : s.heap.IsList l items) : a ≠ l := fun e => by
  subst e
  obtain ⟨_, _, _, _, e1⟩ := h
  obtain ⟨o, ho, hc, _⟩ := hl
  rw [e1] at ho; cases ho
  exact absurd hc (by simp)
theorem IsD.ne_tuple {l : Addr} {items : Array Value} (h : IsD s a) (hl : s.heap.IsTuple l items) : a ≠ l := fun e => by
  subst e
  obtain ⟨_, _, _, _, e1⟩ := h
  obtain ⟨o, ho, hc, _⟩ := hl
  rw [e1] at ho; cases ho
  exact absurd hc (by simp)
theorem dict_no {prog : Program} {w : World} {E : Value → Shared → Prop} {Q : Value → Shared → Prop} {u : Value} {T id : String} (hs : PySem.Slot "dict" id "dict.__eq__") (ha : IsD s a) (hu : s.TypeIs u T) (hT : isSubtype (.type T) (.type "dict") = pure false) (q : Q .notImplemented s) :
    wpAny (model prog w) A (call (.builtin "dict.__eq__") [.ref a, u]) Q E s := by
  refine wpAny_call_entry hs ha.ty PySem.F.entry_dict_eq ?_ (PySem.F.args_dict_eq_2 _ _)
  show wpAny _ _ (Builtin.Dict.dictSlotArgs "__eq__" ⟨[.ref a, u], []⟩ >>= _) _ _ s
  refine wpAny_bind ?_
  unfold Builtin.Dict.dictSlotArgs
  refine wpAny_bind (wpAny_notOrdered_dict ha.ty ?_)
  show wpAny _ _ (pure (Value.ref a, u)) _ _ s
  refine wpAny_pure ?_
  refine wpAny_bind (wpAny_isInstance (T := T) hu hT ?_)
  simp only [Bool.not_false, if_true]
  exact wpAny_bind (wpAny_rule (wpAny_pure ⟨_, rfl, q⟩))
theorem none_noD {prog : Program} {w : World} : True := trivial
theorem int_no_b (b : Bool) (dd : Option Addr) (es : Array DictEntry) (ep : Nat) (sl : Array (Option Value)) :
    Meets (Builtin.«int.__eq__» ⟨[.bool b, .ref a], []⟩) (fun _ R s => s.heap.get? a = some { cls := .type "dict", dict := dd, data := .dict es ep, slots := sl } ∧ R (.ok (.ret .notImplemented)) s) :=
  .of_wp fun prog w A R s h => by obtain ⟨hp, g, d, tk, os⟩ := s; obtain ⟨h1, h2⟩ := h; wp_walk using wpAny_loadPart' h1, wpAny_load h1; exact ⟨_, rfl, h2⟩
theorem int_no_i (b : Int) (u : Tok) (dd : Option Addr) (es : Array DictEntry) (ep : Nat) (sl : Array (Option Value)) :
    Meets (Builtin.«int.__eq__» ⟨[.int b u, .ref a], []⟩) (fun _ R s => s.heap.get? a = some { cls := .type "dict", dict := dd, data := .dict es ep, slots := sl } ∧ R (.ok (.ret .notImplemented)) s) :=
  .of_wp fun prog w A R s h => by obtain ⟨hp, g, d, tk, os⟩ := s; obtain ⟨h1, h2⟩ := h; wp_walk using wpAny_loadPart' h1, wpAny_load h1; exact ⟨_, rfl, h2⟩
theorem str_no_d (b : Str) (u : Tok) (dd : Option Addr) (es : Array DictEntry) (ep : Nat) (sl : Array (Option Value)) :
    Meets (Builtin.«str.__eq__» ⟨[.str b u, .ref a], []⟩) (fun _ R s => s.heap.get? a = some { cls := .type "dict", dict := dd, data := .dict es ep, slots := sl } ∧ R (.ok (.ret .notImplemented)) s) :=
  .of_wp fun prog w A R s h => by obtain ⟨hp, g, d, tk, os⟩ := s; obtain ⟨h1, h2⟩ := h; wp_walk using wpAny_loadPart' h1, wpAny_load h1; exact ⟨_, rfl, h2⟩
theorem list_no_d (l : Addr) (items : Array Value) (n : Nat) (d1 : Option Addr) (s1 : Array (Option Value)) (dd : Option Addr) (es : Array DictEntry) (ep : Nat) (sl : Array (Option Value)) :
    Meets (Builtin.«list.__eq__» ⟨[.ref l, .ref a], []⟩) (fun _ R s => s.heap.get? l = some { cls := .type "list", dict := d1, data := .seq items n, slots := s1 } ∧ s.heap.get? a = some { cls := .type "dict", dict := dd, data := .dict es ep, slots := sl } ∧ R (.ok (.ret .notImplemented)) s) :=
  .of_wp fun prog w A R s h => by obtain ⟨hp, g, d, tk, os⟩ := s; obtain ⟨h0, h1, h2⟩ := h; have f1 := F.sub_dict_list; wp_walk using wpAny_loadPart' h0, wpAny_loadPart' h1; exact ⟨_, rfl, h2⟩
theorem tuple_no_d (l : Addr) (items : Array Value) (n : Nat) (d1 : Option Addr) (s1 : Array (Option Value)) (dd : Option Addr) (es : Array DictEntry) (ep : Nat) (sl : Array (Option Value)) :
    Meets (Builtin.«tuple.__eq__» ⟨[.ref l, .ref a], []⟩) (fun _ R s => s.heap.get? l = some { cls := .type "tuple", dict := d1, data := .seq items n, slots := s1 } ∧ s.heap.get? a = some { cls := .type "dict", dict := dd, data := .dict es ep, slots := sl } ∧ R (.ok (.ret .notImplemented)) s) :=
  .of_wp fun prog w A R s h => by obtain ⟨hp, g, d, tk, os⟩ := s; obtain ⟨h0, h1, h2⟩ := h; have f1 := F.sub_dict_tuple; wp_walk using wpAny_loadPart' h0, wpAny_loadPart' h1; exact ⟨_, rfl, h2⟩
/-- from order to truth -/
theorem eqB_ref (c : Addr) {v : Value} (hne : (Value.ref c) ≠ v) (h : RcAt A s (.ref c) v false) : EqAt A s (.ref c) v false := fun prog w E Q hq => by
  unfold eqBool
  refine wpAny_holding (wpAny_ite_split (fun hab => absurd (eq_of_beq hab) hne) (fun _ => ?_))
  exact wpAny_bind (h prog w E _ (wpAny_truthy_bool hq))
theorem eqB_none  {v : Value} (hne : (Value.none) ≠ v) (h : RcAt A s .none v false) : EqAt A s .none v false := fun prog w E Q hq => by
  unfold eqBool
  refine wpAny_holding (wpAny_ite_split (fun hab => absurd (eq_of_beq hab) hne) (fun _ => ?_))
  exact wpAny_bind (h prog w E _ (wpAny_truthy_bool hq))
theorem eqB_bool (c : Bool) {v : Value} (hne : (Value.bool c) ≠ v) (h : RcAt A s (.bool c) v false) : EqAt A s (.bool c) v false := fun prog w E Q hq => by
  unfold eqBool
  refine wpAny_holding (wpAny_ite_split (fun hab => absurd (eq_of_beq hab) hne) (fun _ => ?_))
  exact wpAny_bind (h prog w E _ (wpAny_truthy_bool hq))
theorem eqB_int (c : Int) (t : Tok) {v : Value} (hne : (Value.int c t) ≠ v) (h : RcAt A s (.int c t) v false) : EqAt A s (.int c t) v false := fun prog w E Q hq => by
  unfold eqBool
  refine wpAny_holding (wpAny_ite_split (fun hab => absurd (eq_of_beq hab) hne) (fun _ => ?_))
  exact wpAny_bind (h prog w E _ (wpAny_truthy_bool hq))
theorem eqB_str (c : Str) (t : Tok) {v : Value} (hne : (Value.str c t) ≠ v) (h : RcAt A s (.str c t) v false) : EqAt A s (.str c t) v false := fun prog w E Q hq => by
  unfold eqBool
  refine wpAny_holding (wpAny_ite_split (fun hab => absurd (eq_of_beq hab) hne) (fun _ => ?_))
  exact wpAny_bind (h prog w E _ (wpAny_truthy_bool hq))
theorem dict_noN {prog : Program} {w : World} {E : Value → Shared → Prop} {Q : Value → Shared → Prop} {u : Value} {T id : String} (hs : PySem.Slot "dict" id "dict.__ne__") (ha : IsD s a) (hu : s.TypeIs u T) (hT : isSubtype (.type T) (.type "dict") = pure false) (q : Q .notImplemented s) :
    wpAny (model prog w) A (call (.builtin "dict.__ne__") [.ref a, u]) Q E s := by
  refine wpAny_call_entry hs ha.ty PySem.F.entry_dict_ne ?_ (PySem.F.args_dict_ne_2 _ _)
  show wpAny _ _ (Builtin.Dict.dictSlotArgs "__ne__" ⟨[.ref a, u], []⟩ >>= _) _ _ s
  refine wpAny_bind ?_
  unfold Builtin.Dict.dictSlotArgs
  refine wpAny_bind (wpAny_notOrdered_dict ha.ty ?_)
  show wpAny _ _ (pure (Value.ref a, u)) _ _ s
  refine wpAny_pure ?_
  refine wpAny_bind (wpAny_isInstance (T := T) hu hT ?_)
  simp only [Bool.not_false, if_true]
  exact wpAny_bind (wpAny_rule (wpAny_pure ⟨_, rfl, q⟩))
theorem tuple_noN_d (l : Addr) (items : Array Value) (n : Nat) (d1 : Option Addr) (s1 : Array (Option Value)) (dd : Option Addr) (es : Array DictEntry) (ep : Nat) (sl : Array (Option Value)) :
    Meets (Builtin.«tuple.__ne__» ⟨[.ref l, .ref a], []⟩) (fun _ R s => s.heap.get? l = some { cls := .type "tuple", dict := d1, data := .seq items n, slots := s1 } ∧ s.heap.get? a = some { cls := .type "dict", dict := dd, data := .dict es ep, slots := sl } ∧ R (.ok (.ret .notImplemented)) s) :=
  .of_wp fun prog w A R s h => by obtain ⟨hp, g, d, tk, os⟩ := s; obtain ⟨h0, h1, h2⟩ := h; have f1 := F.sub_dict_tuple; wp_walk using wpAny_loadPart' h0, wpAny_loadPart' h1; exact ⟨_, rfl, h2⟩
variable (ha : IsD s a) (hu : A.units < cLine)
include ha hu
theorem rcN_dT {l : Addr} {items : Array Value} (hl : s.heap.IsTuple l items) : RcNeAt A s (.ref a) (.ref l) true := fun prog w E Q h => by
  have hne := ha.ne_tuple hl
  obtain ⟨dd, es, ep, sl, e⟩ := id ha
  obtain ⟨⟨cls, d1, data, s1⟩, ho, hc, n, hd⟩ := id hl
  simp only at hc hd
  subst hc hd
  exact rc_ne_decline_or (k := false) ha.ty ⟨_, ho, rfl⟩ (by decide) F.sub_tuple_dict F.slot_dict_ne F.slot_tuple_ne_refl
    (fun _ hq => dict_noN F.slot_dict_ne ha ⟨_, ho, rfl⟩ F.sub_tuple_dict hq) (fun _ hq => call_meets F.slot_tuple_ne_refl ⟨_, ho, rfl⟩ F.entry_tuple_ne (F.args_tuple_ne_2 _ _) (tuple_noN_d l items n d1 s1 dd es ep sl) ⟨ho, e, hq⟩)
    (fun _ hq => wpAny_isSame_ref_other hne e ho (by simp) hq) (.inr hu) h
theorem rcN_Td {l : Addr} {items : Array Value} (hl : s.heap.IsTuple l items) : RcNeAt A s (.ref l) (.ref a) true := fun prog w E Q h => by
  have hne := ha.ne_tuple hl
  obtain ⟨dd, es, ep, sl, e⟩ := id ha
  obtain ⟨⟨cls, d1, data, s1⟩, ho, hc, n, hd⟩ := id hl
  simp only at hc hd
  subst hc hd
  exact rc_ne_decline_or (k := false) ⟨_, ho, rfl⟩ ha.ty (by decide) F.sub_dict_tuple F.slot_tuple_ne F.slot_dict_ne_refl
    (fun _ hq => call_meets F.slot_tuple_ne ⟨_, ho, rfl⟩ F.entry_tuple_ne (F.args_tuple_ne_2 _ _) (tuple_noN_d l items n d1 s1 dd es ep sl) ⟨ho, e, hq⟩) (fun _ hq => dict_noN F.slot_dict_ne_refl ha ⟨_, ho, rfl⟩ F.sub_tuple_dict hq)
    (fun _ hq => wpAny_isSame_ref_other' hne.symm ho e (by simp) hq) (.inr hu) h
theorem rc_dN : RcAt A s (.ref a) .none false := fun prog w E Q h => by
  obtain ⟨dd, es, ep, sl, e⟩ := id ha
  exact rc_eq_decline_or (k := false) ha.ty rfl (by decide) F.sub_NoneType_dict F.slot_dict_eq F.slot_NoneType_eq_refl
    (fun _ hq => dict_no F.slot_dict_eq ha rfl F.sub_NoneType_dict hq) (fun _ hq => call_gives F.slot_NoneType_eq_refl rfl F.entry_NoneType_eq (F.args_NoneType_eq_2 _ _) (NoneType___eq___none_ref_0 a) hq)
    (fun _ hq => wpAny_of_eq (rfl : isSame (.ref a) .none = pure false) hq) (.inr hu) h
theorem rc_Nd : RcAt A s .none (.ref a) false := fun prog w E Q h => by
  exact rc_eq_decline_or (k := false) rfl ha.ty (by decide) F.sub_dict_NoneType F.slot_NoneType_eq F.slot_dict_eq_refl
    (fun _ hq => call_gives F.slot_NoneType_eq rfl F.entry_NoneType_eq (F.args_NoneType_eq_2 _ _) (NoneType___eq___none_ref_0 a) hq) (fun _ hq => dict_no F.slot_dict_eq_refl ha rfl F.sub_NoneType_dict hq)
    (fun _ hq => wpAny_of_eq (rfl : isSame .none (.ref a) = pure false) hq) (.inr hu) h
theorem rc_dB (b : Bool) : RcAt A s (.ref a) (.bool b) false := fun prog w E Q h => by
  obtain ⟨dd, es, ep, sl, e⟩ := id ha
  exact rc_eq_decline_or (k := false) ha.ty rfl (by decide) F.sub_bool_dict F.slot_dict_eq F.slot_bool_eq_refl
    (fun _ hq => dict_no F.slot_dict_eq ha rfl F.sub_bool_dict hq) (fun _ hq => call_meets F.slot_bool_eq_refl rfl F.entry_int_eq (F.args_int_eq_2 _ _) (int_no_b b dd es ep sl) ⟨e, hq⟩)
    (fun _ hq => wpAny_of_eq (rfl : isSame (.ref a) (.bool b) = pure false) hq) (.inr hu) h
theorem rc_Bd (b : Bool) : RcAt A s (.bool b) (.ref a) false := fun prog w E Q h => by
  obtain ⟨dd, es, ep, sl, e⟩ := id ha
  exact rc_eq_decline_or (k := false) rfl ha.ty (by decide) F.sub_dict_bool F.slot_bool_eq F.slot_dict_eq_refl
    (fun _ hq => call_meets F.slot_bool_eq rfl F.entry_int_eq (F.args_int_eq_2 _ _) (int_no_b b dd es ep sl) ⟨e, hq⟩) (fun _ hq => dict_no F.slot_dict_eq_refl ha rfl F.sub_bool_dict hq)
    (fun _ hq => wpAny_of_eq (rfl : isSame (.bool b) (.ref a) = pure false) hq) (.inr hu) h
theorem rc_dI (b : Int) (u : Tok) : RcAt A s (.ref a) (.int b u) false := fun prog w E Q h => by
  obtain ⟨dd, es, ep, sl, e⟩ := id ha
  exact rc_eq_decline_or (k := false) ha.ty (typeIs_int s b u) (by decide) F.sub_int_dict F.slot_dict_eq F.slot_int_eq_refl
    (fun _ hq => dict_no F.slot_dict_eq ha (typeIs_int s b u) F.sub_int_dict hq) (fun _ hq => call_meets F.slot_int_eq_refl (typeIs_int s b u) F.entry_int_eq (F.args_int_eq_2 _ _) (int_no_i b u dd es ep sl) ⟨e, hq⟩)
    (fun _ hq => wpAny_of_eq (rfl : isSame (.ref a) (.int b u) = pure false) hq) (.inr hu) h
theorem rc_Id (b : Int) (u : Tok) : RcAt A s (.int b u) (.ref a) false := fun prog w E Q h => by
  obtain ⟨dd, es, ep, sl, e⟩ := id ha
  exact rc_eq_decline_or (k := false) (typeIs_int s b u) ha.ty (by decide) F.sub_dict_int F.slot_int_eq F.slot_dict_eq_refl
    (fun _ hq => call_meets F.slot_int_eq (typeIs_int s b u) F.entry_int_eq (F.args_int_eq_2 _ _) (int_no_i b u dd es ep sl) ⟨e, hq⟩) (fun _ hq => dict_no F.slot_dict_eq_refl ha (typeIs_int s b u) F.sub_int_dict hq)
    (fun _ hq => wpAny_of_eq (rfl : isSame (.int b u) (.ref a) = pure false) hq) (.inr hu) h
theorem rc_dS (b : Str) (u : Tok) : RcAt A s (.ref a) (.str b u) false := fun prog w E Q h => by
  obtain ⟨dd, es, ep, sl, e⟩ := id ha
  exact rc_eq_decline_or (k := false) ha.ty (typeIs_str s b u) (by decide) F.sub_str_dict F.slot_dict_eq F.slot_str_eq_refl
    (fun _ hq => dict_no F.slot_dict_eq ha (typeIs_str s b u) F.sub_str_dict hq) (fun _ hq => call_meets F.slot_str_eq_refl (typeIs_str s b u) F.entry_str_eq (F.args_str_eq_2 _ _) (str_no_d b u dd es ep sl) ⟨e, hq⟩)
    (fun _ hq => wpAny_of_eq (rfl : isSame (.ref a) (.str b u) = pure false) hq) (.inr hu) h
theorem rc_Sd (b : Str) (u : Tok) : RcAt A s (.str b u) (.ref a) false := fun prog w E Q h => by
  obtain ⟨dd, es, ep, sl, e⟩ := id ha
  exact rc_eq_decline_or (k := false) (typeIs_str s b u) ha.ty (by decide) F.sub_dict_str F.slot_str_eq F.slot_dict_eq_refl
    (fun _ hq => call_meets F.slot_str_eq (typeIs_str s b u) F.entry_str_eq (F.args_str_eq_2 _ _) (str_no_d b u dd es ep sl) ⟨e, hq⟩) (fun _ hq => dict_no F.slot_dict_eq_refl ha (typeIs_str s b u) F.sub_str_dict hq)
    (fun _ hq => wpAny_of_eq (rfl : isSame (.str b u) (.ref a) = pure false) hq) (.inr hu) h
theorem rc_dL {l : Addr} {items : Array Value} (hl : s.heap.IsList l items) : RcAt A s (.ref a) (.ref l) false := fun prog w E Q h => by
  have hne := ha.ne_list hl
  obtain ⟨dd, es, ep, sl, e⟩ := id ha
  obtain ⟨⟨cls, d1, data, s1⟩, ho, hc, n, hd⟩ := id hl
  simp only at hc hd
  subst hc hd
  exact rc_eq_decline_or (k := false) ha.ty ⟨_, ho, rfl⟩ (by decide) F.sub_list_dict F.slot_dict_eq F.slot_list_eq_refl
    (fun _ hq => dict_no F.slot_dict_eq ha ⟨_, ho, rfl⟩ F.sub_list_dict hq) (fun _ hq => call_meets F.slot_list_eq_refl ⟨_, ho, rfl⟩ F.entry_list_eq (F.args_list_eq_2 _ _) (list_no_d l items n d1 s1 dd es ep sl) ⟨ho, e, hq⟩)
    (fun _ hq => wpAny_isSame_ref_other hne e ho (by simp) hq) (.inr hu) h
theorem rc_Ld {l : Addr} {items : Array Value} (hl : s.heap.IsList l items) : RcAt A s (.ref l) (.ref a) false := fun prog w E Q h => by
  have hne := ha.ne_list hl
  obtain ⟨dd, es, ep, sl, e⟩ := id ha
  obtain ⟨⟨cls, d1, data, s1⟩, ho, hc, n, hd⟩ := id hl
  simp only at hc hd
  subst hc hd
  exact rc_eq_decline_or (k := false) ⟨_, ho, rfl⟩ ha.ty (by decide) F.sub_dict_list F.slot_list_eq F.slot_dict_eq_refl
    (fun _ hq => call_meets F.slot_list_eq ⟨_, ho, rfl⟩ F.entry_list_eq (F.args_list_eq_2 _ _) (list_no_d l items n d1 s1 dd es ep sl) ⟨ho, e, hq⟩) (fun _ hq => dict_no F.slot_dict_eq_refl ha ⟨_, ho, rfl⟩ F.sub_list_dict hq)
    (fun _ hq => wpAny_isSame_ref_other hne.symm ho e (by simp) hq) (.inr hu) h
theorem rc_dT {l : Addr} {items : Array Value} (hl : s.heap.IsTuple l items) : RcAt A s (.ref a) (.ref l) false := fun prog w E Q h => by
  have hne := ha.ne_tuple hl
  obtain ⟨dd, es, ep, sl, e⟩ := id ha
  obtain ⟨⟨cls, d1, data, s1⟩, ho, hc, n, hd⟩ := id hl
  simp only at hc hd
  subst hc hd
  exact rc_eq_decline_or (k := false) ha.ty ⟨_, ho, rfl⟩ (by decide) F.sub_tuple_dict F.slot_dict_eq F.slot_tuple_eq_refl
    (fun _ hq => dict_no F.slot_dict_eq ha ⟨_, ho, rfl⟩ F.sub_tuple_dict hq) (fun _ hq => call_meets F.slot_tuple_eq_refl ⟨_, ho, rfl⟩ F.entry_tuple_eq (F.args_tuple_eq_2 _ _) (tuple_no_d l items n d1 s1 dd es ep sl) ⟨ho, e, hq⟩)
    (fun _ hq => wpAny_isSame_ref_other hne e ho (by simp) hq) (.inr hu) h
theorem rc_Td {l : Addr} {items : Array Value} (hl : s.heap.IsTuple l items) : RcAt A s (.ref l) (.ref a) false := fun prog w E Q h => by
  have hne := ha.ne_tuple hl
  obtain ⟨dd, es, ep, sl, e⟩ := id ha
  obtain ⟨⟨cls, d1, data, s1⟩, ho, hc, n, hd⟩ := id hl
  simp only at hc hd
  subst hc hd
  exact rc_eq_decline_or (k := false) ⟨_, ho, rfl⟩ ha.ty (by decide) F.sub_dict_tuple F.slot_tuple_eq F.slot_dict_eq_refl
    (fun _ hq => call_meets F.slot_tuple_eq ⟨_, ho, rfl⟩ F.entry_tuple_eq (F.args_tuple_eq_2 _ _) (tuple_no_d l items n d1 s1 dd es ep sl) ⟨ho, e, hq⟩) (fun _ hq => dict_no F.slot_dict_eq_refl ha ⟨_, ho, rfl⟩ F.sub_tuple_dict hq)
    (fun _ hq => wpAny_isSame_ref_other' hne.symm ho e (by simp) hq) (.inr hu) h
end
end G

set_option Elab.async false
set_option linter.all false
set_option maxRecDepth 100000
set_option maxHeartbeats 4000000
/-! GE: == and != of data of any depth. -/
namespace G
variable [Wld]
open PySem PySem.Spec PyProof.Rows L2
mutual
/-- no object that may change, no def -/
def datB : D → Bool
  | .non => true
  | .bl _ => true
  | .int _ => true
  | .str _ => true
  | .tup ds => datsB ds
  | .lst ds => datsB ds
  | .dic _ ds => datsB ds
  | .ref _ => false
  | .fn _ => false
def datsB : List D → Bool
  | [] => true
  | d :: ds => datB d && datsB ds
end
theorem datsB_all : ∀ ds : List D, datsB ds = ds.all datB
  | [] => rfl
  | d :: ds => by rw [datsB, datsB_all ds]; rfl
/-- scalars -/
def flat : D → Bool
  | .non => true
  | .bl _ => true
  | .int _ => true
  | .str _ => true
  | _ => false
def eqS : D → D → Bool
  | .non, .non => true
  | .bl a, .bl b => a == b
  | .bl a, .int b => (if a then 1 else 0) == b
  | .int a, .bl b => a == (if b then 1 else 0)
  | .int a, .int b => a == b
  | .str a, .str b => a == b
  | _, _ => false
/-- part by part -/
def zipF (f : D → D → Option Bool) : List D → List D → Option Bool
  | x :: xs, y :: ys => match f x y, zipF f xs ys with
    | some a, some b => some (a && b)
    | _, _ => none
  | _, _ => some true
/-- ==; of two dicts, and too deep, nothing is told -/
def deq : Nat → D → D → Option Bool
  | n + 1, .tup xs, .tup ys => (zipF (deq n) xs ys).map fun b => b && xs.length == ys.length
  | n + 1, .lst xs, .lst ys => if xs.length = ys.length then zipF (deq n) xs ys else some false
  | 0, .tup _, .tup _ => none
  | 0, .lst _, .lst _ => none
  | _, .dic _ _, .dic _ _ => none
  | _, x, y => some (eqS x y)
section
variable {K : PySem.W.Frag} {H : Hp} {ι : List Addr} {X : Cx} {pins : List (Addr × PySem.Obj)} {σ : SV} {s : Shared}
theorem IsD.of (I : Inv X pins σ H s) {a : Addr} {o : PySem.Obj} {ws : List (Key × V)} (h : H a = some (.frz o (.dK ws))) : IsD s a := by
  obtain ⟨_, _, vs, _, ob, es, ep, e, hx, hd, _⟩ := dk_rd I.hok (.inr ⟨o, h⟩)
  obtain ⟨cls, dd, data, sl⟩ := ob
  obtain ⟨h1, h2, h3⟩ := hx
  simp only at h1 h2 h3 hd
  subst h1 h2 h3 hd
  exact ⟨_, _, _, _, e⟩
theorem LF.isL (I : Inv X pins σ H s) {a : Addr} {xs : List V} (h : LF X.K H a xs) : ∃ its, Vals xs its ∧ s.heap.IsList a its.toArray := by
  obtain ⟨its, r, p, _⟩ := I.list h.sq
  exact ⟨its, r, p.isList⟩
theorem Vals.at {xs : List V} {us : List Value} (h : Vals xs us) : ∀ {j : Nat} {u : Value}, us[j]? = some u → ∃ v, xs[j]? = some v ∧ RelV v u := by
  induction h with
  | nil => intro j u e; simp at e
  | cons h1 _ ih =>
    intro j u e
    cases j with
    | zero => simp at e; subst e; exact ⟨_, rfl, h1⟩
    | succ j => exact ih (by simpa using e)
theorem isTup_same {h : Heap} {a : Addr} {i j : List Value} (p : IsTup h a i.toArray) (q : IsTup h a j.toArray) : i = j := by
  obtain ⟨o, e1, _, n, d1⟩ := p
  obtain ⟨o', e2, _, n', d2⟩ := q
  rw [e1] at e2; cases e2
  rw [d1] at d2
  injection d2 with d2
  simpa using d2
mutual
/-- a value is one data -/
theorem RD.det (I : Inv X pins σ H s) : ∀ (d d' : D) (v : V), datB d = true → datB d' = true → RD X.K H ι v d → RD X.K H ι v d' → d = d'
  | .non, d', _, _, h2, r, r' => by cases r; cases r' <;> rfl
  | .bl b, d', _, _, h2, r, r' => by cases r; cases r' <;> rfl
  | .int b, d', _, _, h2, r, r' => by cases r; cases r' <;> rfl
  | .str b, d', _, _, h2, r, r' => by cases r; cases r' <;> rfl
  | .ref _, _, _, h1, _, _, _ => by cases h1
  | .fn _, _, _, h1, _, _, _ => by cases h1
  | .tup ds, d', _, h1, h2, r, r' => by
    cases r with | tup g1 g2 =>
    obtain ⟨its, rv, p, _⟩ := I.tuple g1
    cases r' with
    | tup g3 g4 =>
      obtain ⟨its', rv', p', _⟩ := I.tuple g3
      have := isTup_same p p'
      subst this
      have := Vals.inj rv rv'
      subst this
      rw [RDs.det I ds _ _ (by simpa [datB] using h1) (by simpa [datB] using h2) g2 g4]
    | lst g3 g4 =>
      obtain ⟨its', rv', p'⟩ := LF.isL I g3
      exact (SeqAt.ne_of_list_tuple p' p rfl).elim
    | dic g3 _ _ => exact ((IsD.of I g3).ne_tuple p rfl).elim
    | ref _ => cases h2
    | fn _ => cases h2
  | .lst ds, d', _, h1, h2, r, r' => by
    cases r with | lst g1 g2 =>
    obtain ⟨its, rv, p⟩ := LF.isL I g1
    cases r' with
    | tup g3 g4 =>
      obtain ⟨its', rv', p', _⟩ := I.tuple g3
      exact (SeqAt.ne_of_list_tuple p p' rfl).elim
    | lst g3 g4 =>
      have := I.list_inj g1.sq g3.sq
      subst this
      rw [RDs.det I ds _ _ (by simpa [datB] using h1) (by simpa [datB] using h2) g2 g4]
    | dic g3 _ _ => exact ((IsD.of I g3).ne_list p rfl).elim
    | ref _ => cases h2
    | fn _ => cases h2
  | .dic ks ds, d', _, h1, h2, r, r' => by
    cases r with | dic g1 e1 g2 =>
    cases r' with
    | tup g3 g4 =>
      obtain ⟨its', rv', p', _⟩ := I.tuple g3
      exact ((IsD.of I g1).ne_tuple p' rfl).elim
    | lst g3 g4 =>
      obtain ⟨its', rv', p'⟩ := LF.isL I g3
      exact ((IsD.of I g1).ne_list p' rfl).elim
    | dic g3 e3 g4 =>
      rename_i xs _ xs' ks' ds'
      rw [g1] at g3
      have e := Option.some.inj g3
      injection e with _ e
      injection e with e
      have l1 := g2.length
      have l2 := g4.length
      have a1 : ks = ks' := by
        have := congrArg (List.map Prod.fst) e
        rwa [List.map_fst_zip (by omega), List.map_fst_zip (by omega)] at this
      subst a1
      have a2 : xs = xs' := by
        have := congrArg (List.map Prod.snd) e
        rwa [List.map_snd_zip (by omega), List.map_snd_zip (by omega)] at this
      subst a2
      rw [RDs.det I ds _ _ (by simpa [datB] using h1) (by simpa [datB] using h2) g2 g4]
    | ref _ => cases h2
    | fn _ => cases h2
theorem RDs.det (I : Inv X pins σ H s) : ∀ (ds ds' : List D) (vs : List V), datsB ds = true → datsB ds' = true → RDs X.K H ι vs ds → RDs X.K H ι vs ds' → ds = ds'
  | [], _, _, _, _, r, r' => by cases r; cases r'; rfl
  | d :: ds, _, _, h1, h2, r, r' => by
    cases r with | cons g1 g2 =>
    cases r' with | cons g3 g4 =>
    rw [datsB, Bool.and_eq_true] at h1 h2
    rw [RD.det I d _ _ h1.1 h2.1 g1 g3, RDs.det I ds _ _ h1.2 h2.2 g2 g4]
end
theorem zipF_same {f : D → D → Option Bool} : ∀ {ds : List D} {b : Bool}, (∀ d ∈ ds, ∀ b, f d d = some b → b = true) → zipF f ds ds = some b → b = true
  | [], b, _, h => by cases h; rfl
  | d :: ds, b, w, h => by
    unfold zipF at h
    split at h
    · rename_i a c h1 h2
      cases h
      rw [w d (by simp) _ h1, zipF_same (fun x hx => w x (by simp [hx])) h2]; rfl
    · cases h
theorem deq_same : ∀ {n : Nat} {d : D} {b : Bool}, datB d = true → deq n d d = some b → b = true
  | n, .non, b, _, h => by cases n <;> (unfold deq at h; cases h; rfl)
  | n, .bl x, b, _, h => by cases n <;> (unfold deq at h; cases h; simp [eqS])
  | n, .int x, b, _, h => by cases n <;> (unfold deq at h; cases h; simp [eqS])
  | n, .str x, b, _, h => by cases n <;> (unfold deq at h; cases h; simp [eqS])
  | 0, .tup ds, b, _, h => by cases h
  | n + 1, .tup ds, b, hd, h => by
    unfold deq at h
    obtain ⟨c, h1, h2⟩ := Option.map_eq_some_iff.mp h
    subst h2
    have hd' := datsB_all ds ▸ (show datsB ds = true by simpa [datB] using hd)
    rw [zipF_same (fun d hm b hb => deq_same (List.all_eq_true.mp hd' d hm) hb) h1]
    simp
  | 0, .lst ds, b, _, h => by cases h
  | n + 1, .lst ds, b, hd, h => by
    unfold deq at h
    rw [if_pos rfl] at h
    have hd' := datsB_all ds ▸ (show datsB ds = true by simpa [datB] using hd)
    exact zipF_same (fun d hm b hb => deq_same (List.all_eq_true.mp hd' d hm) hb) h
  | n, .dic ks ds, b, _, h => by cases n <;> cases h
  | _, .ref _, _, hd, _ => by cases hd
  | _, .fn _, _, hd, _ => by cases hd
theorem zipF_at {f : D → D → Option Bool} : ∀ {xs ys : List D} {b : Bool}, zipF f xs ys = some b → ∃ e : Nat → Bool, (∀ j x y, xs[j]? = some x → ys[j]? = some y → f x y = some (e j)) ∧ b = (List.range (min xs.length ys.length)).all e
  | [], _, b, h => by cases h; exact ⟨fun _ => true, fun j x y e => by simp at e, by simp⟩
  | _ :: _, [], b, h => by cases h; exact ⟨fun _ => true, fun j x y _ e => by simp at e, by simp⟩
  | x :: xs, y :: ys, b, h => by
    unfold zipF at h
    split at h
    · rename_i a c h1 h2
      cases h
      obtain ⟨e, g1, g2⟩ := zipF_at h2
      refine ⟨fun j => match j with | 0 => a | j + 1 => e j, fun j u v hu hv => ?_, ?_⟩
      · cases j with
        | zero => simp at hu hv; subst hu hv; exact h1
        | succ j => exact g1 j u v (by simpa using hu) (by simpa using hv)
      · rw [g2, List.length_cons, List.length_cons, Nat.succ_min_succ, List.range_succ_eq_map, List.all_cons, List.all_map]
        rfl
    · cases h
theorem RDs.items {xs : List V} {ds : List D} {us : List Value} (h : RDs K H ι xs ds) (r : Vals xs us) : us.length = ds.length ∧ ∀ {j : Nat} {u : Value}, us[j]? = some u → ∃ v d, ds[j]? = some d ∧ RelV v u ∧ RD K H ι v d := by
  refine ⟨by rw [← r.length, h.length], fun {j u} e => ?_⟩
  obtain ⟨v, hv, rv⟩ := Vals.at r e
  have hl := (List.getElem?_eq_some_iff.mp hv).1
  rw [h.length] at hl
  obtain ⟨v', hv', rd⟩ := h.get (List.getElem?_eq_getElem hl)
  rw [hv] at hv'; cases hv'
  exact ⟨v, _, List.getElem?_eq_getElem hl, rv, rd⟩
/-- what == tells, from above -/
inductive Kin (X : Cx) (H : Hp) (ι : List Addr) (s : Shared) (n : Nat) (A : Around) (neg : Bool) (u v : Value) (b : Bool) : Prop
  | mk : (neg = false → SeqAt.RcAt A s u v b) → (neg = true → SeqAt.RcNeAt A s u v (!b)) → Kin X H ι s n A neg u v b
def isDic : D → Bool
  | .dic _ _ => true
  | _ => false
def isTupD : D → Bool
  | .tup _ => true
  | _ => false
/-- != of a dict is told beside a tuple alone -/
def neOk (neg : Bool) (x y : D) : Bool := !neg || (!isDic x || isTupD y) && (!isDic y || isTupD x)
theorem ite_len {a b : Nat} : (a == b) = decide (a = b) := by by_cases h : a = b <;> simp [h]
/-- an object read where it stands -/
def RDw (K : PySem.W.Frag) (H : Hp) (ι : List Addr) (v : V) (d : D) : Prop := RD K H ι v d ∨ ∃ a xs ds, v = .ref a ∧ d = .lst ds ∧ SqL K H a xs ∧ RDs K H ι xs ds
theorem RDw.lst {K : PySem.W.Frag} {H : Hp} {ι : List Addr} {v : V} {ds : List D} (h : RDw K H ι v (.lst ds)) : ∃ a xs, v = .ref a ∧ SqL K H a xs ∧ RDs K H ι xs ds := by
  rcases h with h | ⟨a, xs, ds', h1, h2, h3, h4⟩
  · cases h with | lst g1 g2 => exact ⟨_, _, rfl, g1.sq, g2⟩
  · cases h2; exact ⟨a, xs, h1, h3, h4⟩
theorem RDw.tup {K : PySem.W.Frag} {H : Hp} {ι : List Addr} {v : V} {ds : List D} (h : RDw K H ι v (.tup ds)) : ∃ a xs, v = .ref a ∧ SqT K H a xs ∧ RDs K H ι xs ds := by
  rcases h with h | ⟨a, xs, ds', h1, h2, h3, h4⟩
  · cases h with | tup g1 g2 => exact ⟨_, _, rfl, g1, g2⟩
  · cases h2
def RcP (X : Cx) (H : Hp) (ι : List Addr) (s : Shared) (n : Nat) : Prop := ∀ (A : Around) (neg : Bool) (x y : D) (b : Bool) (vx vy : V) (u v : Value), A.units + n < cLine → datB x = true → datB y = true → neOk neg x y = true → RDw X.K H ι vx x → RDw X.K H ι vy y → RelV vx u → RelV vy v → deq n x y = some b →
    (neg = false → SeqAt.RcAt A s u v b) ∧ (neg = true → SeqAt.RcNeAt A s u v (!b))
def AtP (X : Cx) (H : Hp) (ι : List Addr) (s : Shared) (n : Nat) : Prop := ∀ (A : Around) (x y : D) (b : Bool) (vx vy : V) (u v : Value), A.units + n < cLine → datB x = true → datB y = true → RD X.K H ι vx x → RD X.K H ι vy y → RelV vx u → RelV vy v → deq n x y = some b → SeqAt.EqAt A s u v b
/-- what stands there -/
inductive Sh (s : Shared) : Value → D → Prop
  | non : Sh s .none .non
  | bl (b : Bool) : Sh s (.bool b) (.bl b)
  | int (i : Int) (t : Tok) : Sh s (.int i t) (.int i)
  | str (x : Str) (t : Tok) : Sh s (.str x t) (.str x)
  | tup {a : Addr} {its : Array Value} {ds : List D} : s.heap.IsTuple a its → Sh s (.ref a) (.tup ds)
  | lst {a : Addr} {its : Array Value} {ds : List D} : s.heap.IsList a its → Sh s (.ref a) (.lst ds)
  | dic {a : Addr} {ks : List Key} {ds : List D} : IsD s a → Sh s (.ref a) (.dic ks ds)
theorem RDw.sh (I : Inv X pins σ H s) {v : V} {u : Value} {d : D} (h : RDw X.K H ι v d) (r : RelV v u) (hd : datB d = true) : Sh s u d := by
  rcases h with h | ⟨a, xs, ds, rfl, rfl, h1, h2⟩
  rotate_left
  · cases r
    obtain ⟨its, _, p, _⟩ := I.list h1
    exact .lst p.isList
  cases h with
  | non => cases r; exact .non
  | bl b => cases r; exact .bl b
  | int i => obtain ⟨t, rfl⟩ := r; exact .int i t
  | str x => obtain ⟨t, rfl⟩ := r; exact .str x t
  | tup g1 g2 => cases r; obtain ⟨its, _, p, _⟩ := I.tuple g1; exact .tup p
  | lst g1 g2 => cases r; obtain ⟨its, _, p⟩ := LF.isL I g1; exact .lst p
  | dic g1 _ _ => cases r; exact .dic (IsD.of I g1)
  | ref _ => cases hd
  | fn _ => cases hd
def unlike : D → D → Bool
  | .tup _, .tup _ => false
  | .lst _, .lst _ => false
  | .dic _ _, .dic _ _ => false
  | _, _ => true
theorem rc_unlike {A : Around} {u v : Value} {x y : D} (hu : A.units < cLine) (hx : Sh s u x) (hy : Sh s v y) (hn : unlike x y = true) : SeqAt.RcAt A s u v (eqS x y) := by
  cases hx with
  | non =>
    cases hy with
    | non => exact SeqAt.RcAt.none_none
    | bl b2 => exact SeqAt.RcAt.none_bool _
    | int i2 t2 => exact SeqAt.RcAt.none_int _ _
    | str z2 t2 => exact SeqAt.RcAt.none_str _ _
    | tup p2 => exact SeqAt.RcAt.none_tuple p2 hu
    | lst p2 => exact SeqAt.RcAt.none_list p2 hu
    | dic p2 => exact rc_Nd p2 hu
  | bl b =>
    cases hy with
    | non => exact SeqAt.RcAt.bool_none _
    | bl b2 => exact SeqAt.RcAt.bool_bool _ _
    | int i2 t2 => exact SeqAt.RcAt.bool_int _ _ _
    | str z2 t2 => exact SeqAt.RcAt.bool_str _ _ _
    | tup p2 => exact SeqAt.RcAt.bool_tuple _ p2 hu
    | lst p2 => exact SeqAt.RcAt.bool_list _ p2 hu
    | dic p2 => exact rc_Bd p2 hu _
  | int i t =>
    cases hy with
    | non => exact SeqAt.RcAt.int_none _ _
    | bl b2 => exact SeqAt.RcAt.int_bool _ _ _
    | int i2 t2 => exact SeqAt.RcAt.int_int _ _ _ _
    | str z2 t2 => exact SeqAt.RcAt.int_str _ _ _ _
    | tup p2 => exact SeqAt.RcAt.int_tuple _ _ p2 hu
    | lst p2 => exact SeqAt.RcAt.int_list _ _ p2 hu
    | dic p2 => exact rc_Id p2 hu _ _
  | str z t =>
    cases hy with
    | non => exact SeqAt.RcAt.str_none _ _
    | bl b2 => exact SeqAt.RcAt.str_bool _ _ _
    | int i2 t2 => exact SeqAt.RcAt.str_int _ _ _ _
    | str z2 t2 => exact SeqAt.RcAt.str_str _ _ _ _
    | tup p2 => exact SeqAt.RcAt.str_tuple _ _ p2 hu
    | lst p2 => exact SeqAt.RcAt.str_list _ _ p2 hu
    | dic p2 => exact rc_Sd p2 hu _ _
  | tup p =>
    cases hy with
    | non => exact SeqAt.RcAt.tuple_none p hu
    | bl b2 => exact SeqAt.RcAt.tuple_bool _ p hu
    | int i2 t2 => exact SeqAt.RcAt.tuple_int _ _ p hu
    | str z2 t2 => exact SeqAt.RcAt.tuple_str _ _ p hu
    | tup p2 => cases hn
    | lst p2 => exact SeqAt.RcAt.tuple_list p p2 hu
    | dic p2 => exact rc_Td p2 hu p
  | lst p =>
    cases hy with
    | non => exact SeqAt.RcAt.list_none p hu
    | bl b2 => exact SeqAt.RcAt.list_bool _ p hu
    | int i2 t2 => exact SeqAt.RcAt.list_int _ _ p hu
    | str z2 t2 => exact SeqAt.RcAt.list_str _ _ p hu
    | tup p2 => exact SeqAt.RcAt.list_tuple p p2 hu
    | lst p2 => cases hn
    | dic p2 => exact rc_Ld p2 hu p
  | dic p =>
    cases hy with
    | non => exact rc_dN p hu
    | bl b2 => exact rc_dB p hu _
    | int i2 t2 => exact rc_dI p hu _ _
    | str z2 t2 => exact rc_dS p hu _ _
    | tup p2 => exact rc_dT p hu p2
    | lst p2 => exact rc_dL p hu p2
    | dic p2 => cases hn
theorem rcN_unlike {A : Around} {u v : Value} {x y : D} (hu : A.units < cLine) (hx : Sh s u x) (hy : Sh s v y) (hn : unlike x y = true) (ho : neOk true x y = true) : SeqAt.RcNeAt A s u v (!eqS x y) := by
  cases hx with
  | non =>
    cases hy with
    | non => exact SeqAt.RcNeAt.none_none
    | bl b2 => exact SeqAt.RcNeAt.none_bool _
    | int i2 t2 => exact SeqAt.RcNeAt.none_int _ _
    | str z2 t2 => exact SeqAt.RcNeAt.none_str _ _
    | tup p2 => exact SeqAt.RcNeAt.none_tuple p2 hu
    | lst p2 => exact SeqAt.RcNeAt.none_list p2 hu
    | dic p2 => cases ho
  | bl b =>
    cases hy with
    | non => exact SeqAt.RcNeAt.bool_none _
    | bl b2 => exact SeqAt.RcNeAt.bool_bool _ _
    | int i2 t2 => exact SeqAt.RcNeAt.bool_int _ _ _
    | str z2 t2 => exact SeqAt.RcNeAt.bool_str _ _ _
    | tup p2 => exact SeqAt.RcNeAt.bool_tuple _ p2 hu
    | lst p2 => exact SeqAt.RcNeAt.bool_list _ p2 hu
    | dic p2 => cases ho
  | int i t =>
    cases hy with
    | non => exact SeqAt.RcNeAt.int_none _ _
    | bl b2 => exact SeqAt.RcNeAt.int_bool _ _ _
    | int i2 t2 => exact SeqAt.RcNeAt.int_int _ _ _ _
    | str z2 t2 => exact SeqAt.RcNeAt.int_str _ _ _ _
    | tup p2 => exact SeqAt.RcNeAt.int_tuple _ _ p2 hu
    | lst p2 => exact SeqAt.RcNeAt.int_list _ _ p2 hu
    | dic p2 => cases ho
  | str z t =>
    cases hy with
    | non => exact SeqAt.RcNeAt.str_none _ _
    | bl b2 => exact SeqAt.RcNeAt.str_bool _ _ _
    | int i2 t2 => exact SeqAt.RcNeAt.str_int _ _ _ _
    | str z2 t2 => exact SeqAt.RcNeAt.str_str _ _ _ _
    | tup p2 => exact SeqAt.RcNeAt.str_tuple _ _ p2 hu
    | lst p2 => exact SeqAt.RcNeAt.str_list _ _ p2 hu
    | dic p2 => cases ho
  | tup p =>
    cases hy with
    | non => exact SeqAt.RcNeAt.tuple_none p hu
    | bl b2 => exact SeqAt.RcNeAt.tuple_bool _ p hu
    | int i2 t2 => exact SeqAt.RcNeAt.tuple_int _ _ p hu
    | str z2 t2 => exact SeqAt.RcNeAt.tuple_str _ _ p hu
    | tup p2 => cases hn
    | lst p2 => exact SeqAt.RcNeAt.tuple_list p p2 hu
    | dic p2 => exact rcN_Td p2 hu p
  | lst p =>
    cases hy with
    | non => exact SeqAt.RcNeAt.list_none p hu
    | bl b2 => exact SeqAt.RcNeAt.list_bool _ p hu
    | int i2 t2 => exact SeqAt.RcNeAt.list_int _ _ p hu
    | str z2 t2 => exact SeqAt.RcNeAt.list_str _ _ p hu
    | tup p2 => exact SeqAt.RcNeAt.list_tuple p p2 hu
    | lst p2 => cases hn
    | dic p2 => cases ho
  | dic p =>
    cases hy with
    | non => cases ho
    | bl b2 => cases ho
    | int i2 t2 => cases ho
    | str z2 t2 => cases ho
    | tup p2 => exact rcN_dT p hu p2
    | lst p2 => cases ho
    | dic p2 => cases hn
theorem at_unlike {A : Around} {u v : Value} {x y : D} (hu : A.units < cLine) (hx : Sh s u x) (hy : Sh s v y) (hn : unlike x y = true) (hs : ¬ ∃ a c, u = .ref a ∧ v = .ref c) : SeqAt.EqAt A s u v (eqS x y) := by
  have hrc := rc_unlike hu hx hy hn
  cases hx with
  | non =>
    cases hy with
    | non => exact SeqAt.EqAt.same _
    | bl _ => exact eqB_none (by simp) hrc
    | int _ _ => exact eqB_none (by simp) hrc
    | str _ _ => exact eqB_none (by simp) hrc
    | tup _ => exact eqB_none (by simp) hrc
    | lst _ => exact eqB_none (by simp) hrc
    | dic _ => exact eqB_none (by simp) hrc
  | bl b =>
    cases hy with
    | non => exact eqB_bool _ (by simp) hrc
    | bl c => exact SeqAt.EqAt.bool_bool _ _
    | int _ _ => exact SeqAt.EqAt.bool_int _ _ _
    | str _ _ => exact eqB_bool _ (by simp) hrc
    | tup _ => exact eqB_bool _ (by simp) hrc
    | lst _ => exact eqB_bool _ (by simp) hrc
    | dic _ => exact eqB_bool _ (by simp) hrc
  | int i t =>
    cases hy with
    | non => exact eqB_int _ _ (by simp) hrc
    | bl c => exact SeqAt.EqAt.int_bool _ _ _
    | int _ _ => exact SeqAt.EqAt.int_int _ _ _ _
    | str _ _ => exact eqB_int _ _ (by simp) hrc
    | tup _ => exact eqB_int _ _ (by simp) hrc
    | lst _ => exact eqB_int _ _ (by simp) hrc
    | dic _ => exact eqB_int _ _ (by simp) hrc
  | str i t =>
    cases hy with
    | non => exact eqB_str _ _ (by simp) hrc
    | bl c => exact eqB_str _ _ (by simp) hrc
    | int _ _ => exact eqB_str _ _ (by simp) hrc
    | str _ _ => exact SeqAt.EqAt.str_str _ _ _ _
    | tup _ => exact eqB_str _ _ (by simp) hrc
    | lst _ => exact eqB_str _ _ (by simp) hrc
    | dic _ => exact eqB_str _ _ (by simp) hrc
  | tup _ =>
    cases hy with
    | non => exact eqB_ref _ (by simp) hrc
    | bl _ => exact eqB_ref _ (by simp) hrc
    | int _ _ => exact eqB_ref _ (by simp) hrc
    | str _ _ => exact eqB_ref _ (by simp) hrc
    | tup _ => exact (hs ⟨_, _, rfl, rfl⟩).elim
    | lst _ => exact (hs ⟨_, _, rfl, rfl⟩).elim
    | dic _ => exact (hs ⟨_, _, rfl, rfl⟩).elim
  | lst _ =>
    cases hy with
    | non => exact eqB_ref _ (by simp) hrc
    | bl _ => exact eqB_ref _ (by simp) hrc
    | int _ _ => exact eqB_ref _ (by simp) hrc
    | str _ _ => exact eqB_ref _ (by simp) hrc
    | tup _ => exact (hs ⟨_, _, rfl, rfl⟩).elim
    | lst _ => exact (hs ⟨_, _, rfl, rfl⟩).elim
    | dic _ => exact (hs ⟨_, _, rfl, rfl⟩).elim
  | dic _ =>
    cases hy with
    | non => exact eqB_ref _ (by simp) hrc
    | bl _ => exact eqB_ref _ (by simp) hrc
    | int _ _ => exact eqB_ref _ (by simp) hrc
    | str _ _ => exact eqB_ref _ (by simp) hrc
    | tup _ => exact (hs ⟨_, _, rfl, rfl⟩).elim
    | lst _ => exact (hs ⟨_, _, rfl, rfl⟩).elim
    | dic _ => exact (hs ⟨_, _, rfl, rfl⟩).elim
theorem deq_unlike {n : Nat} {x y : D} (h : unlike x y = true) : deq n x y = some (eqS x y) := by
  cases n <;> cases x <;> cases y <;> first | rfl | cases h
theorem at_of_rc (I : Inv X pins σ H s) {n : Nat} (rc : RcP X H ι s n) : AtP X H ι s n := by
  intro A x y b vx vy u v hu hx hy rx ry ru rv h
  by_cases hs : ∃ a c, u = .ref a ∧ v = .ref c
  · obtain ⟨a, c, rfl, rfl⟩ := hs
    by_cases hac : a = c
    · subst hac
      have : vx = vy := RelV.inj ru rv
      subst this
      have := RD.det I x y vx hx hy rx ry
      subst this
      rw [deq_same hx h]
      exact SeqAt.EqAt.same _
    · exact SeqAt.EqAt.of_refs hac ((rc A false x y b vx vy _ _ hu hx hy rfl (.inl rx) (.inl ry) ru rv h).1 rfl)
  · have sx := RDw.sh I (.inl rx) ru hx
    have sy := RDw.sh I (.inl ry) rv hy
    have hk : unlike x y = true := by
      cases sx <;> cases sy <;> first | rfl | exact (hs ⟨_, _, rfl, rfl⟩).elim
    rw [deq_unlike hk] at h
    cases h
    exact at_unlike (by omega) sx sy hk hs
theorem items_at (I : Inv X pins σ H s) {n : Nat} (ih : RcP X H ι s n) {A : Around} {xs ys : List D} {vs ws : List V} {us zs : List Value} {e : Nat → Bool} (hu : A.units + (n + 1) < cLine) (hx : datsB xs = true) (hy : datsB ys = true)
    (rx : RDs X.K H ι vs xs) (ry : RDs X.K H ι ws ys) (ru : Vals vs us) (rz : Vals ws zs) (he : ∀ j x y, xs[j]? = some x → ys[j]? = some y → deq n x y = some (e j)) :
    ∀ j (h1 : j < us.toArray.size) (h2 : j < zs.toArray.size), SeqAt.EqAt A.in1 s us.toArray[j] zs.toArray[j] (e j) := by
  intro j h1 h2
  have h1' : j < us.length := by simpa using h1
  have h2' : j < zs.length := by simpa using h2
  obtain ⟨v, d, g1, g2, g3⟩ := (rx.items ru).2 (List.getElem?_eq_getElem h1')
  obtain ⟨v', d', g4, g5, g6⟩ := (ry.items rz).2 (List.getElem?_eq_getElem h2')
  rw [datsB_all] at hx hy
  have := at_of_rc I ih A.in1 d d' (e j) v v' us[j] zs[j] (by show A.units + 1 + n < cLine; omega) (List.all_eq_true.mp hx d (List.mem_of_getElem? g1)) (List.all_eq_true.mp hy d' (List.mem_of_getElem? g4)) g3 g6 g2 g5 (he j d d' g1 g4)
  simpa using this
theorem deq_rc (I : Inv X pins σ H s) : ∀ n : Nat, RcP X H ι s n := by
  intro n
  induction n with
  | zero =>
    intro A neg x y b vx vy u v hu hx hy hn rx ry ru rv h
    by_cases hk : unlike x y = true
    · rw [deq_unlike hk] at h
      cases h
      exact ⟨fun e => rc_unlike (by omega) (rx.sh I ru hx) (ry.sh I rv hy) hk, fun e => by subst e; exact rcN_unlike (by omega) (rx.sh I ru hx) (ry.sh I rv hy) hk hn⟩
    · cases x <;> cases y <;> first | (exact (hk rfl).elim) | (cases h)
  | succ n ih =>
    intro A neg x y b vx vy u v hu hx hy hn rx ry ru rv h
    by_cases hk : unlike x y = true
    · rw [deq_unlike hk] at h
      cases h
      exact ⟨fun e => rc_unlike (by omega) (rx.sh I ru hx) (ry.sh I rv hy) hk, fun e => by subst e; exact rcN_unlike (by omega) (rx.sh I ru hx) (ry.sh I rv hy) hk hn⟩
    · cases x with
      | tup xs =>
        cases y with
        | tup ys =>
          obtain ⟨c, h1, h2⟩ := Option.map_eq_some_iff.mp (show (zipF (deq n) xs ys).map (fun b => b && xs.length == ys.length) = some b from h)
          subst h2
          obtain ⟨e, he, hc⟩ := zipF_at h1
          subst hc
          obtain ⟨_, _, rfl, g1, g2⟩ := rx.tup
          obtain ⟨_, _, rfl, g3, g4⟩ := ry.tup
          cases ru; cases rv
          obtain ⟨its, r1, p1, _⟩ := I.tuple g1
          obtain ⟨its', r2, p2, _⟩ := I.tuple g3
          have hit := items_at I ih (A := A) hu (by simpa [datB] using hx) (by simpa [datB] using hy) g2 g4 r1 r2 he
          have l1 : its.toArray.size = xs.length := by rw [← g2.length, r1.length]; simp
          have l2 : its'.toArray.size = ys.length := by rw [← g4.length, r2.length]; simp
          have q1 := SeqAt.RcAt.tuples (A := A) p1 p2 (by omega) hit
          have q2 := SeqAt.RcNeAt.tuples (A := A) p1 p2 (by omega) hit
          rw [l1, l2] at q1 q2
          exact ⟨fun _ => q1, fun _ => q2⟩
        | _ => exact (hk rfl).elim
      | lst xs =>
        cases y with
        | lst ys =>
          have h' : (if xs.length = ys.length then zipF (deq n) xs ys else some false) = some b := h
          obtain ⟨_, _, rfl, g1, g2⟩ := rx.lst
          obtain ⟨_, _, rfl, g3, g4⟩ := ry.lst
          cases ru; cases rv
          obtain ⟨its, r1, p1, _⟩ := I.list g1
          obtain ⟨its', r2, p2, _⟩ := I.list g3
          replace p1 := p1.isList
          replace p2 := p2.isList
          have l1 : its.toArray.size = xs.length := by rw [← g2.length, r1.length]; simp
          have l2 : its'.toArray.size = ys.length := by rw [← g4.length, r2.length]; simp
          split at h'
          · rename_i hl
            obtain ⟨e, he, hc⟩ := zipF_at h'
            subst hc
            have hit := items_at I ih (A := A) hu (by simpa [datB] using hx) (by simpa [datB] using hy) g2 g4 r1 r2 he
            have q1 := SeqAt.RcAt.lists (A := A) p1 p2 (by omega) (by omega) hit
            have q2 := SeqAt.RcNeAt.lists (A := A) p1 p2 (by omega) (by omega) hit
            have : min xs.length ys.length = its.toArray.size := by omega
            rw [this]
            exact ⟨fun _ => q1, fun _ => q2⟩
          · rename_i hl
            cases h'
            exact ⟨fun _ => SeqAt.RcAt.lists_lengths p1 p2 (by simp at l1 l2 ⊢; omega) (by omega), fun _ => SeqAt.RcNeAt.lists_lengths p1 p2 (by simp at l1 l2 ⊢; omega) (by omega)⟩
        | _ => exact (hk rfl).elim
      | dic ks ds =>
        cases y with
        | dic _ _ => cases h
        | _ => exact (hk rfl).elim
      | _ => cases y <;> exact (hk rfl).elim
end
end G

set_option Elab.async false
set_option linter.all false
set_option maxRecDepth 1000000
set_option maxHeartbeats 2000000
/-! G7: operators. -/
namespace G
variable [Wld]
open PySem PySem.Spec PyProof.Rows L2

/-- what a result is as data: an object by what it holds -/
def dat (r : R) (e : En) (S : Sto) : Option D := match r with
  | .d (.ref n) => match S[n]? with
    | some (.lst ds) => some (.lst ds)
    | _ => none
  | .d x => some x
  | r => match look r e S with
    | some (.lst ds) => some (.lst ds)
    | _ => none
theorem Rel.datW {K : PySem.W.Frag} {H : Hp} {ι : List Addr} {σ : SV} {e : En} {S : Sto} {v : V} {r : R} {d : D} (R : Rel K H ι σ e S) (hr : RR K H ι σ e v r) (h : dat r e S = some d) : RDw K H ι v d := by
  have viaL : ∀ {ds : List D}, G.look r e S = some (.lst ds) → d = .lst ds → RDw K H ι v d := fun {ds} hl hd => by
    subst hd
    obtain ⟨a, xs, rfl, h1, h2⟩ := R.lookL hr hl
    exact .inr ⟨a, xs, ds, rfl, rfl, h1, h2⟩
  unfold G.dat at h
  split at h
  · split at h
    · cases h
      exact viaL (by assumption) rfl
    · cases h
  · cases h
    exact .inl hr
  · split at h
    · cases h
      exact viaL (by assumption) rfl
    · cases h

def toV : D → V
  | .non => .non
  | .bl b => .bl b
  | .int i => .int i
  | .str x => .str x
  | _ => .non
theorem RD.flat {K : PySem.W.Frag} {H : Hp} {ι : List Addr} {v : V} {d : D} (h : RD K H ι v d) (f : flat d = true) : v = toV d ∧ flatV v = true := by
  cases h <;> first | exact ⟨rfl, rfl⟩ | (cases f; done)
theorem RDs.flat {K : PySem.W.Frag} {H : Hp} {ι : List Addr} : ∀ {vs : List V} {ds : List D}, RDs K H ι vs ds → ds.all G.flat = true → vs = ds.map toV ∧ vs.all flatV = true
  | _, [], .nil, _ => ⟨rfl, rfl⟩
  | _, d :: ds, .cons h1 h2, f => by
    rw [List.all_cons, Bool.and_eq_true] at f
    obtain ⟨a, b⟩ := h1.flat f.1
    obtain ⟨c, e⟩ := RDs.flat h2 f.2
    subst a
    exact ⟨by rw [List.map_cons, ← c], by rw [List.all_cons, b, e]; rfl⟩
theorem eqV_toV {x y : D} (fx : flat x = true) (fy : flat y = true) : eqV (toV x) (toV y) = eqS x y := by
  cases x <;> cases y <;> first | rfl | (cases fx; done) | (cases fy; done)
/-! ### == -/
def gEq (neg : Bool) (rx ry : R) : M R := fun e S => match dat rx e S, dat ry e S with
  | some x, some y => if datB x && datB y && neOk neg x y then (deq 60 x y).map fun b => (.d (.bl (b != neg)), e, S) else none
  | _, _ => none
section
variable {X : Cx}
theorem gEq_read {neg : Bool} {K : PySem.W.Frag} {x y : V} {H : Hp} {Q : VK} (q : tO2 K (gEq neg) x y H Q) :
    ∃ ι dx dy b, RDw K H ι x dx ∧ RDw K H ι y dy ∧ datB dx = true ∧ datB dy = true ∧ neOk neg dx dy = true ∧ deq 60 dx dy = some b ∧ Q (.bl (b != neg)) H := by
  obtain ⟨ι, σ, e, S, rx, ry, r, e', S', R, hx, hy, hm, q⟩ := q
  unfold gEq at hm
  split at hm
  · rename_i dx dy h1 h2
    split at hm
    · rename_i hc
      obtain ⟨b, hb, hz⟩ := Option.map_eq_some_iff.mp hm
      cases hz
      simp only [Bool.and_eq_true] at hc
      exact ⟨ι, dx, dy, b, R.datW hx h1, R.datW hy h2, hc.1.1, hc.1.2, hc.2, hb, q _ H ι R .refl (.bl _) trivial⟩
    · cases hm
  · cases hm
theorem gop_eq (hu : X.A.units + 64 < cLine) : OpR X (compareOp .Eq) (tO2 X.K (gEq false)) := fun pins s σ H x y v u Q I rx ry q => by
  obtain ⟨ι, dx, dy, b, h1, h2, h3, h4, h5, h6, h7⟩ := gEq_read q
  exact (deq_rc I 60 X.A false dx dy b x y v u (by omega) h3 h4 h5 h1 h2 rx ry h6).1 rfl X.prog X.w _ _ ⟨.bl _, H, I, rfl, by simpa using h7⟩
theorem gop_ne (hu : X.A.units + 64 < cLine) : OpR X (compareOp .NotEq) (tO2 X.K (gEq true)) := fun pins s σ H x y v u Q I rx ry q => by
  obtain ⟨ι, dx, dy, b, h1, h2, h3, h4, h5, h6, h7⟩ := gEq_read q
  exact (deq_rc I 60 X.A true dx dy b x y v u (by omega) h3 h4 h5 h1 h2 rx ry h6).2 rfl X.prog X.w _ _ ⟨.bl _, H, I, rfl, by simpa using h7⟩

/-! ### arithmetic, order, of data -/
/-- an operator on two data, none of them changed, the result data that needs no place -/
def gP (g : D → D → Option D) (rx ry : R) : M R := fun e S => match rx, ry with
  | .d x, .d y => (g x y).map fun d => (.d d, e, S)
  | _, _ => none
theorem gP_of {f : Value → Value → Sem Value} {r : R2} {g : D → D → Option D} (h : OpR X f r) (w : ∀ H ι x y dx dy d (Q : VK), RD X.K H ι x dx → RD X.K H ι y dy → g dx dy = some d → (∀ v, RD X.K H ι v d → Q v H) → r x y H Q) : OpR X f (tO2 X.K (gP g)) :=
  OpR.imp h fun x y H Q q => by
    obtain ⟨ι, σ, e, S, rx, ry, r, e', S', R, hx, hy, hm, q⟩ := q
    unfold gP at hm
    split at hm
    · obtain ⟨d, hd, hz⟩ := Option.map_eq_some_iff.mp hm
      cases hz
      exact w H ι x y _ _ d Q hx hy hd fun v rv => q v H ι R .refl rv trivial
    · cases hm
def dSub : D → D → Option D
  | .int i, .int j => some (.int (i - j))
  | .bl a, .int j => some (.int ((if a = true then 1 else 0) - j))
  | .int i, .bl b => some (.int (i - if b = true then 1 else 0))
  | _, _ => none
theorem op_subBI : OpR X (binaryOp .Sub) (fun x y H Q => ∃ a j, x = .bl a ∧ y = .int j ∧ Q (.int ((if a = true then 1 else 0) - j)) H) := fun pins s σ H x y v u Q I rx ry q => by
  obtain ⟨a, j, rfl, rfl, q⟩ := q
  obtain rfl : v = Value.bool a := rx
  obtain ⟨t, rfl⟩ := ry
  exact PySem.IntBool.sub_bool_int ⟨.int _, H, I.tok _, ⟨_, rfl⟩, q⟩
theorem op_subIB : OpR X (binaryOp .Sub) (fun x y H Q => ∃ i b, x = .int i ∧ y = .bl b ∧ Q (.int (i - if b = true then 1 else 0)) H) := fun pins s σ H x y v u Q I rx ry q => by
  obtain ⟨i, b, rfl, rfl, q⟩ := q
  obtain ⟨t, rfl⟩ := rx
  obtain rfl : u = Value.bool b := ry
  exact PySem.IntBool.sub_int_bool ⟨.int _, H, I.tok _, ⟨_, rfl⟩, q⟩
theorem op_addBI : OpR X (binaryOp .Add) (fun x y H Q => ∃ a j, x = .bl a ∧ y = .int j ∧ Q (.int ((if a = true then 1 else 0) + j)) H) := fun pins s σ H x y v u Q I rx ry q => by
  obtain ⟨a, j, rfl, rfl, q⟩ := q
  obtain rfl : v = Value.bool a := rx
  obtain ⟨t, rfl⟩ := ry
  exact PySem.IntBool.add_bool_int ⟨.int _, H, I.tok _, ⟨_, rfl⟩, q⟩
theorem gop_sub : OpR X (binaryOp .Sub) (tO2 X.K (gP dSub)) := gP_of (OpR.or op_sub (OpR.or op_subBI op_subIB)) fun H ι x y dx dy d Q hx hy hd q => by
  unfold dSub at hd
  split at hd <;> cases hd <;> cases hx <;> cases hy
  · exact .inl ⟨_, _, rfl, rfl, q _ (.int _)⟩
  · exact .inr (.inl ⟨_, _, rfl, rfl, q _ (.int _)⟩)
  · exact .inr (.inr ⟨_, _, rfl, rfl, q _ (.int _)⟩)
def dMod : D → D → Option D
  | .int i, .int j => if 0 < j then some (.int (i % j)) else none
  | _, _ => none
theorem gop_mod : OpR X (binaryOp .Mod) (tO2 X.K (gP dMod)) := gP_of op_mod fun H ι x y dx dy d Q hx hy hd q => by
  unfold dMod at hd
  split at hd
  · split at hd <;> cases hd
    cases hx; cases hy
    exact ⟨_, _, rfl, rfl, by assumption, q _ (.int _)⟩
  · cases hd
def dDiv : D → D → Option D
  | .int i, .int j => if 0 < j ∧ j < 1073741824 then some (.int (i / j)) else none
  | _, _ => none
theorem gop_div : OpR X (binaryOp .FloorDiv) (tO2 X.K (gP dDiv)) := gP_of op_fdiv fun H ι x y dx dy d Q hx hy hd q => by
  unfold dDiv at hd
  split at hd
  · split at hd <;> cases hd
    cases hx; cases hy
    exact ⟨_, _, rfl, rfl, by assumption, q _ (.int _)⟩
  · cases hd
def dPow : D → D → Option D
  | .int i, .int j => if 0 ≤ j ∧ j ≤ 1000 ∧ i.natAbs < 1000 then some (.int (i ^ j.toNat)) else none
  | _, _ => none
theorem gop_pow : OpR X (binaryOp .Pow) (tO2 X.K (gP dPow)) := gP_of op_pow fun H ι x y dx dy d Q hx hy hd q => by
  unfold dPow at hd
  split at hd
  · split at hd <;> cases hd
    rename_i h
    cases hx; cases hy
    exact ⟨_, _, rfl, rfl, ⟨h.1, by omega, Nat.lt_of_lt_of_le h.2.2 (by decide)⟩, q _ (.int _)⟩
  · cases hd
def small (i : Int) : Bool := decide (-(2 ^ 64) < i) && decide (i < 2 ^ 64)
def dMul : D → D → Option D
  | .int i, .int j => if small i || small j then some (.int (i * j)) else none
  | _, _ => none
theorem gop_mulI : OpR X (binaryOp .Mult) (tO2 X.K (gP dMul)) := gP_of op_mul fun H ι x y dx dy d Q hx hy hd q => by
  unfold dMul at hd
  split at hd
  · split at hd <;> cases hd
    rename_i h
    cases hx; cases hy
    refine ⟨_, _, rfl, rfl, ?_, q _ (.int _)⟩
    unfold small at h
    simp only [Bool.or_eq_true, Bool.and_eq_true, decide_eq_true_eq] at h
    exact h
  · cases hd
/-- order of numbers, of texts -/
def dLt : D → D → Option D
  | .int i, .int j => some (.bl (decide (i < j)))
  | .str i, .str j => some (.bl (decide (i.cps.toList < j.cps.toList)))
  | _, _ => none
def dLe : D → D → Option D
  | .int i, .int j => some (.bl (decide (i ≤ j)))
  | .str i, .str j => some (.bl (!decide (j.cps.toList < i.cps.toList)))
  | _, _ => none
theorem gop_lt : OpR X (compareOp .Lt) (tO2 X.K (gP dLt)) := gP_of (OpR.or op_lt op_lt_str) fun H ι x y dx dy d Q hx hy hd q => by
  unfold dLt at hd
  split at hd <;> cases hd <;> cases hx <;> cases hy
  · exact .inl ⟨_, _, rfl, rfl, q _ (.bl _)⟩
  · exact .inr ⟨_, _, rfl, rfl, q _ (.bl _)⟩
theorem gop_le : OpR X (compareOp .LtE) (tO2 X.K (gP dLe)) := gP_of (OpR.or op_le op_le_str) fun H ι x y dx dy d Q hx hy hd q => by
  unfold dLe at hd
  split at hd <;> cases hd <;> cases hx <;> cases hy
  · exact .inl ⟨_, _, rfl, rfl, q _ (.bl _)⟩
  · exact .inr ⟨_, _, rfl, rfl, q _ (.bl _)⟩
theorem gop_gt : OpR X (compareOp .Gt) (tO2 X.K (gP fun x y => dLt y x)) := gP_of (OpR.or op_gt op_gt_str) fun H ι x y dx dy d Q hx hy hd q => by
  unfold dLt at hd
  split at hd <;> cases hd <;> cases hx <;> cases hy
  · exact .inl ⟨_, _, rfl, rfl, q _ (.bl _)⟩
  · exact .inr ⟨_, _, rfl, rfl, q _ (.bl _)⟩
theorem gop_ge : OpR X (compareOp .GtE) (tO2 X.K (gP fun x y => dLe y x)) := gP_of (OpR.or op_ge op_ge_str) fun H ι x y dx dy d Q hx hy hd q => by
  unfold dLe at hd
  split at hd <;> cases hd <;> cases hx <;> cases hy
  · exact .inl ⟨_, _, rfl, rfl, q _ (.bl _)⟩
  · exact .inr ⟨_, _, rfl, rfl, q _ (.bl _)⟩

/-! ### is -/
def isNon : D → Bool
  | .non => true
  | _ => false
def gIsN (neg : Bool) (rx ry : R) : M R := fun e S => match rx, ry with
  | .d x, .d .non => some (.d (.bl (isNon x != neg)), e, S)
  | _, _ => none
theorem gIsN_read {neg : Bool} {K : PySem.W.Frag} {x y : V} {H : Hp} {Q : VK} (q : tO2 K (gIsN neg) x y H Q) : y = .non ∧ Q (.bl (decide (x = .non) != neg)) H := by
  obtain ⟨ι, σ, e, S, rx, ry, r, e', S', R, hx, hy, hm, q⟩ := q
  unfold gIsN at hm
  split at hm
  · cases hm
    rename_i _ _ dx
    cases hy
    refine ⟨rfl, ?_⟩
    have fin := q (.bl (isNon dx != neg)) H ι R .refl (.bl _) trivial
    have e : decide (x = V.non) = isNon dx := by
      have hx' : RD K H ι x dx := hx
      cases hx' <;> simp [isNon]
    rw [e]
    exact fin
  · cases hm
theorem gop_isN : OpR X (compareOp .Is) (tO2 X.K (gIsN false)) := OpR.imp op_isN fun x y H Q q => by
  obtain ⟨h1, h2⟩ := gIsN_read q
  exact ⟨h1, by simpa using h2⟩
theorem gop_notN : OpR X (compareOp .IsNot) (tO2 X.K (gIsN true)) := OpR.imp op_notN fun x y H Q q => by
  obtain ⟨h1, h2⟩ := gIsN_read q
  exact ⟨h1, by simpa using h2⟩
def dIsB (neg : Bool) : D → D → Option D
  | .bl a, .bl b => some (.bl (decide (a = b) != neg))
  | _, _ => none
theorem gop_isB : OpR X (compareOp .Is) (tO2 X.K (gP (dIsB false))) := gP_of op_isBl fun H ι x y dx dy d Q hx hy hd q => by
  unfold dIsB at hd
  split at hd <;> cases hd <;> cases hx <;> cases hy
  exact ⟨_, _, rfl, rfl, by simpa using q _ (.bl _)⟩
theorem gop_notB : OpR X (compareOp .IsNot) (tO2 X.K (gP (dIsB true))) := gP_of op_notBl fun H ι x y dx dy d Q hx hy hd q => by
  unfold dIsB at hd
  split at hd <;> cases hd <;> cases hx <;> cases hy
  exact ⟨_, _, rfl, rfl, by simpa using q _ (.bl _)⟩

/-! ### in -/
/-- the items of a sequence -/
def seqOf (r : R) (e : En) (S : Sto) : Option (List D) := match r with
  | .d (.tup ds) => some ds
  | r => match look r e S with
    | some (.lst ds) => some ds
    | _ => none
theorem Rel.seq {K : PySem.W.Frag} {H : Hp} {ι : List Addr} {σ : SV} {e : En} {S : Sto} {v : V} {r : R} {ds : List D} (R : Rel K H ι σ e S) (hr : RR K H ι σ e v r) (h : seqOf r e S = some ds) : ∃ a xs, v = .ref a ∧ (SqL K H a xs ∨ SqT K H a xs) ∧ RDs K H ι xs ds := by
  unfold seqOf at h
  split at h
  · cases h
    cases hr with | tup h1 h2 => exact ⟨_, _, rfl, .inr h1, h2⟩
  · split at h
    · cases h
      obtain ⟨a, xs, e1, h1, h2⟩ := R.lookL hr (by assumption)
      exact ⟨a, xs, e1, .inl h1, h2⟩
    · cases h
/-- x in ds: what each item tells -/
def inF (x : D) : List D → Option Bool
  | [] => some false
  | y :: ys => match deq 59 y x, inF x ys with
    | some a, some b => some (a || b)
    | _, _ => none
def gIn (neg : Bool) (rx ry : R) : M R := fun e S => match rx, ry with
  | .d (.str x), .d (.str z) => (match x.cps.toList with
    | [c] => some (.d (.bl (decide (c ∈ z.cps.toList) != neg)), e, S)
    | _ => none)
  | .d x, ry => (match seqOf ry e S with
    | some ds => if datB x && datsB ds then (inF x ds).map fun b => (.d (.bl (b != neg)), e, S) else none
    | none => none)
  | _, _ => none
theorem gIn_read {neg : Bool} {K : PySem.W.Frag} {x y : V} {H : Hp} {Q : VK} (q : tO2 K (gIn neg) x y H Q) :
    (∃ (c : Nat) (z : Str), x = .str ⟨#[c]⟩ ∧ y = .str z ∧ Q (.bl (decide (c ∈ z.cps.toList) != neg)) H) ∨ (∃ ι p xs d ds b, y = .ref p ∧ (SqL K H p xs ∨ SqT K H p xs) ∧ RD K H ι x d ∧ RDs K H ι xs ds ∧ datB d = true ∧ datsB ds = true ∧ inF d ds = some b ∧ Q (.bl (b != neg)) H) := by
  obtain ⟨ι, σ, e, S, rx, ry, r, e', S', R, hx, hy, hm, q⟩ := q
  unfold gIn at hm
  split at hm
  · split at hm
    · cases hm
      rename_i sx sz _ c hc
      cases hx; cases hy
      refine .inl ⟨c, sz, ?_, rfl, q _ H ι R .refl (.bl _) trivial⟩
      obtain ⟨⟨l⟩⟩ := sx
      simp at hc
      subst hc
      rfl
    · cases hm
  · split at hm
    · rename_i ds hds
      split at hm
      · rename_i hf
        obtain ⟨b, hb, hz⟩ := Option.map_eq_some_iff.mp hm
        cases hz
        rw [Bool.and_eq_true] at hf
        obtain ⟨a, xs, rfl, h1, h2⟩ := R.seq hy hds
        exact .inr ⟨ι, a, xs, _, ds, b, rfl, h1, hx, h2, hf.1, hf.2, hb, q _ H ι R .refl (.bl _) trivial⟩
      · cases hm
    · cases hm
  · cases hm
theorem inF_at {x : D} : ∀ {ds : List D} {b : Bool}, inF x ds = some b → (∀ d ∈ ds, ∃ a, deq 59 d x = some a) ∧ b = ds.any fun d => deq 59 d x == some true
  | [], b, h => by cases h; simp
  | d :: ds, b, h => by
    unfold inF at h
    split at h
    · rename_i a c h1 h2
      cases h
      obtain ⟨g1, g2⟩ := inF_at h2
      refine ⟨fun y hy => ?_, ?_⟩
      · rcases List.mem_cons.mp hy with rfl | hy
        · exact ⟨_, h1⟩
        · exact g1 y hy
      · rw [List.any_cons, h1, g2]
        cases a <;> rfl
    · cases h
open Classical in
/-- the item's data, told by the value alone -/
theorem in_go {pins : List (Addr × PySem.Obj)} {σ : SV} {H : Hp} {s : Shared} {ι : List Addr} {vx : V} {v : Value} {x : D} {xs : List V} {ds : List D} {its : List Value} {b : Bool} (I : Inv X pins σ H s) (hu : X.A.units + 64 < cLine) (hx : datB x = true) (hd : datsB ds = true)
    (rx : RD X.K H ι vx x) (rv : RelV vx v) (rd : RDs X.K H ι xs ds) (r : Vals xs its) (h : inF x ds = some b) : ∃ e : Value → Bool, (∀ y, y ∈ its → SeqAt.EqAt X.A.in1 s y v (e y)) ∧ its.any e = b := by
  obtain ⟨h1, h2⟩ := inF_at h
  rw [datsB_all] at hd
  have at' : ∀ (j : Nat) (y : Value), its[j]? = some y → ∃ vy d, ds[j]? = some d ∧ RelV vy y ∧ RD X.K H ι vy d := fun j y e => (rd.items r).2 e
  have one : ∀ (i j : Nat) (y : Value) (d d' : D), its[i]? = some y → its[j]? = some y → ds[i]? = some d → ds[j]? = some d' → d = d' := fun i j y d d' e1 e2 e3 e4 => by
    obtain ⟨v1, d1, q1, q2, q3⟩ := at' i y e1
    obtain ⟨v2, d2, q4, q5, q6⟩ := at' j y e2
    rw [e3] at q1; cases q1
    rw [e4] at q4; cases q4
    have := RelV.inj q2 q5
    subst this
    exact RD.det I d d' v1 (List.all_eq_true.mp hd d (List.mem_of_getElem? e3)) (List.all_eq_true.mp hd d' (List.mem_of_getElem? e4)) q3 q6
  refine ⟨fun y => decide (∃ (j : Nat) (d : D), its[j]? = some y ∧ ds[j]? = some d ∧ deq 59 d x = some true), fun y hy => ?_, ?_⟩
  · obtain ⟨j, hj⟩ := List.getElem?_of_mem hy
    obtain ⟨vy, d, q1, q2, q3⟩ := at' j y hj
    obtain ⟨a, ha⟩ := h1 d (List.mem_of_getElem? q1)
    have e : decide (∃ (j : Nat) (d : D), its[j]? = some y ∧ ds[j]? = some d ∧ deq 59 d x = some true) = a := by
      cases a with
      | true => exact decide_eq_true ⟨j, d, hj, q1, ha⟩
      | false =>
        refine decide_eq_false ?_
        rintro ⟨i, d', e1, e2, e3⟩
        rw [one i j y d' d e1 hj e2 q1, ha] at e3
        cases e3
    show SeqAt.EqAt X.A.in1 s y v (decide _)
    rw [e]
    exact at_of_rc I (deq_rc I 59) X.A.in1 d x a vy vx y v (by show X.A.units + 1 + 59 < cLine; omega) (List.all_eq_true.mp hd d (List.mem_of_getElem? q1)) hx q3 rx q2 rv ha
  · rw [h2, Bool.eq_iff_iff, List.any_eq_true, List.any_eq_true]
    constructor
    · rintro ⟨y, hy, hd'⟩
      obtain ⟨j, d, e1, e2, e3⟩ := of_decide_eq_true hd'
      exact ⟨d, List.mem_of_getElem? e2, by rw [e3]; rfl⟩
    · rintro ⟨d, hd1, hd2⟩
      obtain ⟨j, hj⟩ := List.getElem?_of_mem hd1
      have hl := (List.getElem?_eq_some_iff.mp hj).1
      have hl' : j < its.length := by rw [(rd.items r).1]; exact hl
      exact ⟨its[j], List.getElem_mem hl', decide_eq_true ⟨j, d, List.getElem?_eq_getElem hl', hj, by simpa using hd2⟩⟩
theorem gop_inQ (hu : X.A.units + 64 < cLine) : OpR X (compareOp .In) (fun x y H Q => ∃ ι p xs d ds b, y = .ref p ∧ (SqL X.K H p xs ∨ SqT X.K H p xs) ∧ RD X.K H ι x d ∧ RDs X.K H ι xs ds ∧ datB d = true ∧ datsB ds = true ∧ inF d ds = some b ∧ Q (.bl b) H) := fun pins s σ H x y v u Q I rx ry q => by
  obtain ⟨ι, p, xs, d, ds, b, rfl, hs, h1, h2, h3, h4, h5, h6⟩ := q
  cases ry
  rcases hs with hs | hs
  · obtain ⟨its, r, pl, _⟩ := I.list hs
    obtain ⟨e, g1, g2⟩ := in_go I hu h3 h4 h1 rx h2 r h5
    exact SeqAt.in_listAt e pl.isList (fun w hw => g1 w (by simpa using hw)) ⟨.bl _, H, I, rfl, by simpa [g2] using h6⟩
  · obtain ⟨its, r, pl, _⟩ := I.tuple hs
    obtain ⟨e, g1, g2⟩ := in_go I hu h3 h4 h1 rx h2 r h5
    exact SeqAt.in_tupleAt e pl (fun w hw => g1 w (by simpa using hw)) ⟨.bl _, H, I, rfl, by simpa [g2] using h6⟩
theorem gop_notInQ (hu : X.A.units + 64 < cLine) : OpR X (compareOp .NotIn) (fun x y H Q => ∃ ι p xs d ds b, y = .ref p ∧ (SqL X.K H p xs ∨ SqT X.K H p xs) ∧ RD X.K H ι x d ∧ RDs X.K H ι xs ds ∧ datB d = true ∧ datsB ds = true ∧ inF d ds = some b ∧ Q (.bl (!b)) H) := fun pins s σ H x y v u Q I rx ry q => by
  obtain ⟨ι, p, xs, d, ds, b, rfl, hs, h1, h2, h3, h4, h5, h6⟩ := q
  cases ry
  rcases hs with hs | hs
  · obtain ⟨its, r, pl, _⟩ := I.list hs
    obtain ⟨e, g1, g2⟩ := in_go I hu h3 h4 h1 rx h2 r h5
    exact SeqAt.notIn_listAt e pl.isList (fun w hw => g1 w (by simpa using hw)) ⟨.bl _, H, I, rfl, by simpa [g2] using h6⟩
  · obtain ⟨its, r, pl, _⟩ := I.tuple hs
    obtain ⟨e, g1, g2⟩ := in_go I hu h3 h4 h1 rx h2 r h5
    exact SeqAt.notIn_tupleAt e pl (fun w hw => g1 w (by simpa using hw)) ⟨.bl _, H, I, rfl, by simpa [g2] using h6⟩
theorem gop_in (hu : X.A.units + 64 < cLine) : OpR X (compareOp .In) (tO2 X.K (gIn false)) := OpR.imp (OpR.or op_in_sign (gop_inQ hu)) fun x y H Q q => by
  rcases gIn_read q with ⟨c, z, h1, h2, h3⟩ | ⟨ι, p, xs, d, ds, b, h1, h2, h3, h4, h5, h6, h7, h8⟩
  · exact .inl ⟨c, z, h1, h2, by simpa using h3⟩
  · exact .inr ⟨ι, p, xs, d, ds, b, h1, h2, h3, h4, h5, h6, h7, by simpa using h8⟩
theorem gop_notIn (hu : X.A.units + 64 < cLine) : OpR X (compareOp .NotIn) (tO2 X.K (gIn true)) := OpR.imp (OpR.or op_notIn_sign (gop_notInQ hu)) fun x y H Q q => by
  rcases gIn_read q with ⟨c, z, h1, h2, h3⟩ | ⟨ι, p, xs, d, ds, b, h1, h2, h3, h4, h5, h6, h7, h8⟩
  · exact .inl ⟨c, z, h1, h2, by simpa using h3⟩
  · exact .inr ⟨ι, p, xs, d, ds, b, h1, h2, h3, h4, h5, h6, h7, by simpa using h8⟩

/-! ### + -/
def notLst : R → Bool
  | .d (.lst _) => false
  | _ => true
def gAdd (rx ry : R) : M R := fun e S => match rx, ry with
  | .d (.int i), .d (.int j) => some (.d (.int (i + j)), e, S)
  | .d (.bl a), .d (.int j) => some (.d (.int ((if a = true then 1 else 0) + j)), e, S)
  | .d (.str x), .d (.str y) => if x.length + y.length ≤ 1000000 then some (.d (.str (x ++ y)), e, S) else none
  | .d (.tup xs), .d (.tup ys) => if xs.length + ys.length ≤ 1000000 then some (.d (.tup (xs ++ ys)), e, S) else none
  | rx, ry => (match look rx e S, look ry e S with
    | some (.lst xs), some (.lst ys) => if notLst rx && notLst ry && decide (xs.length + ys.length ≤ 1000000) then some (.new (.lst (xs ++ ys)), e, S) else none
    | _, _ => none)
theorem line_ge : 1000000 ≤ sizeLine := by rw [sizeLine_eq]; decide
theorem Rel.lookM {K : PySem.W.Frag} {H : Hp} {ι : List Addr} {σ : SV} {e : En} {S : Sto} {v : V} {r : R} {ds : List D} (R : Rel K H ι σ e S) (hr : RR K H ι σ e v r) (h : G.look r e S = some (.lst ds)) (hn : ∀ es, r ≠ .d (.lst es)) : ∃ a xs, v = .ref a ∧ H a = some (.lst xs) ∧ RDs K H ι xs ds := by
  cases r with
  | d x =>
    have hr' : RD K H ι v x := hr
    cases hr' with
    | lst _ _ => exact (hn _ rfl).elim
    | ref hi =>
      have h' : S[_]? = some _ := h
      obtain ⟨xs, h4, h5⟩ := R.st _ _ _ h' hi
      exact ⟨_, xs, rfl, h4, h5⟩
    | _ => cases h
  | new o => obtain ⟨a, rfl, ro, _⟩ := hr; cases h; obtain ⟨xs, h4, h5⟩ := ro; exact ⟨a, xs, rfl, h4, h5⟩
  | brw o => obtain ⟨a, rfl, ro, _⟩ := hr; cases h; obtain ⟨xs, h4, h5⟩ := ro; exact ⟨a, xs, rfl, h4, h5⟩
  | loc i =>
    have h' : (match e[i]? with
      | some (some (.own o)) => some o
      | _ => none) = some (O.lst ds) := h
    split at h'
    · cases h'
      rename_i he
      obtain ⟨w, hw, a, rfl, ro⟩ := R.sl _ _ he
      have hr' : σ[i]? = some (some v) := hr
      rw [hr'] at hw; cases hw
      obtain ⟨xs, h4, h5⟩ := ro
      exact ⟨a, xs, rfl, h4, h5⟩
    · cases h'
theorem gop_add : OpR X (binaryOp .Add) (tO2 X.K gAdd) := OpR.imp (OpR.or op_addBI (OpR.or (OpR.or op_add op_add_str) (OpR.or op_catA op_cat))) fun x y H Q q => by
  obtain ⟨ι, σ, e, S, rx, ry, r, e', S', R, hx, hy, hm, q⟩ := q
  unfold gAdd at hm
  split at hm
  · cases hm
    cases hx; cases hy
    exact .inr (.inl (.inl ⟨_, _, rfl, rfl, q _ H ι R .refl (.int _) trivial⟩))
  · cases hm
    cases hx; cases hy
    exact .inl ⟨_, _, rfl, rfl, q _ H ι R .refl (.int _) trivial⟩
  · split at hm
    · cases hm
      cases hx; cases hy
      exact .inr (.inl (.inr ⟨_, _, rfl, rfl, Nat.le_trans (by assumption) line_ge, q _ H ι R .refl (.str _) trivial⟩))
    · cases hm
  · split at hm
    · cases hm
      rename_i hz
      cases hx with
      | tup h1 h2 =>
        cases hy with
        | tup h3 h4 =>
          have l1 := h2.length
          have l2 := h4.length
          refine .inr (.inr (.inl ⟨_, _, _, _, rfl, rfl, h1, h3, Nat.le_trans (by omega) line_ge, fun e0 => ?_, fun _ e0 => ?_, fun _ _ p hp => ?_⟩))
          · subst e0
            cases h2
            exact q _ H ι R .refl (.tup h3 (by simpa using h4)) trivial
          · subst e0
            cases h4
            exact q _ H ι R .refl (.tup h1 (by simpa using h2)) trivial
          · obtain ⟨R2, P2, _⟩ := R.new (u := .tup _) hp
            exact q _ _ ι R2 P2 (.tup (.inl (.inl upd_same)) (RDs.mono P2.stay P2.pre _ _ (h2.append h4))) trivial
    · cases hm
  · split at hm
    · rename_i xs ys g1 g2
      split at hm
      · cases hm
        rename_i hz
        simp only [Bool.and_eq_true, decide_eq_true_eq] at hz
        obtain ⟨a, us, rfl, k1, k2⟩ := R.lookM hx g1 fun es z => by subst z; cases hz.1.1
        obtain ⟨b, ws, rfl, k3, k4⟩ := R.lookM hy g2 fun es z => by subst z; cases hz.1.2
        refine .inr (.inr (.inr ⟨a, b, us, ws, rfl, rfl, k1, k3, Nat.le_trans (by rw [k2.length, k4.length]; exact hz.2) line_ge, fun p hp => ?_⟩))
        obtain ⟨R2, P2, m1, m2⟩ := R.new (u := .lst (us ++ ws)) hp
        exact q _ _ ι R2 P2 ⟨p, rfl, ⟨_, upd_same, RDs.mono P2.stay P2.pre _ _ (k2.append k4)⟩, m1, m2⟩ ⟨p, rfl, hp⟩
      · cases hm
    · cases hm
/-! ### - a -/
def gNeg (rx : R) : M R := match rx with
  | .d (.int i) => pur (.d (.int (-i)))
  | _ => stk
theorem gun_neg : UnR X (unaryOp .USub) (tO1 X.K gNeg) := UnR.imp un_neg fun x H Q q => by
  obtain ⟨ι, σ, e, S, rx, r, e', S', R, hx, hm, q⟩ := q
  unfold gNeg at hm
  split at hm
  · cases hm
    cases hx
    exact ⟨_, rfl, q _ H ι R .refl (.int _) trivial⟩
  · cases hm
/-! ### chains -/
def mChain (g g' : R → R → M R) (ma mb mc : M R) : M R := bnd ma fun x => bnd mb fun y => bnd (bnd (g x y) asB) fun k => if k = true then bnd mc fun w => g' y w else pur (.d (.bl false))
variable {a b c : Expr} {ma mb mc : M R} {pos : Pos} {op op' : CmpOp} {g g' : R → R → M R}
theorem tG_chain {K : PySem.W.Frag} {σ : SV} {H : Hp} {Q : VK} (h : tG K (mChain g g' ma mb mc) σ H Q) : tChain (tO2 K g) (tO2 K g') (tG K ma) (tG K mb) (tG K mc) σ H Q := by
  obtain ⟨ι, e, S, r, e', S', R, hm, q⟩ := h
  obtain ⟨x, e1, S1, h1, hm⟩ := bnd_eq hm
  obtain ⟨y, e2, S2, h2, hm⟩ := bnd_eq hm
  obtain ⟨k, e3, S3, h3, hm⟩ := bnd_eq hm
  obtain ⟨z, e4, S4, h4, h5⟩ := bnd_eq h3
  refine ⟨ι, e, S, x, e1, S1, R, h1, fun v H1 ι1 R1 P1 r1 _ => ⟨ι1, e1, S1, y, e2, S2, R1, h2, fun w H2 ι2 R2 P2 r2 _ =>
    ⟨ι2, σ, e2, S2, x, y, z, e4, S4, R2, r1.post P2, r2, h4, fun v3 H3 ι3 R3 P3 r3 _ => ?_⟩⟩⟩
  unfold asB at h5
  split at h5
  · cases h5
    cases r3
    refine ⟨_, rfl, ?_⟩
    have P13 := (P1.trans P2).trans P3
    cases k with
    | true =>
      refine iteT ?_
      obtain ⟨w', e5, S5, h6, hm⟩ := bnd_eq (show bnd mc (fun w => g' y w) e3 S3 = some (r, e', S') from hm)
      exact ⟨ι3, e3, S3, w', e5, S5, R3, h6, fun v4 H4 ι4 R4 P4 r4 _ => ⟨ι4, σ, e5, S5, y, w', r, e', S', R4, (r2.post P3).post P4, r4, hm, fun v5 H5 ι5 R5 P5 r5 f5 => q v5 H5 ι5 R5 ((P13.trans P4).trans P5) r5 (f5.back (P13.trans P4))⟩⟩
    | false =>
      refine iteF ?_
      cases (show pur (G.R.d (.bl false)) e3 S3 = some (r, e', S') from hm)
      exact q _ H3 ι3 R3 P13 (.bl false) trivial
  · cases h5
theorem ge_chain (ho : OpR X (compareOp op) (tO2 X.K g)) (ho' : OpR X (compareOp op') (tO2 X.K g')) (ha : GE X a ma) (hb : GE X b mb) (hc : GE X c mc)
    (hm : lastMarks [op, op'] [b, c] = false := by with_unfolding_all rfl) : GE X (.Compare a [op, op'] [b, c] pos) (mChain g g' ma mb mc) := PE.imp (pe_chain ho ho' ha hb hc hm) fun σ H Q q => tG_chain q
theorem gt_chain (ho : OpR X (compareOp op) (tO2 X.K g)) (ho' : OpR X (compareOp op') (tO2 X.K g')) (ha : GE X a ma) (hb : GE X b mb) (hc : GE X c mc)
    (hm : lastMarks [op, op'] [b, c] = false := by with_unfolding_all rfl) : GT X (.Compare a [op, op'] [b, c] pos) (bnd (mChain g g' ma mb mc) asB) := PT.imp (pt_chain ho ho' ha hb hc hm) fun σ H Q q => by
  obtain h := tG_test q
  exact tG_chain h
end
end G

set_option Elab.async false
set_option linter.all false
set_option maxRecDepth 1000000
set_option maxHeartbeats 2000000
/-! G8: a, *b = t. -/
namespace G
variable [Wld]
open PySem PySem.Spec PyProof.Rows L2
/-- a walk that begins one item later -/
theorem shiftW {prog : Program} {w : World} {A : Around} {I : Addr} {fp wr : List Addr} {Gn : Array GenState → Array GenState → Prop} {n : Nat} {P : Nat → Value → Prop} {Sx : Nat → Shared → Prop} (W : WalksS prog w A I fp wr Gn (n + 1) P Sx) :
    WalksS prog w A I fp wr Gn n (fun i v => P (i + 1) v) (fun i s => Sx (i + 1) s) :=
  ⟨W.sub, W.grefl, W.gtrans, fun i s h tk st => W.frame (i + 1) s h tk st, fun i s Q E hi st k => W.item (i + 1) s Q E (Nat.succ_lt_succ hi) st k, fun s Q E st k => W.done s Q E st k, fun i s Q E st k => W.self (i + 1) s Q E st k⟩
theorem notIter_tuple {M : Model} {A : Around} {E : Value → Shared → Prop} {s : Shared} {t : Addr} {items : Array Value} {Q : Bool → Shared → Prop} (ht : IsTup s.heap t items) (h : Q false s) : wpAny M A (notIterableAtAll (.ref t)) Q E s := by
  unfold notIterableAtAll
  exact wpAny_bind (wpAny_specialOf ht.typeIs slot_tuple_iter.lookup (wpAny_pure h))
section
variable {prog : Program} {w : World} {A : Around} {E : Value → Shared → Prop} {s : Shared}
theorem unpack_star1 {t : Addr} {x : Value} {its : List Value} {Q : List Value → Shared → Prop} (hh : A.handled = none) (hz : its.length ≤ sizeLine) (ht : IsTup s.heap t (x :: its).toArray)
    (q : ∀ (h' : Heap) (tk : Nat), (∀ b o, s.heap.get? b = some o → h'.get? b = some o) →
      Q [x, .ref h'.objs.size] { s with heap := h'.push { cls := .type "list", data := .seq its.toArray }, toks := tk }) : wpAny (model prog w) A (unpackItems (.ref t) 2 (some 1)) Q E s := by
  have hlt : t ≠ s.heap.objs.size := by obtain ⟨o, ho, _⟩ := ht; exact Nat.ne_of_lt (Heap.lt_size ho)
  unfold unpackItems
  refine wpAny_bind (notIter_tuple ht ?_)
  rw [if_neg Bool.false_ne_true]
  refine wpAny_bind (wpAny_holding (iter_tuple ht ?_))
  refine wpAny_bind (wpAny_holding (draw_tuple hlt 1 0 _ _ ⟨_, Heap.get?_push_size _ rfl, rfl, rfl⟩ (ht.push _) (by simp) fun h1 hit1 hs1 => ?_))
  have e1 : ((x :: its).toArray.toList.drop 0).take 1 = [x] := by simp
  rw [e1]
  rw [if_neg (by simp)]
  have ht1 : IsTup h1 t (x :: its).toArray := (ht.push _).extBut hs1.extBut hlt
  have W := shiftW (n := its.length) (by
    have z := (Walks.tuple (prog := prog) (w := w) (A := A.in1) (by simpa using hh) s.heap.objs.size t hlt (x :: its).toArray).toS
    have e : (x :: its).toArray.size = its.length + 1 := by simp
    rw [e] at z
    exact z)
  have it1 : h1.IsTupleIter s.heap.objs.size t 1 := hit1
  refine wpAny_bind (wpAny_holding (wpAny_collect_iter (T := "tuple_iterator") (.inr (.inr (.inr rfl))) W (fun i s' st => ?_) ⟨it1, ht1⟩ (fun b hb => ?_) (by simp) (fun s2 acc mv hacc => ?_) hz))
  · obtain ⟨⟨o, ho, hc, _⟩, _⟩ := st
    exact ⟨o, ho, hc⟩
  · have hb' : b = s.heap.objs.size ∨ b = t := by simpa using hb
    rcases hb' with rfl | rfl
    · obtain ⟨o, ho, _⟩ := it1
      exact Heap.lt_size ho
    · obtain ⟨o, ho, _⟩ := ht1
      exact Heap.lt_size ho
  · have eacc : acc.toList = its := by
      apply List.ext_getElem?
      intro j
      obtain ⟨hs, hi⟩ := hacc
      by_cases hj : j < acc.size
      · have := hi j acc[j] (Array.getElem?_eq_getElem hj)
        have e2 : its[j]? = some acc[j] := by simpa using this
        rw [Array.getElem?_toList, Array.getElem?_eq_getElem hj, e2]
      · rw [Array.getElem?_toList, Array.getElem?_eq_none (by omega), List.getElem?_eq_none (by omega)]
    rw [eacc]
    rw [if_neg (by simp)]
    have e3 : its.take (its.length - (2 - 1 - 1)) = its := by simp
    have e4 : its.drop (its.length - (2 - 1 - 1)) = [] := by simp
    show wpAny _ _ (newList (its.take (its.length - (2 - 1 - 1))) >>= fun l => pure ([x] ++ [l] ++ its.drop (its.length - (2 - 1 - 1)))) _ _ _
    rw [e3, e4]
    refine wpAny_bind (wpAny_newList (wpAny_pure ?_) hz)
    obtain ⟨h2, g2, d2, t2, o2⟩ := s2
    obtain ⟨mh, mg, md, mo, mt⟩ := mv
    have eg : g2 = s.gens := mg
    have ed : d2 = s.drawn := md
    have eo : o2 = s.os := mo
    subst eg ed eo
    have keep : ∀ b o, s.heap.get? b = some o → h2.get? b = some o := fun b o e => by
      have hb : b ≠ s.heap.objs.size := Nat.ne_of_lt (Heap.lt_size e)
      refine mh b o (by simp [hb]) ?_
      exact hs1.extBut b o hb (Heap.get?_push_of_some _ e)
    exact q h2 t2 keep
end
section
variable {X : Cx}
def gStarT (K : PySem.W.Frag) (i j : Nat) : TG := fun v σ H Q => ∃ a x xs, v = .ref a ∧ SqT K H a (x :: xs) ∧ ∀ p, H p = none → Q ((σ.set i (some x)).set j (some (.ref p))) (upd H p (.lst xs))
theorem pg_star1 {i j : Nat} {x y : Str} {px py p2 pos : Pos} {k : Nat} (hc : X.calm = true) (hN : X.N.Nodup) (hi : X.N[i]? = some x) (hx : Loc X.env.scope x) (hj : X.N[j]? = some y) (hy : Loc X.env.scope y)
    (hfx : X.fn x = true ∨ X.env.scope.names.lookup x = some .local := by first | exact .inl rfl | exact .inr rfl | assumption) (hfy : X.fn y = true ∨ X.env.scope.names.lookup y = some .local := by first | exact .inl rfl | exact .inr rfl | assumption) :
    PG X (.Tuple [.Name x px, .Starred (.Name y py) p2] k pos) (gStarT X.K i j) := by
  refine ⟨fun pins s σ H v u Q I r hw => ?_⟩
  obtain ⟨a, vx, xs, e1, hq, q⟩ := hw
  subst e1
  cases r
  obtain ⟨its, rv, ht, hz⟩ := I.tuple hq
  cases rv with
  | cons r1 r2 =>
    rename_i ux us
    rw [assign_Tuple]
    refine wpAny_bind (wpAny_standAt ?_)
    show wpAny _ _ (unpack (.ref a) [(false, assign (.Name x px) X.env), (true, assign (.Name y py) X.env)]) _ _ _
    unfold unpack
    have hl := r2.length
    refine wpAny_bind (wpAny_holding (unpack_star1 (I.ok.hd hc) (by simp at hz; omega) ht fun h' tk keep => ?_))
    have I1 : Inv X pins σ H { s with heap := h', toks := tk } := I.kept keep
    have hp : H h'.objs.size = none := I1.hok.fresh (Nat.le_refl _)
    have I2 : Inv X pins σ (upd H h'.objs.size (.lst xs)) { s with heap := h'.push { cls := .type "list", data := .seq us.toArray }, toks := tk } := I1.laid (t' := tk) (fun b o e => Heap.get?_push_of_some _ e) (Nat.le_refl _) ⟨by simp at hz; omega, us, _, r2, Heap.get?_push_size _ rfl⟩
    show wpAny _ _ (assignInOrder [assign (.Name x px) X.env, assign (.Name y py) X.env] [ux, .ref h'.objs.size]) _ _ _
    refine assignInOrder_cons (wpAny_assign_Name (store_ok I2 hN hi hx r1 (fun s2 I3 => ?_) hfx))
    refine assignInOrder_cons (wpAny_assign_Name (store_ok (v := .ref h'.objs.size) I3 hN hj hy rfl (fun s3 I4 => assignInOrder_nil ⟨_, _, I4, q _ hp⟩) hfy))
/-- a, *b = t -/
def starE (i j : Nat) (r : R) : M Fl := fun e S => match r with
  | .d (.tup (d :: ds)) => if i < e.length ∧ j < e.length then some (.nx, (e.set i (some (.d d))).set j (some (.own (.lst ds))), S) else none
  | _ => none
theorem starE_eq {i j : Nat} {r : R} {e : En} {S : Sto} {z} (h : starE i j r e S = some z) : ∃ d ds, r = .d (.tup (d :: ds)) ∧ i < e.length ∧ j < e.length ∧ z = (.nx, (e.set i (some (.d d))).set j (some (.own (.lst ds))), S) := by
  unfold starE at h
  split at h
  · split at h
    · rename_i hl
      exact ⟨_, _, rfl, hl.1, hl.2, (Option.some.inj h).symm⟩
    · cases h
  · cases h
def mStar (i j : Nat) (m : M R) : M Fl := bnd m (starE i j)
theorem gs_star {i j : Nat} {x y : Str} {px py p2 pt pos : Pos} {k : Nat} {ex : Expr} {m : M R} (hc : X.calm = true) (hN : X.N.Nodup) (hi : X.N[i]? = some x) (hx : Loc X.env.scope x) (hj : X.N[j]? = some y) (hy : Loc X.env.scope y) (he : GE X ex m)
    (hs : swapsWithSole [.Tuple [.Name x px, .Starred (.Name y py) p2] k pt] ex pos.line X.env = pure false := by rfl) (hw : swappedStores [.Tuple [.Name x px, .Starred (.Name y py) p2] k pt] ex X.env = pure none := by rfl)
    (hfx : X.fn x = true ∨ X.env.scope.names.lookup x = some .local := by first | exact .inl rfl | exact .inr rfl | assumption) (hfy : X.fn y = true ∨ X.env.scope.names.lookup y = some .local := by first | exact .inl rfl | exact .inr rfl | assumption) :
    GS X (.Assign [.Tuple [.Name x px, .Starred (.Name y py) p2] k pt] ex pos) (mStar i j m) := PS.imp (ps_asg he (pg_star1 hc hN hi hx hj hy hfx hfy) hs hw) fun D σ H q => by
  obtain ⟨ι, e, S, fl, e', S', R, hm, q⟩ := q
  obtain ⟨r, e1, S1, h1, hm⟩ := bnd_eq hm
  obtain ⟨d, ds, rfl, hli, hlj, hz⟩ := starE_eq hm
  cases hz
  refine ⟨ι, e, S, _, e1, _, R, h1, fun v H1 ι1 R1 P1 r1 f1 => ?_⟩
  cases r1 with
  | tup g1 g2 =>
    cases g2 with
    | cons g3 g4 =>
      rename_i a vx vs
      refine ⟨_, _, _, rfl, g1, fun p hp => ?_⟩
      obtain ⟨R2, P2, n1, n2⟩ := R1.new (u := .lst vs) hp
      have P12 := P1.trans P2
      obtain ⟨R3, P3⟩ := R2.put (r := .d d) P12 (RD.mono P2.stay P2.pre _ _ g3) trivial rfl hli
      have hl2 : j < (e1.set i (some (Sl.d d))).length := by simpa using hlj
      have hσ : i < σ.length := by rw [R1.len]; exact hli
      have nO : ¬ Obj (σ.set i (some vx)) (e1.set i (some (.d d))) p := fun ⟨m, t, h5, h6, h7⟩ => by
        by_cases hm : i = m
        · subst hm
          rw [List.getElem?_set_self hli] at h5
          cases h5
          exact h6.elim
        · rw [List.getElem?_set_ne hm] at h5 h7
          exact n2 ⟨m, t, h5, h6, h7⟩
      obtain ⟨R4, P4⟩ := R3.put (r := .new (.lst ds)) P3 ⟨p, rfl, ⟨vs, upd_same, RDs.mono P2.stay P2.pre _ _ g4⟩, n1, nO⟩ ⟨p, rfl, P1.back hp⟩ rfl hl2
      exact q _ _ ι1 R4 P4
end
end G

set_option Elab.async false
set_option linter.all false
set_option maxRecDepth 1000000
set_option maxHeartbeats 2000000
/-! G9: subscripts, slices, built-ins, methods. -/
namespace G
variable [Wld]
open PySem PySem.Spec PyProof.Rows L2

theorem PE.or {X : Cx} {ex : Expr} {t t' : TE} (h : PE X ex t) (h' : PE X ex t') : PE X ex (fun σ H Q => t σ H Q ∨ t' σ H Q) := ⟨fun pins s σ H Q I q => q.elim (h.run pins s σ H Q I) (h'.run pins s σ H Q I)⟩
/-! ### subscripts -/
def keyOf : D → Option Key
  | .int i => some (.inl i)
  | .str x => some (.inr x)
  | _ => none
def valD (kvs : List (Key × D)) (k : Key) : Option D := (kvs.find? fun kv => decide (kv.1 = k)).map (·.2)
def atD (ds : List D) (i : Int) : Option D := atI ds i
def gIx (rx ry : R) : M R := fun e S => match rx, ry with
  | .d (.tup ds), .d (.int i) => (atD ds i).map fun d => (.d d, e, S)
  | .d (.str z), .d (.int i) => if z.length ≤ 1000000 then (atI z.cps.toList i).map fun c => (.d (.str ⟨#[c]⟩), e, S) else none
  | rx, .d y => (match look rx e S with
    | some (.lst ds) => (match y with
      | .int i => (atD ds i).map fun d => (.d d, e, S)
      | _ => none)
    | some (.dct kvs) => (keyOf y).bind fun k => (valD kvs k).map fun d => (.d d, e, S)
    | _ => none)
  | _, _ => none
section
variable {K : PySem.W.Frag} {H : Hp} {ι : List Addr}
theorem RDs.atI {vs : List V} {ds : List D} {i : Int} {d : D} (h : RDs K H ι vs ds) (e : L2.atI ds i = some d) : ∃ v, L2.atI vs i = some v ∧ RD K H ι v d := by
  unfold L2.atI at e ⊢
  obtain ⟨j, h1, h2⟩ := Option.bind_eq_some_iff.mp e
  obtain ⟨v, h3, h4⟩ := h.get h2
  exact ⟨v, by rw [h.length, h1]; exact h3, h4⟩
theorem keyOf_v {v : V} {d : D} {k : Key} (h : RD K H ι v d) (e : keyOf d = some k) : v = kV k := by
  cases h <;> cases e <;> rfl
theorem RK.val {ws : List (Key × V)} {kvs : List (Key × D)} (h : RK K H ι ws kvs) (k : Key) : (∀ d, valD kvs k = some d → ∃ v, valV ws k = some v ∧ RD K H ι v d) ∧ (valD kvs k = none → valV ws k = none) := by
  induction h with
  | nil => exact ⟨fun d e => (by cases e), fun _ => rfl⟩
  | cons h1 _ ih =>
    rename_i p q ps qs _
    obtain ⟨e1, r⟩ := h1
    by_cases hk : q.1 = k
    · have hv : valD (q :: qs) k = some q.2 := by simp [valD, List.find?_cons, hk]
      rw [hv]
      exact ⟨fun d e => (by cases e; exact ⟨p.2, valV_pos (e1.trans hk), r⟩), fun e => (by cases e)⟩
    · have hv : valD (q :: qs) k = valD qs k := by simp [valD, List.find?_cons, hk]
      rw [hv, valV_neg (fun z => hk (e1 ▸ z))]
      exact ih
end
section
variable {X : Cx} {a b : Expr} {ma mb : M R} {pos : Pos}
theorem ge_ix (hu : X.A.units + 1 < cLine) (ha : GE X a ma) (hb : GE X b mb) (hs : PlainIx b := by exact fun _ _ => rfl) (hs2 : NoSl b := by exact fun _ _ => rfl) : GE X (.Subscript a b pos) (mBin gIx ma mb) :=
  PE.imp (PE.or (PE.or (pe_ix (IxR.or ix_list ix_tup) ha hb hs) (pe_ix ix_str ha hb hs)) (pe_dget hu ha hb hs2)) fun σ H Q q => by
    obtain ⟨ι, e, S, r, e', S', R, hm, q⟩ := q
    obtain ⟨x, e1, S1, h1, hm⟩ := bnd_eq hm
    obtain ⟨y, e2, S2, h2, hm⟩ := bnd_eq hm
    unfold gIx at hm
    split at hm
    · rename_i ds i
      obtain ⟨d, hd, hz⟩ := Option.map_eq_some_iff.mp hm
      cases hz
      refine .inl (.inl ⟨ι, e, S, _, e1, S1, R, h1, fun v H1 ι1 R1 P1 r1 _ => ⟨ι1, e1, S1, _, _, _, R1, h2, fun w H2 ι2 R2 P2 r2 _ => ?_⟩⟩)
      have r1' := r1.post P2
      cases r2
      cases r1' with
      | tup g1 g2 =>
        obtain ⟨z, hz, rz⟩ := g2.atI hd
        exact .inr ⟨_, _, _, z, rfl, rfl, g1, hz, q _ H2 ι2 R2 (P1.trans P2) rz trivial⟩
    · rename_i z i
      split at hm
      · rename_i hl
        obtain ⟨c, hc, hz⟩ := Option.map_eq_some_iff.mp hm
        cases hz
        refine .inl (.inr ⟨ι, e, S, _, e1, S1, R, h1, fun v H1 ι1 R1 P1 r1 _ => ⟨ι1, e1, S1, _, _, _, R1, h2, fun w H2 ι2 R2 P2 r2 _ => ?_⟩⟩)
        cases r1; cases r2
        exact ⟨_, _, c, rfl, rfl, Nat.le_trans hl line_ge, hc, q _ H2 ι2 R2 (P1.trans P2) (.str _) trivial⟩
      · cases hm
    · split at hm
      · rename_i ds hlk
        split at hm
        · rename_i i
          obtain ⟨d, hd, hz⟩ := Option.map_eq_some_iff.mp hm
          cases hz
          refine .inl (.inl ⟨ι, e, S, _, e1, S1, R, h1, fun v H1 ι1 R1 P1 r1 _ => ⟨ι1, e1, S1, _, _, _, R1, h2, fun w H2 ι2 R2 P2 r2 _ => ?_⟩⟩)
          obtain ⟨p, xs, rfl, g1, g2⟩ := R2.lookL (r1.post P2) hlk
          cases r2
          obtain ⟨z, hz, rz⟩ := g2.atI hd
          exact .inl ⟨_, _, _, z, rfl, rfl, g1, hz, q _ H2 ι2 R2 (P1.trans P2) rz trivial⟩
        · cases hm
      · rename_i kvs hlk
        obtain ⟨k, hk, hm⟩ := Option.bind_eq_some_iff.mp hm
        obtain ⟨d, hd, hz⟩ := Option.map_eq_some_iff.mp hm
        cases hz
        refine .inr ⟨ι, e, S, _, e1, S1, R, h1, fun v H1 ι1 R1 P1 r1 _ => ⟨ι1, e1, S1, _, _, _, R1, h2, fun w H2 ι2 R2 P2 r2 _ => ?_⟩⟩
        obtain ⟨p, ws, rfl, g1, g2⟩ := R2.lookD (r1.post P2) hlk
        obtain ⟨z, hz, rz⟩ := (g2.val k).1 d hd
        have ek := keyOf_v r2 hk
        refine ⟨p, z, rfl, .inl ⟨ws, k, g1, ek, hz.symm⟩, q _ H2 ι2 R2 (P1.trans P2) rz trivial⟩
      · cases hm
    · cases hm

/-! ### slices -/
def tGO (K : PySem.W.Frag) (m : M (Option Int)) : TO := fun σ H Q => ∃ ι e S r e' S', Rel K H ι σ e S ∧ m e S = some (r, e', S') ∧ ∀ H' ι', Rel K H' ι' σ e' S' → Post H ι σ e H' ι' σ e' → Q r H'
theorem PO.imp {X : Cx} {ex : Option Expr} {t t' : TO} (h : PO X ex t) (w : ∀ σ H Q, t' σ H Q → t σ H Q) : PO X ex t' := ⟨fun pins s σ H Q I q => h.run pins s σ H Q I (w σ H Q q)⟩
abbrev GO (X : Cx) (ex : Option Expr) (m : M (Option Int)) : Prop := PO X ex (tGO X.K m)
def asI (r : R) : M (Option Int) := match r with
  | .d (.int i) => pur (some i)
  | _ => stk
theorem go_none : GO X none (pur none) := PO.imp po_none fun σ H Q q => by
  obtain ⟨ι, e, S, r, e', S', R, hm, q⟩ := q
  cases hm
  exact q H ι R .refl
theorem go_some (h : GE X a ma) : GO X (some a) (bnd ma asI) := PO.imp (po_some h) fun σ H Q q => by
  obtain ⟨ι, e, S, r, e', S', R, hm, q⟩ := q
  obtain ⟨x, e1, S1, h1, hm⟩ := bnd_eq hm
  refine ⟨ι, e, S, x, e1, S1, R, h1, fun v H1 ι1 R1 P1 r1 _ => ?_⟩
  unfold asI at hm
  split at hm
  · cases hm
    cases r1
    exact ⟨_, rfl, q H1 ι1 R1 P1⟩
  · cases hm
def cutD (xs : List D) (lo hi : Option Int) : List D := (xs.drop (HT.sIx xs.length 0 lo)).take (HT.sIx xs.length xs.length hi - HT.sIx xs.length 0 lo)
theorem RDs.cut {K : PySem.W.Frag} {H : Hp} {ι : List Addr} {vs : List V} {ds : List D} (h : RDs K H ι vs ds) (lo hi : Option Int) : RDs K H ι (cutV vs lo hi) (cutD ds lo hi) := by
  unfold cutV cutD
  rw [h.length]
  exact (h.drop _).take _
def gSl (rx : R) (lo hi : Option Int) : M R := fun e S => match rx with
  | .d (.tup ds) => some (.d (.tup (cutD ds lo hi)), e, S)
  | .d (.str z) => if z.length ≤ 1000000 then some (.d (.str (cutS z lo hi)), e, S) else none
  | rx => (match look rx e S with
    | some (.lst ds) => some (.new (.lst (cutD ds lo hi)), e, S)
    | _ => none)
def mSl (ma : M R) (ml mh : M (Option Int)) : M R := bnd ma fun x => bnd ml fun l => bnd mh fun h => gSl x l h
theorem cutD_whole {ds : List D} {lo hi : Option Int} (h : HT.sIx ds.length 0 lo = 0 ∧ HT.sIx ds.length ds.length hi = ds.length) : cutD ds lo hi = ds := by
  unfold cutD
  rw [h.1, h.2]
  simp
theorem ge_slice {lo hi : Option Expr} {ml mh : M (Option Int)} {p2 : Pos} (ha : GE X a ma) (hl : GO X lo ml) (hh : GO X hi mh) : GE X (.Subscript a (.Slice lo hi none p2) pos) (mSl ma ml mh) :=
  PE.imp (pe_slice (SlR.or (SlR.or sl_list sl_tupA) sl_str) ha hl hh) fun σ H Q q => by
    obtain ⟨ι, e, S, r, e', S', R, hm, q⟩ := q
    obtain ⟨x, e1, S1, h1, hm⟩ := bnd_eq hm
    obtain ⟨l, e2, S2, h2, hm⟩ := bnd_eq hm
    obtain ⟨h, e3, S3, h3, hm⟩ := bnd_eq hm
    refine ⟨ι, e, S, _, e1, S1, R, h1, fun v H1 ι1 R1 P1 r1 _ => ⟨ι1, e1, S1, _, _, _, R1, h2, fun H2 ι2 R2 P2 => ⟨ι2, e2, S2, _, _, _, R2, h3, fun H3 ι3 R3 P3 => ?_⟩⟩⟩
    have r3 := (r1.post P2).post P3
    have P13 := (P1.trans P2).trans P3
    unfold gSl at hm
    split at hm
    · cases hm
      rename_i ds
      cases r3 with
      | tup g1 g2 =>
        refine .inl (.inr ⟨_, _, rfl, g1, fun hw => ?_, fun hw p hp => ?_⟩)
        · rw [g2.length] at hw
          exact q _ H3 ι3 R3 P13 (.tup g1 (by rw [cutD_whole hw]; exact g2)) trivial
        · obtain ⟨R4, P4, _⟩ := R3.new (u := .tup (cutV _ l h)) hp
          exact q _ _ ι3 R4 (P13.trans P4) (.tup (.inl (.inl upd_same)) (RDs.mono P4.stay P4.pre _ _ (g2.cut l h))) trivial
    · split at hm
      · rename_i hz
        cases hm
        cases r3
        exact .inr ⟨_, rfl, Nat.le_trans hz line_ge, q _ H3 ι3 R3 P13 (.str _) trivial⟩
      · cases hm
    · split at hm
      · rename_i hlk
        cases hm
        obtain ⟨p, xs, rfl, g1, g2⟩ := R3.lookL r3 hlk
        refine .inl (.inl ⟨_, _, rfl, g1, fun p hp => ?_⟩)
        obtain ⟨R4, P4, n1, n2⟩ := R3.new (u := .lst (cutV xs l h)) hp
        exact q _ _ ι3 R4 (P13.trans P4) ⟨p, rfl, ⟨_, upd_same, RDs.mono P4.stay P4.pre _ _ (g2.cut l h)⟩, n1, n2⟩ ⟨p, rfl, P13.back hp⟩
      · cases hm

/-! ### built-in calls -/
variable {es : List Expr} {ms : M (List R)} {ex : Expr}
theorem tG_cb {K : PySem.W.Frag} {g : List R → M R} {σ : SV} {H : Hp} {Q : VK} (h : tG K (bnd ms g) σ H Q) : tGA K ms σ H fun vs H1 => tOA K g vs H1 Q := by
  obtain ⟨ι, e, S, r, e', S', R, hm, q⟩ := h
  obtain ⟨rs, e1, S1, h1, hm⟩ := bnd_eq hm
  exact ⟨ι, e, S, rs, e1, S1, R, h1, fun vs H1 ι1 R1 P1 r1 => ⟨ι1, σ, e1, S1, rs, r, e', S', R1, r1, hm, fun v H2 ι2 R2 P2 r2 f2 => q v H2 ι2 R2 (P1.trans P2) r2 (f2.back P1)⟩⟩
theorem ge_cb {x : Str} {id : String} {p : Pos} {g : List R → M R} (hc : CallR X (.builtin id) (tOA X.K g)) (hg : Gl X x) (hm : X.mg x = none) (hv : bootBuiltins x = some (.builtin id)) (ha : GA X (ex :: es) ms) (hn : x ≠ "__name__" := by decide) (hdb : (x == ("__debug__" : Str)) = false := by decide)
    (he : starEach (ex :: es) X.env = (false, eval ex X.env) :: starEach es X.env := by rfl) (hpl : (backTo pos (starEach es X.env)).any (·.1) = false := by rfl) : GE X (.Call (.Name x p) (ex :: es) [] pos) (bnd ms g) :=
  PE.imp (pe_callB hc hg hm hv ha hn hdb he hpl) fun σ H Q q => tG_cb q
theorem ge_ct {x : Str} {T : String} {p : Pos} {g : List R → M R} (hc : CallR X (.type T) (tOA X.K g)) (hg : Gl X x) (hm : X.mg x = none) (hv : bootBuiltins x = some (.type T)) (ha : GA X (ex :: es) ms) (hn : x ≠ "__name__" := by decide) (hdb : (x == ("__debug__" : Str)) = false := by decide)
    (he : starEach (ex :: es) X.env = (false, eval ex X.env) :: starEach es X.env := by rfl) (hpl : (backTo pos (starEach es X.env)).any (·.1) = false := by rfl) : GE X (.Call (.Name x p) (ex :: es) [] pos) (bnd ms g) :=
  PE.imp (pe_callTy hc hg hm hv ha hn hdb he hpl) fun σ H Q q => tG_cb q
theorem CallR.or {f : Value} {r r' : List V → Hp → VK → Prop} (h : CallR X f r) (h' : CallR X f r') : CallR X f (fun x H Q => r x H Q ∨ r' x H Q) := fun pins s σ H x v Q I rx q => q.elim (h pins s σ H x v Q I rx) (h' pins s σ H x v Q I rx)
/-- one argument -/
def g1 (g : R → M R) (rs : List R) : M R := match rs with
  | [r] => g r
  | _ => stk
theorem g1_of {f : Value} {r : List V → Hp → VK → Prop} {g : R → M R} (h : CallR X f r) (w : ∀ ι σ e S v rx r' e' S' H (Q : VK), Rel X.K H ι σ e S → RR X.K H ι σ e v rx → g rx e S = some (r', e', S') →
    (∀ v H' ι', Rel X.K H' ι' σ e' S' → Post H ι σ e H' ι' σ e' → RR X.K H' ι' σ e' v r' → Fresh H v r' → Q v H') → r [v] H Q) : CallR X f (tOA X.K (g1 g)) := CallR.imp h fun x H Q q => by
  obtain ⟨ι, σ, e, S, rs, r, e', S', R, hr, hm, q⟩ := q
  unfold g1 at hm
  split at hm
  · cases hr with
    | cons h1 h2 =>
      cases h2
      exact w ι σ e S _ _ r e' S' H Q R h1 hm q
  · cases hm
def gLen (r : R) : M R := fun e S => match r with
  | .d (.str x) => if x.length ≤ 1000000 then some (.d (.int x.length), e, S) else none
  | r => (seqOf r e S).map fun ds => (.d (.int ds.length), e, S)
theorem cg_len : CallR X (.builtin "len") (tOA X.K (g1 gLen)) := g1_of (CallR.or call_len_seq call_len_str) fun ι σ e S v rx r' e' S' H Q R hr hm q => by
  unfold gLen at hm
  split at hm
  · split at hm
    · cases hm
      cases hr
      exact .inr ⟨_, rfl, Nat.le_trans (by assumption) line_ge, q _ H ι R .refl (.int _) trivial⟩
    · cases hm
  · obtain ⟨ds, hd, hz⟩ := Option.map_eq_some_iff.mp hm
    cases hz
    obtain ⟨p, xs, rfl, h1, h2⟩ := R.seq hr hd
    refine .inl ⟨p, xs, rfl, h1, ?_⟩
    rw [h2.length]
    exact q _ H ι R .refl (.int _) trivial
def blsOf : List D → Option (List Bool)
  | [] => some []
  | .bl b :: ds => (blsOf ds).map (b :: ·)
  | _ :: _ => none
theorem RDs.bls {K : PySem.W.Frag} {H : Hp} {ι : List Addr} : ∀ {vs : List V} {ds : List D} {bs : List Bool}, RDs K H ι vs ds → blsOf ds = some bs → vs = bs.map V.bl
  | _, [], _, .nil, e => by cases e; rfl
  | _, d :: ds, bs, .cons h1 h2, e => by
    cases d with
    | bl b =>
      obtain ⟨cs, e1, e2⟩ := Option.map_eq_some_iff.mp (show (blsOf ds).map (b :: ·) = some bs from e)
      subst e2
      cases h1
      rw [RDs.bls h2 e1]
      rfl
    | _ => cases e
def lstOf (r : R) (e : En) (S : Sto) : Option (List D) := match look r e S with
  | some (.lst ds) => some ds
  | _ => none
theorem Rel.lst {K : PySem.W.Frag} {H : Hp} {ι : List Addr} {σ : SV} {e : En} {S : Sto} {v : V} {r : R} {ds : List D} (R : Rel K H ι σ e S) (hr : RR K H ι σ e v r) (h : lstOf r e S = some ds) : ∃ a xs, v = .ref a ∧ SqL K H a xs ∧ RDs K H ι xs ds := by
  unfold lstOf at h
  split at h
  · cases h; exact R.lookL hr (by assumption)
  · cases h
def gBls (f : List Bool → Bool) (r : R) : M R := fun e S => (lstOf r e S).bind fun ds => (blsOf ds).map fun bs => (.d (.bl (f bs)), e, S)
theorem cg_all (hc : X.calm = true) : CallR X (.builtin "all") (tOA X.K (g1 (gBls fun bs => bs.all id))) := g1_of (cr_all hc) fun ι σ e S v rx r' e' S' H Q R hr hm q => by
  obtain ⟨ds, hd, hm⟩ := Option.bind_eq_some_iff.mp hm
  obtain ⟨bs, hb, hz⟩ := Option.map_eq_some_iff.mp hm
  cases hz
  obtain ⟨p, xs, rfl, h1, h2⟩ := R.lst hr hd
  have h3 := h2.bls hb
  subst h3
  exact ⟨p, bs, rfl, h1, q _ H ι R .refl (.bl _) trivial⟩
theorem cg_any (hc : X.calm = true) : CallR X (.builtin "any") (tOA X.K (g1 (gBls fun bs => bs.any id))) := g1_of (cr_any hc) fun ι σ e S v rx r' e' S' H Q R hr hm q => by
  obtain ⟨ds, hd, hm⟩ := Option.bind_eq_some_iff.mp hm
  obtain ⟨bs, hb, hz⟩ := Option.map_eq_some_iff.mp hm
  cases hz
  obtain ⟨p, xs, rfl, h1, h2⟩ := R.lst hr hd
  have h3 := h2.bls hb
  subst h3
  exact ⟨p, bs, rfl, h1, q _ H ι R .refl (.bl _) trivial⟩
def gTuple (r : R) : M R := fun e S => (seqOf r e S).map fun ds => (.d (.tup ds), e, S)
theorem cg_tuple : CallR X (.type "tuple") (tOA X.K (g1 gTuple)) := g1_of call_tuple_of fun ι σ e S v rx r' e' S' H Q R hr hm q => by
  obtain ⟨ds, hd, hz⟩ := Option.map_eq_some_iff.mp hm
  cases hz
  obtain ⟨p, xs, rfl, h1, h2⟩ := R.seq hr hd
  refine ⟨p, xs, rfl, ?_⟩
  rcases h1 with h1 | h1
  · refine .inl ⟨h1, fun l hl => ?_⟩
    obtain ⟨R4, P4, _⟩ := R.new (u := .tup xs) hl
    exact q _ _ ι R4 P4 (.tup (.inl (.inl upd_same)) (RDs.mono P4.stay P4.pre _ _ h2)) trivial
  · exact .inr ⟨h1, q _ H ι R .refl (.tup h1 h2) trivial⟩
def gList (r : R) : M R := fun e S => (seqOf r e S).map fun ds => (.new (.lst ds), e, S)
theorem cg_list : CallR X (.type "list") (tOA X.K (g1 gList)) := g1_of call_list_of fun ι σ e S v rx r' e' S' H Q R hr hm q => by
  obtain ⟨ds, hd, hz⟩ := Option.map_eq_some_iff.mp hm
  cases hz
  obtain ⟨p, xs, rfl, h1, h2⟩ := R.seq hr hd
  refine ⟨p, xs, rfl, h1, fun l hl => ?_⟩
  obtain ⟨R4, P4, n1, n2⟩ := R.new (u := .lst xs) hl
  exact q _ _ ι R4 P4 ⟨l, rfl, ⟨_, upd_same, RDs.mono P4.stay P4.pre _ _ h2⟩, n1, n2⟩ ⟨l, rfl, hl⟩
def gInt (r : R) : M R := fun e S => match r with
  | .d (.int i) => some (.d (.int i), e, S)
  | .d (.bl b) => some (.d (.int (if b then 1 else 0)), e, S)
  | _ => none
theorem cg_int : CallR X (.type "int") (tOA X.K (g1 gInt)) := g1_of call_int1 fun ι σ e S v rx r' e' S' H Q R hr hm q => by
  unfold gInt at hm
  split at hm <;> cases hm
  · cases hr; exact .inl ⟨_, rfl, q _ H ι R .refl (.int _) trivial⟩
  · cases hr; exact .inr ⟨_, rfl, q _ H ι R .refl (.int _) trivial⟩
def gAbs (r : R) : M R := fun e S => match r with
  | .d (.int i) => some (.d (.int (if i < 0 then -i else i)), e, S)
  | _ => none
theorem cg_abs : CallR X (.builtin "abs") (tOA X.K (g1 gAbs)) := g1_of call_abs fun ι σ e S v rx r' e' S' H Q R hr hm q => by
  unfold gAbs at hm
  split at hm <;> cases hm
  cases hr; exact ⟨_, rfl, q _ H ι R .refl (.int _) trivial⟩
/-- dict(pairs) -/
def prsOf : List D → Option (List (Key × D))
  | [] => some []
  | .tup [k, v] :: ds => (keyOf k).bind fun k => (prsOf ds).map ((k, v) :: ·)
  | _ :: _ => none
def putD (kvs : List (Key × D)) (k : Key) (v : D) : List (Key × D) :=
  if (kvs.any fun kv => decide (kv.1 = k)) = true then kvs.map (fun kv => if kv.1 = k then (kv.1, v) else kv) else kvs ++ [(k, v)]
def mergeD (kvs more : List (Key × D)) : List (Key × D) := more.foldl (fun acc kv => putD acc kv.1 kv.2) kvs
section
variable {K : PySem.W.Frag} {H : Hp} {ι : List Addr}
theorem RK.any {ws : List (Key × V)} {kvs : List (Key × D)} (h : RK K H ι ws kvs) (k : Key) : (ws.any fun kv => decide (kv.1 = k)) = (kvs.any fun kv => decide (kv.1 = k)) := by
  induction h with
  | nil => rfl
  | cons h1 _ ih => rw [List.any_cons, List.any_cons, ih, h1.1]
theorem RK.putMap {ws : List (Key × V)} {kvs : List (Key × D)} {v : V} {d : D} (h : RK K H ι ws kvs) (k : Key) (r : RD K H ι v d) : RK K H ι (ws.map fun kv => if kv.1 = k then (kv.1, v) else kv) (kvs.map fun kv => if kv.1 = k then (kv.1, d) else kv) := by
  induction h with
  | nil => exact .nil
  | cons h1 _ ih =>
    refine .cons ?_ ih
    obtain ⟨e1, r1⟩ := h1
    dsimp only
    rename_i p q _ _ _
    by_cases hk : q.1 = k
    · rw [if_pos (e1.trans hk), if_pos hk]; exact ⟨e1, r⟩
    · rw [if_neg (fun z => hk (e1 ▸ z)), if_neg hk]; exact ⟨e1, r1⟩
theorem RK.append {ws ws' : List (Key × V)} {kvs kvs' : List (Key × D)} (h : RK K H ι ws kvs) (h' : RK K H ι ws' kvs') : RK K H ι (ws ++ ws') (kvs ++ kvs') := by
  induction h with
  | nil => exact h'
  | cons h1 _ ih => exact .cons h1 ih
theorem RK.put {ws : List (Key × V)} {kvs : List (Key × D)} {v : V} {d : D} (h : RK K H ι ws kvs) (k : Key) (r : RD K H ι v d) : RK K H ι (putK ws k v) (putD kvs k d) := by
  unfold putK putD
  rw [h.any k]
  split
  · exact h.putMap k r
  · exact h.append (.cons ⟨rfl, r⟩ .nil)
theorem RK.merge : ∀ {ms : List (Key × V)} {nds : List (Key × D)} {ws : List (Key × V)} {kvs : List (Key × D)}, RK K H ι ms nds → RK K H ι ws kvs → RK K H ι (mergeK ws ms) (mergeD kvs nds)
  | _, _, _, _, .nil, h => h
  | _, _, _, _, .cons h1 h2, h => by
    unfold mergeK mergeD
    rw [List.foldl_cons, List.foldl_cons, h1.1]
    exact RK.merge h2 (h.put _ h1.2)
theorem RDs.prs : ∀ {vs : List V} {ds : List D} {kvs : List (Key × D)}, RDs K H ι vs ds → prsOf ds = some kvs → ∃ (ps : List Addr) (ws : List (Key × V)), vs = ps.map V.ref ∧ Paired (fun p kv => SqT K H p [kV kv.1, kv.2]) ps ws ∧ RK K H ι ws kvs
  | _, [], _, .nil, e => by cases e; exact ⟨[], [], rfl, .nil, .nil⟩
  | _, d :: ds, kvs, .cons h1 h2, e => by
    unfold prsOf at e
    split at e
    · rename_i hh; cases hh
    · rename_i kd vd ds' hh
      cases hh
      obtain ⟨k, hk, e⟩ := Option.bind_eq_some_iff.mp e
      obtain ⟨cs, e1, e2⟩ := Option.map_eq_some_iff.mp e
      subst e2
      obtain ⟨ps, ws, e3, hp, hr⟩ := RDs.prs h2 e1
      cases h1 with
      | tup g1 g2 =>
        cases g2 with
        | cons g3 g4 =>
          cases g4 with
          | cons g5 g6 =>
            cases g6
            rename_i a _ _
            have ek := keyOf_v g3 hk
            subst ek
            exact ⟨a :: ps, (k, _) :: ws, by rw [e3]; rfl, .cons g1 hp, .cons ⟨rfl, g5⟩ hr⟩
    · cases e
end
def gDict (r : R) : M R := fun e S => (lstOf r e S).bind fun ds => (prsOf ds).map fun kvs => (.new (.dct (mergeD [] kvs)), e, S)
theorem cg_dict (hc : X.calm = true) : CallR X (.type "dict") (tOA X.K (g1 gDict)) := g1_of (call_dictP hc) fun ι σ e S v rx r' e' S' H Q R hr hm q => by
  obtain ⟨ds, hd, hm⟩ := Option.bind_eq_some_iff.mp hm
  obtain ⟨kvs, hb, hz⟩ := Option.map_eq_some_iff.mp hm
  cases hz
  obtain ⟨p, xs, rfl, h1, h2⟩ := R.lst hr hd
  obtain ⟨ps, ws, rfl, hp, hk⟩ := h2.prs hb
  refine ⟨p, ps, ws, rfl, h1, hp, fun l hl => ?_⟩
  obtain ⟨R4, P4, n1, n2⟩ := R.new (u := .dK (mergeK [] ws)) hl
  exact q _ _ ι R4 P4 ⟨l, rfl, ⟨_, upd_same, (RK.merge hk .nil).mono P4.stay P4.pre⟩, n1, n2⟩ ⟨l, rfl, hl⟩
/-- sorted(a dict whose keys are texts) -/
def leS (a b : Str) : Bool := !ltCps b.cps.toList a.cps.toList
def srtS (ks : List Str) : List Str := ks.mergeSort leS
theorem ltCps_lt : ∀ x y : List Nat, ltCps x y = decide (x < y)
  | [], [] => by simp [ltCps]
  | [], _ :: _ => by simp [ltCps]
  | _ :: _, [] => by simp [ltCps]
  | a :: r, b :: t => by
    unfold ltCps
    rw [ltCps_lt r t]
    by_cases h1 : a < b
    · simp [h1, List.cons_lt_cons_iff]
    · by_cases h2 : a = b
      · subst h2; simp [List.cons_lt_cons_iff]
      · simp [h1, h2, List.cons_lt_cons_iff]
theorem leS_le (a b : Str) : leS a b = true ↔ a.cps.toList ≤ b.cps.toList := by
  unfold leS
  rw [ltCps_lt]
  simp
theorem leS_trans (a b c : Str) (h1 : leS a b = true) (h2 : leS b c = true) : leS a c = true := by
  rw [leS_le] at *
  exact List.le_trans h1 h2
theorem leS_total (a b : Str) : (leS a b || leS b a) = true := by
  rw [Bool.or_eq_true, leS_le, leS_le]
  exact List.le_total _ _
theorem leS_anti (a b : Str) (h1 : leS a b = true) (h2 : leS b a = true) : a = b := by
  rw [leS_le] at *
  have := List.le_antisymm h1 h2
  obtain ⟨⟨l⟩⟩ := a
  obtain ⟨⟨m⟩⟩ := b
  simp at this
  subst this
  rfl
theorem rising_pw : ∀ (r : List Str) (p : Str), risingS p r = true → (p :: r).Pairwise fun a b => leS a b = true
  | [], _, _ => by simp
  | x :: r, p, h => by
    unfold risingS at h
    rw [Bool.and_eq_true] at h
    have ih := rising_pw r x h.2
    refine List.Pairwise.cons (fun y hy => ?_) ih
    rcases List.mem_cons.mp hy with rfl | hy
    · exact h.1
    · exact leS_trans p x y h.1 ((List.pairwise_cons.mp ih).1 y hy)
theorem srtS_of {ys ks : List Str} (hp : ys.Perm ks) (hs : sortedS ys = true) : ys = srtS ks := by
  have h1 : ys.Pairwise fun a b => leS a b = true := by
    cases ys with
    | nil => exact .nil
    | cons x r => exact rising_pw r x hs
  have h2 := List.pairwise_mergeSort (le := leS) leS_trans leS_total ks
  exact List.Perm.eq_of_pairwise (fun a b _ _ => leS_anti a b) h1 h2 (hp.trans (List.mergeSort_perm ks leS).symm)
def keysS : List (Key × D) → Option (List Str)
  | [] => some []
  | (.inr x, _) :: r => (keysS r).map (x :: ·)
  | (.inl _, _) :: _ => none
theorem RK.keysS {K : PySem.W.Frag} {H : Hp} {ι : List Addr} : ∀ {ws : List (Key × V)} {kvs : List (Key × D)} {ks : List Str}, RK K H ι ws kvs → G.keysS kvs = some ks → ws.map (·.1) = ks.map Sum.inr
  | _, _, _, .nil, e => by cases e; rfl
  | _, (k, d) :: kvs, ks, .cons h1 h2, e => by
    cases k with
    | inl i => cases e
    | inr x =>
      obtain ⟨cs, e1, e2⟩ := Option.map_eq_some_iff.mp (show (G.keysS kvs).map (x :: ·) = some ks from e)
      subst e2
      rw [List.map_cons, List.map_cons, RK.keysS h2 e1, h1.1]
def gSortedK (r : R) : M R := fun e S => match look r e S with
  | some (.dct kvs) => (G.keysS kvs).bind fun ks => if ks.length < 64 then some (.new (.lst ((srtS ks).map D.str)), e, S) else none
  | _ => none
theorem RDs.strs {K : PySem.W.Frag} {H : Hp} {ι : List Addr} : ∀ ks : List Str, RDs K H ι (ks.map V.str) (ks.map D.str)
  | [] => .nil
  | k :: ks => .cons (.str k) (RDs.strs ks)
theorem cg_sortedK (hc : X.calm = true) : CallR X (.builtin "sorted") (tOA X.K (g1 gSortedK)) := g1_of (call_sortedD hc) fun ι σ e S v rx r' e' S' H Q R hr hm q => by
  unfold gSortedK at hm
  split at hm
  · rename_i kvs hlk
    obtain ⟨ks, hk, hm⟩ := Option.bind_eq_some_iff.mp hm
    split at hm
    · cases hm
      rename_i hl
      obtain ⟨p, ws, rfl, h1, h2⟩ := R.lookD hr hlk
      refine ⟨p, ws, ks, rfl, h1, h2.keysS hk, hl, fun ys l hp hs hl => ?_⟩
      have := srtS_of hp hs
      subst this
      obtain ⟨R4, P4, n1, n2⟩ := R.new (u := .lst ((srtS ks).map V.str)) hl
      exact q _ _ ι R4 P4 ⟨l, rfl, ⟨_, upd_same, RDs.strs _⟩, n1, n2⟩ ⟨l, rfl, hl⟩
    · cases hm
  · cases hm
end
end G

set_option Elab.async false
set_option linter.all false
set_option maxRecDepth 1000000
set_option maxHeartbeats 2000000
/-! G10: isinstance, methods, items stored, further things walked. -/
namespace G
variable [Wld]
open PySem PySem.Spec PyProof.Rows L2

/-! ### isinstance -/
inductive Kd where
  | non | bl | int | str | tup | lst | dct
def Kd.nm : Kd → String
  | .non => "NoneType" | .bl => "bool" | .int => "int" | .str => "str" | .tup => "tuple" | .lst => "list" | .dct => "dict"
inductive Cl where
  | int | bool | str | tuple | list | dict
def Cl.nm : Cl → String
  | .int => "int" | .bool => "bool" | .str => "str" | .tuple => "tuple" | .list => "list" | .dict => "dict"
def isK : Kd → Cl → Bool
  | .bl, .bool => true | .bl, .int => true | .int, .int => true | .str, .str => true | .tup, .tuple => true | .lst, .list => true | .dct, .dict => true
  | _, _ => false
theorem isK_ok (k : Kd) (c : Cl) : kitB k.nm c.nm = some (isK k c) := by cases k <;> cases c <;> decide +kernel
def kdO : O → Option Kd
  | .lst _ => some .lst
  | .dct _ => some .dct
  | .kd _ => none
def kd (r : R) (e : En) (S : Sto) : Option Kd := match r with
  | .d .non => some .non
  | .d (.bl _) => some .bl
  | .d (.int _) => some .int
  | .d (.str _) => some .str
  | .d (.tup _) => some .tup
  | r => (look r e S).bind kdO
def mIsi (c : Cl) (m : M R) : M R := bnd m fun r e S => (kd r e S).map fun k => (.d (.bl (isK k c)), e, S)
theorem TyX.sq {K : PySem.W.Frag} {H : Hp} {a : Addr} {xs : List V} (h : SqT K H a xs) : TyX K H (.ref a) (.type "tuple") := by
  rcases h with (h | ⟨o, h⟩) | ⟨o, its, n, h, hc, _⟩
  · exact .base (.tup h)
  · exact .fTuple h
  · exact .kTuple h hc
theorem Rel.kd {K : PySem.W.Frag} {H : Hp} {ι : List Addr} {σ : SV} {e : En} {S : Sto} {v : V} {r : R} {k : Kd} (R : Rel K H ι σ e S) (hr : RR K H ι σ e v r) (h : kd r e S = some k) : TyX K H v (.type k.nm) := by
  unfold G.kd at h
  split at h
  · cases h; cases hr; exact .base .non
  · cases h; cases hr; exact .base (.bl _)
  · cases h; cases hr; exact .base (.int _)
  · cases h; cases hr; exact .base (.str _)
  · cases h; cases hr with | tup h1 h2 => exact TyX.sq h1
  · obtain ⟨o, ho, hk⟩ := Option.bind_eq_some_iff.mp h
    obtain ⟨a, rfl, h1 | ⟨xs, ds, h1, e1, _⟩ | ⟨ob, ws, kvs, h1, e1, _⟩⟩ := R.look hr ho
    · cases o with
      | lst ds => cases hk; obtain ⟨xs, h2, _⟩ := h1; exact .base (.lst h2)
      | dct kvs => cases hk; obtain ⟨ws, h2, _⟩ := h1; exact .base (.dK h2)
      | kd kvs => cases hk
    · subst e1
      cases hk
      rcases h1 with ⟨ob, h1⟩ | ⟨ob, its, n, h1, h2, _⟩
      · exact .base (.frz h1)
      · exact .kList h1 h2
    · subst e1; cases hk; exact .fDict h1
section
variable {X : Cx} {ex a b o : Expr} {es : List Expr} {m ma mb mo : M R} {ms : M (List R)} {pos apos p p2 : Pos}
theorem ge_isi {y : Str} (c : Cl) (hg : Gl X "isinstance") (hm : X.mg "isinstance" = none) (hg2 : Gl X y) (hm2 : X.mg y = none) (hv2 : bootBuiltins y = some (.type c.nm)) (h : GE X ex m)
    (hy : y ≠ "__name__" := by decide) (hyd : (y == ("__debug__" : Str)) = false := by decide)
    (hb : bootBuiltins "isinstance" = some (.builtin "isinstance") := by decide +kernel)
    (hs : starEach [ex, .Name y p2] X.env = (false, eval ex X.env) :: starEach [.Name y p2] X.env := by rfl) :
    GE X (.Call (.Name "isinstance" p) [ex, .Name y p2] [] pos) (mIsi c m) :=
  PE.imp (pe_callB call_isi hg hm hb (pa_cons h (pa_cons (pe_bltn (v := .ty c.nm) hg2 hm2 hv2 rfl hy hyd) pa_nil) hs) (by decide) (by decide) hs) fun σ H Q q => by
    obtain ⟨ι, e, S, r, e', S', R, hm, q⟩ := q
    obtain ⟨x, e1, S1, h1, hm⟩ := bnd_eq hm
    obtain ⟨k, hk, hz⟩ := Option.map_eq_some_iff.mp (show (kd x e1 S1).map (fun k => (G.R.d (.bl (isK k c)), e1, S1)) = some (r, e', S') from hm)
    cases hz
    exact ⟨ι, e, S, x, _, _, R, h1, fun v H1 ι1 R1 P1 r1 _ => ⟨v, .ty c.nm, _, _, isK k c, rfl, .ty _, R1.kd r1 hk, isK_ok k c, q _ H1 ι1 R1 P1 (.bl _) trivial⟩⟩

/-! ### methods of built-in types -/
def tOM (K : PySem.W.Frag) (g : R → List R → M R) : V → List V → Hp → VK → Prop := fun x xs H Q => ∃ ι σ e S rx rs r e' S', Rel K H ι σ e S ∧ RR K H ι σ e x rx ∧ RRs K H ι σ e xs rs ∧ g rx rs e S = some (r, e', S') ∧
  ∀ v H' ι', Rel K H' ι' σ e' S' → Post H ι σ e H' ι' σ e' → RR K H' ι' σ e' v r → Fresh H v r → Q v H'
theorem MtR.imp {id : String} {r r' : V → List V → Hp → VK → Prop} (h : MtR X id r) (w : ∀ x xs H Q, r' x xs H Q → r x xs H Q) : MtR X id r' := fun pins s σ H x xs v us Q I rx rs q => h pins s σ H x xs v us Q I rx rs (w _ _ _ _ q)
/-- the receiver is of this type -/
def isTy (T : String) (r : R) (e : En) (S : Sto) : Bool := if T = "str" then (match r with
  | .d (.str _) => true
  | _ => false) else if T = "list" then (match look r e S with
  | some (.lst _) => true
  | _ => false) else false
def chk (T : String) (r : R) : M R := fun e S => if isTy T r e S then some (r, e, S) else none
def mMth (T : String) (g : R → List R → M R) (mo : M R) (ms : M (List R)) : M R := bnd (bnd mo (chk T)) fun x => bnd ms fun ys => g x ys
theorem Rel.ty {K : PySem.W.Frag} {H : Hp} {ι : List Addr} {σ : SV} {e : En} {S : Sto} {v : V} {r : R} {T : String} (R : Rel K H ι σ e S) (hr : RR K H ι σ e v r) (h : isTy T r e S = true) : tyV K T v H := by
  unfold isTy at h
  split at h
  · rename_i hT
    split at h
    · cases hr; exact hT
    · cases h
  · split at h
    · rename_i hT
      split at h
      · obtain ⟨a, xs, rfl, h1, _⟩ := R.lookL hr (by assumption)
        exact .inl ⟨hT, xs, h1⟩
      · cases h
    · cases h
theorem chk_eq {T : String} {r : R} {e : En} {S : Sto} {z} (h : chk T r e S = some z) : isTy T r e S = true ∧ z = (r, e, S) := by
  unfold chk at h
  split at h
  · exact ⟨by assumption, (Option.some.inj h).symm⟩
  · cases h
theorem ge_m {T id : String} {name : Str} {g : R → List R → M R} (pa : PlainAttrs T) (slot : Slot T name id) (hty : typeOf (.builtin id) = pure (.type "method_descriptor")) (hm : MtR X id (tOM X.K g)) (ho : GE X o mo) (ha : GA X (ex :: es) ms)
    (hbase : attributeBase o name X.env (eval o X.env) = eval o X.env := by rfl)
    (hfew : ((backTo pos (starEach (ex :: es) X.env)).all (fun x => !x.1) && (backToKw pos (keywordEach [] X.env)).all (fun x => x.1.isSome)
      && decide ((ex :: es).length + ([] : List Keyword).length + (if ([] : List Keyword).isEmpty then 0 else 1) < 30)) = true := by rfl)
    (hline : (apos.endLine == pos.line) = true := by rfl) (hs : starEach (ex :: es) X.env = (false, eval ex X.env) :: starEach es X.env := by rfl) (hplain : (backTo pos (starEach es X.env)).any (·.1) = false := by rfl) :
    GE X (.Call (.Attribute o name apos) (ex :: es) [] pos) (mMth T g mo ms) :=
  PE.imp (pe_bm pa slot hty hm ho ha hbase hfew hline hs hplain) fun σ H Q q => by
    obtain ⟨ι, e, S, r, e', S', R, hm, q⟩ := q
    obtain ⟨x, e1, S1, h1, hm⟩ := bnd_eq hm
    obtain ⟨x', e0, S0, h0, hc⟩ := bnd_eq h1
    obtain ⟨ht, hz⟩ := chk_eq hc
    cases hz
    obtain ⟨ys, e2, S2, h2, hm⟩ := bnd_eq hm
    exact ⟨ι, e, S, _, _, _, R, h0, fun v H1 ι1 R1 P1 r1 _ => ⟨R1.ty r1 ht, ι1, _, _, ys, e2, S2, R1, h2, fun vs H2 ι2 R2 P2 r2 => ⟨ι2, σ, e2, S2, _, ys, r, e', S', R2, r1.post P2, r2, hm, fun v H3 ι3 R3 P3 r3 f3 => q v H3 ι3 R3 ((P1.trans P2).trans P3) r3 (f3.back (P1.trans P2))⟩⟩⟩
theorem ge_m0 {T id : String} {name : Str} {g : R → List R → M R} (pa : PlainAttrs T) (slot : Slot T name id) (hty : typeOf (.builtin id) = pure (.type "method_descriptor")) (hm : MtR X id (tOM X.K g)) (ho : GE X o mo)
    (hbase : attributeBase o name X.env (eval o X.env) = eval o X.env := by rfl) (hline : (apos.endLine == pos.line) = true := by rfl) : GE X (.Call (.Attribute o name apos) [] [] pos) (mMth T g mo mNil) :=
  PE.imp (pe_bm0 pa slot hty hm ho hbase hline) fun σ H Q q => by
    obtain ⟨ι, e, S, r, e', S', R, hm, q⟩ := q
    obtain ⟨x, e1, S1, h1, hm⟩ := bnd_eq hm
    obtain ⟨x', e0, S0, h0, hc⟩ := bnd_eq h1
    obtain ⟨ht, hz⟩ := chk_eq hc
    cases hz
    obtain ⟨ys, e2, S2, h2, hm⟩ := bnd_eq hm
    cases h2
    exact ⟨ι, e, S, _, _, _, R, h0, fun v H1 ι1 R1 P1 r1 _ => ⟨R1.ty r1 ht, ι1, σ, _, _, _, [], r, e', S', R1, r1, .nil, hm, fun v H3 ι3 R3 P3 r3 f3 => q v H3 ι3 R3 (P1.trans P3) r3 (f3.back P1)⟩⟩
/-- a list is written -/
theorem Rel.writeL {K : PySem.W.Frag} {H : Hp} {ι : List Addr} {σ : SV} {e : En} {S : Sto} {v : V} {r : R} {ds : List D} (R : Rel K H ι σ e S) (hr : RR K H ι σ e v r) (hl : G.look r e S = some (.lst ds)) (hw : isW r = true) :
    ∃ a xs, v = .ref a ∧ H a = some (.lst xs) ∧ RDs K H ι xs ds ∧ ∀ ys es, RDs K H ι ys es → Rel K (upd H a (.lst ys)) ι σ (putE r (.lst es) e) (putS r (.lst es) S) ∧ Post H ι σ e (upd H a (.lst ys)) ι σ (putE r (.lst es) e) := by
  obtain ⟨a, rfl, ro, w⟩ := R.write hr hl hw
  have st := ro.stay
  obtain ⟨xs, h1, h2⟩ := ro
  exact ⟨a, xs, rfl, h1, h2, fun ys es h => w _ _ ⟨ys, upd_same, RDs.mono (st _) ⟨[], by simp⟩ _ _ h⟩⟩
def wrL (r : R) (f : List D → Option (R × List D)) : M R := fun e S => match look r e S with
  | some (.lst ds) => if isW r then (f ds).map fun (x, es) => (x, putE r (.lst es) e, putS r (.lst es) S) else none
  | _ => none
theorem wrL_eq {r : R} {f : List D → Option (R × List D)} {e : En} {S : Sto} {z} (h : wrL r f e S = some z) : ∃ ds x es, look r e S = some (.lst ds) ∧ isW r = true ∧ f ds = some (x, es) ∧ z = (x, putE r (.lst es) e, putS r (.lst es) S) := by
  unfold wrL at h
  split at h
  · split at h
    · obtain ⟨⟨x, es⟩, h1, h2⟩ := Option.map_eq_some_iff.mp h
      exact ⟨_, x, es, by assumption, by assumption, h1, h2.symm⟩
    · cases h
  · cases h
def gAppend (r : R) (rs : List R) : M R := match rs with
  | [.d x] => wrL r fun ds => if ds.length < 1000000 then some (.d .non, ds ++ [x]) else none
  | _ => stk
theorem lt_line {n : Nat} (h : n < 1000000) : n < sizeLine := Nat.lt_of_lt_of_le h line_ge
theorem mg_append : MtR X "list.append" (tOM X.K gAppend) := MtR.imp mt_append fun x xs H Q q => by
  obtain ⟨ι, σ, e, S, rx, rs, r, e', S', R, hx, hs, hm, q⟩ := q
  unfold gAppend at hm
  split at hm
  · obtain ⟨ds, x', es, h1, h2, h3, hz⟩ := wrL_eq hm
    cases hz
    split at h3
    · cases h3
      rename_i hl
      cases hs with
      | cons g1 g2 =>
        cases g2
        obtain ⟨a, us, rfl, k1, k2, k3⟩ := R.writeL hx h1 h2
        obtain ⟨R2, P2⟩ := k3 _ _ (k2.append (.cons g1 .nil))
        exact ⟨a, us, _, rfl, rfl, k1, lt_line (by rw [k2.length]; exact hl), q _ _ ι R2 P2 .non trivial⟩
    · cases h3
  · cases hm
def gPop (r : R) (rs : List R) : M R := match rs with
  | [] => wrL r fun ds => (ds[ds.length - 1]?).map fun d => (.d d, ds.dropLast)
  | [.d (.int i)] => wrL r fun ds => if -(2 ^ 63) ≤ i ∧ i < 2 ^ 63 then (seqIndex? i ds.length).bind fun k => (ds[k]?).map fun d => (.d d, ds.eraseIdx k) else none
  | _ => stk
theorem RDs.dropLast {K : PySem.W.Frag} {H : Hp} {ι : List Addr} {vs : List V} {ds : List D} (h : RDs K H ι vs ds) : RDs K H ι vs.dropLast ds.dropLast := by
  rw [List.dropLast_eq_take, List.dropLast_eq_take, h.length]
  exact h.take _
theorem RDs.eraseIdx {K : PySem.W.Frag} {H : Hp} {ι : List Addr} {vs : List V} {ds : List D} (h : RDs K H ι vs ds) (k : Nat) : RDs K H ι (vs.eraseIdx k) (ds.eraseIdx k) := by
  rw [List.eraseIdx_eq_take_drop_succ, List.eraseIdx_eq_take_drop_succ]
  exact (h.take _).append (h.drop _)
theorem mg_pop : MtR X "list.pop" (tOM X.K gPop) := MtR.imp (MtR.or mt_pop mt_popAt) fun x xs H Q q => by
  obtain ⟨ι, σ, e, S, rx, rs, r, e', S', R, hx, hs, hm, q⟩ := q
  unfold gPop at hm
  split at hm
  · obtain ⟨ds, x', es, h1, h2, h3, hz⟩ := wrL_eq hm
    cases hz
    obtain ⟨d, hd, hz⟩ := Option.map_eq_some_iff.mp h3
    cases hz
    cases hs
    obtain ⟨a, us, rfl, k1, k2, k3⟩ := R.writeL hx h1 h2
    obtain ⟨y, hy, ry⟩ := k2.get hd
    obtain ⟨R2, P2⟩ := k3 _ _ k2.dropLast
    exact .inl ⟨a, us, y, rfl, rfl, k1, by rw [k2.length]; exact hy, q _ _ ι R2 P2 (RD.mono P2.stay P2.pre _ _ ry) trivial⟩
  · obtain ⟨ds, x', es, h1, h2, h3, hz⟩ := wrL_eq hm
    cases hz
    split at h3
    · rename_i hi
      obtain ⟨k, hk, h3⟩ := Option.bind_eq_some_iff.mp h3
      obtain ⟨d, hd, hz⟩ := Option.map_eq_some_iff.mp h3
      cases hz
      cases hs with
      | cons g1 g2 =>
        cases g2
        cases g1
        obtain ⟨a, us, rfl, k1, k2, k3⟩ := R.writeL hx h1 h2
        obtain ⟨y, hy, ry⟩ := k2.get hd
        obtain ⟨R2, P2⟩ := k3 _ _ (k2.eraseIdx k)
        exact .inr ⟨a, us, _, k, y, rfl, rfl, k1, hi.1, hi.2, by rw [k2.length]; exact hk, hy, q _ _ ι R2 P2 (RD.mono P2.stay P2.pre _ _ ry) trivial⟩
    · cases h3
  · cases hm
/-- xs.index(x): the first place of what == x -/
def idxD (x : D) (ds : List D) : Option Nat := ds.findIdx? fun y => eqS y x
def gIndex (r : R) (rs : List R) : M R := fun e S => match rs with
  | [.d x] => (lstOf r e S).bind fun ds => if flat x && ds.all flat then (idxD x ds).map fun j => (.d (.int (j : Nat)), e, S) else none
  | _ => none
theorem mg_index : MtR X "list.index" (tOM X.K gIndex) := MtR.imp mt_index fun x xs H Q q => by
  obtain ⟨ι, σ, e, S, rx, rs, r, e', S', R, hx, hs, hm, q⟩ := q
  unfold gIndex at hm
  split at hm
  · obtain ⟨ds, hd, hm⟩ := Option.bind_eq_some_iff.mp hm
    split at hm
    · rename_i hf
      obtain ⟨j, hj, hz⟩ := Option.map_eq_some_iff.mp hm
      cases hz
      rw [Bool.and_eq_true] at hf
      cases hs with
      | cons g1 g2 =>
        cases g2
        obtain ⟨a, us, rfl, k1, k2⟩ := R.lst hx hd
        obtain ⟨e1, f1⟩ := RD.flat g1 hf.1
        obtain ⟨e2, f2⟩ := RDs.flat k2 hf.2
        subst e1 e2
        unfold idxD at hj
        rw [List.findIdx?_eq_some_iff_getElem] at hj
        obtain ⟨hlt, hp, hno⟩ := hj
        have fl : ∀ m (h : m < ds.length), flat ds[m] = true := fun m h => List.all_eq_true.mp hf.2 _ (List.getElem_mem h)
        refine ⟨a, _, _, j, toV ds[j], rfl, rfl, k1, f1, f2, by simp [hlt], ?_, fun m z hm hz => ?_, q _ H ι R .refl (.int _) trivial⟩
        · rw [eqV_toV (fl j hlt) hf.1]; exact hp
        · have hm' : m < ds.length := Nat.lt_trans hm hlt
          have : z = toV ds[m] := by simpa [hm'] using hz.symm
          subst this
          rw [eqV_toV (fl m hm') hf.1]
          simpa using hno m hm
    · cases hm
  · cases hm
/-- sep.join(xs) -/
def strsOf : List D → Option (List Str)
  | [] => some []
  | .str x :: ds => (strsOf ds).map (x :: ·)
  | _ :: _ => none
theorem RDs.ofStrs {K : PySem.W.Frag} {H : Hp} {ι : List Addr} : ∀ {vs : List V} {ds : List D} {bs : List Str}, RDs K H ι vs ds → strsOf ds = some bs → vs = bs.map V.str
  | _, [], _, .nil, e => by cases e; rfl
  | _, d :: ds, bs, .cons h1 h2, e => by
    cases d with
    | str b =>
      obtain ⟨cs, e1, e2⟩ := Option.map_eq_some_iff.mp (show (strsOf ds).map (b :: ·) = some bs from e)
      subst e2
      cases h1
      rw [RDs.ofStrs h2 e1]
      rfl
    | _ => cases e
def gJoin (r : R) (rs : List R) : M R := fun e S => match r, rs with
  | .d (.str a), [x] => (seqOf x e S).bind fun ds => (strsOf ds).bind fun ys => if (ys.map (·.length)).sum + ys.length * a.length ≤ 16777216 then some (.d (.str (Txt.join a ys)), e, S) else none
  | _, _ => none
theorem mg_join : MtR X "str.join" (tOM X.K gJoin) := MtR.imp mt_join fun x xs H Q q => by
  obtain ⟨ι, σ, e, S, rx, rs, r, e', S', R, hx, hs, hm, q⟩ := q
  unfold gJoin at hm
  split at hm
  · obtain ⟨ds, hd, hm⟩ := Option.bind_eq_some_iff.mp hm
    obtain ⟨ys, hy, hm⟩ := Option.bind_eq_some_iff.mp hm
    split at hm
    · rename_i hz
      cases hm
      cases hs with
      | cons g1 g2 =>
        cases g2
        cases hx
        obtain ⟨a, us, rfl, k1, k2⟩ := R.seq g1 hd
        have := k2.ofStrs hy
        subst this
        exact ⟨_, a, ys, rfl, rfl, k1, hz, q _ H ι R .refl (.str _) trivial⟩
    · cases hm
  · cases hm

/-! ### o[i] = v -/
def setIt (ro ri : R) (x : D) : M Fl := fun e S => match look ro e S, ri with
  | some (.lst ds), .d (.int k) => if isW ro then (ixN ds.length k).map fun j => (.nx, putE ro (.lst (ds.set j x)) e, putS ro (.lst (ds.set j x)) S) else none
  | _, _ => none
theorem setIt_eq {ro ri : R} {x : D} {e : En} {S : Sto} {z} (h : setIt ro ri x e S = some z) : ∃ ds k j, look ro e S = some (.lst ds) ∧ ri = .d (.int k) ∧ isW ro = true ∧ ixN ds.length k = some j ∧ z = (.nx, putE ro (.lst (ds.set j x)) e, putS ro (.lst (ds.set j x)) S) := by
  unfold setIt at h
  split at h
  · split at h
    · obtain ⟨j, h1, h2⟩ := Option.map_eq_some_iff.mp h
      exact ⟨_, _, j, by assumption, rfl, by assumption, h1, h2.symm⟩
    · cases h
  · cases h
def mSetI (mv mo mi : M R) : M Fl := bnd mv fun v => match v with
  | .d x => bnd mo fun o => bnd mi fun i => setIt o i x
  | _ => stk
theorem gs_setI {mv mi : M R} {i value : Expr} {pos' : Pos} (hv : GE X value mv) (ho : GE X o mo) (hi : GE X i mi)
    (hs : swapsWithSole [.Subscript o i pos'] value pos.line X.env = pure false := by rfl) (hw : swappedStores [.Subscript o i pos'] value X.env = pure none := by rfl)
    (ha : ∀ v, assign (.Subscript o i pos') X.env v = (do
      let ov ← holding [v] (eval o X.env)
      let iv ← holding [v, ov] (eval i X.env)
      standAt pos'
      holding [v, ov, iv] (setItem ov iv v)
      release [v, ov, iv] []) := by intro _; rfl)
    (h1 : (assignEach [.Subscript o i pos'] X.env).map (·.2) = [assign (.Subscript o i pos') X.env] := by rfl) :
    GS X (.Assign [.Subscript o i pos'] value pos) (mSetI mv mo mi) := PS.imp (ps_asg hv (pg_sub ho hi set_list ha) hs hw h1) fun D σ H q => by
  obtain ⟨ι, e, S, fl, e', S', R, hm, q⟩ := q
  obtain ⟨x, e1, S1, h1, hm⟩ := bnd_eq hm
  refine ⟨ι, e, S, x, e1, S1, R, h1, fun v H1 ι1 R1 P1 r1 _ => ?_⟩
  cases x with
  | d x =>
    obtain ⟨ro, e2, S2, h2, hm⟩ := bnd_eq (show bnd mo (fun o => bnd mi fun i => setIt o i x) e1 S1 = some (fl, e', S') from hm)
    obtain ⟨ri, e3, S3, h3, hm⟩ := bnd_eq hm
    obtain ⟨ds, k, j, g1, rfl, g3, g4, hz⟩ := setIt_eq hm
    cases hz
    refine ⟨ι1, e1, S1, ro, e2, S2, R1, h2, fun vo H2 ι2 R2 P2 r2 _ => ⟨ι2, e2, S2, _, e3, S3, R2, h3, fun vi H3 ι3 R3 P3 r3 _ => ?_⟩⟩
    obtain ⟨a, us, rfl, k1, k2, k3⟩ := R3.writeL (r2.post P3) g1 g3
    cases r3
    have rx : RD X.K H3 ι3 v x := (show RR X.K H3 ι3 σ e3 v (.d x) from (RR.post (r := .d x) r1 (P2.trans P3)))
    obtain ⟨R4, P4⟩ := k3 _ _ (k2.set j rx)
    exact ⟨a, us, k, j, rfl, rfl, k1, by rw [k2.length]; exact g4, q σ _ ι3 R4 (((P1.trans P2).trans P3).trans P4)⟩
  | _ => cases hm
/-- n += e, n -= e (ints) -/
def mAug (i : Nat) (f : Int → Int → Int) (m : M R) : M Fl := fun e S => match e[i]? with
  | some (some (.d (.int x))) => (match m e S with
    | some (.d (.int y), e1, S1) => if i < e1.length then some (.nx, e1.set i (some (.d (.int (f x y)))), S1) else none
    | _ => none)
  | _ => none
theorem gs_aug {i : Nat} {x : Str} {op : Operator} {f : Int → Int → Int} {pos' : Pos} (ho : PIp X op (ipI f)) (hN : X.N.Nodup) (hi : X.N[i]? = some x) (hx : Loc X.env.scope x) (h : GE X ex m) (hf : X.fn x = true ∨ X.env.scope.names.lookup x = some .local := by first | exact .inl rfl | exact .inr rfl | assumption) :
    GS X (.AugAssign (.Name x pos') op ex pos) (mAug i f m) := PS.imp (ps_aug hN hi hx h ho hf) fun D σ H q => by
  obtain ⟨ι, e, S, fl, e', S', R, hm, q⟩ := q
  unfold mAug at hm
  split at hm
  · rename_i n he
    split at hm
    · rename_i y e1 S1 h1
      split at hm
      · rename_i hl
        cases hm
        obtain ⟨v, hv, rv⟩ := R.sl _ _ he
        cases rv
        refine ⟨_, hv, ι, e, S, _, e1, _, R, h1, fun w H1 ι1 R1 P1 r1 _ => ?_⟩
        cases r1
        obtain ⟨R2, P2⟩ := R1.put (r := .d (.int (f n y))) P1 (.int _) trivial rfl hl
        exact ⟨_, _, rfl, rfl, q _ H1 ι1 R2 P2⟩
      · cases hm
    · cases hm
  · cases hm

/-! ### further things walked -/
def srcStr (r : R) : M Src := fun e S => match r with
  | .d (.str x) => if x.cps.size ≤ 1000000 then some (⟨x.cps.toList.map fun c => .str ⟨#[c]⟩, []⟩, e, S) else none
  | _ => none
theorem srcStr_eq {r : R} {e : En} {S : Sto} {z} (h : srcStr r e S = some z) : ∃ x : Str, r = .d (.str x) ∧ x.cps.size ≤ 1000000 ∧ z = (⟨x.cps.toList.map fun c => .str ⟨#[c]⟩, []⟩, e, S) := by
  unfold srcStr at h
  split at h
  · split at h
    · exact ⟨_, rfl, by assumption, (Option.some.inj h).symm⟩
    · cases h
  · cases h
theorem gi_str {tg : Expr} (h : GE X ex m) : GI X tg ex (bnd m srcStr) := PI.imp (pi_str h) fun σ H Q q => by
  obtain ⟨ι, e, S, src, e', S', R, hm, q⟩ := q
  obtain ⟨r, e1, S1, h1, hm⟩ := bnd_eq hm
  refine ⟨ι, e, S, r, e1, S1, R, h1, fun v H1 ι1 R1 P1 r1 _ => ?_⟩
  obtain ⟨x, rfl, hz, he⟩ := srcStr_eq hm
  cases he
  cases r1
  refine ⟨_, rfl, q _ H1 ι1 R1 P1 (fun i H ι σ e S R P _ _ => ⟨fun d hd => ?_, fun hl => ?_⟩) ?_⟩
  · have hd' : (x.cps.toList.map fun c => D.str ⟨#[c]⟩)[i]? = some d := hd
    rw [List.getElem?_map] at hd'
    obtain ⟨c, hc, rfl⟩ := Option.map_eq_some_iff.mp hd'
    have hc' : x.cps[i]? = some c := by simpa using hc
    refine ⟨(Array.getElem?_eq_some_iff.mp hc').1, fun y H' hy => ?_⟩
    obtain ⟨rfl, c', h1, rfl⟩ := hy
    rw [hc'] at h1; cases h1
    exact ⟨R, .refl, .str _, fun _ _ h => h⟩
  · have hl' : (x.cps.toList.map fun c => D.str ⟨#[c]⟩).length ≤ i := hl
    show x.cps.size ≤ i
    simpa using hl'
  · show (x.cps.toList.map fun c => D.str ⟨#[c]⟩).length ≤ sizeLine
    exact Nat.le_trans (by simpa using hz) line_ge
def rngD (lo : Int) (n : Nat) : List D := (List.range n).map fun (i : Nat) => D.int (lo + i)
theorem feeds_rng {K : PySem.W.Frag} {H1 : Hp} {ι1 : List Addr} {σ1 : SV} {e1 : En} (lo : Int) (n : Nat) : Feeds K ⟨rngD lo n, []⟩ (Itr lo n) H1 ι1 σ1 e1 := fun i H ι σ e S R P _ _ => by
  refine ⟨fun d hd => ?_, fun hl => ?_⟩
  · have hd' : (rngD lo n)[i]? = some d := hd
    unfold rngD at hd'
    rw [List.getElem?_map] at hd'
    obtain ⟨j, hj, rfl⟩ := Option.map_eq_some_iff.mp hd'
    obtain ⟨h1, h2⟩ := List.getElem?_eq_some_iff.mp hj
    simp at h1 h2
    subst h2
    refine ⟨h1, fun y H' hy => ?_⟩
    obtain ⟨rfl, rfl⟩ := hy
    exact ⟨R, .refl, .int _, fun _ _ h => h⟩
  · have hl' : (rngD lo n).length ≤ i := hl
    show n ≤ i
    simpa [rngD] using hl'
def srcR1 (rs : List R) : M Src := fun e S => match rs with
  | [.d (.int j)] => if -(2 ^ 62) ≤ j ∧ j ≤ 1000000 then some (⟨rngD 0 j.toNat, []⟩, e, S) else none
  | _ => none
def srcR2 (rs : List R) : M Src := fun e S => match rs with
  | [.d (.int i), .d (.int j)] => if (-(2 ^ 62) ≤ i ∧ i < 2 ^ 62 ∧ -(2 ^ 62) ≤ j ∧ j < 2 ^ 62) ∧ (j - i).toNat ≤ 1000000 then some (⟨rngD i (j - i).toNat, []⟩, e, S) else none
  | _ => none
theorem gi_range1 {tg : Expr} (hg : Gl X "range") (hm : X.mg "range" = none) (ha : GA X [a] ms) (hs : starEach [a] X.env = [(false, eval a X.env)] := by rfl) : GI X tg (.Call (.Name "range" p) [a] [] pos) (bnd ms srcR1) :=
  PI.imp (pi_range1 hg hm ha hs) fun σ H Q q => by
    obtain ⟨ι, e, S, src, e', S', R, hm, q⟩ := q
    obtain ⟨rs, e1, S1, h1, hm⟩ := bnd_eq hm
    refine ⟨ι, e, S, rs, e1, S1, R, h1, fun vs H1 ι1 R1 P1 r1 => ?_⟩
    unfold srcR1 at hm
    split at hm
    · split at hm
      · rename_i hz
        cases hm
        cases r1 with
        | cons g1 g2 =>
          cases g2
          cases g1
          refine ⟨_, rfl, hz.1, by omega, q _ H1 ι1 R1 P1 (feeds_rng 0 _) ?_⟩
          show (rngD 0 _).length ≤ _
          refine Nat.le_trans ?_ line_ge
          simp [rngD]; omega
      · cases hm
    · cases hm
theorem gi_range2 {tg : Expr} (hg : Gl X "range") (hm : X.mg "range" = none) (ha : GA X [a, b] ms) (hs : starEach [a, b] X.env = [(false, eval a X.env), (false, eval b X.env)] := by rfl) (hs2 : starEach [b] X.env = [(false, eval b X.env)] := by rfl) : GI X tg (.Call (.Name "range" p) [a, b] [] pos) (bnd ms srcR2) :=
  PI.imp (pi_range2 hg hm ha hs hs2) fun σ H Q q => by
    obtain ⟨ι, e, S, src, e', S', R, hm, q⟩ := q
    obtain ⟨rs, e1, S1, h1, hm⟩ := bnd_eq hm
    refine ⟨ι, e, S, rs, e1, S1, R, h1, fun vs H1 ι1 R1 P1 r1 => ?_⟩
    unfold srcR2 at hm
    split at hm
    · split at hm
      · rename_i hz
        cases hm
        cases r1 with
        | cons g1 g2 =>
          cases g2 with
          | cons g2 g3 =>
            cases g3
            cases g1; cases g2
            refine ⟨_, _, rfl, hz.1, q _ H1 ι1 R1 P1 (feeds_rng _ _) ?_⟩
            show (rngD _ _).length ≤ _
            refine Nat.le_trans ?_ line_ge
            simp [rngD]; omega
      · cases hm
    · cases hm
/-- what a walked thing reads, as it stands later -/
def SeqAt' (K : PySem.W.Frag) (H1 : Hp) (ι1 : List Addr) (σ1 : SV) (e1 : En) (lst : Bool) (a : Addr) (ds : List D) (ws : List (R × List D)) : Prop :=
  ∀ H ι σ e S, Rel K H ι σ e S → Post H1 ι1 σ1 e1 H ι σ e → Wat ws e S → (∀ p ∈ ws, ∀ j, p.1 = .loc j → σ[j]? = σ1[j]?) → ∃ xs, (if lst then SqL K H a xs else SqT K H a xs) ∧ RDs K H ι xs ds
theorem Rel.walks {K : PySem.W.Frag} {H1 : Hp} {ι1 : List Addr} {σ : SV} {e1 : En} {S1 : Sto} {v : V} {r : R} {src : Src} {e' : En} {S' : Sto} (R1 : Rel K H1 ι1 σ e1 S1) (r1 : RR K H1 ι1 σ e1 v r) (hm : srcOf r e1 S1 = some (src, e', S')) :
    e' = e1 ∧ S' = S1 ∧ ∃ a, v = .ref a ∧ ((∃ ds, r = .d (.tup ds)) → SeqAt' K H1 ι1 σ e1 false a src.items src.ws) ∧ ((∀ ds, r ≠ .d (.tup ds)) → SeqAt' K H1 ι1 σ e1 true a src.items src.ws) ∧ Wat src.ws e1 S1 := by
  unfold srcOf at hm
  split at hm
  · cases hm
    cases r1 with
    | tup g1 g2 => exact ⟨rfl, rfl, _, rfl, fun _ H ι σ2 e S R P _ _ => ⟨_, stay_t P.stay g1, RDs.mono P.stay P.pre _ _ g2⟩, fun h => (h _ rfl).elim, fun _ h => nomatch h⟩
  · cases hm
    cases r1 with
    | lst g1 g2 => exact ⟨rfl, rfl, _, rfl, fun ⟨_, h⟩ => (nomatch h), fun _ H ι σ2 e S R P _ _ => ⟨_, (stay_l P.stay g1).sq, RDs.mono P.stay P.pre _ _ g2⟩, fun _ h => nomatch h⟩
  · cases hm
    obtain ⟨a, rfl, ro, n1, n2⟩ := r1
    exact ⟨rfl, rfl, _, rfl, fun ⟨_, h⟩ => (nomatch h), fun _ H ι σ2 e S R P _ _ => P.list ro n1 fun z => n2 (.of z), fun _ h => nomatch h⟩
  · cases hm
    obtain ⟨a, rfl, ro, n1, n2⟩ := r1
    exact ⟨rfl, rfl, _, rfl, fun ⟨_, h⟩ => (nomatch h), fun _ H ι σ2 e S R P _ _ => P.list ro n1 n2, fun _ h => nomatch h⟩
  · split at hm
    · rename_i n1 n2 n3 n4 _ ds hlk
      cases hm
      obtain ⟨a, xs, rfl, g1, g2⟩ := R1.lookL r1 hlk
      refine ⟨rfl, rfl, a, rfl, fun ⟨ds, h⟩ => (n1 ds h).elim, fun _ H2 ι2 σ2 e2 S2 R2 P2 w1 w2 => ?_, fun p hp => by cases List.mem_singleton.mp hp; exact hlk⟩
      have hl2 := w1 _ (List.mem_singleton.mpr rfl)
      have r2 : RR K H2 ι2 σ2 e2 (.ref a) r := by
        cases r with
        | d x => exact RD.mono P2.stay P2.pre _ _ r1
        | loc j =>
          have : σ2[j]? = σ[j]? := w2 _ (List.mem_singleton.mpr rfl) j rfl
          show σ2[j]? = _
          rw [this]
          exact r1
        | new o =>
          cases o with
          | lst ds => exact (n3 ds rfl).elim
          | dct kvs => cases hlk
          | kd kvs => cases hlk
        | brw o =>
          cases o with
          | lst ds => exact (n4 ds rfl).elim
          | dct kvs => cases hlk
          | kd kvs => cases hlk
      obtain ⟨a', xs', ea, g3, g4⟩ := R2.lookL r2 hl2
      cases ea
      exact ⟨xs', g3, g4⟩
    · cases hm
/-- zip of two lists, or of two tuples -/
def zipD (xs ys : List D) : List D := (xs.zip ys).map fun p => .tup [p.1, p.2]
def isTupR : R → Bool
  | .d (.tup _) => true
  | _ => false
def srcZip (rs : List R) : M Src := fun e S => match rs with
  | [r1, r2] => (match srcOf r1 e S, srcOf r2 e S with
    | some (s1, _, _), some (s2, _, _) => if isTupR r1 == isTupR r2 then some (⟨zipD s1.items s2.items, s1.ws ++ s2.ws⟩, e, S) else none
    | _, _ => none)
  | _ => none
theorem zip_get {xs ys : List D} {i : Nat} {d : D} (h : (zipD xs ys)[i]? = some d) : ∃ x y, xs[i]? = some x ∧ ys[i]? = some y ∧ d = .tup [x, y] := by
  unfold zipD at h
  rw [List.getElem?_map] at h
  obtain ⟨p, hp, rfl⟩ := Option.map_eq_some_iff.mp h
  rw [List.getElem?_zip_eq_some] at hp
  exact ⟨p.1, p.2, hp.1, hp.2, rfl⟩
theorem zip_len (xs ys : List D) : (zipD xs ys).length = min xs.length ys.length := by simp [zipD]
theorem isTupR_iff {r : R} : isTupR r = true ↔ ∃ ds, r = .d (.tup ds) := by
  constructor
  · intro h
    unfold isTupR at h
    split at h
    · exact ⟨_, rfl⟩
    · cases h
  · rintro ⟨ds, rfl⟩; rfl
theorem gi_zip {elts : List Expr} {kk : Nat} {tpos : Pos} (hg : Gl X "zip") (hm : X.mg "zip" = none) (ha : GA X [a, b] ms)
    (hs : starEach [a, b] X.env = (false, eval a X.env) :: starEach [b] X.env := by rfl) (hpl : (backTo pos (starEach [b] X.env)).any (·.1) = false := by rfl) :
    GI X (.Tuple elts kk tpos) (.Call (.Name "zip" p) [a, b] [] pos) (bnd ms srcZip) :=
  PI.imp (PI.bd (RZ.pi_zipA hg hm ha hs hpl)) fun σ H Q q => by
    obtain ⟨ι, e, S, src, e', S', R, hm, q⟩ := q
    obtain ⟨rs, e1, S1, h1, hm⟩ := bnd_eq hm
    refine ⟨ι, e, S, rs, e1, S1, R, h1, fun vs H1 ι1 R1 P1 r1 => ?_⟩
    unfold srcZip at hm
    split at hm
    · split at hm
      · rename_i ra rb _ _ s1 _ _ s2 _ _ g1 g2
        split at hm
        · rename_i hk
          cases hm
          cases r1 with
          | cons ka kb =>
            cases kb with
            | cons kb kc =>
              cases kc
              obtain ⟨_, _, a, rfl, ta, la, wa⟩ := R1.walks ka g1
              obtain ⟨_, _, b, rfl, tb, lb, wb⟩ := R1.walks kb g2
              have sp : ∀ {ws ws' : List (G.R × List D)} {e S}, Wat (ws ++ ws') e S → Wat ws e S ∧ Wat ws' e S := fun h => ⟨fun p hp => h p (List.mem_append_left _ hp), fun p hp => h p (List.mem_append_right _ hp)⟩
              by_cases ht : isTupR ra = true
              · have ht2 : isTupR rb = true := by rw [ht] at hk; simpa using hk.symm
                have fa := ta (isTupR_iff.mp ht)
                have fb := tb (isTupR_iff.mp ht2)
                obtain ⟨xs, hxs, rxs⟩ := fa H1 ι1 σ _ _ R1 .refl wa fun _ _ _ _ => rfl
                obtain ⟨ys, hys, rys⟩ := fb H1 ι1 σ _ _ R1 .refl wb fun _ _ _ _ => rfl
                refine ⟨a, b, xs, ys, rfl, .inr ⟨hxs, hys, fun bd => q _ H1 ι1 R1 P1 (fun i H ι σ2 e S R P w1 w2 => ?_) ?_⟩⟩
                · obtain ⟨us, h3, h4⟩ := fa H ι σ2 e S R P (sp w1).1 fun p hp => w2 p (List.mem_append_left _ hp)
                  obtain ⟨ws, h5, h6⟩ := fb H ι σ2 e S R P (sp w1).2 fun p hp => w2 p (List.mem_append_right _ hp)
                  have h3' : SqT X.K H a us := h3
                  have h5' : SqT X.K H b ws := h5
                  refine ⟨fun d hd => ?_, fun hl => ⟨us, ws, h3', h5', ?_⟩⟩
                  · obtain ⟨x, y, e1, e2, rfl⟩ := zip_get hd
                    obtain ⟨vx, e3, rx⟩ := h4.get e1
                    obtain ⟨vy, e4, ry⟩ := h6.get e2
                    refine ⟨⟨us, ws, vx, vy, h3', h5', e3, e4⟩, fun z H' hz => ?_⟩
                    obtain ⟨T, x', y', rfl, hT, rfl, f1, f2⟩ := hz
                    have := f1 us h3'; rw [e3] at this; cases this
                    have := f2 ws h5'; rw [e4] at this; cases this
                    obtain ⟨R2, P2, _⟩ := R.new (u := .tup [vx, vy]) hT
                    exact ⟨R2, P2, .tup (.inl (.inl upd_same)) (.cons (RD.mono P2.stay P2.pre _ _ rx) (.cons (RD.mono P2.stay P2.pre _ _ ry) .nil)), fun c o h => by rw [upd_ne (ne_of_none h hT)]; exact h⟩
                  · have hl' : (zipD s1.items s2.items).length ≤ i := hl
                    rw [zip_len] at hl'
                    rw [h4.length, h6.length]; omega
                · show (zipD _ _).length ≤ _
                  rw [zip_len]
                  have := bd a xs (.inr hxs)
                  rw [rxs.length] at this
                  omega
              · have ht' : ∀ ds, ra ≠ .d (.tup ds) := fun ds z => ht (isTupR_iff.mpr ⟨ds, z⟩)
                have ht2 : ∀ ds, rb ≠ .d (.tup ds) := fun ds z => by
                  have : isTupR rb = true := isTupR_iff.mpr ⟨ds, z⟩
                  rw [this] at hk
                  exact ht (by simpa using hk)
                have fa := la ht'
                have fb := lb ht2
                obtain ⟨xs, hxs, rxs⟩ := fa H1 ι1 σ _ _ R1 .refl wa fun _ _ _ _ => rfl
                obtain ⟨ys, hys, rys⟩ := fb H1 ι1 σ _ _ R1 .refl wb fun _ _ _ _ => rfl
                refine ⟨a, b, xs, ys, rfl, .inl ⟨hxs, hys, fun bd => q _ H1 ι1 R1 P1 (fun i H ι σ2 e S R P w1 w2 => ?_) ?_⟩⟩
                · obtain ⟨us, h3, h4⟩ := fa H ι σ2 e S R P (sp w1).1 fun p hp => w2 p (List.mem_append_left _ hp)
                  obtain ⟨ws, h5, h6⟩ := fb H ι σ2 e S R P (sp w1).2 fun p hp => w2 p (List.mem_append_right _ hp)
                  have h3' : SqL X.K H a us := h3
                  have h5' : SqL X.K H b ws := h5
                  refine ⟨fun d hd => ?_, fun hl => ⟨us, ws, h3', h5', ?_⟩⟩
                  · obtain ⟨x, y, e1, e2, rfl⟩ := zip_get hd
                    obtain ⟨vx, e3, rx⟩ := h4.get e1
                    obtain ⟨vy, e4, ry⟩ := h6.get e2
                    refine ⟨⟨us, ws, vx, vy, h3', h5', e3, e4⟩, fun z H' hz => ?_⟩
                    obtain ⟨T, x', y', rfl, hT, rfl, f1, f2⟩ := hz
                    have := f1 us h3'; rw [e3] at this; cases this
                    have := f2 ws h5'; rw [e4] at this; cases this
                    obtain ⟨R2, P2, _⟩ := R.new (u := .tup [vx, vy]) hT
                    exact ⟨R2, P2, .tup (.inl (.inl upd_same)) (.cons (RD.mono P2.stay P2.pre _ _ rx) (.cons (RD.mono P2.stay P2.pre _ _ ry) .nil)), fun c o h => by rw [upd_ne (ne_of_none h hT)]; exact h⟩
                  · have hl' : (zipD s1.items s2.items).length ≤ i := hl
                    rw [zip_len] at hl'
                    rw [h4.length, h6.length]; omega
                · show (zipD _ _).length ≤ _
                  rw [zip_len]
                  have := bd a xs (.inl hxs)
                  rw [rxs.length] at this
                  omega
        · cases hm
      · cases hm
    · cases hm
end
end G

set_option Elab.async false
set_option linter.all false
set_option maxRecDepth 1000000
set_option maxHeartbeats 2000000
/-! G11: x = [..]; a, b = x, y; recursion; the frame of a def's theorem. -/
namespace G
variable [Wld]
open PySem PySem.Spec PyProof.Rows L2
section
variable {X : Cx}
theorem gs_setLc {i : Nat} {y : Str} {py : Pos} {elt tg iter : Expr} {ifs : List Expr} {scope : Scope} {own : List (Str × Nat)} {pos spos : Pos} {mi : M Src} {t : Tgt} {mc : M Bool} {me : M R}
    (hc : X.calm = true) (hN : X.N.Nodup) (hy : X.N[i]? = some y) (hyl : X.env.scope.names.lookup y = some .local)
    (hsw : swapsWith (.ListComp elt [⟨tg, iter, ifs, 0⟩] scope pos) (some (.Name y py)) spos.line X.env = pure true) (hi : GI X tg iter mi) (ok : BlkOk X.N X.env.scope scope own)
    (hg : ∀ (s : Shared) (H : Hp) (C : Addr) (cl : List (Str × Addr)) (fp : List Addr), GG (X.blk s H scope (compEnvC scope cl C X.env) fp) (own.map (·.2)) tg t)
    (ht : ∀ (s : Shared) (H : Hp) (C : Addr) (cl : List (Str × Addr)) (fp : List Addr), GTs (X.blk s H scope (compEnvC scope cl C X.env) fp) ifs mc)
    (he : ∀ (s : Shared) (H : Hp) (C : Addr) (cl : List (Str × Addr)) (fp : List Addr), GE (X.blk s H scope (compEnvC scope cl C X.env) fp) elt me) (hs : ∀ x, foldedSetIterable iter X.env x = pure x := by intro _; rfl) :
    GS X (.Assign [.Name y py] (.ListComp elt [⟨tg, iter, ifs, 0⟩] scope pos) spos) (mSet i (mLc (own.map (·.2)) t mi mc me)) :=
  PS.imp (ps_setLc hc hN hy hyl hsw hi ok hg (fun s H C cl fp => (ht s H C cl fp).h) he hs) fun D σ H q => by
    obtain ⟨ι, e, S, fl, e', S', R, hm, q⟩ := q
    obtain ⟨r, e1, S1, h1, hm⟩ := bnd_eq hm
    obtain ⟨s, hsl, hil, hz⟩ := setS_eq hm
    cases hz
    refine tLc_of (Q := fun x H1 => gName i x σ H1 D.nx) ⟨ι, e, S, r, e1, _, R, h1, fun v H1 ι1 R1 P1 r1 f1 => ?_⟩
    obtain ⟨R2, P2⟩ := R1.put P1 r1 f1 hsl hil
    exact q _ H1 ι1 R2 P2
/-- a, b = x, y -/
def mPar2 (i j : Nat) (ma mb : M R) : M Fl := bnd ma fun x => bnd mb fun y => mSeq (setS i x) (setS j y)
def mPar3 (i j l : Nat) (ma mb mc : M R) : M Fl := bnd ma fun x => bnd mb fun y => bnd mc fun z => mSeq (setS i x) (mSeq (setS j y) (setS l z))
theorem RR.afterSet {K : PySem.W.Frag} {H : Hp} {ι : List Addr} {σ : SV} {e : En} {v w : V} {r : R} {i : Nat} {s : Sl} (h : RR K H ι σ e v r) (hr : (∃ t, toSl r = some t)) (hi : i < e.length) (hσ : i < σ.length) (hne : ∀ a, v = .ref a → w = .ref a → s.isObj → (∃ o, r = .new o) → False) : RR K H ι (σ.set i (some w)) (e.set i (some s)) v r := by
  obtain ⟨t, hr⟩ := hr
  cases r with
  | d x => exact h
  | new o =>
    obtain ⟨a, rfl, ro, n1, n2⟩ := h
    refine ⟨a, rfl, ro, n1, fun ⟨m, u, h5, h6, h7⟩ => ?_⟩
    by_cases hm : i = m
    · subst hm
      rw [List.getElem?_set_self hi] at h5
      rw [List.getElem?_set_self hσ] at h7
      cases h5
      cases h7
      exact hne a rfl rfl h6 ⟨o, rfl⟩
    · rw [List.getElem?_set_ne hm] at h5 h7
      exact n2 ⟨m, u, h5, h6, h7⟩
  | brw o => cases hr
  | loc m => cases hr
/-- where an object stands that was there before -/
theorem fresh_ne {K : PySem.W.Frag} {H1 : Hp} {ι : List Addr} {σ : SV} {e : En} {v w : V} {r q : R} {s : Sl} (hv : RR K H1 ι σ e w q) (hq : toSl q = some s) (f : Fresh H1 v r) : ∀ a, v = .ref a → w = .ref a → s.isObj → (∃ o, r = .new o) → False := by
  rintro a rfl rfl hs ⟨o, rfl⟩
  obtain ⟨a', ea, hn⟩ := f
  cases ea
  cases q with
  | d x => cases hq; exact hs
  | new o' =>
    obtain ⟨b, eb, ro, _⟩ := hv
    cases eb
    obtain ⟨u, hu, _⟩ := ro.there
    rw [hn] at hu; cases hu
  | brw o' => cases hq
  | loc m => cases hq
theorem gs_par2 {i j : Nat} {x y : Str} {a b : Expr} {ma mb : M R} {px py pt pos : Pos} {kt k2 pt2} (hc : X.calm = true) (hN : X.N.Nodup) (hi : X.N[i]? = some x) (hj : X.N[j]? = some y) (hij : i ≠ j)
    (hx : X.env.scope.names.lookup x = some .local) (hy : X.env.scope.names.lookup y = some .local) (ha : GE X a ma) (hb : GE X b mb)
    (hw : swappedStores [.Tuple [.Name x px, .Name y py] kt pt] (.Tuple [a, b] k2 pt2) X.env = pure (some [x, y]))
    (hs : swapsWithSole [.Tuple [.Name x px, .Name y py] kt pt] (.Tuple [a, b] k2 pt2) pos.line X.env = pure false := by rfl)
    (h1 : starEach [a, b] X.env = (false, eval a X.env) :: starEach [b] X.env := by rfl) (h2 : starEach [b] X.env = (false, eval b X.env) :: starEach [] X.env := by rfl) :
    GS X (.Assign [.Tuple [.Name x px, .Name y py] kt pt] (.Tuple [a, b] k2 pt2) pos) (mPar2 i j ma mb) := PS.imp (ps_par hc hN hi hj hij hx hy (pa_cons ha (pa_cons hb pa_nil h2) h1) hw hs) fun D σ H q => by
  obtain ⟨ι, e, S, fl, e', S', R, hm, q⟩ := q
  obtain ⟨r1, e1, S1, h1, hm⟩ := bnd_eq hm
  obtain ⟨r2, e2, S2, h2, hm⟩ := bnd_eq hm
  obtain ⟨f1, e3, S3, h3, hm⟩ := bnd_eq hm
  obtain ⟨s1, hs1, hl1, hz⟩ := setS_eq h3
  cases hz
  obtain ⟨s2, hs2, hl2, hz⟩ := setS_eq hm
  cases hz
  refine ⟨ι, e, S, r1, e1, S1, R, h1, fun v H1 ι1 R1 P1 rr1 fr1 => ⟨ι1, e1, S1, r2, e2, _, R1, h2, fun w H2 ι2 R2 P2 rr2 fr2 => ⟨v, w, rfl, ?_⟩⟩⟩
  have P12 := P1.trans P2
  obtain ⟨R3, P3⟩ := R2.put P12 (rr1.post P2) fr1 hs1 hl1
  have rr2' := rr2.afterSet (s := s1) (w := v) ⟨_, hs2⟩ hl1 (by rw [R2.len]; exact hl1) (fresh_ne rr1 hs1 fr2)
  obtain ⟨R4, P4⟩ := R3.put P3 rr2' (fr2.back P1) hs2 hl2
  exact q _ H2 ι2 R4 P4
theorem gs_par3 {i j l : Nat} {x y z : Str} {a b c : Expr} {ma mb mc : M R} {px py pz pt pos : Pos} {kt k2 pt2} (hc : X.calm = true) (hN : X.N.Nodup) (hi : X.N[i]? = some x) (hj : X.N[j]? = some y) (hl : X.N[l]? = some z) (hij : i ≠ j) (hil : i ≠ l) (hjl : j ≠ l)
    (hx : X.env.scope.names.lookup x = some .local) (hy : X.env.scope.names.lookup y = some .local) (hz : X.env.scope.names.lookup z = some .local) (ha : GE X a ma) (hb : GE X b mb) (hcc : GE X c mc)
    (hw : swappedStores [.Tuple [.Name x px, .Name y py, .Name z pz] kt pt] (.Tuple [a, b, c] k2 pt2) X.env = pure (some [x, y, z]))
    (hs : swapsWithSole [.Tuple [.Name x px, .Name y py, .Name z pz] kt pt] (.Tuple [a, b, c] k2 pt2) pos.line X.env = pure false := by rfl)
    (h1 : starEach [a, b, c] X.env = (false, eval a X.env) :: starEach [b, c] X.env := by rfl) (h2 : starEach [b, c] X.env = (false, eval b X.env) :: starEach [c] X.env := by rfl) (h3 : starEach [c] X.env = (false, eval c X.env) :: starEach [] X.env := by rfl) :
    GS X (.Assign [.Tuple [.Name x px, .Name y py, .Name z pz] kt pt] (.Tuple [a, b, c] k2 pt2) pos) (mPar3 i j l ma mb mc) := PS.imp (ps_par3 hc hN hi hj hl hij hil hjl hx hy hz (pa_cons ha (pa_cons hb (pa_cons hcc pa_nil h3) h2) h1) hw hs) fun D σ H q => by
  obtain ⟨ι, e, S, fl, e', S', R, hm, q⟩ := q
  obtain ⟨r1, e1, S1, h1, hm⟩ := bnd_eq hm
  obtain ⟨r2, e2, S2, h2, hm⟩ := bnd_eq hm
  obtain ⟨r3, e3, S3, h3, hm⟩ := bnd_eq hm
  obtain ⟨f1, e4, S4, h4, hm⟩ := bnd_eq hm
  obtain ⟨s1, hs1, hl1, hz⟩ := setS_eq h4
  cases hz
  obtain ⟨f2, e5, S5, h5, hm⟩ := bnd_eq hm
  obtain ⟨s2, hs2, hl2, hz⟩ := setS_eq h5
  cases hz
  obtain ⟨s3, hs3, hl3, hz⟩ := setS_eq hm
  cases hz
  refine ⟨ι, e, S, r1, e1, S1, R, h1, fun v1 H1 ι1 R1 P1 rr1 fr1 => ⟨ι1, e1, S1, r2, e2, S2, R1, h2, fun v2 H2 ι2 R2 P2 rr2 fr2 => ⟨ι2, e2, S2, r3, e3, _, R2, h3, fun v3 H3 ι3 R3 P3 rr3 fr3 => ⟨v1, v2, v3, rfl, ?_⟩⟩⟩⟩
  have P13 := (P1.trans P2).trans P3
  obtain ⟨R4, P4⟩ := R3.put P13 (rr1.post (P2.trans P3)) fr1 hs1 hl1
  have lσ : i < σ.length := by rw [R3.len]; exact hl1
  have rr2' := (rr2.post P3).afterSet (s := s1) (w := v1) ⟨_, hs2⟩ hl1 lσ (fresh_ne rr1 hs1 fr2)
  obtain ⟨R5, P5⟩ := R4.put P4 rr2' (fr2.back P1) hs2 hl2
  have rr3' := rr3.afterSet (s := s1) (w := v1) ⟨_, hs3⟩ hl1 lσ (fresh_ne (rr1.post P2) hs1 fr3)
  have rr3'' := rr3'.afterSet (s := s2) (w := v2) (i := j) ⟨_, hs3⟩ hl2 (by rw [R4.len]; exact hl2) (fresh_ne rr2 hs2 fr3)
  obtain ⟨R6, P6⟩ := R5.put P5 rr3'' (fr3.back (P1.trans P2)) hs3 hl3
  exact q _ H3 ι3 R6 P6
/-- code that is never come to -/
theorem gss_never {sts : List Stmt} : GSs X sts stk := PSs.imp pss_never fun D σ H q => by
  obtain ⟨ι, e, S, fl, e', S', R, hm, q⟩ := q
  cases hm
end
theorem runF_stk (n : Nat) : runF n stk = fun _ _ => none := rfl
/-- a def that calls itself, by how deep -/
noncomputable def recF (nl : Nat) (body : Fn → M Fl) : Nat → Fn
  | 0 => fun _ _ => none
  | n + 1 => runF nl (body (recF nl body n))
section
variable {P : Program} {w : World} {K : PySem.W.Frag} {mg : Str → Option Value} {base : Heap}
theorem GF.mk' {x : Str} {k n : Nat} {m : Fn} {f : Addr} {fd : FuncData} {ps : List Str} (ok : FnG P w K mg base k f fd ps (spG K n m)) (hm : mg x = some (.ref f)) (hk : PySem.W.keepIn K (.ref f) = true) (hb : Binds K fd ps []) : GF P w K mg base k x n m := ⟨⟨f, fd, ps, ok, hm, hk, hb⟩⟩
theorem GF.mono {x : Str} {j k n : Nat} {m : Fn} (F : GF P w K mg base j x n m) (h : j ≤ k) : GF P w K mg base k x n m := by
  obtain ⟨f, fd, ps, ok, hm, hk, hb⟩ := F.ex
  exact ⟨⟨f, fd, ps, ok.mono h, hm, hk, hb⟩⟩
/-- a recursion: each depth by the one below -/
theorem GF.recur {x qual : Str} {st : Stmt} {f : Addr} {fd : FuncData} {N ps : List Str} {k : Nat} {body : Fn → M Fl} (F : Fun K x qual st f fd) (Sc : FnScope N ps (defScope st)) (hm : mg x = some (.ref f)) (hb : Binds K fd ps [])
    (h : ∀ (n : Nat) (self : Fn), GF P w K mg base (k + n + 1) x ps.length self → FnG P w K mg base (k + n + 1 + 1) f fd ps (spG K ps.length (runF (N.length - ps.length) (body self)))) :
    ∀ n, GF P w K mg base (k + n + 1) x ps.length (recF (N.length - ps.length) body n)
  | 0 => ⟨⟨f, fd, ps, fn_ok (N := N) (body := stk) F Sc fun cdv A outer s H vs Q E hr hgd => gss_never, hm, F.kp, hb⟩⟩
  | n + 1 => ⟨⟨f, fd, ps, h n _ (GF.recur F Sc hm hb h n), hm, F.kp, hb⟩⟩
end
end G

set_option Elab.async false
set_option linter.all false
set_option maxRecDepth 1000000
set_option maxHeartbeats 2000000
/-! G12: the frame of a law's text. -/
namespace G
variable [Wld]
open PySem PySem.Spec PyProof.Rows L2
structure DF (K : PySem.W.Frag) (mg : Str → Option Value) (x qual : Str) (st : Stmt) (ps : List Str) : Prop where
  ex : ∃ f fd, Fun K x qual st f fd ∧ mg x = some (.ref f) ∧ Binds K fd ps []
section
variable {P : Program} {w : World} {K : PySem.W.Frag} {mg : Str → Option Value} {base : Heap}
theorem GF.bodyOf {x qual : Str} {st : Stmt} {N ps : List Str} {k : Nat} {body : M Fl} (D : DF K mg x qual st ps) (Sc : FnScope N ps (defScope st))
    (h : ∀ (f : Addr) (cdv : Value) (A : Around) (outer : List PySem.Env) (s : Shared) (H : Hp) (vs : List V) (Q : VK) (E : XK), Room k (A.deeper (envOfC qual (defScope st) s.heap.objs.size f cdv)) → (A.deeper (envOfC qual (defScope st) s.heap.objs.size f cdv)).guards = some [] →
      GSs (cxOf CX0 P w K mg base N qual (defScope st) f cdv A outer s H E).nox (defBody st) body) :
    GF P w K mg base (k + 1) x ps.length (runF (N.length - ps.length) body) := by
  obtain ⟨f, fd, F, hm, hb⟩ := D.ex
  exact .mk' (fn_ok F Sc (h f)) hm F.kp hb
theorem GF.recOf {x qual : Str} {st : Stmt} {N ps : List Str} {k : Nat} {body : Fn → M Fl} (D : DF K mg x qual st ps) (Sc : FnScope N ps (defScope st))
    (h : ∀ (n : Nat) (self : Fn), GF P w K mg base (k + n + 1) x ps.length self → ∀ (f : Addr) (cdv : Value) (A : Around) (outer : List PySem.Env) (s : Shared) (H : Hp) (vs : List V) (Q : VK) (E : XK), Room (k + n + 1) (A.deeper (envOfC qual (defScope st) s.heap.objs.size f cdv)) → (A.deeper (envOfC qual (defScope st) s.heap.objs.size f cdv)).guards = some [] →
      GSs (cxOf CX0 P w K mg base N qual (defScope st) f cdv A outer s H E).nox (defBody st) (body self)) :
    ∀ n, GF P w K mg base (k + n + 1) x ps.length (recF (N.length - ps.length) body n) := by
  obtain ⟨f, fd, F, hm, hb⟩ := D.ex
  exact GF.recur F Sc hm hb fun n self S => fn_ok F Sc (h n self S f)
theorem DF.mk' {h : Heap} (X : K.In h) (G : h.Ns mainGlobals mg) {x qual : Str} {st : Stmt} {f : Addr} {fd : FuncData} {ps : List Str} (F : Fun K x qual st f fd) (a : PySem.W.nsIn K mainGlobals x = some (some (.ref f))) (b : Fun K x qual st f fd → Binds K fd ps []) : DF K mg x qual st ps :=
  ⟨⟨f, fd, F, PySem.W.mg_of X G a, b F⟩⟩
/-- the law's promise, from its mirror -/
theorem spG_law {f : Fn} {H : Hp} {a : Addr} {ns : List Int} (hO : Only H) (hS : SqL K H a (ns.map V.int)) {S' : Sto} (h : f [.d (.lst (ns.map D.int))] [] = some (.d (.bl true), S')) : spG K 1 f [.ref a] H (fun v _ => v = .bl true) fun _ _ _ => False := by
  have hl : LF K H a (ns.map V.int) := by
    rcases hS with (h | ⟨o, h⟩) | h
    · rcases hO a with z | ⟨o, xs, z⟩
      · rw [z] at h; cases h
      · rw [z] at h; cases h
    · exact .inl ⟨o, h⟩
    · exact .inr h
  have hr : ∀ (xs : List Int), RDs K H [] (xs.map V.int) (xs.map D.int) := fun xs => by
    induction xs with
    | nil => exact .nil
    | cons x xs ih => exact .cons (.int x) ih
  refine ⟨rfl, [], _, _, _, _, ⟨rfl, fun n o a h => by simp at h, .nil⟩, .cons (s := .d (.lst (ns.map D.int))) (.lst hl (hr ns)) (fun _ _ z => z.elim) (fun z => z) .nil, h, fun v H' ι' R' P' r => ?_⟩
  cases r
  rfl
end
/-- a law's row, from its mirror -/
theorem walk_G {l : PySem.W.OpenLaw} {n k : Nat} {q : Program} {loose : List Str} {XP : (Str → Option Value) → Heap → Prop} {YP : World → Heap → Prop} {d : DefRec} {K : Params → PySem.W.Frag} {x : Str} (f : Fn)
    (hn : l.most = some n) (hn2 : n ≤ sizeLine) (hdf : d.params.defaults = []) (hr : Room k callerA) (hY : ∀ (w : World) (h : Heap), YP w h → (K w.params).In h)
    (F : ∀ (w : World) (mg : Str → Option Value) (fa : Addr) (h : Heap), (K w.params).In h → h.Ns mainGlobals mg → mg d.name = some (.ref fa) →
      ∃ fd : FuncData, (∀ (s : Shared) (u : Value), BindsTo s fd ⟨[u], []⟩ [(x, u)]) ∧ ∀ base : Heap, (K w.params).In base → base.Ns mainGlobals mg → FnG l.prog w (K w.params) mg base k fa fd [x] (spG (K w.params) 1 f))
    (hf : ∀ ns : List Int, ns.length ≤ n → (∀ z ∈ ns, Builtin.Int.intBits z ≤ 1048576) → ∃ S', f [.d (.lst (ns.map D.int))] [] = some (.d (.bl true), S')) :
    PySem.W.WalkO q loose XP YP l.row.toRowW d [] (fun f vs => PySem.call f vs) :=
  Att.attach_callB hn hdf fun w s₀ s₁ mg mb fa o pm cd doc a vs ns G Y ho hd hcd hmg hobj hints hlen hbits hg =>
    let ⟨fd, hb, hF⟩ := F w mg fa _ (hY w _ Y) G.T.g hmg
    law_callG (hY w _ Y) G.T.g G.T.b G.T.builtins G.T.nolimit hg hobj hints (Nat.le_trans hlen hn2) hr hF hb fun H hO hS => let ⟨_, h⟩ := hf ns hlen hbits; spG_law hO hS h
end G

set_option Elab.async false
set_option linter.all false
set_option maxRecDepth 1000000
set_option maxHeartbeats 4000000
/-! G16: constants of a module, {}, t[::-1], len(set(texts)). -/
namespace G
variable [Wld]
open PySem PySem.Spec PyProof.Rows L2
section
variable {X : Cx} {pos : Pos}
theorem ge_gS {x z : Str} (h : ∃ t, X.mg x = some (.str z t)) (hg : Gl X x) (hd : (x == ("__debug__" : Str)) = false := by decide) : GE X (.Name x pos) (mC (.str z)) := by
  obtain ⟨t, h⟩ := h
  exact ge_glob (v := .str z) hg h ⟨t, rfl⟩ (fun _ _ => .str z) hd
theorem ge_gI {x : Str} {i : Int} (h : ∃ t, X.mg x = some (.int i t)) (hg : Gl X x) (hd : (x == ("__debug__" : Str)) = false := by decide) : GE X (.Name x pos) (mC (.int i)) := by
  obtain ⟨t, h⟩ := h
  exact ge_glob (v := .int i) hg h ⟨t, rfl⟩ (fun _ _ => .int i) hd
def mDn : M R := pur (.new (.dct []))
theorem ge_dn : GE X (.Dict [] [] pos) mDn := PE.imp pe_dnewK fun σ H Q q => by
  obtain ⟨ι, e, S, r, e', S', R, hm, q⟩ := q
  cases hm
  intro p hp
  obtain ⟨R2, P2, n1, n2⟩ := R.new (u := .dK []) hp
  exact q _ _ ι R2 P2 ⟨p, rfl, ⟨[], upd_same, .nil⟩, n1, n2⟩ ⟨p, rfl, hp⟩
end
/-! ### t[::-1] of a tuple -/
section
variable {prog : Program} {w : World} {A : Around} {E : Value → Shared → Prop} {s : Shared}
theorem beq_neg_one {n : Nat} : (((-1 : Int) == 1) && n == n) = false := by simp
/-- a tuple, backwards -/
theorem getItem_tup_back {t c : Addr} {xs : Array Value} {v1 v2 v3 : Value} {Q : Value → Shared → Prop} (ht : IsTup s.heap t xs) (hc : s.heap.IsSliceOf c v1 v2 v3) (p1 : IsPart v1 none) (p2 : IsPart v2 none) (p3 : IsPart v3 (some (-1)))
    (hz : xs.size ≤ sizeLine) (h : Q (.ref s.heap.objs.size) { s with heap := s.heap.push { cls := .type "tuple", data := .seq xs.toList.reverse.toArray } }) :
    wpAny (model prog w) A (getItem (.ref t) (.ref c)) Q E s := by
  have hfit : sizeOk (.seq xs.toList.reverse.toArray) := by
    show xs.toList.reverse.toArray.size ≤ sizeLine
    rw [List.size_toArray, List.length_reverse, Array.length_toList]; exact hz
  obtain ⟨oc, e1, e2, e3⟩ := id hc
  have hT : s.TypeIs (.ref c) "slice" := ⟨oc, e1, e2⟩
  unfold getItem
  try with_reducible refine wpAny_holding ?_
  first | refine wpAny_bind (wpAny_pure ?_) | skip
  refine wpAny_bind (wpAny_sequenceKey ht.typeIs (by decide) ?_)
  refine wpAny_bind (wpAny_callSpecial?_slot (name := "__getitem__") ht.typeIs slot_tuple_getitem (wpAny_call_entry slot_tuple_getitem ht.typeIs entry_tuple_getitem ?_ (args_tuple_getitem _ _)))
  show wpAny _ _ (Builtin.Tuple.tupleItemsOf (.ref t) >>= _) _ _ s
  refine wpAny_bind (tupleItemsOf_ ht (wpAny_bind (wpAny_typeOf hT ?_)))
  rw [if_pos (by decide)]
  have happ : ∀ {R : Int × Int × Nat → Shared → Prop} {E' : Value → Shared → Prop}, R ((xs.size : Int) - 1, -1, xs.size) s → wpAny (model prog w) A.in1 (Builtin.Slice.sliceApplied (.ref c) (pure (xs.size : Int))) R E' s := fun {R E'} hR => by
    unfold Builtin.Slice.sliceApplied Builtin.Slice.sliceFields
    refine wpAny_bind (wpAny_bind (wpAny_field e1 e3 (x := v1) rfl (wpAny_bind (wpAny_field e1 e3 (x := v2) rfl (wpAny_bind (wpAny_field e1 e3 (x := v3) rfl (wpAny_pure ?_)))))))
    refine wpAny_bind (HT.slicePart_ p3 ?_)
    show wpAny _ _ (if ((-1 : Int) == 0) = true then _ else _) _ _ s
    rw [if_neg (by decide)]
    refine wpAny_bind (HT.slicePart_ p1 (wpAny_bind (HT.slicePart_ p2 (wpAny_bind (wpAny_pure ?_)))))
    have adj : Builtin.Slice.sliceAdjust none none (-1) (xs.size : Int) = ((xs.size : Int) - 1, -1) := rfl
    have pls : Builtin.Slice.slicePlaces ((xs.size : Int) - 1) (-1) (-1) = xs.size := by
      unfold Builtin.Slice.slicePlaces
      rw [if_neg (by decide), show (- (-1 : Int)) = 1 by decide, Int.ediv_one]
      split <;> omega
    show wpAny _ _ (match Builtin.Slice.sliceAdjust none none (-1) (xs.size : Int) with | (lo, hi) => pure (lo, (-1 : Int), Builtin.Slice.slicePlaces lo hi (-1))) _ _ s
    rw [adj]
    show wpAny _ _ (pure (((xs.size : Int) - 1), (-1 : Int), Builtin.Slice.slicePlaces ((xs.size : Int) - 1) (-1) (-1))) _ _ s
    rw [pls]
    exact wpAny_pure hR
  have hpick : ((List.range xs.size).filterMap fun (k : Nat) => xs[(((xs.size : Int) - 1) + (k : Int) * (-1)).toNat]?).toArray = xs.toList.reverse.toArray := by
    have h := PySem.W.krv_pick xs
    unfold slicePick at h
    rw [← h]
    have hb := PySem.W.krv_bounds xs.size
    rw [hb]
    show _ = ((sliceRange ((xs.size : Int) - 1) (-1) (-1)).filterMap (xs[·]?)).toArray
    rw [PySem.W.krv_sliceRange, List.filterMap_map]
    have hc : ∀ l : List Nat, (∀ k ∈ l, k < xs.size) → (l.filterMap fun (k : Nat) => xs[(((xs.size : Int) - 1) + (k : Int) * (-1)).toNat]?) = l.filterMap ((xs[·]?) ∘ fun k => xs.size - 1 - k) := fun l => by
      induction l with
      | nil => intro _; rfl
      | cons k l ih =>
        intro hl
        have hk := hl k (by simp)
        rw [List.filterMap_cons, List.filterMap_cons, ih fun k hk => hl k (by simp [hk]), show (((xs.size : Int) - 1) + (k : Int) * (-1)).toNat = xs.size - 1 - k by omega]
        rfl
    rw [hc _ fun k hk => List.mem_range.mp hk]
  refine wpAny_bind (happ ?_)
  have hno : ¬ (((((xs.size : Int) - 1) == 0) && ((-1 : Int) == 1) && (xs.size == xs.size)) = true) := by
    rw [show ((-1 : Int) == 1) = false by decide, Bool.and_false, Bool.false_and]; exact Bool.false_ne_true
  show wpAny _ _ (if ((((xs.size : Int) - 1) == 0) && ((-1 : Int) == 1) && (xs.size == xs.size)) = true then _ else _) _ _ s
  rw [if_neg hno, hpick]
  first
    | exact wpAny_bind (m := Builtin.Tuple.tupleExact _) (wpAny_newObj_type (wpAny_pure ⟨_, rfl, wpAny_pure h⟩) hfit)
    | exact wpAny_bind (m := Builtin.Tuple.tupleExact _) (wpAny_newObj_type (wpAny_bind (wpAny_pure (wpAny_pure ⟨_, rfl, wpAny_pure h⟩))) hfit)
    | exact wpAny_bind (wpAny_bind (m := Builtin.Tuple.tupleExact _) (wpAny_newObj_type (wpAny_pure (wpAny_pure ⟨_, rfl, wpAny_pure h⟩)) hfit))
    | exact wpAny_bind (wpAny_bind (m := Builtin.Tuple.tupleExact _) (wpAny_newObj_type (wpAny_pure ⟨_, rfl, wpAny_pure h⟩) hfit))
end
section
variable {X : Cx}
def tBackT (K : PySem.W.Frag) (te : TE) : TE := fun σ H Q => te σ H fun x H1 => ∃ a xs, x = .ref a ∧ SqT K H1 a xs ∧ ∀ p, H1 p = none → Q (.ref p) (upd H1 p (.tup xs.reverse))
theorem pe_backT {ex : Expr} {te : TE} {k : Nat} {p1 p2 p3 pos : Pos} (he : PE X ex te) : PE X (.Subscript ex (.Slice none none (some (.UnaryOp .USub (.Constant (.int 1) k p1) p2)) p3) pos) (tBackT X.K te) := by
  refine ⟨fun pins s σ H Q I h => Subscript_ (thn (he.run pins s σ H _ I h) fun v sA ⟨x, HA, IA, rA, a, xs, ex', hx, q⟩ => ?_)⟩
  subst ex'
  cases rA
  have hst : PO X (some (.UnaryOp .USub (.Constant (.int 1) k p1) p2)) (tPart (tUn (rU fun i => .int (-i)) (tC (.int 1)))) := po_some (pe_un un_neg pe_int)
  refine wpAny_Slice (thn (po_none.run pins sA σ HA (fun o G => o = none ∧ G = HA) IA ⟨rfl, rfl⟩) fun v1 sB ⟨o1, HB, IB, q1, w1, z1⟩ => thn (po_none.run pins sB σ HB (fun o G => o = none ∧ G = HB) IB ⟨rfl, rfl⟩) fun v2 sC ⟨o2, HC, IC, q2, w2, z2⟩ =>
    thn (hst.run pins sC σ HC (fun o G => o = some (-1) ∧ G = HC) IC ⟨1, rfl, -1, rfl, rfl, rfl⟩) fun v3 sD ⟨o3, HD, ID, q3, w3, z3⟩ => ?_)
  subst w1 z1 w2 z2 w3 z3
  have J : Inv X pins σ HD { sD with heap := sD.heap.push { cls := .type "slice", data := .fields #[v1, v2, v3] } } := ID.kept (t' := sD.toks) fun b ob z => Heap.get?_push_of_some _ z
  obtain ⟨its, r, ht, hz⟩ := J.tuple hx
  have hsz : its.toArray.size ≤ sizeLine := by rw [List.size_toArray, ← r.length]; exact hz
  show wpAny (model X.prog X.w) X.A (subscriptTail ex (.Slice none none (some (.UnaryOp .USub (.Constant (.int 1) k p1) p2)) p3) (.ref a) (.ref sD.heap.objs.size)) (EP X pins σ Q) X.xe _
  refine tail_any (ops := [.ref a, .ref sD.heap.objs.size]) ht.typeIs slot_tuple_getitem.lookup (getItem_tup_back ht (Heap.IsSliceOf.new _ v1 v2 v3) q1 q2 q3 hsz ?_) (by with_unfolding_all rfl)
  refine ⟨.ref _, _, J.laid (t' := sD.toks) (o := .tup xs.reverse) (fun b ob z => Heap.get?_push_of_some _ z) (Nat.le_refl _) ?_, rfl, q _ (J.hok.fresh (Nat.le_refl _))⟩
  exact ⟨by rw [List.length_reverse]; exact hz, _, r.reverse, IsTup.new _ _⟩
def gBack (r : R) : M R := fun e S => match r with
  | .d (.tup ds) => some (.d (.tup ds.reverse), e, S)
  | _ => none
theorem ge_backT {ex : Expr} {m : M R} {k : Nat} {p1 p2 p3 pos : Pos} (he : GE X ex m) : GE X (.Subscript ex (.Slice none none (some (.UnaryOp .USub (.Constant (.int 1) k p1) p2)) p3) pos) (bnd m gBack) := PE.imp (pe_backT he) fun σ H Q q => by
  obtain ⟨ι, e, S, r, e', S', R, hm, q⟩ := q
  obtain ⟨x, e1, S1, h1, hm⟩ := bnd_eq hm
  refine ⟨ι, e, S, _, e1, S1, R, h1, fun v H1 ι1 R1 P1 r1 _ => ?_⟩
  unfold gBack at hm
  split at hm
  · cases hm
    cases r1 with
    | tup g1 g2 =>
      refine ⟨_, _, rfl, g1, fun p hp => ?_⟩
      obtain ⟨R4, P4, _⟩ := R1.new (u := .tup _) hp
      exact q _ _ ι1 R4 (P1.trans P4) (.tup (.inl (.inl upd_same)) (RDs.mono P4.stay P4.pre _ _ g2.reverse)) trivial
  · cases hm
end
end G

set_option Elab.async false
set_option linter.all false
set_option maxRecDepth 1000000
set_option maxHeartbeats 4000000
/-! G17: len(set(a list of texts)). -/
namespace G
variable [Wld]
open PySem PySem.Spec PyProof.Rows L2
/-- each text once, as met -/
def uniq (xs : List Str) : List Str := xs.foldl (fun acc x => if x ∈ acc then acc else acc ++ [x]) []
theorem uniq_snoc (xs : List Str) (x : Str) : uniq (xs ++ [x]) = if x ∈ uniq xs then uniq xs else uniq xs ++ [x] := by
  unfold uniq; rw [List.foldl_append]; rfl
theorem mem_uniq (xs : List Str) (y : Str) : y ∈ uniq xs ↔ y ∈ xs := by
  suffices h : ∀ (ys acc : List Str), y ∈ ys.foldl (fun acc x => if x ∈ acc then acc else acc ++ [x]) acc ↔ y ∈ acc ∨ y ∈ ys by simpa [uniq] using h xs []
  intro ys
  induction ys with
  | nil => intro acc; simp
  | cons z ys ih =>
    intro acc
    rw [List.foldl_cons, ih]
    by_cases hz : z ∈ acc
    · rw [if_pos hz]; constructor
      · rintro (h | h)
        · exact .inl h
        · exact .inr (by simp [h])
      · rintro (h | h)
        · exact .inl h
        · rcases List.mem_cons.mp h with rfl | h
          · exact .inl hz
          · exact .inr h
    · rw [if_neg hz]; simp [or_assoc]
theorem uniq_le : ∀ xs : List Str, (uniq xs).length ≤ xs.length := by
  intro xs
  suffices h : ∀ (ys acc : List Str), (ys.foldl (fun acc x => if x ∈ acc then acc else acc ++ [x]) acc).length ≤ acc.length + ys.length by simpa [uniq] using h xs []
  intro ys
  induction ys with
  | nil => intro acc; simp
  | cons z ys ih =>
    intro acc
    rw [List.foldl_cons]
    refine Nat.le_trans (ih _) ?_
    split <;> simp <;> omega
theorem uniq_len {xs : List Str} : (uniq xs).length = xs.length ↔ xs.Nodup := by
  suffices h : ∀ n, ∀ xs : List Str, xs.length = n → ((uniq xs).length = xs.length ↔ xs.Nodup) by exact h _ xs rfl
  intro n
  induction n with
  | zero => intro xs h; rw [List.length_eq_zero_iff] at h; subst h; simp [uniq]
  | succ n ih =>
    intro xs h
    obtain ⟨ys, x, rfl⟩ : ∃ ys x, xs = ys ++ [x] := by
      have : xs ≠ [] := fun e => by rw [e] at h; simp at h
      exact ⟨xs.dropLast, xs.getLast this, (List.dropLast_concat_getLast this).symm⟩
    have hl : ys.length = n := by simp at h; exact h
    have i1 := ih ys hl
    have i2 := uniq_le ys
    rw [uniq_snoc, List.nodup_append]
    by_cases hx : x ∈ uniq ys
    · rw [if_pos hx, List.length_append, List.length_singleton]
      constructor
      · intro e; omega
      · rintro ⟨_, _, h3⟩
        exact absurd rfl (h3 x ((mem_uniq ys x).mp hx) x (by simp))
    · rw [if_neg hx, List.length_append, List.length_append, List.length_singleton]
      constructor
      · intro e
        refine ⟨i1.mp (by omega), by simp, fun a ha b hb => ?_⟩
        simp at hb; subst hb
        exact fun e => hx ((mem_uniq ys _).mpr (e ▸ ha))
      · rintro ⟨h1, _, _⟩
        rw [i1.mpr h1]
/-- the set that holds the first i of xs -/
abbrev Held (prog : Program) (w : World) (h : Heap) (S : Addr) (xs : List Str) (i : Nat) : Prop := h.SetOf (PySem.strKind prog w) S (fun y => decide (y ∈ xs.take i)) (uniq (xs.take i)).length
section
variable {prog : Program} {w : World} {A : Around} {R : Result → Shared → Prop} {I : Addr} {fp wr : List Addr} {Gn : Array GenState → Array GenState → Prop} {n : Nat} {P : Nat → Value → Prop} {St : Nat → Shared → Prop}
theorem Held.moved {s s' : Shared} {S : Addr} {xs : List Str} {i : Nat} (h : Held prog w s.heap S xs i) (k : ∀ o, s.heap.get? S = some o → s'.heap.get? S = some o) : Held prog w s'.heap S xs i := by
  obtain ⟨o, es, ep, t, ho, r⟩ := h
  exact ⟨o, es, ep, t, k o ho, r⟩
theorem texts_loop (W : WalksS prog w A.in1 I fp wr Gn n P St) (S : Addr) (hS : S ∉ fp) (xs : List Str) (hn : xs.length = n) (h4000 : n ≤ 4000) (hv : ∀ i v, P i v → ∃ t, v = .str (xs.getD i Str.empty) t) (left : Nat) :
    ∀ (i : Nat) (s : Shared), i + left = n → St i s → Held prog w s.heap S xs i → (∀ s', Moved (S :: wr) Gn s s' → Held prog w s'.heap S xs n → R (.ok (.ret .none)) s') →
      codeAny (model prog w) A (.builtin "set.update.loop" ⟨[.ref S, .ref I], []⟩) R s := by
  have hw : S ∉ wr := fun h => hS (W.sub _ h)
  induction left with
  | zero =>
    intro i s hi hst held fin
    obtain rfl : i = n := by omega
    refine codeAny_builtin PyProof.Rows.F.entry_set_update_loop ?_
    rw [Around.under_plainId PyProof.Rows.F.plain_set_update_loop _]
    change wpAny _ _ (pyNext (.ref I) >>= _) _ _ _
    refine wpAny_bind (W.done s _ _ hst fun s' m => ?_)
    change wpAny _ _ (ret Value.none) _ _ _
    exact wpAny_pure (fin s' (m.mono fun b hb => List.mem_cons_of_mem _ hb) (held.moved fun o e => m.heap S _ hw e))
  | succ left ih =>
    intro i s hi hst held fin
    have hlt : i < n := by omega
    refine codeAny_builtin PyProof.Rows.F.entry_set_update_loop ?_
    rw [Around.under_plainId PyProof.Rows.F.plain_set_update_loop _]
    change wpAny _ _ (pyNext (.ref I) >>= _) _ _ _
    refine wpAny_bind (W.item i s _ _ hlt hst fun v s' hp hst' m => ?_)
    obtain ⟨t, rfl⟩ := hv i v hp
    have held' : Held prog w s'.heap S xs i := held.moved fun o e => m.heap S _ hw e
    change wpAny _ _ (holding [Value.str (xs.getD i Str.empty) t] (setAdd S (.str (xs.getD i Str.empty) t)) >>= _) _ _ _
    refine wpAny_bind (wpAny_holding ?_)
    unfold setAdd
    refine wpAny_holding (wpAny_bind ((PySem.strKind prog w).pyHash (k := xs.getD i Str.empty) (strKind_is _ _ _ _) ?_))
    have hul := uniq_le (xs.take i)
    rw [List.length_take] at hul
    refine wpAny_setAddHashed_of (knd := PySem.strKind prog w) (s := { s' with toks := s'.toks + 1 }) (strKind_is _ _ _ _) rfl held' (by unfold scanBound; omega) fun h' same held2 => ?_
    have hx : xs[i]? = some (xs.getD i Str.empty) := by
      rw [List.getD_eq_getElem?_getD, List.getElem?_eq_getElem (by omega)]; rfl
    have ht : xs.take (i + 1) = xs.take i ++ [xs.getD i Str.empty] := by rw [List.take_add_one, hx]; rfl
    have held3 : Held prog w h' S xs (i + 1) := by
      refine SetOf_congr held2 (fun y => ?_) ?_
      · rw [ht, Bool.eq_iff_iff]; simp
      · rw [ht, uniq_snoc]
        by_cases hm : xs.getD i Str.empty ∈ xs.take i
        · rw [if_pos (by simpa using hm), if_pos ((mem_uniq _ _).mpr hm)]
        · rw [if_neg (by simpa using hm), if_neg (fun z => hm ((mem_uniq _ _).mp z)), List.length_append, List.length_singleton]
    have other : ∀ b, b ≠ S → ∀ o, s'.heap.get? b = some o → h'.get? b = some o := fun b hb o e => by rw [same.2 b hb]; exact e
    refine wpAny_pure ⟨plainId_quiet PyProof.Rows.F.plain_set_update_loop _, ih (i + 1) _ (by omega) (W.frame _ s' _ _ hst' (Nat.le_succ _) fun b hb o e => other b (fun z => hS (z ▸ hb)) o e) held3 fun s2 m2 held4 => fin s2 (Moved.trans W.gtrans ((m.mono fun b hb => List.mem_cons_of_mem _ hb).then_heap (Nat.le_succ _) fun b o hb e => other b (fun z => hb (by rw [z]; exact List.mem_cons_self)) o e) m2) held4⟩
end
/-- a bare set -/
abbrev bareSet (b : Bool) : PySem.Obj := { cls := .type "set", dict := none, data := .set #[] 0 (.fresh 0 0 b) }
section
variable {prog : Program} {w : World} {A : Around} {E : Value → Shared → Prop} {s : Shared}
theorem call_set_texts {l : Addr} {its : Array Value} {xs : List Str} {Q : Value → Shared → Prop} (hA : A.handled = none) (hl : s.heap.IsList l its) (hx : PyProof.Rows.StrsAre its.toList xs) (h4000 : xs.length ≤ 4000)
    (fin : ∀ (h2 : Heap) (tk : Nat), Held prog w h2 s.heap.objs.size xs xs.length → (∀ b o, b < s.heap.objs.size → s.heap.get? b = some o → h2.get? b = some o) → Q (.ref s.heap.objs.size) { s with heap := h2, toks := tk }) :
    wpAny (model prog w) A (call (.type "set") [.ref l]) Q E s := by
  obtain ⟨mc, mt, hmro⟩ := PySem.F.called_set.mro
  have m1 := PySem.F.called_set.made; have m2 := PySem.F.called_set.sub; have m3 := PySem.F.called_set.notType
  have m4 := PySem.F.called_set.canCreate; have m5 := PySem.F.typeCall_set_1 (.ref l)
  refine wpAny_call (codeAny_of_tree ?_)
  change wpAny _ _ (callAny (.type "set") _) _ _ _
  refine wpAny_pure ⟨Code.quiet_builtin _ (by decide +kernel), codeAny_builtin PySem.F.entry_type_call ?_⟩
  rw [Around.under_plain (weight_type_call_type "set" [.ref l] []) rfl]
  repeat (any_goals (first | assumption | wp_step))
  refine codeAny_mono (code_set_new_1 (.ref l) (E := E) (Q₁ := fun v s1 => ∃ b : Bool, v = .ref s.heap.objs.size ∧ s1 = { s with heap := s.heap.push (bareSet b) }) fun b => ⟨b, rfl, rfl⟩) fun r s1 hr => ?_
  cases r with
  | error e => exact hr
  | ok fl =>
    cases fl with
    | next => exact hr.elim
    | brk => exact hr.elim
    | cont => exact hr.elim
    | ret v =>
      obtain ⟨b, rfl, rfl⟩ := hr
      have got : (s.heap.push (bareSet b)).get? s.heap.objs.size = some (bareSet b) := Heap.get?_push_size _ rfl
      have hty : Shared.TypeIs { s with heap := s.heap.push (bareSet b) } (.ref s.heap.objs.size) "set" := ⟨_, got, rfl⟩
      have i1 := PySem.F.called_set.init.lookup; have i2 := PySem.F.called_set.init.bind (.ref s.heap.objs.size)
      repeat (any_goals (first | assumption | wp_step))
      refine codeAny_mono (codeAny_call_builtin (R := wants (fun r s2 => r = .none ∧ ∃ h2 tk, s2 = { s with heap := h2, toks := tk } ∧ Held prog w h2 s.heap.objs.size xs xs.length ∧ ∀ c o, c < s.heap.objs.size → s.heap.get? c = some o → h2.get? c = some o) E)
        PySem.F.called_set.init.plain PySem.F.entry_set_init (check_set_init_1 hty ?_)) fun r2 s2 hr2 => ?_
      · obtain ⟨⟨oc, od, oda, osl⟩, g1, g2, nl, g3⟩ := hl
        simp only at g2 g3
        subst g2; subst g3
        have g4 : (s.heap.push (bareSet b)).get? l = some { cls := .type "list", dict := od, data := .seq its nl, slots := osl } := Heap.get?_push_of_some _ g1
        have g5 : (s.heap.push (bareSet b)).IsList l its := ⟨_, g4, rfl, nl, rfl⟩
        have k1 := PySem.F.sub_list_set; have k2 := PySem.F.sub_list_frozenset
        have k3 : (Value.type "list" == Value.type "dict") = false := by decide
        have hlt : l < s.heap.objs.size := Heap.lt_size g1
        unfold Builtin.«set.__init__»
        unfold Builtin.Frozenset.updateFrom noKeywords
        generalize hPI : pyIter = PI
        wp_walk
        subst hPI
        refine wpAny_pyIter_list g5 (wpAny_bind (wpAny_runValue ?_))
        have ps : (s.heap.push (bareSet b)).objs.size = s.heap.objs.size + 1 := Heap.size_push _ _
        have d1 : l ≠ (s.heap.push (bareSet b)).objs.size := Nat.ne_of_lt (by rw [ps]; exact Nat.lt_succ_of_lt hlt)
        have d3 : s.heap.objs.size ≠ (s.heap.push (bareSet b)).objs.size := Nat.ne_of_lt (by rw [ps]; exact Nat.lt_succ_self _)
        have d2 : s.heap.objs.size ∉ [(s.heap.push (bareSet b)).objs.size, l] := fun z => (List.mem_cons.mp z).elim d3 fun z => Nat.ne_of_gt hlt (List.mem_singleton.mp z)
        have hcalm : A.in1.in1.in1.handled = none := by simp [hA]
        have sz : xs.length = its.size := by rw [← StrsAre.len_eq hx, Array.length_toList]
        have vals : ∀ (i : Nat) (v : Value), its[i]? = some v → ∃ t, v = .str (xs.getD i Str.empty) t := fun i v hv => SS.strs_at hx i v (by rw [Array.getElem?_toList]; exact hv)
        refine texts_loop ((Walks.list hcalm _ l d1 its).toS) s.heap.objs.size d2 xs sz (by omega) vals its.size 0 _ (by omega) ⟨⟨_, Heap.get?_push_size _ rfl, rfl, rfl⟩, g5.push _⟩ ?start ?stop
        case start =>
          exact SetOf_congr ((setObjOf_fresh (knd := PySem.strKind prog w) b).setOf (Heap.get?_push_of_some _ got) (by unfold scanBound; omega)) (fun y => by simp) (by simp [uniq])
        case stop =>
          intro s3 mv held
          obtain ⟨h3, g3, d3, t3, o3⟩ := s3
          obtain rfl : g3 = s.gens := mv.gens
          obtain rfl : d3 = s.drawn := mv.drawn
          obtain rfl : o3 = s.os := mv.os
          change wpAny _ _ _ _ _ _
          refine wpAny_pure ?_
          change wpAny _ _ (ret Value.none) _ _ _
          refine wpAny_pure ⟨rfl, h3, t3, rfl, by rw [sz]; exact held, fun c o hc e => mv.heap c o ?_ (Heap.get?_push_of_some _ (Heap.get?_push_of_some _ e))⟩
          exact fun z => (List.mem_cons.mp z).elim (Nat.ne_of_lt hc) fun z => Nat.ne_of_lt (show c < (s.heap.push (bareSet b)).objs.size by rw [ps]; exact Nat.lt_succ_of_lt hc) (List.mem_singleton.mp z)
      · cases r2 with
        | error e => exact hr2
        | ok f2 =>
          cases f2 with
          | ret v =>
            obtain ⟨rfl, h2, tk, rfl, z1, z2⟩ := hr2
            repeat (any_goals (first | assumption | wp_step))
            exact fin _ _ z1 z2
          | next => exact hr2.elim
          | brk => exact hr2.elim
          | cont => exact hr2.elim
theorem call_set_textsT {l : Addr} {its : Array Value} {xs : List Str} {Q : Value → Shared → Prop} (hA : A.handled = none) (hl : s.heap.IsTuple l its) (hx : PyProof.Rows.StrsAre its.toList xs) (h4000 : xs.length ≤ 4000)
    (fin : ∀ (h2 : Heap) (tk : Nat), Held prog w h2 s.heap.objs.size xs xs.length → (∀ b o, b < s.heap.objs.size → s.heap.get? b = some o → h2.get? b = some o) → Q (.ref s.heap.objs.size) { s with heap := h2, toks := tk }) :
    wpAny (model prog w) A (call (.type "set") [.ref l]) Q E s := by
  obtain ⟨mc, mt, hmro⟩ := PySem.F.called_set.mro
  have m1 := PySem.F.called_set.made; have m2 := PySem.F.called_set.sub; have m3 := PySem.F.called_set.notType
  have m4 := PySem.F.called_set.canCreate; have m5 := PySem.F.typeCall_set_1 (.ref l)
  refine wpAny_call (codeAny_of_tree ?_)
  change wpAny _ _ (callAny (.type "set") _) _ _ _
  refine wpAny_pure ⟨Code.quiet_builtin _ (by decide +kernel), codeAny_builtin PySem.F.entry_type_call ?_⟩
  rw [Around.under_plain (weight_type_call_type "set" [.ref l] []) rfl]
  repeat (any_goals (first | assumption | wp_step))
  refine codeAny_mono (code_set_new_1 (.ref l) (E := E) (Q₁ := fun v s1 => ∃ b : Bool, v = .ref s.heap.objs.size ∧ s1 = { s with heap := s.heap.push (bareSet b) }) fun b => ⟨b, rfl, rfl⟩) fun r s1 hr => ?_
  cases r with
  | error e => exact hr
  | ok fl =>
    cases fl with
    | next => exact hr.elim
    | brk => exact hr.elim
    | cont => exact hr.elim
    | ret v =>
      obtain ⟨b, rfl, rfl⟩ := hr
      have got : (s.heap.push (bareSet b)).get? s.heap.objs.size = some (bareSet b) := Heap.get?_push_size _ rfl
      have hty : Shared.TypeIs { s with heap := s.heap.push (bareSet b) } (.ref s.heap.objs.size) "set" := ⟨_, got, rfl⟩
      have i1 := PySem.F.called_set.init.lookup; have i2 := PySem.F.called_set.init.bind (.ref s.heap.objs.size)
      repeat (any_goals (first | assumption | wp_step))
      refine codeAny_mono (codeAny_call_builtin (R := wants (fun r s2 => r = .none ∧ ∃ h2 tk, s2 = { s with heap := h2, toks := tk } ∧ Held prog w h2 s.heap.objs.size xs xs.length ∧ ∀ c o, c < s.heap.objs.size → s.heap.get? c = some o → h2.get? c = some o) E)
        PySem.F.called_set.init.plain PySem.F.entry_set_init (check_set_init_1 hty ?_)) fun r2 s2 hr2 => ?_
      · obtain ⟨⟨oc, od, oda, osl⟩, g1, g2, nl, g3⟩ := hl
        simp only at g2 g3
        subst g2; subst g3
        have g4 : (s.heap.push (bareSet b)).get? l = some { cls := .type "tuple", dict := od, data := .seq its nl, slots := osl } := Heap.get?_push_of_some _ g1
        have g5 : (s.heap.push (bareSet b)).IsTuple l its := ⟨_, g4, rfl, nl, rfl⟩
        have k1 := PySem.F.sub_tuple_set; have k2 := PySem.F.sub_tuple_frozenset
        have k3 : (Value.type "tuple" == Value.type "dict") = false := by decide
        have hlt : l < s.heap.objs.size := Heap.lt_size g1
        unfold Builtin.«set.__init__»
        unfold Builtin.Frozenset.updateFrom noKeywords
        generalize hPI : pyIter = PI
        wp_walk
        subst hPI
        refine wpAny_pyIter_tuple g5 (wpAny_bind (wpAny_runValue ?_))
        have ps : (s.heap.push (bareSet b)).objs.size = s.heap.objs.size + 1 := Heap.size_push _ _
        have d1 : l ≠ (s.heap.push (bareSet b)).objs.size := Nat.ne_of_lt (by rw [ps]; exact Nat.lt_succ_of_lt hlt)
        have d3 : s.heap.objs.size ≠ (s.heap.push (bareSet b)).objs.size := Nat.ne_of_lt (by rw [ps]; exact Nat.lt_succ_self _)
        have d2 : s.heap.objs.size ∉ [(s.heap.push (bareSet b)).objs.size, l] := fun z => (List.mem_cons.mp z).elim d3 fun z => Nat.ne_of_gt hlt (List.mem_singleton.mp z)
        have hcalm : A.in1.in1.in1.handled = none := by simp [hA]
        have sz : xs.length = its.size := by rw [← StrsAre.len_eq hx, Array.length_toList]
        have vals : ∀ (i : Nat) (v : Value), its[i]? = some v → ∃ t, v = .str (xs.getD i Str.empty) t := fun i v hv => SS.strs_at hx i v (by rw [Array.getElem?_toList]; exact hv)
        refine texts_loop ((Walks.tuple hcalm _ l d1 its).toS) s.heap.objs.size d2 xs sz (by omega) vals its.size 0 _ (by omega) ⟨⟨_, Heap.get?_push_size _ rfl, rfl, rfl⟩, g5.push _⟩ ?start ?stop
        case start =>
          exact SetOf_congr ((setObjOf_fresh (knd := PySem.strKind prog w) b).setOf (Heap.get?_push_of_some _ got) (by unfold scanBound; omega)) (fun y => by simp) (by simp [uniq])
        case stop =>
          intro s3 mv held
          obtain ⟨h3, g3, d3, t3, o3⟩ := s3
          obtain rfl : g3 = s.gens := mv.gens
          obtain rfl : d3 = s.drawn := mv.drawn
          obtain rfl : o3 = s.os := mv.os
          change wpAny _ _ _ _ _ _
          refine wpAny_pure ?_
          change wpAny _ _ (ret Value.none) _ _ _
          refine wpAny_pure ⟨rfl, h3, t3, rfl, by rw [sz]; exact held, fun c o hc e => mv.heap c o ?_ (Heap.get?_push_of_some _ (Heap.get?_push_of_some _ e))⟩
          exact fun z => (List.mem_cons.mp z).elim (Nat.ne_of_lt hc) fun z => Nat.ne_of_lt (show c < (s.heap.push (bareSet b)).objs.size by rw [ps]; exact Nat.lt_succ_of_lt hc) (List.mem_singleton.mp z)
      · cases r2 with
        | error e => exact hr2
        | ok f2 =>
          cases f2 with
          | ret v =>
            obtain ⟨rfl, h2, tk, rfl, z1, z2⟩ := hr2
            repeat (any_goals (first | assumption | wp_step))
            exact fin _ _ z1 z2
          | next => exact hr2.elim
          | brk => exact hr2.elim
          | cont => exact hr2.elim
end
section
variable {X : Cx}
def tLenTexts (K : PySem.W.Frag) (ta : TE) : TE := fun σ H Q => ta σ H fun x H1 => ∃ (l : Addr) (xs : List Str), x = .ref l ∧ (SqL K H1 l (xs.map V.str) ∨ SqT K H1 l (xs.map V.str)) ∧ xs.length ≤ 4000 ∧ Q (.int ((uniq xs).length : Nat)) H1
theorem pe_lenTexts {a : Expr} {ta : TE} {p p2 q pos : Pos} (hc : X.calm = true) (hg : Gl X "len") (hm : X.mg "len" = none) (hg2 : Gl X "set") (hm2 : X.mg "set" = none) (ha : PE X a ta)
    (na : starEach [a] X.env = (false, eval a X.env) :: starEach [] X.env := by rfl) : PE X (.Call (.Name "len" p) [.Call (.Name "set" p2) [a] [] q] [] pos) (tLenTexts X.K ta) := by
  refine ⟨fun pins s σ H Q I h => Call_ (ld_blt I hg hm PySem.boot_len (PyProof.Rows.callWith_builtin1 (PyProof.Rows.args_cons ?_ rfl) rfl rfl))⟩
  refine Call_ (ld_blt I hg2 hm2 PyProof.Rows.boot_set (PyProof.Rows.callWith_type1 (PyProof.Rows.args_cons (thn (ha.run pins s σ H _ I h) fun v s1 ⟨x, H1, I1, r1, l, xs, ex, hl, h1, k⟩ => PyProof.Rows.args_nil ?_) na) na rfl))
  subst ex
  cases r1
  have go : ∀ (h2 : Heap) (tk : Nat), Held X.prog X.w h2 s1.heap.objs.size xs xs.length → (∀ b o, b < s1.heap.objs.size → s1.heap.get? b = some o → h2.get? b = some o) →
      wpAny (model X.prog X.w) X.A (call (.builtin "len") [.ref s1.heap.objs.size]) (EP X pins σ Q) X.xe { s1 with heap := h2, toks := tk } := fun h2 tk held keep => by
    obtain ⟨o, es, ep, t, ho, hex, hd, _, _, _, hf, hn⟩ := held
    rw [List.take_length] at hn
    have hu := uniq_le xs
    have I2 : Inv X pins σ H1 { s1 with heap := h2, toks := tk } := I1.kept fun b o e => keep b o (Heap.lt_size e) e
    exact call_len_set ho hex hd hf (by omega) ⟨.int ((uniq xs).length : Nat), H1, I2.tok _, ⟨_, by rw [hn]⟩, k⟩
  rcases hl with hl | hl
  · obtain ⟨its, r, pl, hz⟩ := I1.list hl
    exact call_set_texts (I1.ok.hd hc) pl.isList (xs := xs) (by simpa using strsAre_of r) h1 fun h2 tk held keep => PyProof.Rows.args_nil (go h2 tk held keep)
  · obtain ⟨its, r, pl, hz⟩ := I1.tuple hl
    exact call_set_textsT (I1.ok.hd hc) pl (xs := xs) (by simpa using strsAre_of r) h1 fun h2 tk held keep => PyProof.Rows.args_nil (go h2 tk held keep)
def seqU (r : R) (e : En) (S : Sto) : Option (List D) := match r with
  | .d (.tup ds) => some ds
  | r => lstOf r e S
def gLenSet (r : R) : M R := fun e S => (seqU r e S).bind fun ds => (strsOf ds).bind fun xs => if xs.length ≤ 4000 then some (.d (.int ((uniq xs).length : Nat)), e, S) else none
theorem ge_lenSet {a : Expr} {m : M R} {p p2 q pos : Pos} (hc : X.calm = true) (hg : Gl X "len") (hm : X.mg "len" = none) (hg2 : Gl X "set") (hm2 : X.mg "set" = none) (ha : GE X a m)
    (na : starEach [a] X.env = (false, eval a X.env) :: starEach [] X.env := by rfl) : GE X (.Call (.Name "len" p) [.Call (.Name "set" p2) [a] [] q] [] pos) (bnd m gLenSet) := PE.imp (pe_lenTexts hc hg hm hg2 hm2 ha na) fun σ H Q q => by
  obtain ⟨ι, e, S, r, e', S', R, hm, q⟩ := q
  obtain ⟨x, e1, S1, h1, hm⟩ := bnd_eq hm
  refine ⟨ι, e, S, _, e1, S1, R, h1, fun v H1 ι1 R1 P1 r1 _ => ?_⟩
  obtain ⟨ds, g1, hm⟩ := Option.bind_eq_some_iff.mp (show (seqU x e1 S1).bind _ = _ from hm)
  obtain ⟨xs, g2, hm⟩ := Option.bind_eq_some_iff.mp hm
  split at hm
  · cases hm
    have old : lstOf x e' S' = some ds → ∃ l, v = .ref l ∧ SqL X.K H1 l (xs.map V.str) := fun g1 => by
      obtain ⟨l, vs, rfl, hl, hd⟩ := R1.lst r1 g1
      obtain rfl := RDs.ofStrs hd g2
      exact ⟨l, rfl, hl⟩
    unfold seqU at g1
    split at g1
    · cases g1
      cases r1 with
      | tup k1 k2 =>
        obtain rfl := RDs.ofStrs k2 g2
        exact ⟨_, xs, rfl, .inr k1, by assumption, q _ H1 ι1 R1 P1 (.int _) trivial⟩
    · obtain ⟨l, rfl, hl⟩ := old g1
      exact ⟨l, xs, rfl, .inl hl, by assumption, q _ H1 ι1 R1 P1 (.int _) trivial⟩
  · cases hm
end
end G

set_option Elab.async false
set_option linter.all false
set_option maxRecDepth 100000
set_option maxHeartbeats 4000000
/-! GR: repr, str of data of any depth. -/
namespace G
variable [Wld]
open PySem PySem.Spec PyProof.Rows L2
open PySem.P
theorem showableAll_iff : ∀ {ps : List PyData}, PyData.showableAll ps = true ↔ ∀ q ∈ ps, q.showable = true
  | [] => by simp [PyData.showableAll]
  | p :: ps => by simp [PyData.showableAll, showableAll_iff (ps := ps)]
theorem shownAll_mem : ∀ {ps : List PyData} {t : Str}, t ∈ PyData.shownAll ps → ∃ q ∈ ps, t = q.shown
  | [], _, h => by simp only [PyData.shownAll] at h; cases h
  | p :: ps, t, h => by
    simp only [PyData.shownAll, List.mem_cons] at h
    rcases h with rfl | h
    · exact ⟨p, by simp, rfl⟩
    · obtain ⟨q, hq, e⟩ := shownAll_mem h
      exact ⟨q, by simp [hq], e⟩
def keyP : Key → PyData
  | .inl i => .int i
  | .inr x => .str x
mutual
def pyr : D → Option PyData
  | .non => some .none
  | .bl b => some (.bool b)
  | .int i => some (.int i)
  | .str x => some (.str x)
  | .tup ds => (pyrs ds).map .tuple
  | .lst ds => (pyrs ds).map .list
  | .dic ks ds => (pyrs ds).map fun ps => .dict ((ks.map keyP).zip ps)
  | .ref _ => none
  | .fn _ => none
def pyrs : List D → Option (List PyData)
  | [] => some []
  | d :: ds => match pyr d, pyrs ds with
    | some p, some ps => some (p :: ps)
    | _, _ => none
end
theorem pyrs_cons {d : D} {ds : List D} {qs : List PyData} (h : pyrs (d :: ds) = some qs) : ∃ p ps, pyr d = some p ∧ pyrs ds = some ps ∧ qs = p :: ps := by
  unfold pyrs at h
  split at h
  · cases h; exact ⟨_, _, by assumption, by assumption, rfl⟩
  · cases h
theorem pyrs_len : ∀ {ds : List D} {ps : List PyData}, pyrs ds = some ps → ps.length = ds.length
  | [], _, h => by cases h; rfl
  | d :: ds, _, h => by
    obtain ⟨p, ps, h1, h2, rfl⟩ := pyrs_cons h
    simp [pyrs_len h2]
section
variable {K : PySem.W.Frag} {H : Hp} {ι : List Addr} {X : Cx} {pins : List (Addr × PySem.Obj)} {σ : SV} {s : Shared}
/-- what can be shown -/
structure Rep (h : Heap) (u : Value) (p : PyData) : Prop where
  ex : ∃ as bs, Reads h u p as ∧ ReadAtMost h p.depth bs ∧ ∀ prog w, ReprK prog w bs h p.depth u p.shown
  sh : ∀ a, u = .ref a → p.shown.length ≤ sizeLine → ∀ prog w, ∃ T idr, ShowsBy prog w h a p T idr
structure Reps (h : Heap) (us : List Value) (ps : List PyData) : Prop where
  ex : ∃ as bs, ReadsAll h us ps as ∧ ReadAtMost h (PyData.depthAll ps) bs ∧ ∀ prog w, ReprAllK prog w bs h (PyData.depthAll ps) us (PyData.shownAll ps)
theorem Reps.nil {h : Heap} : Reps h [] [] := ⟨⟨[], [], .nil, fun _ z => (nomatch z), fun _ _ => by simp only [PyData.shownAll]; exact .nil⟩⟩
theorem Reps.cons {h : Heap} {u : Value} {us : List Value} {p : PyData} {ps : List PyData} (a : Rep h u p) (b : Reps h us ps) : Reps h (u :: us) (p :: ps) := by
  obtain ⟨⟨as, bs, r1, m1, k1⟩, _⟩ := a
  obtain ⟨as', bs', r2, m2, k2⟩ := b
  refine ⟨⟨as ++ as', bs ++ bs', .cons r1 r2, ?_, fun prog w => ?_⟩⟩
  · simp only [PyData.depthAll]
    exact (m1.mono (Nat.le_max_left _ _)).append (m2.mono (Nat.le_max_right _ _))
  · simp only [PyData.depthAll, PyData.shownAll]
    exact .cons (((k1 prog w).more fun b z => List.mem_append_left _ z).level_le (Nat.le_max_left _ _)) ((k2 prog w).more_le (fun b z => List.mem_append_right _ z) (Nat.le_max_right _ _))
theorem Rep.nil_of {h : Heap} {u : Value} {p : PyData} {as : List Addr} (r : Reads h u p as) (k : ∀ prog w, ReprIs prog w u p.shown) (hn : ∀ a, u ≠ .ref a := by intro a z; cases z) : Rep h u p := ⟨⟨as, [], r, fun _ z => (nomatch z), fun prog w => .of_is (k prog w) _ _ _⟩, fun a e => (hn a e).elim⟩
theorem Rep.tup {h : Heap} {a : Addr} {us : List Value} {ps : List PyData} (t : IsTup h a us.toArray) (b : Reps h us ps) : Rep h (.ref a) (.tuple ps) := by
  obtain ⟨o, e, c, n, d⟩ := t
  obtain ⟨as, bs, r, m, k⟩ := b
  have rr : Reads h (.ref a) (.tuple ps) as := .tuple e c d r
  have hd : PyData.depthAll ps < (PyData.tuple ps).depth := by simp only [PyData.depth]; omega
  have hn := not_mem_of_deeper rr hd m
  refine ⟨⟨as, a :: bs, rr, ReadAtMost.cons rr (by omega) m, fun prog w => ?_⟩, fun a' ea hz prog w => ⟨"tuple", "tuple.__repr__", F.slot_tuple_repr, F.slot_tuple_str, F.slot_tuple_format, ?_, ?_⟩⟩
  · simp only [PyData.depth, PyData.shown]
    exact ReprK.tuple e c d hn (k prog w)
  · cases ea
    exact fun s hk0 => ⟨o, hk0 _ _ e, c⟩
  · cases ea
    intro A E s Q hg hu hk0 hQ
    simp only [PyData.depth] at hu
    simp only [PyData.shown] at hQ hz
    exact call_tuple_reprK e c d hn (k prog w) hg (fun b _ => Clear.nil b) hu hk0 hQ hz
theorem Rep.lst {h : Heap} {a : Addr} {us : List Value} {ps : List PyData} (t : h.IsList a us.toArray) (b : Reps h us ps) : Rep h (.ref a) (.list ps) := by
  obtain ⟨o, e, c, n, d⟩ := t
  obtain ⟨as, bs, r, m, k⟩ := b
  have rr : Reads h (.ref a) (.list ps) (a :: as) := .list e c d r
  have hd : PyData.depthAll ps < (PyData.list ps).depth := by simp only [PyData.depth]; omega
  have hn := not_mem_of_deeper rr hd m
  refine ⟨⟨a :: as, a :: bs, rr, ReadAtMost.cons rr (by omega) m, fun prog w => ?_⟩, fun a' ea hz prog w => ⟨"list", "list.__repr__", F.slot_list_repr.toG, F.slot_list_str, F.slot_list_format, ?_, ?_⟩⟩
  · simp only [PyData.depth, PyData.shown]
    cases us with
    | nil =>
      cases r
      simp only [PyData.shownAll, listText_nil]
      exact ReprK.listEmpty e c d
    | cons x l =>
      have kk := k prog w
      exact ReprK.list e c d hn (by simpa using kk.length_eq) fun i y z => kk.item i y (by simpa using z)
  · cases ea
    exact fun s hk0 => ⟨o, hk0 _ _ e, c⟩
  · cases ea
    intro A E s Q hg hu hk0 hQ
    simp only [PyData.depth] at hu
    simp only [PyData.shown] at hQ hz
    cases us with
    | nil =>
      cases r
      simp only [PyData.shownAll, listText_nil] at hQ
      exact call_list_repr_empty ⟨o, hk0 _ _ e, c⟩ (hk0 _ _ e) d (hQ s.heap _ _ fun _ _ e => e)
    | cons x l =>
      have kk := k prog w
      exact call_list_reprK e c d hn (by simpa using kk.length_eq) (fun i y z => kk.item i y (by simpa using z)) hg (fun b _ => Clear.nil b) hu hk0 hQ hz
theorem ReprEntriesK.both {prog : Program} {w : World} {as : List Addr} {h : Heap} {d : Nat} : ∀ (es : List DictEntry) (ks vs : List PyData), ks.length = vs.length → ReprAllK prog w as h d (es.map (·.key)) (PyData.shownAll ks) → ReprAllK prog w as h d (es.map (·.val)) (PyData.shownAll vs) → ReprEntriesK prog w as h d es (PyData.shownKv (ks.zip vs))
  | [], [], [], _, _, _ => by simp only [List.zip_nil_left, PyData.shownKv]; exact .nil
  | e :: es, k :: ks, v :: vs, hl, h1, h2 => by
    simp only [List.map_cons, PyData.shownAll] at h1 h2
    cases h1 with | cons a1 b1 =>
    cases h2 with | cons a2 b2 =>
    simp only [List.zip_cons_cons, PyData.shownKv]
    exact .cons a1 a2 (ReprEntriesK.both es ks vs (by simpa using hl) b1 b2)
  | [], k :: ks, _, _, h1, _ => by simp only [List.map_nil, PyData.shownAll] at h1; cases h1
  | e :: es, [], _, _, h1, _ => by simp only [List.map_cons, PyData.shownAll] at h1; cases h1
theorem depthAll_zip : ∀ (ks vs : List PyData), ks.length = vs.length → PyData.depthAll ks ≤ PyData.depthKv (ks.zip vs) ∧ PyData.depthAll vs ≤ PyData.depthKv (ks.zip vs)
  | [], [], _ => by simp [PyData.depthAll, PyData.depthKv]
  | k :: ks, v :: vs, h => by
    obtain ⟨a, b⟩ := depthAll_zip ks vs (by simpa using h)
    simp only [List.zip_cons_cons, PyData.depthAll, PyData.depthKv]
    omega
theorem Rep.dic {h : Heap} {a : Addr} {o : PySem.Obj} {es : Array DictEntry} {n : Nat} {ks vs : List PyData} (hs : (a == sysModules) = false) (e : h.get? a = some o) (c : o.cls = .type "dict") (d : o.data = .dict es n) (hl : ks.length = vs.length)
    (b1 : Reps h (es.toList.map (·.key)) ks) (b2 : Reps h (es.toList.map (·.val)) vs) : Rep h (.ref a) (.dict (ks.zip vs)) := by
  obtain ⟨as, bs, r, m, k⟩ := b1
  obtain ⟨as', bs', r', m', k'⟩ := b2
  obtain ⟨d1, d2⟩ := depthAll_zip ks vs hl
  have rr : Reads h (.ref a) (.dict (ks.zip vs)) (a :: as ++ as') := .dict e c d (by rw [List.map_fst_zip (by omega)]; exact r) (by rw [List.map_snd_zip (by omega)]; exact r')
  have hd : PyData.depthKv (ks.zip vs) < (PyData.dict (ks.zip vs)).depth := by simp only [PyData.depth]; omega
  have mm := (m.mono d1).append (m'.mono d2)
  have hn := not_mem_of_deeper rr hd mm
  have ke := fun prog w => ReprEntriesK.both es.toList ks vs hl ((k prog w).more_le (fun b z => List.mem_append_left _ z) d1) ((k' prog w).more_le (fun b z => List.mem_append_right _ z) d2)
  refine ⟨⟨_, a :: (bs ++ bs'), rr, ReadAtMost.cons rr (by omega) mm, fun prog w => ?_⟩, fun a' ea hz prog w => ⟨"dict", "dict.__repr__", F.slot_dict_repr, F.slot_dict_str, F.slot_dict_format, ?_, ?_⟩⟩
  · simp only [PyData.depth, PyData.shown]
    exact ReprK.dict e c d hs hn (ke prog w)
  · cases ea
    exact fun s hk0 => ⟨o, hk0 _ _ e, c⟩
  · cases ea
    intro A E s Q hg hu hk0 hQ
    simp only [PyData.depth] at hu
    simp only [PyData.shown] at hQ hz
    exact call_dict_reprK e c d hs hn (ke prog w) hg (fun b _ => Clear.nil b) hu hk0 hQ hz
/-- small enough to be shown -/
def fitsP (p : PyData) : Prop := p.showable = true ∧ p.shown.length ≤ sizeLine
theorem keys_rep {h : Heap} {P : Program} {w : World} : ∀ {es : List DictEntry} {kvs : List (Key × Value)}, PySem.Pairs (mixKind P w) es kvs → (∀ k ∈ kvs.map (·.1), fitsP (keyP k)) → Reps h (es.map (·.key)) (kvs.map fun kv => keyP kv.1)
  | _, _, .nil, _ => .nil
  | _, _, .cons (e := e) (kv := kv) h1 _ h3, w => by
    refine .cons ?_ (keys_rep h3 fun k hk => w k (by simp only [List.map_cons, List.mem_cons]; exact .inr hk))
    have hw := w kv.1 (by simp)
    obtain ⟨k, v⟩ := kv
    rcases keyIs_shape (show keyIs k e.key = true from h1) with ⟨i, t, e1, e2⟩ | ⟨x, t, e1, e2⟩
    · subst e1
      show Rep h e.key (keyP (.inl i))
      rw [e2]
      exact Rep.nil_of (.int i t) fun _ _ => by simp only [keyP, PyData.shown]; exact ReprIs.int t (by simpa [fitsP, keyP, PyData.showable] using hw.1)
    · subst e1
      show Rep h e.key (keyP (.inr x))
      rw [e2]
      exact Rep.nil_of (.str x t) fun _ _ => by simp only [keyP, PyData.shown]; exact ReprIs.str x t (by simpa [fitsP, keyP, PyData.shown] using hw.2)
theorem vals_pairs {P : Program} {w : World} : ∀ {es : List DictEntry} {kvs : List (Key × Value)}, PySem.Pairs (mixKind P w) es kvs → es.map (·.val) = kvs.map (·.2)
  | _, _, .nil => rfl
  | _, _, .cons h1 h2 h3 => by rw [List.map_cons, List.map_cons, vals_pairs h3, h2]
mutual
theorem RD.rep (I : Inv X pins σ H s) : ∀ (d : D) (v : V) (u : Value) (p : PyData), RD X.K H ι v d → RelV v u → pyr d = some p → fitsP p → Rep s.heap u p
  | .non, _, _, _, h, r, e, _ => by cases h; cases r; cases e; exact .nil_of .none fun _ _ => by simp only [PyData.shown]; exact ReprIs.none
  | .bl b, _, _, _, h, r, e, _ => by cases h; cases r; cases e; exact .nil_of (.bool b) fun _ _ => by simp only [PyData.shown]; exact ReprIs.bool b
  | .int i, _, _, _, h, r, e, f => by cases h; obtain ⟨t, rfl⟩ := r; cases e; exact .nil_of (.int i t) fun _ _ => by simp only [PyData.shown]; exact ReprIs.int t (by simpa [fitsP, PyData.showable] using f.1)
  | .str x, _, _, _, h, r, e, f => by cases h; obtain ⟨t, rfl⟩ := r; cases e; exact .nil_of (.str x t) fun _ _ => by simp only [PyData.shown]; exact ReprIs.str x t (by simpa [fitsP, PyData.shown] using f.2)
  | .tup ds, _, _, _, h, r, e, f => by
    obtain ⟨ps, e1, e2⟩ := Option.map_eq_some_iff.mp (show (pyrs ds).map PyData.tuple = some _ from e)
    subst e2
    cases h with | tup h1 h2 =>
    cases r
    obtain ⟨its, rv, t, _⟩ := I.tuple h1
    exact .tup t (RDs.rep I ds _ _ _ h2 rv e1 (by simpa [fitsP, PyData.showable] using f.1) fun x hx => Nat.le_trans (tupleText_mem_le hx) (by simpa [fitsP, PyData.shown] using f.2))
  | .lst ds, _, _, _, h, r, e, f => by
    obtain ⟨ps, e1, e2⟩ := Option.map_eq_some_iff.mp (show (pyrs ds).map PyData.list = some _ from e)
    subst e2
    cases h with | lst h1 h2 =>
    cases r
    obtain ⟨its, rv, t, _⟩ := I.list h1.sq
    exact .lst t.isList (RDs.rep I ds _ _ _ h2 rv e1 (by simpa [fitsP, PyData.showable] using f.1) fun x hx => Nat.le_trans (listText_mem_le hx) (by simpa [fitsP, PyData.shown] using f.2))
  | .dic ks ds, _, _, _, h, r, e, f => by
    obtain ⟨ps, e1, e2⟩ := Option.map_eq_some_iff.mp (show (pyrs ds).map (fun ps => PyData.dict ((ks.map keyP).zip ps)) = some _ from e)
    subst e2
    cases h with | dic h1 hl h2 =>
    cases r
    rename_i a o xs
    obtain ⟨_, hs, vs, rv, ob, es, ep, eo, hx, hd, _, hp, hnd⟩ := dk_rd I.hok (.inr ⟨o, h1⟩)
    have lx := h2.length
    have lp := pyrs_len e1
    have hks : vs.map (·.1) = ks := by
      have : (ks.zip xs).map (·.1) = vs.map (·.1) := by
        clear e f hp hnd
        generalize ks.zip xs = zs at rv
        induction rv with
        | nil => rfl
        | cons q _ ih => rw [List.map_cons, List.map_cons, ih, q.1]
      rw [← this, List.map_fst_zip (by omega)]
    have hvs : Vals xs (vs.map (·.2)) := by
      have : Vals ((ks.zip xs).map (·.2)) (vs.map (·.2)) := by
        clear e f hp hks hnd
        generalize ks.zip xs = zs at rv
        induction rv with
        | nil => exact .nil
        | cons q _ ih => exact .cons q.2 ih
      rwa [List.map_snd_zip (by omega)] at this
    have hfk : ∀ kv ∈ (ks.map keyP).zip ps, fitsP kv.1 ∧ kv.2.showable = true ∧ kv.2.shown.length ≤ sizeLine := by
      have f1 : PyData.showableKv ((ks.map keyP).zip ps) = true := by simpa [fitsP, PyData.showable] using f.1
      have f2 : ∀ x ∈ PyData.shownKv ((ks.map keyP).zip ps), x.length ≤ sizeLine := fun x hx => Nat.le_trans (dictText_mem_le hx) (by simpa [fitsP, PyData.shown] using f.2)
      clear e f hp
      generalize (ks.map keyP).zip ps = zs at f1 f2
      induction zs with
      | nil => intro kv hkv; cases hkv
      | cons z zs ih =>
        obtain ⟨k, v⟩ := z
        simp only [PyData.showableKv, Bool.and_eq_true] at f1
        simp only [PyData.shownKv] at f2
        have l0 := f2 _ (List.mem_cons_self ..)
        rw [strLen_append, strLen_append] at l0
        intro kv hkv
        rcases List.mem_cons.mp hkv with rfl | hkv
        · exact ⟨⟨f1.1.1, by show k.shown.length ≤ _; omega⟩, f1.1.2, by show v.shown.length ≤ _; omega⟩
        · exact ih f1.2 (fun x hx => f2 x (List.mem_cons_of_mem _ hx)) kv hkv
    have b1 : Reps s.heap (es.toList.map (·.key)) (ks.map keyP) := by
      have := keys_rep (h := s.heap) hp fun k hk => by
        rw [hks] at hk
        have : keyP k ∈ ((ks.map keyP).zip ps).map (·.1) := by rw [List.map_fst_zip (by simp; omega)]; exact List.mem_map_of_mem hk
        obtain ⟨q, hq, e⟩ := List.mem_map.mp this
        rw [← e]; exact (hfk q hq).1
      rw [← hks, List.map_map]
      exact this
    have b2 : Reps s.heap (es.toList.map (·.val)) ps := by
      rw [vals_pairs hp]
      refine RDs.rep I ds xs _ ps h2 hvs e1 ?_ ?_
      · rw [showableAll_iff]
        intro q hq
        have : q ∈ ((ks.map keyP).zip ps).map (·.2) := by rw [List.map_snd_zip (by simp; omega)]; exact hq
        obtain ⟨z, hz, e⟩ := List.mem_map.mp this
        rw [← e]; exact (hfk z hz).2.1
      · intro t ht
        obtain ⟨q, hq, e⟩ := shownAll_mem ht
        have : q ∈ ((ks.map keyP).zip ps).map (·.2) := by rw [List.map_snd_zip (by simp; omega)]; exact hq
        obtain ⟨z, hz, e'⟩ := List.mem_map.mp this
        rw [e, ← e']; exact (hfk z hz).2.2
    exact .dic hs eo hx.1 hd (by simp; omega) b1 b2
  | .ref _, _, _, _, _, _, e, _ => by cases e
  | .fn _, _, _, _, _, _, e, _ => by cases e
theorem RDs.rep (I : Inv X pins σ H s) : ∀ (ds : List D) (vs : List V) (us : List Value) (ps : List PyData), RDs X.K H ι vs ds → Vals vs us → pyrs ds = some ps → PyData.showableAll ps = true → (∀ t ∈ PyData.shownAll ps, t.length ≤ sizeLine) → Reps s.heap us ps
  | [], _, _, _, h, r, e, _, _ => by cases h; cases r; cases e; exact .nil
  | d :: ds, _, _, _, h, r, e, f, g => by
    obtain ⟨p, ps, e1, e2, rfl⟩ := pyrs_cons e
    cases h with | cons h1 h2 =>
    cases r with | cons r1 r2 =>
    simp only [PyData.showableAll, Bool.and_eq_true] at f
    simp only [PyData.shownAll] at g
    exact .cons (RD.rep I d _ _ p h1 r1 e1 ⟨f.1, g _ (List.mem_cons_self ..)⟩) (RDs.rep I ds _ _ ps h2 r2 e2 f.2 fun t ht => g t (List.mem_cons_of_mem _ ht))
end
end
section
variable {X : Cx}
theorem RDw.rep {H : Hp} {ι : List Addr} {pins : List (Addr × PySem.Obj)} {σ : SV} {s : Shared} (I : Inv X pins σ H s) {v : V} {u : Value} {d : D} {p : PyData} (h : RDw X.K H ι v d) (r : RelV v u) (e : pyr d = some p) (f : fitsP p) : Rep s.heap u p := by
  rcases h with h | ⟨a, xs, ds, rfl, rfl, h1, h2⟩
  · exact RD.rep I d v u p h r e f
  · obtain ⟨ps, e1, e2⟩ := Option.map_eq_some_iff.mp (show (pyrs ds).map PyData.list = some _ from e)
    subst e2
    cases r
    obtain ⟨its, rv, t, _⟩ := I.list h1
    exact .lst t.isList (RDs.rep I ds _ _ _ h2 rv e1 (by simpa [fitsP, PyData.showable] using f.1) fun x hx => Nat.le_trans (listText_mem_le hx) (by simpa [fitsP, PyData.shown] using f.2))
section
variable {prog : Program} {w : World} {A : Around} {E : Value → Shared → Prop} {s : Shared} {Q : Value → Shared → Prop} {u : Value} {p : PyData}
theorem repr_of (h : Rep s.heap u p) (f : fitsP p) (hg : A.guards = some []) (hu : A.units + (p.depth + 1) < cLine)
    (hQ : ∀ h' t tk, (∀ b o, s.heap.get? b = some o → h'.get? b = some o) → Q (.str p.shown t) { s with heap := h', toks := tk }) : wpAny (model prog w) A (call (.builtin "repr") [u]) Q E s := by
  obtain ⟨⟨as, bs, r, _, _⟩, sh⟩ := h
  have st : ∀ t tk, Q (.str p.shown t) { s with toks := tk } := fun t tk => hQ s.heap t tk fun _ _ e => e
  cases r with
  | none => simp only [PyData.shown] at st; exact repr_of_none (st _ _)
  | bool b => simp only [PyData.shown] at st; exact repr_of_bool (st _ _)
  | int i t => simp only [PyData.shown] at st; exact repr_of_int (by simpa [fitsP, PyData.showable] using f.1) (st _ _)
  | str x t => simp only [PyData.shown] at st; exact repr_of_str (st _ _) (by simpa [fitsP, PyData.shown] using f.2)
  | list h1 h2 h3 h4 => 
    obtain ⟨T, idr, S⟩ := sh _ rfl f.2 prog w
    exact call_repr_slot (by omega) (S.typeIs s fun _ _ e => e) S.slotRepr (S.call A.in1 E s _ hg (by show A.units + 1 + _ < cLine; omega) (fun _ _ e => e) fun h' t tk hk => ⟨_, _, rfl, hQ h' t tk hk⟩)
  | tuple h1 h2 h3 h4 => 
    obtain ⟨T, idr, S⟩ := sh _ rfl f.2 prog w
    exact call_repr_slot (by omega) (S.typeIs s fun _ _ e => e) S.slotRepr (S.call A.in1 E s _ hg (by show A.units + 1 + _ < cLine; omega) (fun _ _ e => e) fun h' t tk hk => ⟨_, _, rfl, hQ h' t tk hk⟩)
  | dict h1 h2 h3 h4 h5 => 
    obtain ⟨T, idr, S⟩ := sh _ rfl f.2 prog w
    exact call_repr_slot (by omega) (S.typeIs s fun _ _ e => e) S.slotRepr (S.call A.in1 E s _ hg (by show A.units + 1 + _ < cLine; omega) (fun _ _ e => e) fun h' t tk hk => ⟨_, _, rfl, hQ h' t tk hk⟩)
theorem str_ref {a : Addr} (sh : ∀ prog w, ∃ T idr, ShowsBy prog w s.heap a p T idr) (hg : A.guards = some []) (hu : A.units + (p.depth + 3) < cLine)
    (hQ : ∀ h' t tk, (∀ b o, s.heap.get? b = some o → h'.get? b = some o) → Q (.str p.shown t) { s with heap := h', toks := tk }) : wpAny (model prog w) A (call (.type "str") [.ref a]) Q E s :=
  callType_new F.called_str (by decide) (F.typeCall_str_1 _) (F.newCall_str_1 _) (fun obj => F.args_object_init_2 obj _) F.entry_str_new
    (meets_str_new (S := fun B R z => B.guards = some [] ∧ B.units + (p.depth + 2) < cLine ∧ (∀ b o, s.heap.get? b = some o → z.heap.get? b = some o) ∧ ∀ h' t tk, (∀ b o, z.heap.get? b = some o → h'.get? b = some o) → R (.ok (.ret (.str p.shown t))) { z with heap := h', toks := tk })
      fun prog' w' B R z q => by
        obtain ⟨T, idr, S⟩ := sh prog' w'
        exact wpAny_strOf_slot rfl (by show B.units + 1 + _ < cLine; have := q.2.1; omega) (S.typeIs z q.2.2.1) S.slotStr S.slotRepr (S.call B.in1.in1 _ z _ q.1 (by show B.units + 1 + 1 + _ < cLine; have := q.2.1; omega) q.2.2.1 fun h' t tk hk => ⟨_, _, rfl, q.2.2.2 h' t tk hk⟩))
    ⟨hg, by show A.units + 1 + (p.depth + 2) < cLine; omega, fun _ _ e => e, fun h' t tk hk => ⟨typeIs_str _ _ _, hQ h' t tk hk⟩⟩
end
/-- repr(e), str(e): of a text str tells itself -/
def shownD (x : D) : Option Str := match pyr x with
  | some p => if p.showable && decide (p.shown.length ≤ sizeLine) && decide (p.depth ≤ 60) then some p.shown else none
  | none => none
def gRepr (r : R) : M R := fun e S => (dat r e S).bind fun x => (shownD x).map fun t => (.d (.str t), e, S)
def gStr (r : R) : M R := fun e S => match r with
  | .d (.str x) => some (.d (.str x), e, S)
  | r => (dat r e S).bind fun x => (shownD x).map fun t => (.d (.str t), e, S)
theorem shownD_eq {x : D} {t : Str} (h : shownD x = some t) : ∃ p, pyr x = some p ∧ fitsP p ∧ p.depth ≤ 60 ∧ t = p.shown := by
  unfold shownD at h
  split at h
  · split at h
    · cases h
      rename_i p h1 h2
      simp only [Bool.and_eq_true, decide_eq_true_eq] at h2
      exact ⟨p, h1, ⟨h2.1.1, h2.1.2⟩, h2.2, rfl⟩
    · cases h
  · cases h
theorem cg_repr (hg : X.A.guards = some []) (hu : X.A.units + 64 < cLine) : CallR X (.builtin "repr") (tOA X.K (g1 gRepr)) := fun pins s σ H xs us Q I rx q => by
  obtain ⟨ι, σ', e, S, rs, r, e', S', R, hr, hm, q⟩ := q
  unfold g1 at hm
  split at hm
  · cases hr with | cons h1 h2 =>
    cases h2
    cases rx with | cons k1 k2 =>
    cases k2
    obtain ⟨x, hx, hm⟩ := Option.bind_eq_some_iff.mp hm
    obtain ⟨t, ht, hz⟩ := Option.map_eq_some_iff.mp hm
    cases hz
    obtain ⟨p, hp, f, hd, rfl⟩ := shownD_eq ht
    have rep := RDw.rep I (R.datW h1 hx) k1 hp f
    exact repr_of rep f hg (by omega) fun h' t tk hk => ⟨.str p.shown, H, I.kept hk, ⟨t, rfl⟩, q _ H ι R .refl (.str _) trivial⟩
  · cases hm
theorem cg_str (hg : X.A.guards = some []) (hu : X.A.units + 64 < cLine) : CallR X (.type "str") (tOA X.K (g1 gStr)) := fun pins s σ H xs us Q I rx q => by
  obtain ⟨ι, σ', e, S, rs, r, e', S', R, hr, hm, q⟩ := q
  unfold g1 at hm
  split at hm
  · rename_i r0
    cases hr with | cons h1 h2 =>
    cases h2
    cases rx with | cons k1 k2 =>
    cases k2
    by_cases hstr : ∃ x, r0 = .d (.str x)
    · obtain ⟨x, rfl⟩ := hstr
      cases hm
      cases h1
      obtain ⟨t, rfl⟩ := k1
      exact PySem.P.str_of_str ⟨.str x, H, I, ⟨t, rfl⟩, q _ H ι R .refl (.str _) trivial⟩
    · have hm' : ((dat r0 e S).bind fun x => (shownD x).map fun t => (G.R.d (.str t), e, S)) = some (r, e', S') := by
        unfold gStr at hm
        split at hm
        · exact (hstr ⟨_, rfl⟩).elim
        · exact hm
      obtain ⟨x, hx, hm⟩ := Option.bind_eq_some_iff.mp hm'
      obtain ⟨t, ht, hz⟩ := Option.map_eq_some_iff.mp hm
      cases hz
      obtain ⟨p, hp, f, hd, rfl⟩ := shownD_eq ht
      have rep := RDw.rep I (R.datW h1 hx) k1 hp f
      have fin : ∀ h' t tk, (∀ b o, s.heap.get? b = some o → h'.get? b = some o) → EP X pins σ Q (.str p.shown t) { s with heap := h', toks := tk } := fun h' t tk hk => ⟨.str p.shown, H, I.kept hk, ⟨t, rfl⟩, q _ H ι R .refl (.str _) trivial⟩
      have st : ∀ t tk, EP X pins σ Q (.str p.shown t) { s with toks := tk } := fun t tk => fin s.heap t tk fun _ _ e => e
      obtain ⟨⟨as, bs, rd, _, _⟩, sh⟩ := rep
      have hxs : ∀ z, x ≠ .str z := fun z e => by
        subst e
        unfold G.dat at hx
        split at hx
        · split at hx <;> cases hx
        · cases hx; exact hstr ⟨_, rfl⟩
        · split at hx <;> cases hx
      cases rd with
      | none => simp only [PyData.shown] at st; exact PySem.P.str_of_none (st _ _)
      | bool b => simp only [PyData.shown] at st; exact PySem.P.str_of_bool (st _ _)
      | int i t => simp only [PyData.shown] at st; exact PySem.P.str_of_int (by simpa [fitsP, PyData.showable] using f.1) (st _ _)
      | str z t => 
        exfalso
        cases x <;> simp [pyr] at hp
        exact hxs _ rfl
      | list h1 h2 h3 h4 => exact str_ref (fun prog w => sh _ rfl f.2 prog w) hg (by omega) fin
      | tuple h1 h2 h3 h4 => exact str_ref (fun prog w => sh _ rfl f.2 prog w) hg (by omega) fin
      | dict h1 h2 h3 h4 h5 => exact str_ref (fun prog w => sh _ rfl f.2 prog w) hg (by omega) fin
  · cases hm
end
end G

set_option Elab.async false
set_option linter.all false
set_option maxRecDepth 1000000
set_option maxHeartbeats 4000000
/-! GS: further methods. -/
namespace G
variable [Wld]
open PySem PySem.Spec PyProof.Rows L2
section
variable {X : Cx}
def gUpper (r : R) (rs : List R) : M R := fun e S => match r, rs with
  | .d (.str x), [] => if x.length ≤ 1000000 then some (.d (.str (Txt.upper x)), e, S) else none
  | _, _ => none
theorem mg_upper : MtR X "str.upper" (tOM X.K gUpper) := MtR.imp mt_upper fun x xs H Q q => by
  obtain ⟨ι, σ, e, S, rx, rs, r, e', S', R, hx, hr, hm, q⟩ := q
  unfold gUpper at hm
  split at hm
  · split at hm
    · cases hm
      cases hr
      cases hx
      exact ⟨_, rfl, rfl, by omega, q _ H ι R .refl (.str _) trivial⟩
    · cases hm
  · cases hm
end
end G

set_option Elab.async false
set_option linter.all false
set_option maxRecDepth 1000000
set_option maxHeartbeats 4000000
/-! GN: tables of the written part; a local that holds a def; two defs that call each other. -/
namespace G
variable [Wld]
open PySem PySem.Spec PyProof.Rows L2
/-- a table of the text: keys that are texts -/
def TabAt (K : PySem.W.Frag) (d : Addr) (tb : List (Str × D)) : Prop := ∀ z, match tb.lookup z with
  | some x => ∃ u v, PySem.W.nsIn K d z = some (some u) ∧ RelV v u ∧ ∀ H ι, RD K H ι v x
  | none => PySem.W.nsIn K d z = some none
structure KTab (K : PySem.W.Frag) (w : World) (d : Addr) (tb : List (Str × D)) : Prop where
  dd : ∃ es n, KDict K w d es n
  at_ : TabAt K d tb
def gInT (neg : Bool) (d : Addr) (tb : List (Str × D)) (rx ry : R) : M R := match rx, ry with
  | .d (.str z), .d (.fn a) => if a = d then pur (.d (.bl ((tb.lookup z).isSome != neg))) else stk
  | _, _ => stk
def gIxT (d : Addr) (tb : List (Str × D)) (rx ry : R) : M R := match rx, ry with
  | .d (.fn a), .d (.str z) => if a = d then (match tb.lookup z with
    | some x => pur (.d x)
    | none => stk) else stk
  | _, _ => stk
section
variable {X : Cx} {d : Addr} {tb : List (Str × D)}
theorem gInT_read {neg : Bool} {x y : V} {H : Hp} {Q : VK} (q : tO2 X.K (gInT neg d tb) x y H Q) : ∃ z, x = .str z ∧ y = .ref d ∧ Q (.bl ((tb.lookup z).isSome != neg)) H := by
  obtain ⟨ι, σ, e, S, rx, ry, r, e', S', R, r1, r2, hm, q⟩ := q
  unfold gInT at hm
  split at hm
  · split at hm
    · rename_i ha
      cases hm
      cases r1; cases r2
      subst ha
      exact ⟨_, rfl, rfl, q _ H ι R .refl (.bl _) trivial⟩
    · cases hm
  · cases hm
theorem gop_inT (T : KTab X.K X.w d tb) : OpR X (compareOp .In) (tO2 X.K (gInT false d tb)) := by
  obtain ⟨es, n, D⟩ := T.dd
  refine OpR.imp (op_in_kd D) fun x y H Q q => ?_
  obtain ⟨z, rfl, rfl, q2⟩ := gInT_read q
  have h := T.at_ z
  cases ht : tb.lookup z with
  | none => rw [ht] at h q2; exact ⟨z, none, rfl, rfl, h, by simpa using q2⟩
  | some x =>
    rw [ht] at h q2
    obtain ⟨u, v, h1, _, _⟩ := h
    exact ⟨z, some u, rfl, rfl, h1, by simpa using q2⟩
theorem gop_notInT (T : KTab X.K X.w d tb) : OpR X (compareOp .NotIn) (tO2 X.K (gInT true d tb)) := by
  obtain ⟨es, n, D⟩ := T.dd
  refine OpR.imp (op_notIn_kd D) fun x y H Q q => ?_
  obtain ⟨z, rfl, rfl, q2⟩ := gInT_read q
  have h := T.at_ z
  cases ht : tb.lookup z with
  | none => rw [ht] at h q2; exact ⟨z, none, rfl, rfl, h, by simpa using q2⟩
  | some x =>
    rw [ht] at h q2
    obtain ⟨u, v, h1, _, _⟩ := h
    exact ⟨z, some u, rfl, rfl, h1, by simpa using q2⟩
theorem gIxT_eq {rx ry : R} {e : En} {S : Sto} {z : R × En × Sto} (h : gIxT d tb rx ry e S = some z) : ∃ t x, rx = .d (.fn d) ∧ ry = .d (.str t) ∧ tb.lookup t = some x ∧ z = (.d x, e, S) := by
  cases rx with
  | d x =>
    cases x with
    | fn a =>
      cases ry with
      | d y =>
        cases y with
        | str t =>
          simp only [gIxT] at h
          by_cases ha : a = d
          · rw [if_pos ha] at h
            cases hx : tb.lookup t with
            | none => rw [hx] at h; cases h
            | some x => rw [hx] at h; cases h; exact ⟨t, x, by rw [ha], rfl, hx, rfl⟩
          · rw [if_neg ha] at h; cases h
        | _ => cases h
      | _ => cases h
    | _ => cases h
  | _ => cases h
theorem ge_ixT {a b : Expr} {ma mb : M R} {pos : Pos} (T : KTab X.K X.w d tb) (ha : GE X a ma) (hb : GE X b mb) (hs : PlainIx b := by exact fun _ _ => rfl) : GE X (.Subscript a b pos) (mBin (gIxT d tb) ma mb) :=
  PE.imp (pe_ix ix_kdict ha hb hs) fun σ H Q q => by
    obtain ⟨ι, e, S, r, e', S', R, hm, q⟩ := q
    obtain ⟨x, e1, S1, h1, hm⟩ := bnd_eq hm
    obtain ⟨y, e2, S2, h2, hm⟩ := bnd_eq hm
    refine ⟨ι, e, S, _, e1, S1, R, h1, fun v H1 ι1 R1 P1 r1 _ => ⟨ι1, e1, S1, _, _, _, R1, h2, fun w H2 ι2 R2 P2 r2 _ => ?_⟩⟩
    have r1' := r1.post P2
    obtain ⟨z, x, rfl, rfl, hx, hz⟩ := gIxT_eq hm
    cases hz
    cases r1'; cases r2
    obtain ⟨es, n, D⟩ := T.dd
    have h := T.at_ z
    rw [hx] at h
    obtain ⟨u, v, k1, k2, k3⟩ := h
    exact ⟨_, _, v, rfl, rfl, ⟨es, n, u, D.at_, D.lit, k1, k2⟩, q v H2 ι2 R2 (P1.trans P2) (k3 H2 ι2) trivial⟩
/-- the table's own name -/
theorem ge_tab {x : Str} {pos : Pos} (hg : Gl X x) (hm : X.mg x = some (.ref d)) (hd : (x == ("__debug__" : Str)) = false := by decide) : GE X (.Name x pos) (mC (.fn d)) := ge_glob (v := .ref d) hg hm rfl (fun _ _ => .fn d) hd
end
/-! ### the facts of the written part -/
theorem findK {P : Params} : ∀ {es : List DictEntry} {ks : List Str} {us : List Value}, es.map He.keyOf = He.keysIn P ks → es.map (·.val) = us → ∀ z, (match es.find? (·.key.isStr z) with
      | some e => some (some e.val)
      | none => if es.any (·.refKey) then none else some none) = some ((ks.zip us).lookup z)
  | [], [], _, _, h, z => by subst h; rfl
  | [], _ :: _, _, h, _, _ => by cases h
  | _ :: _, [], _, h, _, _ => by cases h
  | e :: es, k :: ks, us, h1, h2, z => by
    subst h2
    have h3 : He.keyOf e :: es.map He.keyOf = some (k, PyData.keyHash P k) :: He.keysIn P ks := h1
    injection h3 with h4 h5
    have ih := findK h5 rfl z
    unfold He.keyOf at h4
    split at h4
    · rename_i x t q
      have h6 := (Prod.mk.inj (Option.some.inj h4)).1
      subst h6
      have e1 : e.key.isStr z = (x == z) := by rw [q]; rfl
      have e2 : e.refKey = false := by unfold DictEntry.refKey; rw [q]
      cases hz : x == z with
      | true =>
        have : (z == x) = true := by rw [beq_iff_eq] at hz ⊢; exact hz.symm
        simp only [List.find?, e1, hz, List.map_cons, List.zip_cons_cons, List.lookup, this]
      | false =>
        have : (z == x) = false := by rw [beq_eq_false_iff_ne] at hz ⊢; exact fun h => hz h.symm
        simp only [List.find?, e1, hz, List.map_cons, List.zip_cons_cons, List.lookup, this, List.any_cons, e2, Bool.false_or]
        exact ih
    · cases h4
theorem KTab.mk' {K : PySem.W.Frag} {w : World} {d : Addr} {es : Array DictEntry} {n : Nat} {ks : List Str} {us : List Value} {vs : List V} {ds : List D}
    (hl : K.lookup d = some ⟨.type "dict", none, .dict es n, #[]⟩) (fk : es.toList.map He.keyOf = He.keysIn w.params ks) (fv : es.toList.map (·.val) = us) (hs : (d == sysModules) = false)
    (hr : Vals vs us) (hd : ∀ H ι, RDs K H ι vs ds) : KTab K w d (ks.zip ds) := by
  refine ⟨⟨es, n, hl, He.keysLit_of fk, hs⟩, fun z => ?_⟩
  have e : PySem.W.nsIn K d z = some ((ks.zip us).lookup z) := by
    unfold PySem.W.nsIn
    rw [hl]
    exact findK fk fv z
  rw [e]
  clear e fk fv hl
  have hd0 := hd
  induction ks generalizing us vs ds with
  | nil => rfl
  | cons k ks ih =>
    cases hr with
    | nil =>
      cases ds with
      | nil => rfl
      | cons d ds => have := hd (fun _ => none) []; cases this
    | cons r rs =>
      cases ds with
      | nil => have := hd (fun _ => none) []; cases this
      | cons d ds =>
        cases hz : z == k with
        | true =>
          simp only [List.zip_cons_cons, List.lookup, hz]
          exact ⟨_, _, rfl, r, fun H ι => by have := hd H ι; cases this; assumption⟩
        | false =>
          simp only [List.zip_cons_cons, List.lookup, hz]
          exact ih rs (fun H ι => by have := hd H ι; cases this; assumption) (fun H ι => by have := hd H ι; cases this; assumption)
/-! ### a local that holds a def -/
structure GFA (P : Program) (w : World) (K : PySem.W.Frag) (mg : Str → Option Value) (base : Heap) (k : Nat) (a : Addr) (n : Nat) (m : Fn) : Prop where
  ex : ∃ fd ps, FnG P w K mg base k a fd ps (spG K n m) ∧ PySem.W.keepIn K (.ref a) = true ∧ Binds K fd ps []
theorem GF.at_ {P : Program} {w : World} {K : PySem.W.Frag} {mg : Str → Option Value} {base : Heap} {j k : Nat} {x : Str} {n : Nat} {m : Fn} {a : Addr} (F : GF P w K mg base j x n m) (h : mg x = some (.ref a)) (hj : j ≤ k) : GFA P w K mg base k a n m := by
  obtain ⟨f, fd, ps, ok, hm, hk, hb⟩ := F.ex
  cases h.symm.trans hm
  exact ⟨fd, ps, ok.mono hj, hk, hb⟩
def mCallL (i n : Nat) (tb : List (Addr × Fn)) (ms : M (List R)) : M R := fun e S => match e[i]? with
  | some (some (.d (.fn a))) => (match tb.lookup a with
    | some f => mCall n f ms e S
    | none => none)
  | _ => none
theorem lookup_mem {α β : Type} [BEq α] [LawfulBEq α] {a : α} {b : β} : ∀ {l : List (α × β)}, l.lookup a = some b → (a, b) ∈ l
  | (x, y) :: l, h => by
    unfold List.lookup at h
    split at h
    · rename_i hx
      cases h
      rw [beq_iff_eq.mp hx]
      exact List.mem_cons_self ..
    · exact List.mem_cons_of_mem _ (lookup_mem h)
theorem ge_callL {X : Cx} {k n : Nat} {i : Nat} {x : Str} {tb : List (Addr × Fn)} {ex : Expr} {es : List Expr} {ms : M (List R)} {p pos : Pos} (F : ∀ q ∈ tb, GFA X.prog X.w X.K X.mg X.base k q.1 n q.2) (hr : Room k X.A) (hgd : X.A.guards = some [])
    (ha : GA X (ex :: es) ms) (hN : X.N[i]? = some x := by rfl) (hv : Vis X.env.scope x := by first | exact Or.inl rfl | exact Or.inr (Or.inl rfl) | exact Or.inr (Or.inr rfl)) (hdb : (x == ("__debug__" : Str)) = false := by decide) (hcd : (x == ("__classdict__" : Str)) = false := by decide)
    (he : starEach (ex :: es) X.env = (false, eval ex X.env) :: starEach es X.env := by rfl) (hpl : (backTo pos (starEach es X.env)).any (·.1) = false := by rfl) : GE X (.Call (.Name x p) (ex :: es) [] pos) (mCallL i n tb ms) := by
  refine ⟨fun pins s σ H Q I q => ?_⟩
  obtain ⟨ι, e, S, r, e', S', R, hm, q⟩ := q
  unfold mCallL at hm
  split at hm
  · rename_i a hea
    split at hm
    · rename_i f hf
      obtain ⟨v, hσ, hv'⟩ := R.sl i _ hea
      have hv2 : RD X.K H ι v (.fn a) := hv'
      cases hv2
      obtain ⟨fd, ps, ok, hk, hb⟩ := (F _ (lookup_mem hf)).ex
      have h : tGA X.K ms σ H fun vs H1 => spG X.K n f vs H1 Q E0 := tG_call ⟨ι, e, S, r, e', S', R, hm, q⟩
      refine wpAny_Call_Name_kw (thn ((pe_var (pos := p) hN hv hdb hcd).run pins s σ H (fun v H1 => v = .ref a ∧ H1 = H) I ⟨.ref a, hσ, rfl, rfl⟩) fun u s1 ⟨v, H1, I1, r1, q1⟩ => ?_)
      obtain ⟨rfl, rfl⟩ := q1
      cases r1
      exact PySem.W.callWith_K (h₀ := X.base) I1.ok.mod.kin hk (thn (ha.run pos pins s1 σ _ _ I1 h) fun us s2 ⟨vs, H2, I2, r, q⟩ => ⟨I2.kIn, ok.enter hr hgd hb .nil pass0 I2 r (by rw [List.append_nil]; exact q)⟩) he hpl
    · cases hm
  · cases hm
/-! ### two defs that call each other: the first by depth, the second from the first -/
theorem GF.recOf2 {P : Program} {w : World} {K : PySem.W.Frag} {mg : Str → Option Value} {base : Heap} {x qual : Str} {st : Stmt} {N ps : List Str} {k : Nat} {body : Fn → M Fl} (D : DF K mg x qual st ps) (Sc : FnScope N ps (defScope st))
    (h : ∀ (n : Nat) (self : Fn), GF P w K mg base (k + 2 * n + 1) x ps.length self → ∀ (f : Addr) (cdv : Value) (A : Around) (outer : List PySem.Env) (s : Shared) (H : Hp) (vs : List V) (Q : VK) (E : XK), Room (k + 2 * n + 2) (A.deeper (envOfC qual (defScope st) s.heap.objs.size f cdv)) → (A.deeper (envOfC qual (defScope st) s.heap.objs.size f cdv)).guards = some [] →
      GSs (cxOf CX0 P w K mg base N qual (defScope st) f cdv A outer s H E).nox (defBody st) (body self)) :
    ∀ n, GF P w K mg base (k + 2 * n + 1) x ps.length (recF (N.length - ps.length) body n) := by
  obtain ⟨f, fd, F, hm, hb⟩ := D.ex
  intro n
  induction n with
  | zero => exact ⟨⟨f, fd, ps, fn_ok (N := N) (body := stk) F Sc fun cdv A outer s H vs Q E hr hgd => gss_never, hm, F.kp, hb⟩⟩
  | succ n ih => exact .mk' (fn_ok F Sc (h n _ ih f)) hm F.kp hb
theorem pe_callG0 {X : Cx} {k : Nat} {f : Addr} {fd : FuncData} {ps : List Str} {sp : Sp} {dvs : List V} {ds : List Value} {E : XK} {x : Str} {p pos : Pos} (F : FnG X.prog X.w X.K X.mg X.base k f fd ps sp) (hr : Room k X.A) (hgd : X.A.guards = some []) (hg : Gl X x) (hm : X.mg x = some (.ref f)) (hk : PySem.W.keepIn X.K (.ref f) = true) (hb : Binds X.K fd ps ds) (hd : Vals dvs ds) (hx : Passes CX0 X E)
    (hdb : (x == ("__debug__" : Str)) = false := by decide) : PE X (.Call (.Name x p) [] [] pos) (tCall sp dvs E tNil) := by
  refine ⟨fun pins s σ H Q I h => ?_⟩
  refine wpAny_Call_Name_kw (ld_glob I hg hm ?_ hdb)
  exact PySem.W.callWith_K0 I.kIn hk (F.enter (us := []) hr hgd hb hd hx I .nil h)
theorem ge_call0 {X : Cx} {k : Nat} {x : Str} {n : Nat} {f : Fn} {p pos : Pos} (F : GF X.prog X.w X.K X.mg X.base k x n f) (hr : Room k X.A) (hgd : X.A.guards = some []) (hg : Gl X x) (hdb : (x == ("__debug__" : Str)) = false := by decide) :
    GE X (.Call (.Name x p) [] [] pos) (mCall n f mNil) := by
  obtain ⟨fa, fd, ps, ok, hm, hk, hb⟩ := F.ex
  refine PE.imp (pe_callG0 ok hr hgd hg hm hk hb .nil pass0 hdb) fun σ H Q q => ?_
  have h : tGA X.K mNil σ H fun vs H1 => spG X.K n f vs H1 Q E0 := tG_call q
  obtain ⟨ι, e, S, r, e', S', R, hm, q⟩ := h
  cases hm
  have h := q [] H ι R .refl .nil
  unfold tCall tNil
  simpa using h
theorem rd_tupK {K : PySem.W.Frag} {T : Addr} {od : Option Addr} {its : Array Value} {n : Nat} {sl : Array (Option Value)} {us : List Value} {vs : List V} {ds : List D}
    (hl : K.lookup T = some ⟨.type "tuple", od, .seq its n, sl⟩) (hi : its.toList = us) (hz : us.length ≤ 1000) (hv : Vals vs us) (hd : ∀ H ι, RDs K H ι vs ds) : ∀ H ι, RD K H ι (.ref T) (.tup ds) := fun H ι =>
  .tup (.inr ⟨_, its, n, hl, rfl, rfl, by
    have e : its.size = us.length := by rw [← hi, Array.length_toList]
    have := line_ge
    omega, by rw [hi]; exact hv⟩) (hd H ι)
theorem vs_ref {a : Addr} {vs : List V} {us : List Value} (h : Vals vs us) : Vals (.ref a :: vs) (.ref a :: us) := .cons (show RelV (.ref a) (.ref a) from rfl) h
theorem vs_int {i : Int} {t : Tok} {vs : List V} {us : List Value} (h : Vals vs us) : Vals (.int i :: vs) (.int i t :: us) := .cons (show RelV (.int i) (.int i t) from ⟨_, rfl⟩) h
theorem vs_str {x : Str} {t : Tok} {vs : List V} {us : List Value} (h : Vals vs us) : Vals (.str x :: vs) (.str x t :: us) := .cons (show RelV (.str x) (.str x t) from ⟨_, rfl⟩) h
theorem vs_nil : Vals [] [] := .nil
/-- a law's row, from a mirror that knows where the defs lie -/
theorem walk_G2 {l : PySem.W.OpenLaw} {n k : Nat} {q : Program} {loose : List Str} {XP : (Str → Option Value) → Heap → Prop} {YP : World → Heap → Prop} {d : DefRec} {K : Params → PySem.W.Frag} {x : Str}
    (hn : l.most = some n) (hn2 : n ≤ sizeLine) (hdf : d.params.defaults = []) (hr : Room k callerA) (hY : ∀ (w : World) (h : Heap), YP w h → (K w.params).In h)
    (F : ∀ (w : World) (mg : Str → Option Value) (fa : Addr) (h : Heap), (K w.params).In h → h.Ns mainGlobals mg → mg d.name = some (.ref fa) →
      ∃ (f : Fn) (fd : FuncData), (∀ (s : Shared) (u : Value), BindsTo s fd ⟨[u], []⟩ [(x, u)]) ∧ (∀ base : Heap, (K w.params).In base → base.Ns mainGlobals mg → FnG l.prog w (K w.params) mg base k fa fd [x] (spG (K w.params) 1 f)) ∧
        ∀ ns : List Int, ns.length ≤ n → (∀ z ∈ ns, Builtin.Int.intBits z ≤ 1048576) → ∃ S', f [.d (.lst (ns.map D.int))] [] = some (.d (.bl true), S')) :
    PySem.W.WalkO q loose XP YP l.row.toRowW d [] (fun f vs => PySem.call f vs) :=
  Att.attach_callB hn hdf fun w s₀ s₁ mg mb fa o pm cd doc a vs ns G Y ho hd hcd hmg hobj hints hlen hbits hg =>
    let ⟨_, fd, hb, hF, hf⟩ := F w mg fa _ (hY w _ Y) G.T.g hmg
    law_callG (hY w _ Y) G.T.g G.T.b G.T.builtins G.T.nolimit hg hobj hints (Nat.le_trans hlen hn2) hr hF hb fun H hO hS => let ⟨_, h⟩ := hf ns hlen hbits; spG_law hO hS h
end G

set_option Elab.async false
set_option linter.all false
set_option maxRecDepth 1000000
set_option maxHeartbeats 4000000
/-! GD: constants that are tuples of texts, displays of dicts, .get, .extend. -/
namespace G
variable [Wld]
open PySem PySem.Spec PyProof.Rows L2
section
variable {X : Cx} {pos : Pos}
/-- a constant of the module, by its data -/
def CstAt (K : PySem.W.Frag) (mg : Str → Option Value) (x : Str) (d : D) : Prop := ∃ u v, mg x = some u ∧ RelV v u ∧ ∀ H ι, RD K H ι v d
theorem ge_gD {x : Str} {d : D} (h : CstAt X.K X.mg x d) (hg : Gl X x) (hd : (x == ("__debug__" : Str)) = false := by decide) : GE X (.Name x pos) (mC d) := by
  obtain ⟨u, v, h1, h2, h3⟩ := h
  exact ge_glob hg h1 h2 h3 hd
/-! ### {'a': 1, ..} -/
def tPc : List (Str × Int) → List (TE × TE)
  | [] => []
  | (k, i) :: r => (tC (.str k), tC (.int i)) :: tPc r
def mDl (kvs : List (Str × Int)) : M R := pur (.new (.dct (kvs.map fun p => (.inr p.1, .int p.2))))
theorem tPairs_c {σ : SV} {H : Hp} : ∀ {kvs : List (Str × Int)} {Q : List (V × V) → Hp → Prop}, Q (kvs.map fun p => (.str p.1, .int p.2)) H → tPairs (tPc kvs) σ H Q
  | [], Q, h => h
  | (k, i) :: r, Q, h => by
    show tPairs (tPc r) σ H fun ps H3 => Q ((.str k, .int i) :: ps) H3
    exact tPairs_c h
theorem mergeK_nodup : ∀ {more kvs : List (Key × V)}, ((kvs ++ more).map (·.1)).Nodup → mergeK kvs more = kvs ++ more
  | [], kvs, _ => by simp [mergeK]
  | p :: r, kvs, h => by
    have e : putK kvs p.1 p.2 = kvs ++ [p] := by
      unfold putK
      have hk : p.1 ∉ kvs.map (·.1) := by
        intro hm
        rw [List.map_append, List.nodup_append] at h
        exact h.2.2 _ hm _ (by simp) rfl
      rw [if_neg]
      intro ha
      obtain ⟨q, hq, he⟩ := List.any_eq_true.mp ha
      exact hk (List.mem_map.mpr ⟨q, hq, by simpa using he⟩)
    show mergeK (putK kvs p.1 p.2) r = _
    rw [e, mergeK_nodup (by simpa using h)]
    simp
end
section
variable {X : Cx} {pos : Pos}
theorem kvsV (kvs : List (Str × Int)) : (kvs.map fun p => ((.str p.1, .int p.2) : V × V)) = (kvs.map fun p => ((.inr p.1 : Key), V.int p.2)).map (fun kv => (kV kv.1, kv.2)) := by
  rw [List.map_map]; rfl
theorem rk_c {K : PySem.W.Frag} {H : Hp} {ι : List Addr} : ∀ (kvs : List (Str × Int)), RK K H ι (kvs.map fun p => ((.inr p.1 : Key), V.int p.2)) (kvs.map fun p => ((.inr p.1 : Key), D.int p.2))
  | [] => .nil
  | p :: r => .cons ⟨rfl, .int p.2⟩ (rk_c r)
theorem ge_dl {keys : List (Option Expr)} {values : List Expr} (kvs : List (Str × Int)) (h : PPs X pos keys values (tPc kvs)) (hn : (kvs.map (·.1)).Nodup) (h15 : kvs.length ≤ 15) (hk : keys.length = kvs.length) (hall : keys.all (·.isSome) = true := by rfl) (hl : keys.length = values.length := by rfl) (h0 : keys ≠ [] := by exact List.cons_ne_nil _ _) :
    GE X (.Dict keys values pos) (mDl kvs) := PE.imp (pe_disp h hall hl h0 (by omega)) fun σ H Q q => by
  obtain ⟨ι, e, S, r, e', S', R, hm, q⟩ := q
  cases hm
  intro p hp
  refine tPairs_c ⟨upd_same, _, kvsV kvs, by simpa using h15, ?_⟩
  have em : mergeK [] (kvs.map fun p => ((.inr p.1 : Key), V.int p.2)) = kvs.map fun p => ((.inr p.1 : Key), V.int p.2) := by
    rw [mergeK_nodup]
    · rfl
    · rw [List.nil_append, List.map_map]
      have : ((fun x : Key × V => x.1) ∘ fun p : Str × Int => ((.inr p.1 : Key), V.int p.2)) = (fun x : Str => (.inr x : Key)) ∘ fun p : Str × Int => p.1 := rfl
      rw [this, ← List.map_map]
      exact List.Pairwise.map _ (fun a b hab e => hab (Sum.inr.inj e)) hn
  rw [em]
  have e2 : upd (upd H p (.dK [])) p (.dK (kvs.map fun p => ((.inr p.1 : Key), V.int p.2))) = upd H p (.dK (kvs.map fun p => ((.inr p.1 : Key), V.int p.2))) := by
    funext b
    unfold upd
    split <;> rfl
  rw [e2]
  obtain ⟨R2, P2, n1, n2⟩ := R.new (u := .dK (kvs.map fun p => ((.inr p.1 : Key), V.int p.2))) hp
  exact q _ _ ι R2 P2 ⟨p, rfl, ⟨_, upd_same, rk_c kvs⟩, n1, n2⟩ ⟨p, rfl, hp⟩
theorem pp_c {k : Str} {i : Int} {ks : List (Option Expr)} {vs : List Expr} {kvs : List (Str × Int)} {p1 p2 : Pos} {j1 j2} (h : PPs X pos ks vs (tPc kvs)) : PPs X pos (some (.Constant (.str k) j1 p1) :: ks) (.Constant (.int i) j2 p2 :: vs) (tPc ((k, i) :: kvs)) :=
  pps_cons pe_str pe_int h
/-! ### d.get(k, x), d.get(k) -/
def gGet (rx ry : R) (z : D) : M R := fun e S => match ry with
  | .d y => (match look rx e S with
    | some (.dct kvs) => (keyOf y).map fun k => (.d ((valD kvs k).getD z), e, S)
    | _ => none)
  | _ => none
def chkD (r : R) : M Unit := fun e S => match look r e S with
  | some (.dct _) => some ((), e, S)
  | _ => none
def mGet1 (mo mk : M R) : M R := bnd mo fun x => bnd (chkD x) fun _ => bnd mk fun y => gGet x y .non
def unD (z : R) : M D := match z with
  | .d z => pur z
  | _ => stk
def mGet2 (mo mk mz : M R) : M R := bnd mo fun x => bnd (chkD x) fun _ => bnd mk fun y => bnd mz fun z => bnd (unD z) fun z => gGet x y z
theorem chkD_eq {r : R} {e : En} {S : Sto} {w : Unit × En × Sto} (h : chkD r e S = some w) : (∃ kvs, look r e S = some (.dct kvs)) ∧ w = ((), e, S) := by
  unfold chkD at h
  split at h
  · cases h; exact ⟨⟨_, by assumption⟩, rfl⟩
  · cases h
variable {o e f : Expr} {mo mk mz : M R} {apos cpos : Pos}
theorem gGet_eq {rx ry : R} {z : D} {e : En} {S : Sto} {w : R × En × Sto} (h : gGet rx ry z e S = some w) : ∃ kvs y k, ry = .d y ∧ look rx e S = some (.dct kvs) ∧ keyOf y = some k ∧ w = (.d ((valD kvs k).getD z), e, S) := by
  unfold gGet at h
  split at h
  · split at h
    · obtain ⟨k, h1, h2⟩ := Option.map_eq_some_iff.mp h
      exact ⟨_, _, k, rfl, by assumption, h1, h2.symm⟩
    · cases h
  · cases h
theorem ge_get2 (hu : X.A.units + 1 < cLine) (ho : GE X o mo) (he : GE X e mk) (hf : GE X f mz) (m : M2 X o "get" apos e f cpos := by exact ⟨rfl, rfl, rfl, rfl⟩) : GE X (.Call (.Attribute o "get" apos) [e, f] [] cpos) (mGet2 mo mk mz) :=
  PE.imp (pe_dget2 hu ho he hf m) fun σ H Q q => by
    obtain ⟨ι, e0, S, r, e', S', R, hm, q⟩ := q
    obtain ⟨x, e1, S1, h1, hm⟩ := bnd_eq hm
    obtain ⟨_, _, _, h0, hm⟩ := bnd_eq hm
    obtain ⟨⟨kvs0, hlk0⟩, hz⟩ := chkD_eq h0
    cases hz
    obtain ⟨y, e2, S2, h2, hm⟩ := bnd_eq hm
    obtain ⟨z, e3, S3, h3, hm⟩ := bnd_eq hm
    obtain ⟨dz, _, _, h4, hm⟩ := bnd_eq hm
    obtain ⟨rfl, hz⟩ : z = .d dz ∧ _ := by
      cases z with
      | d z => cases h4; exact ⟨rfl, trivial⟩
      | _ => cases h4
    cases h4
    refine ⟨ι, e0, S, x, e1, S1, R, h1, fun v H1 ι1 R1 P1 r1 f1 => ?_⟩
    obtain ⟨p, ws, rfl, g1, g2⟩ := R1.lookD r1 hlk0
    refine ⟨p, rfl, .inl ⟨ws, g1⟩, ι1, e1, S1, y, e2, S2, R1, h2, fun vy H2 ι2 R2 P2 r2 _ => ⟨ι2, e2, S2, _, e3, S3, R2, h3, fun vz H3 ι3 R3 P3 r3 _ => ?_⟩⟩
    obtain ⟨kvs, y', k, rfl, hlk, hk, hw⟩ := gGet_eq hm
    cases hw
    obtain ⟨p', ws', ep, g1', g2'⟩ := R3.lookD ((r1.post P2).post P3) hlk
    cases ep
    have r2' : RD X.K H3 ι3 vy y' := r2.post P3
    refine ⟨valV ws' k, .inl ⟨ws', k, g1', keyOf_v r2' hk, rfl⟩, ?_⟩
    refine q _ H3 ι3 R3 ((P1.trans P2).trans P3) ?_ trivial
    show RD X.K H3 ι3 _ _
    cases hv : valD kvs k with
    | none => rw [(g2'.val k).2 hv]; exact r3
    | some d =>
      obtain ⟨z', hz', rz⟩ := (g2'.val k).1 d hv
      rw [hz']; exact rz
theorem ge_get1 (hu : X.A.units + 1 < cLine) (ho : GE X o mo) (he : GE X e mk) (m : M1 X o "get" apos e cpos := by exact ⟨rfl, rfl, rfl, rfl⟩) : GE X (.Call (.Attribute o "get" apos) [e] [] cpos) (mGet1 mo mk) :=
  PE.imp (pe_dget1 hu ho he m) fun σ H Q q => by
    obtain ⟨ι, e0, S, r, e', S', R, hm, q⟩ := q
    obtain ⟨x, e1, S1, h1, hm⟩ := bnd_eq hm
    obtain ⟨_, _, _, h0, hm⟩ := bnd_eq hm
    obtain ⟨⟨kvs0, hlk0⟩, hz⟩ := chkD_eq h0
    cases hz
    obtain ⟨y, e2, S2, h2, hm⟩ := bnd_eq hm
    refine ⟨ι, e0, S, x, e1, S1, R, h1, fun v H1 ι1 R1 P1 r1 f1 => ?_⟩
    obtain ⟨p, ws, rfl, g1, g2⟩ := R1.lookD r1 hlk0
    refine ⟨p, rfl, .inl ⟨ws, g1⟩, ι1, e1, S1, y, e2, S2, R1, h2, fun vy H2 ι2 R2 P2 r2 _ => ?_⟩
    obtain ⟨kvs, y', k, rfl, hlk, hk, hw⟩ := gGet_eq hm
    cases hw
    obtain ⟨p', ws', ep, g1', g2'⟩ := R2.lookD (r1.post P2) hlk
    cases ep
    have r2' : RD X.K H2 ι2 vy y' := r2
    refine ⟨valV ws' k, .inl ⟨ws', k, g1', keyOf_v r2' hk, rfl⟩, ?_⟩
    refine q _ H2 ι2 R2 (P1.trans P2) ?_ trivial
    show RD X.K H2 ι2 _ _
    cases hv : valD kvs k with
    | none => rw [(g2'.val k).2 hv]; exact .non
    | some d =>
      obtain ⟨z', hz', rz⟩ := (g2'.val k).1 d hv
      rw [hz']; exact rz
/-! ### xs.extend(new list) -/
def gExtend (r : R) (rs : List R) : M R := match rs with
  | [.new (.lst zs)] => wrL r fun ds => if ds.length + zs.length ≤ 1000000 then some (.d .non, ds ++ zs) else none
  | _ => stk
theorem mg_extend : MtR X "list.extend" (tOM X.K gExtend) := MtR.imp mt_extend fun x xs H Q q => by
  obtain ⟨ι, σ, e, S, rx, rs, r, e', S', R, hx, hs, hm, q⟩ := q
  unfold gExtend at hm
  split at hm
  · obtain ⟨ds, x', es, h1, h2, h3, hz⟩ := wrL_eq hm
    cases hz
    split at h3
    · cases h3
      rename_i hl
      cases hs with
      | cons g1 g2 =>
        cases g2
        obtain ⟨b, rfl, ⟨zs', hb, rz⟩, _, _⟩ := g1
        obtain ⟨a, us, rfl, k1, k2, k3⟩ := R.writeL hx h1 h2
        obtain ⟨R2, P2⟩ := k3 _ _ (k2.append rz)
        exact ⟨a, b, us, zs', rfl, rfl, k1, hb, Nat.le_trans (by rw [k2.length, rz.length]; exact hl) line_ge, q _ _ ι R2 P2 .non trivial⟩
    · cases h3
  · cases hm
end
end G

set_option Elab.async false
set_option linter.all false
set_option maxRecDepth 1000000
set_option maxHeartbeats 4000000
/-! GL: lists that nobody writes, put together. -/
namespace G
variable [Wld]
open PySem PySem.Spec PyProof PyProof.Rows L2
theorem list_add_any (l : Addr) (items : Array Value) (n : Nat) (b : Addr) (items2 : Array Value) (n2 : Nat) (sl sl2 : Array (Option Value)) (hc0 : items.size + items2.size ≤ sizeLine) :
    Meets (Builtin.«list.__add__» ⟨[.ref l, .ref b], []⟩) (fun _ R s => s.heap.get? l = some { cls := .type "list", dict := none, data := .seq items n, slots := sl } ∧ s.heap.get? b = some { cls := .type "list", dict := none, data := .seq items2 n2, slots := sl2 } ∧ R (.ok (.ret (Value.ref s.heap.objs.size))) { s with heap := s.heap.push { cls := Value.type "list", data := Data.seq (items ++ items2) }, toks := s.toks }) :=
  .of_wp fun prog w A R s h => by obtain ⟨hp, g, d, tk, os⟩ := s; obtain ⟨hl, hb, h⟩ := h; have f1 := PySem.AutoSeq1.idx_int; have f2 := PySem.AutoSeq1.sub_tuple_tuple; have f3 := PySem.AutoSeq1.sub_list_list; have f4 := PySem.AutoSeq1.sub_tuple_list; have f5 := PySem.AutoSeq1.sub_list_tuple; wp_walk using PySem.AutoSeq1.wpAny_loadPart' hl, PySem.AutoSeq1.wpAny_loadPart' hb; exact ⟨_, rfl, h⟩
section
variable {X : Cx}
theorem op_catF : OpR X (binaryOp .Add) (fun x y H Q => ∃ a b xs zs, x = .ref a ∧ y = .ref b ∧ SqL X.K H a xs ∧ SqL X.K H b zs ∧ xs.length + zs.length ≤ sizeLine ∧ ∀ p, H p = none → Q (.ref p) (upd H p (.lst (xs ++ zs)))) := by
  intro pins s σ H x y v u Q I rx ry h
  obtain ⟨a, b, xs, zs, rfl, rfl, hA, hB, hz, q⟩ := h
  cases rx
  cases ry
  obtain ⟨its, r, ⟨o, n, e, c1, c2, c3⟩, _⟩ := I.list hA
  obtain ⟨its2, r2, ⟨o2, n2, e2, d1, d2, d3⟩, _⟩ := I.list hB
  obtain ⟨oc, od, odt, osl⟩ := o
  obtain ⟨oc2, od2, odt2, osl2⟩ := o2
  cases c1; cases c2; cases c3; cases d1; cases d2; cases d3
  have l1 := r.length
  have l2 := r2.length
  have hsz : its.toArray.size + its2.toArray.size ≤ sizeLine := by rw [List.size_toArray, List.size_toArray]; omega
  refine concat_meets (Q := EP X pins σ Q) ⟨_, e, rfl⟩ ⟨_, e2, rfl⟩ noFill_list_add seq_list_add PySem.F.slot_list_add PySem.F.entry_list_add (PySem.F.args_list_add_2 _ _) (list_add_any a its.toArray n b its2.toArray n2 osl osl2 hsz) ⟨e, e2, ?_⟩
  have ea : its.toArray ++ its2.toArray = (its ++ its2).toArray := by simp
  rw [ea]
  exact ⟨.ref _, _, I.lnew (t' := s.toks) (r.append r2) (by rw [List.length_append]; omega), rfl, q _ I.fresh⟩
/-- lists, whether locked or not -/
def gAddF (rx ry : R) : M R := fun e S => match look rx e S, look ry e S with
  | some (.lst xs), some (.lst ys) => if xs.length + ys.length ≤ 1000000 then some (.new (.lst (xs ++ ys)), e, S) else none
  | _, _ => none
theorem gAddF_eq {rx ry : R} {e : En} {S : Sto} {z : R × En × Sto} (h : gAddF rx ry e S = some z) : ∃ xs ys, look rx e S = some (.lst xs) ∧ look ry e S = some (.lst ys) ∧ xs.length + ys.length ≤ 1000000 ∧ z = (.new (.lst (xs ++ ys)), e, S) := by
  unfold gAddF at h
  split at h
  · split at h
    · cases h; exact ⟨_, _, by assumption, by assumption, by assumption, rfl⟩
    · cases h
  · cases h
theorem gop_addF : OpR X (binaryOp .Add) (tO2 X.K gAddF) := OpR.imp op_catF fun x y H Q q => by
  obtain ⟨ι, σ, e, S, rx, ry, r, e', S', R, hx, hy, hm, q⟩ := q
  obtain ⟨xs, ys, h1, h2, hz, he⟩ := gAddF_eq hm
  cases he
  obtain ⟨a, us, rfl, k1, k2⟩ := R.lookL hx h1
  obtain ⟨b, ws, rfl, k3, k4⟩ := R.lookL hy h2
  refine ⟨a, b, us, ws, rfl, rfl, k1, k3, Nat.le_trans (by rw [k2.length, k4.length]; exact hz) line_ge, fun p hp => ?_⟩
  obtain ⟨R2, P2, m1, m2⟩ := R.new (u := .lst (us ++ ws)) hp
  exact q _ _ ι R2 P2 ⟨p, rfl, ⟨_, upd_same, RDs.mono P2.stay P2.pre _ _ (k2.append k4)⟩, m1, m2⟩ ⟨p, rfl, hp⟩
end
/-! ### two defs that call each other, by more than one step -/
theorem GF.recOfS {P : Program} {w : World} {K : PySem.W.Frag} {mg : Str → Option Value} {base : Heap} (s : Nat) {x qual : Str} {st : Stmt} {N ps : List Str} {k : Nat} {body : Fn → M Fl} (D : DF K mg x qual st ps) (Sc : FnScope N ps (defScope st))
    (h : ∀ (n : Nat) (self : Fn), GF P w K mg base (k + (s + 1) * n + 1) x ps.length self → ∀ (f : Addr) (cdv : Value) (A : Around) (outer : List PySem.Env) (sh : Shared) (H : Hp) (vs : List V) (Q : VK) (E : XK), Room (k + (s + 1) * n + s + 1) (A.deeper (envOfC qual (defScope st) sh.heap.objs.size f cdv)) → (A.deeper (envOfC qual (defScope st) sh.heap.objs.size f cdv)).guards = some [] →
      GSs (cxOf CX0 P w K mg base N qual (defScope st) f cdv A outer sh H E).nox (defBody st) (body self)) :
    ∀ n, GF P w K mg base (k + (s + 1) * n + 1) x ps.length (recF (N.length - ps.length) body n) := by
  obtain ⟨f, fd, F, hm, hb⟩ := D.ex
  intro n
  induction n with
  | zero => exact ⟨⟨f, fd, ps, fn_ok (N := N) (body := stk) F Sc fun cdv A outer s H vs Q E hr hgd => gss_never, hm, F.kp, hb⟩⟩
  | succ n ih =>
    have := FnG.mono (fn_ok F Sc (h n _ ih f)) (show k + (s + 1) * n + s + 1 + 1 ≤ k + (s + 1) * (n + 1) + 1 by rw [Nat.mul_add]; omega)
    exact .mk' this hm F.kp hb
/-! ### a, b, .. = a list -/
def mAsgL (n : Nat) (ts : Tgts) (m : M R) : M Fl := bnd m fun r e S => (lstOf r e S).bind fun ds => if ds.length = n then (ts ds e).map fun e' => (.nx, e', S) else none
theorem gs_asgL {X : Cx} {vs : List Nat} {ex : Expr} {es : List Expr} {ts : Tgts} {pos p : Pos} {k n : Nat} {m : M R} (he : GE X ex m) (hc : X.calm = true) (hg : GGs X vs es ts) (hn : (assignEach es X.env).length = n := by rfl) (hst : (assignEach es X.env).findIdx? (·.1) = none := by rfl)
    (hs : swapsWithSole [.Tuple es k p] ex pos.line X.env = pure false := by rfl) (hw : swappedStores [.Tuple es k p] ex X.env = pure none := by rfl)
    (h1 : (assignEach [.Tuple es k p] X.env).map (·.2) = [assign (.Tuple es k p) X.env] := by rfl) : GS X (.Assign [.Tuple es k p] ex pos) (mAsgL n ts m) := PS.imp (ps_asg he (pg_lst hc hg hn hst) hs hw h1) fun D σ H q => by
  obtain ⟨ι, e, S, fl, e', S', R, hm, q⟩ := q
  obtain ⟨r, e1, S1, h1, hm⟩ := bnd_eq hm
  refine ⟨ι, e, S, r, e1, S1, R, h1, fun v H1 ι1 R1 P1 r1 f1 => ?_⟩
  obtain ⟨ds, h2, hm⟩ := Option.bind_eq_some_iff.mp (show (lstOf r e1 S1).bind _ = _ from hm)
  split at hm
  · rename_i hl
    obtain ⟨e2, h3, h4⟩ := Option.map_eq_some_iff.mp hm
    cases h4
    obtain ⟨a, xs, rfl, k1, k2⟩ := R1.lst r1 h2
    exact ⟨a, xs, rfl, k1, by rw [k2.length]; exact hl, ι1, e1, S', ds, _, R1, k2, h3, fun σ2 R2 P2 _ => q σ2 H1 ι1 R2 (P1.trans P2)⟩
  · cases hm
end G

set_option Elab.async false
set_option linter.all false
set_option maxRecDepth 1000000
set_option maxHeartbeats 4000000
/-! GZ: zip of lists and tuples in any mix. -/
namespace G
variable [Wld]
open PySem PySem.Spec PyProof PyProof.Rows L2
/-- k: a tuple, else a list -/
def SqX (k : Bool) (K : PySem.W.Frag) (H : Hp) (a : Addr) (xs : List V) : Prop := if k = true then SqT K H a xs else SqL K H a xs
def ItX (k : Bool) (h : Heap) (it l : Addr) (i : Nat) : Prop := if k = true then h.IsTupleIter it l i else h.IsListIter it l i
def IsX (k : Bool) (h : Heap) (l : Addr) (its : Array Value) : Prop := if k = true then h.IsTuple l its else h.IsList l its
theorem inv_seqX {X : Cx} {pins : List (Addr × PySem.Obj)} {σ : SV} {H : Hp} {s : Shared} {k : Bool} {a : Addr} {xs : List V} (I : Inv X pins σ H s) (h : SqX k X.K H a xs) : ∃ its : List Value, Vals xs its ∧ IsX k s.heap a its.toArray ∧ xs.length ≤ sizeLine := by
  cases k with
  | true => obtain ⟨its, r, p, z⟩ := I.tuple h; exact ⟨its, r, p, z⟩
  | false => obtain ⟨its, r, p, z⟩ := I.list h; exact ⟨its, r, p.isList, z⟩
theorem inv_injX {X : Cx} {pins : List (Addr × PySem.Obj)} {σ : SV} {H : Hp} {s : Shared} {k : Bool} {a : Addr} {xs ys : List V} (I : Inv X pins σ H s) (h : SqX k X.K H a xs) (h' : SqX k X.K H a ys) : xs = ys := by
  cases k with
  | true => exact I.tuple_inj h h'
  | false => exact I.list_inj h h'
/-- what is drawn from the i-th place on -/
theorem drawsX {prog : Program} {w : World} {A : Around} (k : Bool) (hh : A.handled = none) (it l : Addr) (hne : l ≠ it) (items : Array Value) (i : Nat) :
    Draws prog w A it [it, l] (items.size - i) (fun j v => items[i + j]? = some v) (fun j h => ItX k h it l (i + j) ∧ IsX k h l items) := by
  cases k with
  | true =>
    exact {
      live := fun _ _ st => let ⟨o, ho, _⟩ := (show Heap.IsTupleIter _ _ _ _ from st.1); ⟨o, ho⟩
      frame := fun _ _ _ st hk => ⟨Heap.IsTupleIter.at (show Heap.IsTupleIter _ _ _ _ from st.1) fun o e => hk it (by simp) o e, Heap.IsTuple.at (show Heap.IsTuple _ _ _ from st.2) fun o e => hk l (by simp) o e⟩
      item := fun j s Q E hj st hQ => by
        refine wpAny_nextOf_tuple_item (show Heap.IsTupleIter _ _ _ _ from st.1) (show Heap.IsTuple _ _ _ from st.2) (x := items[i + j]'(by omega)) (by rw [Array.getElem?_eq_getElem]) fun h' hit' hs' => ?_
        exact hQ _ h' s.toks (by rw [Array.getElem?_eq_getElem]) ⟨hit', Heap.IsTuple.extBut (show Heap.IsTuple _ _ _ from st.2) hs'.extBut hne⟩ hs'
      done := fun s Q E st hE => wpAny_nextOf_tuple_end hh (show Heap.IsTupleIter _ _ _ _ from st.1) (show Heap.IsTuple _ _ _ from st.2) (by simp; omega) hE }
  | false =>
    exact {
      live := fun _ _ st => let ⟨o, ho, _⟩ := (show Heap.IsListIter _ _ _ _ from st.1); ⟨o, ho⟩
      frame := fun _ _ _ st hk => ⟨Heap.IsListIter.at (show Heap.IsListIter _ _ _ _ from st.1) fun o e => hk it (by simp) o e, Heap.IsList.at (show Heap.IsList _ _ _ from st.2) fun o e => hk l (by simp) o e⟩
      item := fun j s Q E hj st hQ => by
        refine wpAny_nextOf_list_item (show Heap.IsListIter _ _ _ _ from st.1) (show Heap.IsList _ _ _ from st.2) (x := items[i + j]'(by omega)) (by rw [Array.getElem?_eq_getElem]) fun h' hit' hs' => ?_
        exact hQ _ h' s.toks (by rw [Array.getElem?_eq_getElem]) ⟨hit', Heap.IsList.extBut (show Heap.IsList _ _ _ from st.2) hs'.extBut hne⟩ hs'
      done := fun s Q E st hE => wpAny_nextOf_list_end hh (show Heap.IsListIter _ _ _ _ from st.1) (show Heap.IsList _ _ _ from st.2) (by simp; omega) hE }
def ItzX (k1 k2 : Bool) (K : PySem.W.Frag) (a b : Addr) : It :=
  ⟨fun i H => ∃ (xs ys : List V) (x y : V), SqX k1 K H a xs ∧ SqX k2 K H b ys ∧ xs[i]? = some x ∧ ys[i]? = some y,
    fun i H v H' => ∃ T x y, v = .ref T ∧ H T = none ∧ H' = upd H T (.tup [x, y]) ∧ (∀ xs, SqX k1 K H a xs → xs[i]? = some x) ∧ ∀ ys, SqX k2 K H b ys → ys[i]? = some y,
    fun i H => ∃ xs ys : List V, SqX k1 K H a xs ∧ SqX k2 K H b ys ∧ (xs.length ≤ i ∨ ys.length ≤ i)⟩
theorem itX_obj {k : Bool} {h : Heap} {it l : Addr} {i : Nat} (x : ItX k h it l i) : ∃ o, h.get? it = some o ∧ ∀ v, o.data ≠ .cell v := by
  cases k with
  | true => obtain ⟨o, e, _, d⟩ := (show Heap.IsTupleIter _ _ _ _ from x); exact ⟨o, e, fun v q => by rw [d] at q; cases q⟩
  | false => obtain ⟨o, e, _, d⟩ := (show Heap.IsListIter _ _ _ _ from x); exact ⟨o, e, fun v q => by rw [d] at q; cases q⟩
theorem itX_at {k : Bool} {h h' : Heap} {it l : Addr} {i : Nat} (x : ItX k h it l i) (hk : ∀ o, h.get? it = some o → h'.get? it = some o) : ItX k h' it l i := by
  cases k with
  | true => exact Heap.IsTupleIter.at (show Heap.IsTupleIter _ _ _ _ from x) hk
  | false => exact Heap.IsListIter.at (show Heap.IsListIter _ _ _ _ from x) hk
/-- where zip's own things lie, and what it walks -/
theorem zipSep {z TI TO i1 i2 a b : Addr} (D : ZipApart z TI TO i1 i2 a b) : ZipSep2 z TI TO i1 i2 [i1, a] [i2, b] where
  TIz := D.TIz
  TOz := D.TOz
  TITO := D.TITO
  TIi1 := D.TIi1
  mem1 := by simp
  zf1 := fun h => by simp at h; exact h.elim (fun e => D.i1z e.symm) fun e => D.l1z e.symm
  Tf1 := fun h => by simp at h; exact h.elim (fun e => D.TOi1 e) fun e => D.l1TO e.symm
  TIi2 := D.TIi2
  mem2 := by simp
  zf2 := fun h => by simp at h; exact h.elim (fun e => D.i2z e.symm) fun e => D.l2z e.symm
  Tf2 := fun h => by simp at h; exact h.elim (fun e => D.TOi2 e) fun e => D.l2TO e.symm
  sep1_2 := fun h => by simp at h; exact h.elim (fun e => D.i12 e) fun e => D.l2i1 e.symm
  sep2_1 := fun h => by simp at h; exact h.elim (fun e => D.i12 e.symm) fun e => D.l1i2 e.symm
theorem turn_zipX {P : Program} {w : World} {K : PySem.W.Frag} {elts : List Expr} {kk : Nat} {tpos : Pos} {k1 k2 : Bool} {a b z TI TO i1 i2 : Addr} (D : ZipApart z TI TO i1 i2 a b) :
    Turn P w K (.Tuple elts kk tpos) (ItzX k1 k2 K a b) [z, TI, TO, i1, i2] z (fun i h => IsZip h z TI TO .none ∧ IsTupOf2 h TI (.ref i1) (.ref i2) ∧ (∃ x y, IsTupOf2 h TO x y) ∧ ItX k1 h i1 a i ∧ ItX k2 h i2 b i) where
  mem := by simp
  obj := fun i h st c hc => by
    obtain ⟨hz, hTI, ⟨x, y, hTO⟩, h1, h2⟩ := st
    have e' : c = z ∨ c = TI ∨ c = TO ∨ c = i1 ∨ c = i2 := by simpa using hc
    rcases e' with q | q | q | q | q
    · rw [q]; exact ⟨_, hz, fun v q => nomatch q⟩
    · rw [q]; exact ⟨_, hTI, fun v q => nomatch q⟩
    · rw [q]; exact ⟨_, hTO, fun v q => nomatch q⟩
    · rw [q]; exact itX_obj h1
    · rw [q]; exact itX_obj h2
  keep := fun i h h' st k => by
    obtain ⟨hz, hTI, ⟨x, y, hTO⟩, h1, h2⟩ := st
    exact ⟨k z (by simp) _ hz, k TI (by simp) _ hTI, ⟨x, y, k TO (by simp) _ hTO⟩, itX_at h1 fun o q => k i1 (by simp) o q, itX_at h2 fun o q => k i2 (by simp) o q⟩
  item := by
    intro X hP hw hK hc i pins s σ H E I hf st hg
    subst hP hw hK
    obtain ⟨hz, hTI, ⟨x0, y0, hTO⟩, h1, h2⟩ := st
    obtain ⟨xs, ys, x, y, hqx, hqy, hx, hy⟩ := hg
    obtain ⟨its, rv, p, _⟩ := inv_seqX I hqx
    obtain ⟨its2, rv2, p2, _⟩ := inv_seqX I hqy
    obtain ⟨u, hu, ru⟩ := rv.get hx
    obtain ⟨u2, hu2, ru2⟩ := rv2.get hy
    have hcalm : X.A.in1.handled = none := I.ok.hd hc
    have W := GoesN.zip2 (elts := elts) (x1 := kk) (pos := tpos) (zipSep D) (drawsX (prog := X.prog) (w := X.w) k1 hcalm i1 a D.l1i1 its.toArray i) (drawsX (prog := X.prog) (w := X.w) k2 hcalm i2 b D.l2i2 its2.toArray i)
    have hl1 : i < its.length := (List.getElem?_eq_some_iff.mp hu).1
    have hl2 : i < its2.length := (List.getElem?_eq_some_iff.mp hu2).1
    refine W.goes 0 s (fun u s2 => ∃ x H', Inv X pins σ H' s2 ∧ RelV x u ∧ (ItzX k1 k2 X.K a b).yld i H x H' ∧ (IsZip s2.heap z TI TO .none ∧ IsTupOf2 s2.heap TI (.ref i1) (.ref i2) ∧ (∃ x y, IsTupOf2 s2.heap TO x y) ∧ ItX k1 s2.heap i1 a (i + 1) ∧ ItX k2 s2.heap i2 b (i + 1)) ∧ ∀ b ∈ [z, TI, TO, i1, i2], H' b = none) E (by simp; omega) ⟨hz, hTI, ⟨_, _, hTO⟩, ⟨h1, p⟩, ⟨h2, p2⟩⟩ fun v h' tk Y st' hk htk => ?_
    obtain ⟨T, x', y', rfl, hT, e1, e2, hTup⟩ := Y
    have e1' : its[i]? = some x' := by simpa using e1
    have e2' : its2[i]? = some y' := by simpa using e2
    rw [hu] at e1'; cases e1'
    rw [hu2] at e2'; cases e2'
    have new : ObjOk X.prog X.w (upd H T (.tup [x, y])) h' T (.tup [x, y]) := ⟨by show 2 ≤ sizeLine; decide, [u, u2], .cons ru (.cons ru2 .nil), hTup⟩
    have I1 : Inv X pins σ (upd H T (.tup [x, y])) { s with heap := h', toks := tk } :=
      I.turnedNew (t' := tk) (ch := [z, TI, TO, i1, i2]) (fun c o hb q => hk c o (fun q' => hb (by simp at q' ⊢; rcases q' with q' | q' | q' | q' <;> simp [q'])) q) hf hT new
    obtain ⟨s1, s2, s3, ⟨s4, _⟩, ⟨s5, _⟩⟩ := st'
    refine ⟨.ref T, _, I1, rfl, ⟨T, x, y, rfl, I.hok.fresh hT, rfl, fun l hl => by rw [inv_injX I hl hqx]; exact hx, fun l hl => by rw [inv_injX I hl hqy]; exact hy⟩, ⟨s1, s2, s3, s4, s5⟩, fun c hcm => ?_⟩
    have hlt : c < s.heap.objs.size := by
      have e' : c = z ∨ c = TI ∨ c = TO ∨ c = i1 ∨ c = i2 := by simpa using hcm
      rcases e' with q | q | q | q | q
      · rw [q]; exact Heap.lt_size hz
      · rw [q]; exact Heap.lt_size hTI
      · rw [q]; exact Heap.lt_size hTO
      · rw [q]; obtain ⟨_, e, _⟩ := itX_obj h1; exact Heap.lt_size e
      · rw [q]; obtain ⟨_, e, _⟩ := itX_obj h2; exact Heap.lt_size e
    rw [upd_ne (Nat.ne_of_lt (Nat.lt_of_lt_of_le hlt hT))]
    exact (hf c hcm).1
  done := by
    intro X hP hw hK hc i pins s σ H E I hf st hg
    subst hP hw hK
    obtain ⟨hz, hTI, ⟨x0, y0, hTO⟩, h1, h2⟩ := st
    obtain ⟨xs, ys, hqx, hqy, hend⟩ := hg
    obtain ⟨its, rv, p, _⟩ := inv_seqX I hqx
    obtain ⟨its2, rv2, p2, _⟩ := inv_seqX I hqy
    have hcalm : X.A.in1.handled = none := I.ok.hd hc
    have W := GoesN.zip2 (elts := elts) (x1 := kk) (pos := tpos) (zipSep D) (drawsX (prog := X.prog) (w := X.w) k1 hcalm i1 a D.l1i1 its.toArray i) (drawsX (prog := X.prog) (w := X.w) k2 hcalm i2 b D.l2i2 its2.toArray i)
    have l1 := rv.length
    have l2 := rv2.length
    have h0 : min (its.toArray.size - i) (its2.toArray.size - i) = 0 := by simp; omega
    rw [h0] at W
    exact W.stops s (fun s1 => Inv X pins σ H s1) E ⟨hz, hTI, ⟨_, _, hTO⟩, ⟨h1, p⟩, ⟨h2, p2⟩⟩ fun h' tk hk htk =>
      I.turnedL (t' := tk) (ch := [z, TI, TO, i1, i2]) (fun c o hb q => hk c o (fun q' => hb (by simp at q' ⊢; rcases q' with q' | q' | q' | q' <;> simp [q'])) q) hf
  self := fun A i s Q E st h => wpAny_pyIter_zip st.1 h
abbrev begO (k : Bool) (a : Addr) : PySem.Obj := { cls := .type (if k = true then "tuple_iterator" else "list_iterator"), data := .fields #[.ref a, .int 0 0] }
theorem begX (k : Bool) (a : Addr) (items : Array Value) : Begins (.ref a) (begO k a) fun h => IsX k h a items := by
  cases k with
  | true => exact begins_tuple a items
  | false => exact begins_list a items
theorem itX_start {k : Bool} {h : Heap} {it a : Addr} (e : h.get? it = some (begO k a)) : ItX k h it a 0 := by
  cases k with
  | true => exact ⟨_, e, rfl, rfl⟩
  | false => exact ⟨_, e, rfl, rfl⟩
theorem isX_lt {k : Bool} {h : Heap} {a : Addr} {its : Array Value} (x : IsX k h a its) : a < h.objs.size := by
  cases k with
  | true => obtain ⟨o, e, _⟩ := (show Heap.IsTuple _ _ _ from x); exact Heap.lt_size e
  | false => obtain ⟨o, e, _⟩ := (show Heap.IsList _ _ _ from x); exact Heap.lt_size e
def iZipX (K : PySem.W.Frag) (ta : TA) : TI := fun σ H R => ta σ H fun vs H1 => ∃ a b xs ys k1 k2, vs = [.ref a, .ref b] ∧ SqX k1 K H1 a xs ∧ SqX k2 K H1 b ys ∧ R (ItzX k1 k2 K a b) H1
theorem pi_zipX {X : Cx} {e e2 : Expr} {ta : TA} {p pos tpos : Pos} {elts : List Expr} {kk : Nat} (hg : Gl X "zip") (hm : X.mg "zip" = none) (ha : PA X [e, e2] ta)
    (hs : starEach [e, e2] X.env = (false, eval e X.env) :: starEach [e2] X.env := by rfl) (hpl : (backTo pos (starEach [e2] X.env)).any (·.1) = false := by rfl) :
    PI X (.Tuple elts kk tpos) (.Call (.Name "zip" p) [e, e2] [] pos) (iZipX X.K ta) := by
  refine ⟨fun pins s σ H R I h => ?_⟩
  refine Call_ (ld_blt I hg hm PyProof.Rows.boot_zip (PyProof.Rows.callWith_type1 (thn (ha.run pos pins s σ H _ I h) fun us s1 ⟨vs, H1, I1, r1, q1⟩ => ?_) hs hpl))
  obtain ⟨a, b, xs, ys, k1, k2, ex, hqx, hqy, q⟩ := q1
  subst ex
  cases r1 with
  | cons r rr =>
    cases rr with
    | cons r' rr =>
      cases rr
      cases r
      cases r'
      have fresh5 : ∀ c, c ∈ [s1.heap.objs.size + 4, s1.heap.objs.size + 2, s1.heap.objs.size + 3, s1.heap.objs.size, s1.heap.objs.size + 1] → FpOk X pins H1 c := fun c hcm => by
        have e' : c = s1.heap.objs.size + 4 ∨ c = s1.heap.objs.size + 2 ∨ c = s1.heap.objs.size + 3 ∨ c = s1.heap.objs.size ∨ c = s1.heap.objs.size + 1 := by simpa using hcm
        have hle : s1.heap.objs.size ≤ c := by
          rcases e' with z | z | z | z | z <;> rw [z] <;> first | exact Nat.le_refl _ | exact Nat.le_add_right _ _
        exact I1.fpOk hle (I1.hok.fresh hle)
      obtain ⟨its, rv, p1, _⟩ := inv_seqX I1 hqx
      obtain ⟨its2, rv2, p2, _⟩ := inv_seqX I1 hqy
      refine zip_begins2 (begX k1 a its.toArray) (begX k2 b its2.toArray) p1 p2 fun h' hz hTI hTO h1 h2 hsz hk => wpAny_pyIter_zip hz ?_
      have I2 : Inv X pins σ H1 { s1 with heap := h' } := I1.kept (t' := s1.toks) hk
      exact ⟨s1.heap.objs.size + 4, [s1.heap.objs.size + 4, s1.heap.objs.size + 2, s1.heap.objs.size + 3, s1.heap.objs.size, s1.heap.objs.size + 1], _, _, H1, rfl, I2, turn_zipX (PySem.W.ktu_apart s1.heap.objs.size a b (isX_lt p1) (isX_lt p2)), ⟨hz, hTI, ⟨_, _, hTO⟩, itX_start h1, itX_start h2⟩, fresh5, q⟩
/-- zip of two of any kind -/
def srcZipX (rs : List R) : M Src := fun e S => match rs with
  | [r1, r2] => (match srcOf r1 e S, srcOf r2 e S with
    | some (s1, _, _), some (s2, _, _) => some (⟨zipD s1.items s2.items, s1.ws ++ s2.ws⟩, e, S)
    | _, _ => none)
  | _ => none
section
variable {X : Cx} {a b : Expr} {ms : M (List R)} {p pos : Pos}
/-- what is walked, of either kind -/
theorem walksX {K : PySem.W.Frag} {H1 : Hp} {ι1 : List Addr} {σ : SV} {e1 : En} {S1 : Sto} {v : V} {r : R} {src : Src} {e' : En} {S' : Sto} (R1 : Rel K H1 ι1 σ e1 S1) (r1 : RR K H1 ι1 σ e1 v r) (hm : srcOf r e1 S1 = some (src, e', S')) :
    ∃ a k, v = .ref a ∧ Wat src.ws e1 S1 ∧ ∀ (H : Hp) (ι : List Addr) (σ2 : SV) (e : En) (S : Sto), Rel K H ι σ2 e S → Post H1 ι1 σ e1 H ι σ2 e → Wat src.ws e S → (∀ q ∈ src.ws, ∀ i, q.1 = .loc i → σ2[i]? = σ[i]?) → ∃ xs, SqX k K H a xs ∧ RDs K H ι xs src.items := by
  obtain ⟨_, _, a, rfl, ta, la, wa⟩ := R1.walks r1 hm
  by_cases ht : ∃ ds, r = .d (.tup ds)
  · refine ⟨a, true, rfl, wa, fun H ι σ2 e S R P w1 w2 => ?_⟩
    obtain ⟨xs, h1, h2⟩ := ta ht H ι σ2 e S R P w1 w2
    exact ⟨xs, h1, h2⟩
  · refine ⟨a, false, rfl, wa, fun H ι σ2 e S R P w1 w2 => ?_⟩
    obtain ⟨xs, h1, h2⟩ := la (fun ds z => ht ⟨ds, z⟩) H ι σ2 e S R P w1 w2
    exact ⟨xs, h1, h2⟩
theorem gi_zipX {elts : List Expr} {kk : Nat} {tpos : Pos} (hg : Gl X "zip") (hm : X.mg "zip" = none) (ha : GA X [a, b] ms)
    (hs : starEach [a, b] X.env = (false, eval a X.env) :: starEach [b] X.env := by rfl) (hpl : (backTo pos (starEach [b] X.env)).any (·.1) = false := by rfl) :
    GI X (.Tuple elts kk tpos) (.Call (.Name "zip" p) [a, b] [] pos) (bnd ms srcZipX) :=
  PI.imp (PI.bd (pi_zipX hg hm ha hs hpl)) fun σ H Q q => by
    obtain ⟨ι, e, S, src, e', S', R, hm, q⟩ := q
    obtain ⟨rs, e1, S1, h1, hm⟩ := bnd_eq hm
    refine ⟨ι, e, S, rs, e1, S1, R, h1, fun vs H1 ι1 R1 P1 r1 => ?_⟩
    unfold srcZipX at hm
    split at hm
    · split at hm
      · rename_i ra rb _ _ s1 _ _ s2 _ _ g1 g2
        cases hm
        cases r1 with
        | cons ka kb =>
          cases kb with
          | cons kb kc =>
            cases kc
            obtain ⟨a, k1, rfl, wa, fa⟩ := walksX R1 ka g1
            obtain ⟨b, k2, rfl, wb, fb⟩ := walksX R1 kb g2
            have sp : ∀ {ws ws' : List (G.R × List D)} {e S}, Wat (ws ++ ws') e S → Wat ws e S ∧ Wat ws' e S := fun h => ⟨fun p hp => h p (List.mem_append_left _ hp), fun p hp => h p (List.mem_append_right _ hp)⟩
            obtain ⟨xs, hxs, rxs⟩ := fa H1 ι1 σ _ _ R1 .refl wa fun _ _ _ _ => rfl
            obtain ⟨ys, hys, rys⟩ := fb H1 ι1 σ _ _ R1 .refl wb fun _ _ _ _ => rfl
            refine ⟨a, b, xs, ys, k1, k2, rfl, hxs, hys, fun bd => q _ H1 ι1 R1 P1 (fun i H ι σ2 e S R P w1 w2 => ?_) ?_⟩
            · obtain ⟨us, h3', h4⟩ := fa H ι σ2 e S R P (sp w1).1 fun p hp => w2 p (List.mem_append_left _ hp)
              obtain ⟨ws, h5', h6⟩ := fb H ι σ2 e S R P (sp w1).2 fun p hp => w2 p (List.mem_append_right _ hp)
              refine ⟨fun d hd => ?_, fun hl => ⟨us, ws, h3', h5', ?_⟩⟩
              · obtain ⟨x, y, e1, e2, rfl⟩ := zip_get hd
                obtain ⟨vx, e3, rx⟩ := h4.get e1
                obtain ⟨vy, e4, ry⟩ := h6.get e2
                refine ⟨⟨us, ws, vx, vy, h3', h5', e3, e4⟩, fun z H' hz => ?_⟩
                obtain ⟨T, x', y', rfl, hT, rfl, f1, f2⟩ := hz
                have := f1 us h3'; rw [e3] at this; cases this
                have := f2 ws h5'; rw [e4] at this; cases this
                obtain ⟨R2, P2, _⟩ := R.new (u := .tup [vx, vy]) hT
                exact ⟨R2, P2, .tup (.inl (.inl upd_same)) (.cons (RD.mono P2.stay P2.pre _ _ rx) (.cons (RD.mono P2.stay P2.pre _ _ ry) .nil)), fun c o h => by rw [upd_ne (ne_of_none h hT)]; exact h⟩
              · have hl' : (zipD s1.items s2.items).length ≤ i := hl
                rw [zip_len] at hl'
                rw [h4.length, h6.length]; omega
            · show (zipD _ _).length ≤ _
              rw [zip_len]
              have hb : xs.length ≤ sizeLine := by
                cases k1 with
                | true => exact bd a xs (.inr hxs)
                | false => exact bd a xs (.inl hxs)
              rw [rxs.length] at hb
              omega
      · cases hm
    · cases hm
end
end G

set_option Elab.async false
set_option linter.all false
set_option maxRecDepth 1000000
set_option maxHeartbeats 4000000
/-! GI: `x is None` of lists and dicts too. -/
namespace G
variable [Wld]
open PySem PySem.Spec PyProof.Rows L2
def gIsNL (neg : Bool) (rx ry : R) : M R := fun e S => match ry with
  | .d .non => (match rx with
    | .d x => some (.d (.bl (isNon x != neg)), e, S)
    | rx => (look rx e S).map fun _ => (.d (.bl neg), e, S))
  | _ => none
theorem gIsNL_read {neg : Bool} {K : PySem.W.Frag} {x y : V} {H : Hp} {Q : VK} (q : tO2 K (gIsNL neg) x y H Q) : y = .non ∧ Q (.bl (decide (x = .non) != neg)) H := by
  obtain ⟨ι, σ, e, S, rx, ry, r, e', S', R, hx, hy, hm, q⟩ := q
  have old : ∀ o, look rx e S = some o → ∃ a, x = .ref a := fun o ho => by
    cases o with
    | lst ds => obtain ⟨a, _, h, _⟩ := R.lookL hx ho; exact ⟨a, h⟩
    | dct kvs => obtain ⟨a, _, h, _⟩ := R.lookD hx ho; exact ⟨a, h⟩
    | kd kvs => obtain ⟨a, h, _⟩ := R.look hx ho; exact ⟨a, h⟩
  unfold gIsNL at hm
  split at hm
  · cases hy
    split at hm
    · rename_i dx _
      refine gIsN_read (neg := neg) ⟨ι, σ, e, S, _, .d .non, r, e', S', R, hx, .non, ?_, q⟩
      exact hm
    · obtain ⟨o, ho, hz⟩ := Option.map_eq_some_iff.mp hm
      cases hz
      obtain ⟨a, rfl⟩ := old o ho
      refine ⟨rfl, ?_⟩
      have fin := q (.bl neg) H ι R .refl (.bl _) trivial
      have e : decide (V.ref a = V.non) = false := by simp
      rw [e]
      simpa using fin
  · cases hm
section
variable {X : Cx}
theorem gop_isNL : OpR X (compareOp .Is) (tO2 X.K (gIsNL false)) := OpR.imp op_isN fun x y H Q q => by
  obtain ⟨h1, h2⟩ := gIsNL_read q
  exact ⟨h1, by simpa using h2⟩
theorem gop_notNL : OpR X (compareOp .IsNot) (tO2 X.K (gIsNL true)) := OpR.imp op_notN fun x y H Q q => by
  obtain ⟨h1, h2⟩ := gIsNL_read q
  exact ⟨h1, by simpa using h2⟩
end
end G

set_option Elab.async false
set_option linter.all false
set_option maxRecDepth 1000000
set_option maxHeartbeats 4000000
/-! GJ: list * number. -/
namespace G
variable [Wld]
open PySem PySem.Spec PyProof.Rows L2
def gMulL (rx ry : R) : M R := fun e S => match ry with
  | .d (.int k) => (match look rx e S with
    | some (.lst xs) => if notLst rx && decide (-(2 ^ 63) ≤ k) && decide (k < 2 ^ 63) && decide (xs.length * k.toNat ≤ 1000000) then some (.new (.lst (List.replicate k.toNat xs).flatten), e, S) else none
    | _ => none)
  | _ => none
theorem gMulL_eq {rx ry : R} {e : En} {S : Sto} {z : R × En × Sto} (h : gMulL rx ry e S = some z) : ∃ xs k, look rx e S = some (.lst xs) ∧ ry = .d (.int k) ∧ notLst rx = true ∧ -(2 ^ 63) ≤ k ∧ k < 2 ^ 63 ∧ xs.length * k.toNat ≤ 1000000 ∧ z = (.new (.lst (List.replicate k.toNat xs).flatten), e, S) := by
  unfold gMulL at h
  split at h
  · split at h
    · split at h
      · rename_i hc
        simp only [Bool.and_eq_true, decide_eq_true_eq] at hc
        exact ⟨_, _, by assumption, rfl, hc.1.1.1, hc.1.1.2, hc.1.2, hc.2, (Option.some.inj h).symm⟩
      · cases h
    · cases h
  · cases h
theorem RDs.repN {K : PySem.W.Frag} {H : Hp} {ι : List Addr} {vs : List V} {ds : List D} (h : RDs K H ι vs ds) : ∀ k : Nat, RDs K H ι (List.replicate k vs).flatten (List.replicate k ds).flatten
  | 0 => .nil
  | k + 1 => by
    rw [List.replicate_succ, List.replicate_succ, List.flatten_cons, List.flatten_cons]
    exact h.append (RDs.repN h k)
theorem gop_mulL {X : Cx} : OpR X (binaryOp .Mult) (tO2 X.K gMulL) := OpR.imp op_rep fun x y H Q q => by
  obtain ⟨ι, σ, e, S, rx, ry, r, e', S', R, hx, hy, hm, q⟩ := q
  obtain ⟨xs, k, h1, rfl, h2, h3, h4, h5, hz⟩ := gMulL_eq hm
  cases hz
  cases hy
  obtain ⟨a, vs, rfl, hH, rd⟩ := R.lookM hx h1 (fun es e0 => by subst e0; cases h2)
  refine ⟨a, k, vs, rfl, rfl, hH, h3, h4, Nat.le_trans (by rw [rd.length]; exact h5) line_ge, fun p hp => ?_⟩
  obtain ⟨R2, P2, n1, n2⟩ := R.new (u := .lst (List.replicate k.toNat vs).flatten) hp
  exact q _ _ ι R2 P2 ⟨p, rfl, ⟨_, upd_same, RDs.mono P2.stay P2.pre _ _ (rd.repN k.toNat)⟩, n1, n2⟩ ⟨p, rfl, hp⟩
end G

set_option Elab.async false
set_option linter.all false
set_option maxRecDepth 1000000
set_option maxHeartbeats 4000000
/-! GY: sorted(xs, key=f), where an invariant leads over f's calls. -/
namespace G
variable [Wld]
open PySem PySem.Calls PyProof.Rows PySem.W
section
variable {prog : Program} {w : World} {A : Around} {E : Value → Shared → Prop} {s : Shared}
/-- all stays but a and c -/
def But2 (a c : Addr) (h g : Heap) : Prop := ∃ h1, Heap.SameBut c h h1 ∧ (∃ e, h1.get? c = some (seqObj "list" #[] e)) ∧ Heap.SameBut a h1 g
theorem srt_tail {st : SortSt} {P : PySem.Fin → Shared → Prop} {a c : Addr} {rev : Bool} {kv : Array Value} {ec ea : Nat} {res : List Value} (hc : s.heap.get? c = some (seqObj "list" kv ec)) (ha : s.heap.get? a = some (seqObj "list" #[] ea)) (ca : c ≠ a)
    (z1 : kv.size ≤ sizeLine) (z2 : res.length ≤ sizeLine) (nf : failedOf st = none) (e : (if rev = true then ((arrOf st).map (·.2)).reverse else (arrOf st).map (·.2)) = res.toArray)
    (fin : ∀ g tk n, But2 a c s.heap g → g.get? a = some (seqObj "list" res.toArray n) → P (.done (.ret .none)) { s with heap := g, toks := tk }) : wpAny (model prog w) A (ksk_tail a rev ea (.ref c) st) P E s := by
  have u1 := Heap.SameBut.update s.heap c (PySem.Obj.mapSeq fun _ => #[])
  have ha1 : (s.heap.update c (PySem.Obj.mapSeq fun _ => #[])).get? a = some (seqObj "list" #[] ea) := by rw [u1.2 a (Ne.symm ca)]; exact ha
  have u2 := Heap.SameBut.update (s.heap.update c (PySem.Obj.mapSeq fun _ => #[])) a (PySem.Obj.mapSeq fun _ => res.toArray)
  have got := get?_update_seq ha1 fun _ => res.toArray
  unfold ksk_tail
  dsimp only
  rw [e]
  refine wpAny_bind (listUpdate_at hc rfl (wpAny_bind (wpAny_letGo (wpAny_bind (seqEpoch_at ha1 rfl (wpAny_bind (listUpdate_at ha1 rfl ?_ (Nat.zero_le _) ?_)))))) z1 (Nat.zero_le _))
  · rw [nf]
    simp only [bne_self_eq_false, Bool.false_eq_true, if_false]
    exact wpAny_pure (fin _ _ _ ⟨_, u1, ⟨_, get?_update_seq hc fun _ => #[]⟩, u2⟩ got)
  · rw [List.size_toArray]; exact Nat.le_succ_of_le z2
theorem srt_end {κ : PyProof.Rows.KeyKind} {P : PySem.Fin → Shared → Prop} {a c : Addr} {rev : Bool} {kv : Array Value} {xs : List Value} {ec ea : Nat} (hc : s.heap.get? c = some (seqObj "list" kv ec)) (ha : s.heap.get? a = some (seqObj "list" #[] ea)) (ca : c ≠ a)
    (S : SortsAt prog w A s κ kv.toList) (zk : kv.size = xs.length) (zx : xs.length ≤ sizeLine)
    (fin : ∀ g tk n, But2 a c s.heap g → g.get? a = some (seqObj "list" (sortVals κ rev kv.toList xs).toArray n) → P (.done (.ret .none)) { s with heap := g, toks := tk }) :
    wpAny (model prog w) A (ksk_end a rev xs.toArray ea (.ref c) kv) P E s := by
  obtain ⟨kd, lt, kk⟩ := S.kind
  have zl : kv.toList.length = xs.length := by rw [Array.length_toList, zk]
  have ko : PyProof.Rows.KeysOf κ (kv.zip xs.toArray) := keysOf_zip S.keys
  have zo : (sortVals κ rev kv.toList xs).length = xs.length := sortVals_length rev zl
  obtain ⟨ar, har⟩ : ∃ ar, ar = if rev = true then (kv.zip xs.toArray).reverse else kv.zip xs.toArray := ⟨_, rfl⟩
  have hp : ar.Perm (kv.zip xs.toArray) := by
    rw [har]
    cases rev with
    | false => simp
    | true =>
      rw [if_pos rfl, Array.perm_iff_toList_perm, Array.toList_reverse]
      exact List.reverse_perm _
  have hs : ar.size = xs.length := by rw [hp.size_eq]; simp [zk]
  have out : ∀ t : SortSt, (arrOf t).Perm ar → SortedToK κ (arrOf t) ar.size → Stable κ (arrOf t) ar → (if rev = true then ((arrOf t).map (·.2)).reverse else (arrOf t).map (·.2)) = (sortVals κ rev kv.toList xs).toArray := fun t t1 t2 t3 => by
    have := sort_out (rev := rev) (keys := kv) (items := xs.toArray) (xs := arrOf t) (κ := κ) ko (by rw [← har]; exact t1) (by rw [← har]; exact t2) (by rw [← har]; exact t3)
    have q := congrArg List.toArray this
    rw [Array.toArray_toList] at q
    exact q
  have skip : ∀ {m : Sem PySem.Fin}, wpAny (model prog w) A m P E s → wpAny (model prog w) A (if rev = true then (do let _ ← rule "list.sort.reverse"; m) else m) P E s := fun hm => by
    cases rev with
    | false => rw [if_neg (by decide)]; exact hm
    | true => rw [if_pos rfl]; exact wpAny_bind (wpAny_rule hm)
  unfold ksk_end
  dsimp only
  refine skip ?_
  rw [← har]
  have z2 : kv.size ≤ sizeLine := by rw [zk]; exact zx
  have z3 : (sortVals κ rev kv.toList xs).length ≤ sizeLine := by rw [zo]; exact zx
  by_cases few : xs.toArray.size < 2
  · rw [if_pos few, if_pos few]
    refine wpAny_bind (wpAny_pure ?_)
    rw [StateT.run_pure]
    refine wpAny_bind (wpAny_pure (srt_tail (st := SortSt.mk' general' ar #[] 7 none) hc ha ca z2 z3 rfl (out _ (Array.Perm.refl _) (fun i j ij jn => ?_) (Stable.refl _)) fin))
    rw [List.size_toArray] at few
    rw [hs] at jn
    obtain rfl : i = j := by omega
    exact KeyOrd.kle_refl _
  · rw [if_neg few, if_neg few]
    rw [List.size_toArray] at few
    refine wpAny_bind (kk (by omega) _ (wpAny_bind (wpAny_mono (H.wpS_sortRunsSt (κ := κ) (kd := kd) (a₀ := ar) (st := SortSt.mk' kd ar #[] 7 none)
      (Q := fun _ t => failedOf t = none ∧ (if rev = true then ((arrOf t).map (·.2)).reverse else (arrOf t).map (·.2)) = (sortVals κ rev kv.toList xs).toArray)
      lt (ko.perm hp) ⟨Array.Perm.refl _, rfl, rfl⟩ rfl (Stable.refl _) (by omega) fun t t1 t2 t3 t4 => ⟨t2, out t t1 t3 t4⟩) (fun r t hr => ?_) fun _ _ q => q)))
    obtain ⟨⟨⟩, t'⟩ := r
    obtain ⟨rfl, q1, q2⟩ := hr
    exact srt_tail hc ha ca z2 z3 q1 q2 fin
/-- what leads over the calls of f: J n ks: n items are asked, their keys are ks; a, c: the list that is sorted, the keys' list -/
structure Leads (prog : Program) (w : World) (A : Around) (f : Value) (xs : List Value) (kz : List PyData) (a c : Addr) (J : Nat → List Value → Shared → Prop) : Prop where
  turn : ∀ (i : Nat) (x : Value) (ks : List Value) (t : Shared) (kv : Array Value) (ec ea : Nat) (E : Value → Shared → Prop), xs[i]? = some x → J i ks t → t.heap.get? c = some (seqObj "list" kv ec) → t.heap.get? a = some (seqObj "list" #[] ea) →
    wpAny (model prog w) A (call f [x]) (fun u t' => J (i + 1) (ks ++ [u]) t' ∧ t'.heap.get? c = some (seqObj "list" kv ec) ∧ t'.heap.get? a = some (seqObj "list" #[] ea)) E t
  store : ∀ (i : Nat) (ks : List Value) (t : Shared) (kv : Array Value) (ec : Nat) (g : Heap), J i ks t → t.heap.get? c = some (seqObj "list" kv ec) → Heap.SameBut c t.heap g → (∃ kv' ec', g.get? c = some (seqObj "list" kv' ec')) → J i ks { t with heap := g }
  read : ∀ (ks : List Value) (t : Shared), J xs.length ks t → EachIs (fun v k => ∃ as, Reads t.heap v k as) ks kz
theorem srt_rest {P : PySem.Fin → Shared → Prop} {a c : Addr} {rev : Bool} {f : Value} {xs : List Value} {kz : List PyData} {ea : Nat} {J : Nat → List Value → Shared → Prop} (L : Leads prog w A f xs kz a c J) (h0 : J 0 [] s)
    (hc : s.heap.get? c = some (seqObj "list" #[] 0)) (ha : s.heap.get? a = some (seqObj "list" #[] ea)) (ca : c ≠ a) (zk : kz.length = xs.length) (zx : xs.length ≤ sizeLine) (al : AllAlike kz) (so : Sortable kz) (room : ∀ d, d ∈ kz → A.units + d.depth < cLine)
    (fin : ∀ ks t, J xs.length ks t → ∀ g tk n out, But2 a c t.heap g → g.get? a = some (seqObj "list" (List.toArray out) n) → KeyedOut rev kz xs out → P (.done (.ret .none)) { t with heap := g, toks := tk }) :
    wpAny (model prog w) A (ksk_rest a f rev xs.toArray ea (.ref c)) P E s := by
  unfold ksk_rest
  refine wpAny_bind (wpAny_rule ?_)
  rw [List.forIn_toArray]
  refine wpAny_bind (ksk_fold (fun i t => ∃ (kv : Array Value) (ec : Nat), J i kv.toList t ∧ t.heap.get? c = some (seqObj "list" kv ec) ∧ t.heap.get? a = some (seqObj "list" #[] ea) ∧ kv.size = i) xs 0 s ⟨#[], 0, h0, hc, ha, rfl⟩ ?_ ?_)
  · rintro j x t hx ⟨kv, ec, hJ, gc, ga, zs⟩
    rw [Nat.zero_add] at hJ zs ⊢
    have hj : j < xs.length := (List.getElem?_eq_some_iff.mp hx).1
    refine wpAny_bind (wpAny_attempt (wpAny_mono (L.turn j x kv.toList t kv ec ea _ hx hJ gc ga) (fun u t' ht => ?_) fun _ _ q => q))
    obtain ⟨hJ', gc', ga'⟩ := ht
    dsimp only
    have same := Heap.SameBut.update t'.heap c (PySem.Obj.mapSeq (·.push u))
    have got := get?_update_seq gc' (·.push u)
    refine wpAny_bind (listUpdate_at gc' rfl (wpAny_pure ⟨rfl, kv.push u, _, ?_, got, ?_, by simp [zs]⟩) (by omega) (by rw [Array.size_push]; omega))
    · rw [Array.toList_push]
      exact L.store (j + 1) _ t' kv ec _ hJ' gc' same ⟨_, _, got⟩
    · rw [same.2 a (Ne.symm ca)]; exact ga'
  · rintro t ⟨kv, ec, hJ, gc, ga, zs⟩
    rw [Nat.zero_add] at hJ zs
    have rd := L.read _ t hJ
    refine wpAny_bind (listItems_at gc rfl ?_)
    exact srt_end (κ := dataKind t.heap kz) gc ga ca (SortsAt.data rd al so room) zs zx fun g tk n b2 got => fin _ t hJ g tk n _ b2 got ⟨t.heap, kv.toList, al, rfl, rd⟩
theorem srt_tree {P : PySem.Fin → Shared → Prop} {a : Addr} {rev : Bool} {f : Value} {xs : List Value} {n : Nat} {kz : List PyData} {J : Nat → List Value → Shared → Prop} (ho : s.heap.get? a = some (seqObj "list" xs.toArray n))
    (L : Leads prog w A f xs kz a (s.heap.objs.size + 1) J) (h0 : ∀ g tk ea, (∀ b o, b ≠ a → s.heap.get? b = some o → g.get? b = some o) → g.get? a = some (seqObj "list" #[] ea) → g.get? (s.heap.objs.size + 1) = some (seqObj "list" #[] 0) → J 0 [] { s with heap := g, toks := tk })
    (zk : kz.length = xs.length) (zx : xs.length ≤ sizeLine) (al : AllAlike kz) (so : Sortable kz) (room : ∀ d, d ∈ kz → A.units + d.depth < cLine)
    (fin : ∀ ks t, J xs.length ks t → ∀ g tk n out, But2 a (s.heap.objs.size + 1) t.heap g → g.get? a = some (seqObj "list" (List.toArray out) n) → KeyedOut rev kz xs out → P (.done (.ret .none)) { t with heap := g, toks := tk }) :
    wpAny (model prog w) A (ksk_tree a f rev) P E s := by
  have la : a < s.heap.objs.size := Heap.lt_size ho
  have g1 := get?_update_seq ho fun _ => (#[] : Array Value)
  have sz : ((s.heap.update a (PySem.Obj.mapSeq fun _ => (#[] : Array Value))).push (seqObj "tuple" xs.toArray 0)).objs.size = s.heap.objs.size + 1 := by rw [size_push', Heap.size_update]
  unfold ksk_tree
  refine wpAny_bind (listItems_at ho rfl (wpAny_bind (listUpdate_at ho rfl (wpAny_bind (seqEpoch_at g1 rfl (wpAny_bind (wpAny_newTuple (wpAny_bind (wpAny_newList (wpAny_holding ?_) (Nat.zero_le _))) (by show xs.length ≤ _; exact zx))))) (by rw [List.size_toArray]; exact zx) (Nat.zero_le _))))
  rw [sz]
  have gc := Heap.get?_push_size ((s.heap.update a (PySem.Obj.mapSeq fun _ => (#[] : Array Value))).push (seqObj "tuple" xs.toArray 0)) (o := seqObj "list" #[] 0) rfl
  rw [sz] at gc
  have ga := Heap.get?_push_of_some (seqObj "list" #[] 0) (Heap.get?_push_of_some (seqObj "tuple" xs.toArray 0) g1)
  exact srt_rest (c := s.heap.objs.size + 1) L (h0 _ _ _ (fun b o hb e => sortingHeap_old hb e) ga gc) gc ga (Nat.ne_of_gt (Nat.lt_succ_of_lt la)) zk zx al so room fin
theorem srt_sorted {Q : Value → Shared → Prop} {l q : Addr} {xs : List Value} {kz : List PyData} {J : Nat → List Value → Shared → Prop} (hl : s.heap.IsList l xs.toArray)
    (L : Leads prog w A.in1.in1 (.ref q) xs kz (s.heap.objs.size + 1) (s.heap.objs.size + 3) J) (h0 : ∀ g tk ea, (∀ b o, s.heap.get? b = some o → g.get? b = some o) → g.get? (s.heap.objs.size + 1) = some (seqObj "list" #[] ea) → g.get? (s.heap.objs.size + 3) = some (seqObj "list" #[] 0) → J 0 [] { s with heap := g, toks := tk })
    (zk : kz.length = xs.length) (zx : xs.length ≤ sizeLine) (al : AllAlike kz) (so : Sortable kz) (room : ∀ d, d ∈ kz → A.units + 2 + d.depth < cLine)
    (fin : ∀ ks t, J xs.length ks t → ∀ g tk n out, But2 (s.heap.objs.size + 1) (s.heap.objs.size + 3) t.heap g → g.get? (s.heap.objs.size + 1) = some (seqObj "list" (List.toArray out) n) → KeyedOut false kz xs out → Q (.ref (s.heap.objs.size + 1)) { t with heap := g, toks := tk }) :
    wpAny (model prog w) A (call (.builtin "sorted") [.ref l] [(Str.ofString "key", .ref q)]) Q E s := by
  have sz : (copyHeap s.heap xs).objs.size = s.heap.objs.size + 2 := by
    unfold copyHeap
    rw [size_push', Heap.size_update, size_push']
  refine sorted_of_sort hl zx (ksk_s1 _ _) (fun x => ksk_l1 _ _) fun E' => ?_
  rw [ksk_t1]
  refine srt_tree (s := { s with heap := copyHeap s.heap xs }) (copyHeap_at s.heap xs) (J := J) (kz := kz) ?_ ?_ zk zx al so ?_ ?_
  · show Leads prog w A.in1.in1 (.ref q) xs kz (s.heap.objs.size + 1) ((copyHeap s.heap xs).objs.size + 1) J
    rw [sz]; exact L
  · intro g tk ea hg ha hc
    have hc' : g.get? ((copyHeap s.heap xs).objs.size + 1) = some (seqObj "list" #[] 0) := hc
    rw [sz] at hc'
    exact h0 g tk ea (fun b o e => hg b o (Nat.ne_of_lt (Nat.lt_succ_of_lt (Heap.lt_size e))) (copyHeap_old e)) ha hc'
  · intro d hd
    have := room d hd
    simpa using this
  · intro ks t hJ g tk n out b2 got ko
    refine ⟨rfl, fin ks t hJ g tk n out ?_ got ko⟩
    have b2' : But2 (s.heap.objs.size + 1) ((copyHeap s.heap xs).objs.size + 1) t.heap g := b2
    rw [sz] at b2'
    exact b2'
end
end G

set_option Elab.async false
set_option linter.all false
set_option maxRecDepth 1000000
set_option maxHeartbeats 4000000
/-! GK: sorted(xs, key=f), f a def of the text. -/
namespace G
variable [Wld]
open PySem PySem.Spec PyProof.Rows L2
mutual
/-- data as a key -/
def kyr : D → Option PyData
  | .non => some .none
  | .bl b => some (.bool b)
  | .int i => some (.int i)
  | .str x => some (.str x)
  | .tup ds => (kyrs ds).map .tuple
  | .lst ds => (kyrs ds).map .list
  | .dic _ _ => none
  | .ref _ => none
  | .fn _ => none
def kyrs : List D → Option (List PyData)
  | [] => some []
  | d :: ds => match kyr d, kyrs ds with
    | some p, some ps => some (p :: ps)
    | _, _ => none
end
theorem kyrs_cons {d : D} {ds : List D} {qs : List PyData} (h : kyrs (d :: ds) = some qs) : ∃ p ps, kyr d = some p ∧ kyrs ds = some ps ∧ qs = p :: ps := by
  unfold kyrs at h
  split at h
  · cases h; exact ⟨_, _, by assumption, by assumption, rfl⟩
  · cases h
section
variable {H : Hp} {ι : List Addr} {X : Cx} {pins : List (Addr × PySem.Obj)} {σ : SV} {s : Shared}
mutual
theorem RD.reads (I : Inv X pins σ H s) : ∀ (d : D) (v : V) (u : Value) (p : PyData), RD X.K H ι v d → RelV v u → kyr d = some p → ∃ as, Reads s.heap u p as
  | .non, _, _, _, h, r, e => by cases h; cases r; cases e; exact ⟨_, .none⟩
  | .bl b, _, _, _, h, r, e => by cases h; cases r; cases e; exact ⟨_, .bool b⟩
  | .int i, _, _, _, h, r, e => by cases h; obtain ⟨t, rfl⟩ := r; cases e; exact ⟨_, .int i t⟩
  | .str x, _, _, _, h, r, e => by cases h; obtain ⟨t, rfl⟩ := r; cases e; exact ⟨_, .str x t⟩
  | .tup ds, _, _, _, h, r, e => by
    obtain ⟨ps, e1, e2⟩ := Option.map_eq_some_iff.mp (show (kyrs ds).map PyData.tuple = some _ from e)
    subst e2
    cases h with | tup h1 h2 =>
    cases r
    obtain ⟨its, rv, ⟨o, g, c, n, dd⟩, _⟩ := I.tuple h1
    obtain ⟨as, q⟩ := RDs.reads I ds _ _ _ h2 rv e1
    exact ⟨_, .tuple g c dd q⟩
  | .lst ds, _, _, _, h, r, e => by
    obtain ⟨ps, e1, e2⟩ := Option.map_eq_some_iff.mp (show (kyrs ds).map PyData.list = some _ from e)
    subst e2
    cases h with | lst h1 h2 =>
    cases r
    obtain ⟨its, rv, t, _⟩ := I.list h1.sq
    obtain ⟨o, g, c, n, dd⟩ := t.isList
    obtain ⟨as, q⟩ := RDs.reads I ds _ _ _ h2 rv e1
    exact ⟨_, .list g c dd q⟩
  | .dic _ _, _, _, _, _, _, e => by cases e
  | .ref _, _, _, _, _, _, e => by cases e
  | .fn _, _, _, _, _, _, e => by cases e
theorem RDs.reads (I : Inv X pins σ H s) : ∀ (ds : List D) (vs : List V) (us : List Value) (ps : List PyData), RDs X.K H ι vs ds → Vals vs us → kyrs ds = some ps → ∃ as, ReadsAll s.heap us ps as
  | [], _, _, _, h, r, e => by cases h; cases r; cases e; exact ⟨_, .nil⟩
  | d :: ds, _, _, _, h, r, e => by
    obtain ⟨p, ps, e1, e2, rfl⟩ := kyrs_cons e
    cases h with | cons h1 h2 =>
    cases r with | cons r1 r2 =>
    obtain ⟨as, q1⟩ := RD.reads I d _ _ p h1 r1 e1
    obtain ⟨bs, q2⟩ := RDs.reads I ds _ _ ps h2 r2 e2
    exact ⟨_, .cons q1 q2⟩
end
end
/-- what a call gave, as it stands behind others -/
def RKy (K : PySem.W.Frag) (H : Hp) (ι : List Addr) (v : V) : Rt → Prop
  | .d x => RD K H ι v x
  | .new o => ∃ a, v = .ref a ∧ RO K H ι a o ∧ a ∉ ι
theorem RRt.ky {K : PySem.W.Frag} {H H' : Hp} {ι' : List Addr} {v : V} {r : Rt} (h : RRt K H H' ι' v r) : RKy K H' ι' v r := by
  cases r with
  | d x => exact h
  | new o => obtain ⟨a, e, ro, n, _⟩ := h; exact ⟨a, e, ro, n⟩
theorem RKy.post {K : PySem.W.Frag} {H H' : Hp} {ι ι' : List Addr} {v : V} {r : Rt} (h : RKy K H ι v r) (P : PostC H ι H' ι') : RKy K H' ι' v r := by
  cases r with
  | d x => exact RD.mono P.stay P.pre _ _ h
  | new o =>
    obtain ⟨a, e, ro, n⟩ := h
    obtain ⟨u, hu, _⟩ := ro.there
    exact ⟨a, e, ro.mono P.stay P.pre fun u' hu' => (P.keep a u' hu' n).1, (P.keep a u hu n).2⟩
def rtKey : Rt → Option PyData
  | .d x => kyr x
  | .new (.lst ds) => (kyrs ds).map .list
  | .new (.dct _) => none
  | .new (.kd _) => none
theorem RKy.reads {H : Hp} {ι : List Addr} {X : Cx} {pins : List (Addr × PySem.Obj)} {σ : SV} {s : Shared} (I : Inv X pins σ H s) {v : V} {u : Value} {r : Rt} {p : PyData} (h : RKy X.K H ι v r) (rv : RelV v u) (e : rtKey r = some p) : ∃ as, Reads s.heap u p as := by
  cases r with
  | d x => exact RD.reads I x v u p h rv e
  | new o =>
    cases o with
    | dct kvs => cases e
    | kd kvs => cases e
    | lst ds =>
      obtain ⟨ps, e1, e2⟩ := Option.map_eq_some_iff.mp (show (kyrs ds).map PyData.list = some p from e)
      subst e2
      obtain ⟨a, rfl, ⟨xs, h1, h2⟩, _⟩ := h
      cases rv
      obtain ⟨its, rr, t, _⟩ := I.list (.inl (.inl h1))
      obtain ⟨o, g, c, n, dd⟩ := t.isList
      obtain ⟨as, q⟩ := RDs.reads I ds _ _ _ h2 rr e1
      exact ⟨_, .list g c dd q⟩
end G

set_option Elab.async false
set_option linter.all false
set_option maxRecDepth 1000000
set_option maxHeartbeats 2000000
/-! G13: what a mirror comes to: a small calculus. -/
namespace G
variable [Wld]
open PySem PySem.Spec PyProof.Rows L2
/-- m comes to something of Q -/
def Wp {α : Type} (m : M α) (e : En) (S : Sto) (Q : α → En → Sto → Prop) : Prop := ∃ a e' S', m e S = some (a, e', S') ∧ Q a e' S'
def Fp (f : Fn) (sls : List Sl) (S : Sto) (Q : Rt → Sto → Prop) : Prop := ∃ r S', f sls S = some (r, S') ∧ Q r S'
theorem Wp.mono {α : Type} {m : M α} {e : En} {S : Sto} {Q Q' : α → En → Sto → Prop} (h : Wp m e S Q) (w : ∀ a e S, Q a e S → Q' a e S) : Wp m e S Q' := let ⟨a, e', S', h1, h2⟩ := h; ⟨a, e', S', h1, w _ _ _ h2⟩
theorem Fp.mono {f : Fn} {sls : List Sl} {S : Sto} {Q Q' : Rt → Sto → Prop} (h : Fp f sls S Q) (w : ∀ a S, Q a S → Q' a S) : Fp f sls S Q' := let ⟨a, S', h1, h2⟩ := h; ⟨a, S', h1, w _ _ h2⟩
section
variable {α β : Type} {e : En} {S : Sto}
@[simp] theorem wp_bnd {m : M α} {f : α → M β} {Q : β → En → Sto → Prop} : Wp (bnd m f) e S Q ↔ Wp m e S fun a e1 S1 => Wp (f a) e1 S1 Q := by
  unfold Wp bnd
  constructor
  · rintro ⟨b, e2, S2, h, q⟩
    split at h
    · exact ⟨_, _, _, by assumption, _, _, _, h, q⟩
    · cases h
  · rintro ⟨a, e1, S1, h1, b, e2, S2, h2, q⟩
    exact ⟨b, e2, S2, by rw [h1]; exact h2, q⟩
@[simp] theorem wp_pur {a : α} {Q : α → En → Sto → Prop} : Wp (pur a) e S Q ↔ Q a e S := ⟨fun ⟨_, _, _, h, q⟩ => by cases h; exact q, fun q => ⟨_, _, _, rfl, q⟩⟩
@[simp] theorem wp_stk {Q : α → En → Sto → Prop} : Wp (stk : M α) e S Q ↔ False := ⟨fun h => let ⟨_, _, _, h, q⟩ := h; (nomatch h), fun q => q.elim⟩
theorem wp_some {m : M α} {Q : α → En → Sto → Prop} {a : α} {e' : En} {S' : Sto} (h : m e S = some (a, e', S')) : Wp m e S Q ↔ Q a e' S' := ⟨fun ⟨_, _, _, h', q⟩ => by rw [h] at h'; cases h'; exact q, fun q => ⟨_, _, _, h, q⟩⟩
theorem wp_ite {c : Prop} [Decidable c] {a b : M α} {Q : α → En → Sto → Prop} : Wp (if c then a else b) e S Q ↔ if c then Wp a e S Q else Wp b e S Q := by split <;> rfl
@[simp] theorem wp_mC {x : D} {Q : R → En → Sto → Prop} : Wp (mC x) e S Q ↔ Q (.d x) e S := wp_pur
variable {Q : R → En → Sto → Prop} {ma mb mc : M R} {g g' : R → R → M R}
@[simp] theorem wp_mBin : Wp (mBin g ma mb) e S Q ↔ Wp ma e S fun x e1 S1 => Wp mb e1 S1 fun y e2 S2 => Wp (g x y) e2 S2 Q := by simp [mBin]
@[simp] theorem wp_mUn {f : R → M R} : Wp (mUn f ma) e S Q ↔ Wp ma e S fun x e1 S1 => Wp (f x) e1 S1 Q := by simp [mUn]
theorem wp_var_d {i : Nat} {x : D} (h : e[i]? = some (some (.d x))) : Wp (mVar i) e S Q ↔ Q (.d x) e S := wp_some (by unfold mVar; rw [h])
theorem wp_var_own {i : Nat} {x : O} (h : e[i]? = some (some (.own x))) : Wp (mVar i) e S Q ↔ Q (.loc i) e S := wp_some (by unfold mVar; rw [h])
theorem wp_var_brw {i : Nat} {x : O} (h : e[i]? = some (some (.brw x))) : Wp (mVar i) e S Q ↔ Q (.brw x) e S := wp_some (by unfold mVar; rw [h])
theorem wp_mVar {i : Nat} : Wp (mVar i) e S Q ↔ match e[i]? with
    | some (some (.d x)) => Q (.d x) e S
    | some (some (.own _)) => Q (.loc i) e S
    | some (some (.brw o)) => Q (.brw o) e S
    | _ => False := by
  have hr : ∀ (r : R), mVar i e S = some (r, e, S) → (Wp (mVar i) e S Q ↔ Q r e S) := fun r h => wp_some h
  have hn : mVar i e S = none → (Wp (mVar i) e S Q ↔ False) := fun h => ⟨fun q => (let ⟨_, _, _, h', _⟩ := q; nomatch (h.symm.trans h')), fun h => h.elim⟩
  rcases h : e[i]? with _ | _ | x | x | x
  · exact hn (by simp [mVar, h])
  · exact hn (by simp [mVar, h])
  · exact hr _ (by simp [mVar, h])
  · exact hr _ (by simp [mVar, h])
  · exact hr _ (by simp [mVar, h])
@[simp] theorem wp_gP {f : D → D → Option D} {x y : D} : Wp (gP f (.d x) (.d y)) e S Q ↔ ∃ d, f x y = some d ∧ Q (.d d) e S := by
  unfold Wp gP
  simp only [Option.map_eq_some_iff]
  constructor
  · rintro ⟨a, e', S', ⟨d, hd, h⟩, q⟩; cases h; exact ⟨d, hd, q⟩
  · rintro ⟨d, hd, q⟩; exact ⟨_, _, _, ⟨d, hd, rfl⟩, q⟩
@[simp] theorem wp_mIf {β : Type} {c : M Bool} {a b : M β} {Q : β → En → Sto → Prop} : Wp (mIf c a b) e S Q ↔ Wp c e S fun x e1 S1 => if x = true then Wp a e1 S1 Q else Wp b e1 S1 Q := by simp [mIf, wp_ite]
@[simp] theorem wp_mNot {c : M Bool} {Q : Bool → En → Sto → Prop} : Wp (mNot c) e S Q ↔ Wp c e S fun x e1 S1 => Q (!x) e1 S1 := by simp [mNot]
@[simp] theorem wp_mAnd {c d : M Bool} {Q : Bool → En → Sto → Prop} : Wp (mAnd c d) e S Q ↔ Wp c e S fun x e1 S1 => if x = true then Wp d e1 S1 Q else Q false e1 S1 := by simp [mAnd, wp_ite]
@[simp] theorem wp_mOr {c d : M Bool} {Q : Bool → En → Sto → Prop} : Wp (mOr c d) e S Q ↔ Wp c e S fun x e1 S1 => if x = true then Q true e1 S1 else Wp d e1 S1 Q := by simp [mOr, wp_ite]
@[simp] theorem wp_asB {r : R} {Q : Bool → En → Sto → Prop} : Wp (asB r) e S Q ↔ ∃ b, r = .d (.bl b) ∧ Q b e S := by
  unfold asB
  split
  · simp
  · rename_i h
    simp only [wp_stk, false_iff]
    rintro ⟨b, rfl, _⟩
    exact h b rfl
@[simp] theorem wp_mAndV : Wp (mAndV ma mb) e S Q ↔ Wp ma e S fun r e1 S1 => ∃ b, r = .d (.bl b) ∧ if b = true then Wp mb e1 S1 Q else Q (.d (.bl false)) e1 S1 := by simp [mAndV, wp_ite]
@[simp] theorem wp_mOrV : Wp (mOrV ma mb) e S Q ↔ Wp ma e S fun r e1 S1 => ∃ b, r = .d (.bl b) ∧ if b = true then Q (.d (.bl true)) e1 S1 else Wp mb e1 S1 Q := by simp [mOrV, wp_ite]
@[simp] theorem wp_mNotV : Wp (mNotV ma) e S Q ↔ Wp ma e S fun r e1 S1 => ∃ b, r = .d (.bl b) ∧ Q (.d (.bl (!b))) e1 S1 := by simp [mNotV]
@[simp] theorem wp_gIsN {neg : Bool} {x : D} : Wp (gIsN neg (.d x) (.d .non)) e S Q ↔ Q (.d (.bl (isNon x != neg))) e S := wp_some rfl
/-! lists of results -/
variable {ms : M (List R)}
@[simp] theorem wp_mNil {Q : List R → En → Sto → Prop} : Wp mNil e S Q ↔ Q [] e S := wp_pur
@[simp] theorem wp_mCons {Q : List R → En → Sto → Prop} : Wp (mCons ma ms) e S Q ↔ Wp ma e S fun x e1 S1 => Wp ms e1 S1 fun xs e2 S2 => Q (x :: xs) e2 S2 := by simp [mCons]
theorem wp_dispOf {f : List D → R} {rs : List R} : Wp (dispOf f rs) e S Q ↔ ∃ ds, dsOf rs = some ds ∧ ds.length ≤ 1000 ∧ Q (f ds) e S := by
  constructor
  · rintro ⟨a, e', S', h, q⟩
    obtain ⟨ds, h1, h2, h3⟩ := dispOf_eq h
    cases h3
    exact ⟨ds, h1, h2, q⟩
  · rintro ⟨ds, h1, h2, q⟩
    exact ⟨f ds, e, S, by unfold dispOf; rw [h1]; simp [h2], q⟩
@[simp] theorem wp_mTup : Wp (mTup ms) e S Q ↔ Wp ms e S fun rs e1 S1 => ∃ ds, dsOf rs = some ds ∧ ds.length ≤ 1000 ∧ Q (.d (.tup ds)) e1 S1 := by simp [mTup, wp_dispOf]
@[simp] theorem wp_mLst : Wp (mLst ms) e S Q ↔ Wp ms e S fun rs e1 S1 => ∃ ds, dsOf rs = some ds ∧ ds.length ≤ 1000 ∧ Q (.new (.lst ds)) e1 S1 := by simp [mLst, wp_dispOf]
@[simp] theorem dsOf_nil : dsOf [] = some [] := rfl
@[simp] theorem dsOf_cons {x : D} {rs : List R} : dsOf (.d x :: rs) = (dsOf rs).map (x :: ·) := by
  simp only [dsOf]
  try (cases dsOf rs <;> rfl)
@[simp] theorem wp_mD : Wp (mD ma) e S Q ↔ Wp ma e S fun r e1 S1 => Wp (toD r) e1 S1 Q := by simp [mD]
@[simp] theorem wp_toD_d {x : D} : Wp (toD (.d x)) e S Q ↔ Q (.d x) e S := wp_some rfl
@[simp] theorem wp_toD_new {ds : List D} : Wp (toD (.new (.lst ds))) e S Q ↔ Q (.d (.lst ds)) e S := wp_some rfl
theorem wp_toD_loc {i : Nat} {ds : List D} (h : e[i]? = some (some (.own (.lst ds)))) : Wp (toD (.loc i)) e S Q ↔ Q (.d (.lst ds)) (e.set i (some (.d (.lst ds)))) S := wp_some (by unfold toD; simp [h, lock])
@[simp] theorem wp_mBox : Wp (mBox ma) e S Q ↔ Wp ma e S fun r e1 S1 => Wp (toBox r) e1 S1 Q := by simp [mBox]
@[simp] theorem wp_toBox {o : O} : Wp (toBox (.new o)) e S Q ↔ Q (.d (.ref S.length)) e (S ++ [o]) := wp_some rfl
/-! subscripts -/
@[simp] theorem wp_ix_tup {ds : List D} {i : Int} : Wp (gIx (.d (.tup ds)) (.d (.int i))) e S Q ↔ ∃ d, atD ds i = some d ∧ Q (.d d) e S := by
  unfold Wp gIx
  constructor
  · rintro ⟨a, e', S', h, q⟩; obtain ⟨d, h1, h2⟩ := Option.map_eq_some_iff.mp h; cases h2; exact ⟨d, h1, q⟩
  · rintro ⟨d, h, q⟩; exact ⟨_, _, _, Option.map_eq_some_iff.mpr ⟨d, h, rfl⟩, q⟩
theorem wp_ix_lst {r : R} {ds : List D} {i : Int} (h : look r e S = some (.lst ds)) (h1 : ∀ ds, r ≠ .d (.tup ds)) (h2 : ∀ s, r ≠ .d (.str s)) : Wp (gIx r (.d (.int i))) e S Q ↔ ∃ d, atD ds i = some d ∧ Q (.d d) e S := by
  have hq : gIx r (.d (.int i)) e S = (atD ds i).map fun d => (R.d d, e, S) := by
    cases r with
    | d x => cases x <;> first | exact (h1 _ rfl).elim | exact (h2 _ rfl).elim | (simp only [gIx, h]) | (simp [look] at h)
    | _ => simp only [gIx, h]
  unfold Wp
  rw [hq]
  constructor
  · rintro ⟨a, e', S', h, q⟩; obtain ⟨d, h1, h2⟩ := Option.map_eq_some_iff.mp h; cases h2; exact ⟨d, h1, q⟩
  · rintro ⟨d, h, q⟩; exact ⟨_, _, _, Option.map_eq_some_iff.mpr ⟨d, h, rfl⟩, q⟩
theorem wp_ix_dct {r : R} {kvs : List (Key × D)} {y : D} {k : Key} (h : look r e S = some (.dct kvs)) (hk : keyOf y = some k) : Wp (gIx r (.d y)) e S Q ↔ ∃ d, valD kvs k = some d ∧ Q (.d d) e S := by
  have hq : gIx r (.d y) e S = (valD kvs k).map fun d => (R.d d, e, S) := by
    cases r with
    | d x => cases x <;> first | (simp only [gIx, h, hk]; rfl) | (simp [look] at h)
    | _ => simp only [gIx, h, hk]; rfl
  unfold Wp
  rw [hq]
  constructor
  · rintro ⟨a, e', S', h, q⟩; obtain ⟨d, h1, h2⟩ := Option.map_eq_some_iff.mp h; cases h2; exact ⟨d, h1, q⟩
  · rintro ⟨d, h, q⟩; exact ⟨_, _, _, Option.map_eq_some_iff.mpr ⟨d, h, rfl⟩, q⟩
theorem wp_ix_str {z : Str} {i : Int} (h : z.length ≤ 1000000) : Wp (gIx (.d (.str z)) (.d (.int i))) e S Q ↔ ∃ c, atI z.cps.toList i = some c ∧ Q (.d (.str ⟨#[c]⟩)) e S := by
  unfold Wp
  simp only [gIx, if_pos h]
  constructor
  · rintro ⟨a, e', S', h, q⟩; obtain ⟨d, h1, h2⟩ := Option.map_eq_some_iff.mp h; cases h2; exact ⟨d, h1, q⟩
  · rintro ⟨d, h, q⟩; exact ⟨_, _, _, Option.map_eq_some_iff.mpr ⟨d, h, rfl⟩, q⟩
@[simp] theorem wp_ix_new {ds : List D} {i : Int} : Wp (gIx (.new (.lst ds)) (.d (.int i))) e S Q ↔ ∃ d, atD ds i = some d ∧ Q (.d d) e S := wp_ix_lst rfl (fun _ h => nomatch h) (fun _ h => nomatch h)
@[simp] theorem wp_ix_brw {ds : List D} {i : Int} : Wp (gIx (.brw (.lst ds)) (.d (.int i))) e S Q ↔ ∃ d, atD ds i = some d ∧ Q (.d d) e S := wp_ix_lst rfl (fun _ h => nomatch h) (fun _ h => nomatch h)
@[simp] theorem wp_ix_dl {ds : List D} {i : Int} : Wp (gIx (.d (.lst ds)) (.d (.int i))) e S Q ↔ ∃ d, atD ds i = some d ∧ Q (.d d) e S := wp_ix_lst rfl (fun _ h => nomatch h) (fun _ h => nomatch h)
theorem wp_ix_ref {n : Nat} {ds : List D} {i : Int} (h : S[n]? = some (.lst ds)) : Wp (gIx (.d (.ref n)) (.d (.int i))) e S Q ↔ ∃ d, atD ds i = some d ∧ Q (.d d) e S := wp_ix_lst h (fun _ h => nomatch h) (fun _ h => nomatch h)
theorem wp_ix_loc {n : Nat} {ds : List D} {i : Int} (h : e[n]? = some (some (.own (.lst ds)))) : Wp (gIx (.loc n) (.d (.int i))) e S Q ↔ ∃ d, atD ds i = some d ∧ Q (.d d) e S := wp_ix_lst (by simp [look, h]) (fun _ h => nomatch h) (fun _ h => nomatch h)
theorem atD_ofNat {ds : List D} {n : Nat} : atD ds n = ds[n]? := by
  unfold atD atI ixN
  rw [if_pos (Int.natCast_nonneg n)]
  by_cases h : n < ds.length
  · rw [if_pos (Int.ofNat_lt.mpr h)]; rfl
  · rw [if_neg (fun z => h (Int.ofNat_lt.mp z)), List.getElem?_eq_none (by omega)]; rfl
@[simp] theorem atD_0 {ds : List D} : atD ds 0 = ds[0]? := atD_ofNat (n := 0)
@[simp] theorem atD_1 {ds : List D} : atD ds 1 = ds[1]? := atD_ofNat (n := 1)
@[simp] theorem atD_2 {ds : List D} : atD ds 2 = ds[2]? := atD_ofNat (n := 2)
@[simp] theorem atD_3 {ds : List D} : atD ds 3 = ds[3]? := atD_ofNat (n := 3)
@[simp] theorem atD_4 {ds : List D} : atD ds 4 = ds[4]? := atD_ofNat (n := 4)
theorem atD_last {ds : List D} {d : D} : atD (ds ++ [d]) (-1) = some d := by
  unfold atD atI ixN
  rw [if_neg (by decide), if_pos (by simp; omega)]
  show (ds ++ [d])[((-1 : Int) + ((ds ++ [d]).length : Nat)).toNat]? = some d
  have : ((-1 : Int) + ((ds ++ [d]).length : Nat)).toNat = ds.length := by simp; omega
  rw [this]; simp
/-! calls -/
@[simp] theorem wp_mCall {n : Nat} {f : Fn} : Wp (mCall n f ms) e S Q ↔ Wp ms e S fun rs e1 S1 => rs.length = n ∧ ∃ sls, toArgs rs e1 = some sls ∧ Fp f sls S1 fun r S2 => Q r.r e1 S2 := by
  simp only [mCall, wp_bnd]
  constructor
  · rintro ⟨rs, e1, S1, h, q⟩
    refine ⟨rs, e1, S1, h, ?_⟩
    by_cases hn : rs.length = n
    · rw [if_pos hn] at q
      obtain ⟨r, e2, S2, h2, q⟩ := q
      dsimp only at h2
      cases ha : toArgs rs e1 with
      | none => rw [ha] at h2; cases h2
      | some sls =>
        rw [ha] at h2
        obtain ⟨p, hp, he⟩ := Option.map_eq_some_iff.mp h2
        cases he
        exact ⟨hn, sls, rfl, p.1, p.2, hp, q⟩
    · rw [if_neg hn] at q
      exact (wp_stk.mp q).elim
  · rintro ⟨rs, e1, S1, h, hn, sls, ha, r, S2, hf, q⟩
    refine ⟨rs, e1, S1, h, ?_⟩
    dsimp only
    rw [if_pos hn]
    exact ⟨r.r, e1, S2, by simp only [ha, hf]; rfl, q⟩
@[simp] theorem toArgs_nil : toArgs [] e = some [] := rfl
@[simp] theorem toArgs_cons {r : R} {rs : List R} : toArgs (r :: rs) e = (toArg r e).bind fun s => (toArgs rs e).map (s :: ·) := by
  simp only [toArgs]
  cases toArg r e <;> cases toArgs rs e <;> rfl
@[simp] theorem toArg_d {x : D} : toArg (.d x) e = some (.d x) := rfl
@[simp] theorem toArg_new {x : O} : toArg (.new x) e = some (.brw x) := rfl
@[simp] theorem toArg_brw {x : O} : toArg (.brw x) e = some (.brw x) := rfl
theorem toArg_loc {i : Nat} {o : O} (h : e[i]? = some (some (.own o))) : toArg (.loc i) e = some (.brw o) := by unfold toArg; simp only [h]
@[simp] theorem r_d {x : D} : (Rt.d x).r = .d x := rfl
@[simp] theorem r_new {x : O} : (Rt.new x).r = .new x := rfl
def flQ (Q : Rt → Sto → Prop) : Fl → En → Sto → Prop
  | .rt r, _, S => Q r S
  | .nx, _, S => Q (.d .non) S
  | _, _, _ => False
@[simp] theorem flQ_rt {Q : Rt → Sto → Prop} {r : Rt} : flQ Q (.rt r) e S = Q r S := rfl
@[simp] theorem flQ_nx {Q : Rt → Sto → Prop} : flQ Q .nx e S = Q (.d .non) S := rfl
@[simp] theorem flQ_bk {Q : Rt → Sto → Prop} : flQ Q .bk e S = False := rfl
@[simp] theorem flQ_ct {Q : Rt → Sto → Prop} : flQ Q .ct e S = False := rfl
theorem fp_runF {nl : Nat} {b : M Fl} {sls : List Sl} {Q : Rt → Sto → Prop} : Fp (runF nl b) sls S Q ↔ Wp b (sls.map some ++ List.replicate nl none) S (flQ Q) := by
  unfold Fp Wp runF
  constructor
  · rintro ⟨r, S', h, q⟩
    split at h <;> cases h
    · exact ⟨.rt _, _, _, by assumption, q⟩
    · exact ⟨.nx, _, _, by assumption, q⟩
  · rintro ⟨fl, e', S', h, q⟩
    cases fl with
    | rt r => exact ⟨r, S', by rw [h], q⟩
    | nx => exact ⟨_, S', by rw [h], q⟩
    | bk => exact q.elim
    | ct => exact q.elim
/-! statements -/
variable {F : Fl → En → Sto → Prop} {a b : M Fl}
def seQ (b : M Fl) (F : Fl → En → Sto → Prop) : Fl → En → Sto → Prop
  | .nx, e, S => Wp b e S F
  | z, e, S => F z e S
@[simp] theorem seQ_nx : seQ b F .nx e S = Wp b e S F := rfl
@[simp] theorem seQ_rt {r : Rt} : seQ b F (.rt r) e S = F (.rt r) e S := rfl
@[simp] theorem seQ_bk : seQ b F .bk e S = F .bk e S := rfl
@[simp] theorem seQ_ct : seQ b F .ct e S = F .ct e S := rfl
@[simp] theorem wp_mSeq : Wp (mSeq a b) e S F ↔ Wp a e S (seQ b F) := by
  simp only [mSeq, wp_bnd]
  have h : (fun fl e1 S1 => Wp (match fl with | .nx => b | z => pur z) e1 S1 F) = seQ b F := by
    funext fl e1 S1
    cases fl <;> simp [seQ]
  exact iff_of_eq (congrArg (Wp a e S) h)
@[simp] theorem wp_mSkip : Wp mSkip e S F ↔ F .nx e S := wp_pur
@[simp] theorem wp_mIfS {c : M Bool} : Wp (mIfS c a b) e S F ↔ Wp c e S fun x e1 S1 => if x = true then Wp a e1 S1 F else Wp b e1 S1 F := by simp [mIfS, wp_ite]
@[simp] theorem wp_mDrop : Wp (mDrop ma) e S F ↔ Wp ma e S fun _ e1 S1 => F .nx e1 S1 := by simp [mDrop]
@[simp] theorem wp_mRet : Wp (mRet ma) e S F ↔ Wp ma e S fun r e1 S1 => Wp (toRt r) e1 S1 F := by simp [mRet]
@[simp] theorem wp_toRt_d {x : D} : Wp (toRt (.d x)) e S F ↔ F (.rt (.d x)) e S := wp_some rfl
@[simp] theorem wp_toRt_new {x : O} : Wp (toRt (.new x)) e S F ↔ F (.rt (.new x)) e S := wp_some rfl
theorem wp_toRt_loc {i : Nat} {o : O} (h : e[i]? = some (some (.own o))) : Wp (toRt (.loc i)) e S F ↔ F (.rt (.new o)) e S := wp_some (by unfold toRt; simp only [h])
@[simp] theorem wp_mRetN : Wp mRetN e S F ↔ F (.rt (.d .non)) e S := wp_pur
@[simp] theorem wp_mSet {i : Nat} : Wp (mSet i ma) e S F ↔ Wp ma e S fun r e1 S1 => Wp (setS i r) e1 S1 F := by simp [mSet]
theorem wp_setS {i : Nat} {r : R} {s : Sl} (h : toSl r = some s) (hi : i < e.length) : Wp (setS i r) e S F ↔ F .nx (e.set i (some s)) S := wp_some (by unfold setS; simp [h, hi])
@[simp] theorem wp_setS_d {i : Nat} {x : D} : Wp (setS i (.d x)) e S F ↔ i < e.length ∧ F .nx (e.set i (some (.d x))) S := by
  constructor
  · rintro ⟨a, e', S', h, q⟩; obtain ⟨s, h1, h2, h3⟩ := setS_eq h; cases h1; cases h3; exact ⟨h2, q⟩
  · rintro ⟨h, q⟩; exact (wp_setS rfl h).mpr q
@[simp] theorem wp_setS_new {i : Nat} {x : O} : Wp (setS i (.new x)) e S F ↔ i < e.length ∧ F .nx (e.set i (some (.own x))) S := by
  constructor
  · rintro ⟨a, e', S', h, q⟩; obtain ⟨s, h1, h2, h3⟩ := setS_eq h; cases h1; cases h3; exact ⟨h2, q⟩
  · rintro ⟨h, q⟩; exact (wp_setS rfl h).mpr q
@[simp] theorem wp_mSetI {mv mo mi : M R} : Wp (mSetI mv mo mi) e S F ↔ Wp mv e S fun v e1 S1 => ∃ x, v = .d x ∧ Wp mo e1 S1 fun o e2 S2 => Wp mi e2 S2 fun i e3 S3 => Wp (setIt o i x) e3 S3 F := by
  simp only [mSetI, wp_bnd]
  constructor
  · rintro ⟨v, e1, S1, h, q⟩
    refine ⟨v, e1, S1, h, ?_⟩
    split at q
    · exact ⟨_, rfl, by simpa using q⟩
    · exact (wp_stk.mp q).elim
  · rintro ⟨v, e1, S1, h, x, rfl, q⟩
    exact ⟨_, e1, S1, h, by simpa using q⟩
theorem wp_setIt {o : R} {ds : List D} {k : Int} {j : Nat} {x : D} (h : look o e S = some (.lst ds)) (hw : isW o = true) (hk : ixN ds.length k = some j) : Wp (setIt o (.d (.int k)) x) e S F ↔ F .nx (putE o (.lst (ds.set j x)) e) (putS o (.lst (ds.set j x)) S) :=
  wp_some (by unfold setIt; simp [h, hw, hk])
@[simp] theorem wp_mAsg {t : Tgt} : Wp (mAsg t ma) e S F ↔ Wp ma e S fun r e1 S1 => ∃ x, r = .d x ∧ ∃ e2, t x e1 = some e2 ∧ F .nx e2 S1 := by
  simp only [mAsg, wp_bnd]
  constructor
  · rintro ⟨v, e1, S1, h, q⟩
    refine ⟨v, e1, S1, h, ?_⟩
    obtain ⟨a, e2, S2, h2, q⟩ := q
    dsimp only at h2
    split at h2
    · obtain ⟨e3, h3, h4⟩ := Option.map_eq_some_iff.mp h2
      cases h4
      exact ⟨_, rfl, _, h3, q⟩
    · cases h2
  · rintro ⟨v, e1, S1, h, x, rfl, e2, ht, q⟩
    exact ⟨_, e1, S1, h, .nx, e2, S1, by simp [ht], q⟩
@[simp] theorem wp_mPar2 {i j : Nat} : Wp (mPar2 i j ma mb) e S F ↔ Wp ma e S fun x e1 S1 => Wp mb e1 S1 fun y e2 S2 => Wp (setS i x) e2 S2 (seQ (setS j y) F) := by simp [mPar2]
@[simp] theorem wp_mPar3 {i j l : Nat} : Wp (mPar3 i j l ma mb mc) e S F ↔ Wp ma e S fun x e1 S1 => Wp mb e1 S1 fun y e2 S2 => Wp mc e2 S2 fun z e3 S3 => Wp (setS i x) e3 S3 (seQ (mSeq (setS j y) (setS l z)) F) := by simp [mPar3]
@[simp] theorem gt_name {i : Nat} {d : D} {e1 : En} : gtName i d e = some e1 ↔ i < e.length ∧ e.set i (some (.d d)) = e1 := by unfold gtName; split <;> simp [*]
@[simp] theorem gt_nil {e1 : En} : gtNil [] e = some e1 ↔ e = e1 := by simp [gtNil]
theorem gt_cons {t : Tgt} {ts : Tgts} {d : D} {ds : List D} {e2 : En} : gtCons t ts (d :: ds) e = some e2 ↔ ∃ e1, t d e = some e1 ∧ ts ds e1 = some e2 := by
  simp only [gtCons]
  cases h : t d e <;> simp
theorem gt_tup {n : Nat} {ts : Tgts} {ds : List D} {e1 : En} : gtTup n ts (.tup ds) e = some e1 ↔ ds.length = n ∧ ts ds e = some e1 := by
  simp only [gtTup]
  split <;> simp [*]
end
end G

set_option Elab.async false
set_option linter.all false
set_option maxRecDepth 1000000
set_option maxHeartbeats 2000000
/-! G14: what a mirror comes to: loops, built-ins, methods. -/
namespace G
variable [Wld]
open PySem PySem.Spec PyProof.Rows L2
theorem option_map_wp {α β : Type} {o : Option β} {k : β → α} {e : En} {S : Sto} {Q : α → En → Sto → Prop} : (∃ a e' S', (o.map fun d => (k d, e, S)) = some (a, e', S') ∧ Q a e' S') ↔ ∃ d, o = some d ∧ Q (k d) e S := by
  constructor
  · rintro ⟨a, e', S', h, q⟩; obtain ⟨d, h1, h2⟩ := Option.map_eq_some_iff.mp h; cases h2; exact ⟨d, h1, q⟩
  · rintro ⟨d, h, q⟩; exact ⟨_, _, _, Option.map_eq_some_iff.mpr ⟨d, h, rfl⟩, q⟩
section
variable {e : En} {S : Sto} {Q : R → En → Sto → Prop} {F : Fl → En → Sto → Prop} {ma mb : M R} {ms : M (List R)}
def varQ (o : Option (Option Sl)) (i : Nat) (e : En) (S : Sto) (Q : R → En → Sto → Prop) : Prop := match o with
  | some (some (.d x)) => Q (.d x) e S
  | some (some (.own _)) => Q (.loc i) e S
  | some (some (.brw o)) => Q (.brw o) e S
  | _ => False
theorem wp_mVarC {i : Nat} {a : Option Sl} : Wp (mVar i) (a :: e) S Q ↔ varQ (a :: e)[i]? i (a :: e) S Q := wp_mVar
theorem varQ_d {i : Nat} {x : D} : varQ (some (some (.d x))) i e S Q = Q (.d x) e S := rfl
theorem varQ_own {i : Nat} {x : O} : varQ (some (some (.own x))) i e S Q = Q (.loc i) e S := rfl
theorem varQ_brw {i : Nat} {x : O} : varQ (some (some (.brw x))) i e S Q = Q (.brw x) e S := rfl
/-! what is walked -/
@[simp] theorem wp_mSrc {q : Src → En → Sto → Prop} : Wp (mSrc ma) e S q ↔ Wp ma e S fun r e1 S1 => Wp (srcOf r) e1 S1 q := by simp [mSrc]
@[simp] theorem wp_src_tup {ds : List D} {q : Src → En → Sto → Prop} : Wp (srcOf (.d (.tup ds))) e S q ↔ q ⟨ds, []⟩ e S := wp_some rfl
@[simp] theorem wp_src_lst {ds : List D} {q : Src → En → Sto → Prop} : Wp (srcOf (.d (.lst ds))) e S q ↔ q ⟨ds, []⟩ e S := wp_some rfl
@[simp] theorem wp_src_new {ds : List D} {q : Src → En → Sto → Prop} : Wp (srcOf (.new (.lst ds))) e S q ↔ q ⟨ds, []⟩ e S := wp_some rfl
@[simp] theorem wp_src_brw {ds : List D} {q : Src → En → Sto → Prop} : Wp (srcOf (.brw (.lst ds))) e S q ↔ q ⟨ds, []⟩ e S := wp_some rfl
theorem wp_src_loc {i : Nat} {ds : List D} {q : Src → En → Sto → Prop} (h : e[i]? = some (some (.own (.lst ds)))) : Wp (srcOf (.loc i)) e S q ↔ q ⟨ds, [(.loc i, ds)]⟩ e S := wp_some (by simp [srcOf, look, h])
@[simp] theorem wp_srcR1 {j : Int} {q : Src → En → Sto → Prop} : Wp (srcR1 [.d (.int j)]) e S q ↔ (-(2 ^ 62) ≤ j ∧ j ≤ 1000000) ∧ q ⟨rngD 0 j.toNat, []⟩ e S := by
  unfold Wp srcR1
  by_cases h : -(2 ^ 62) ≤ j ∧ j ≤ 1000000
  · simp only [if_pos h]; exact ⟨fun ⟨_, _, _, h1, q⟩ => by cases h1; exact ⟨h, q⟩, fun q => ⟨_, _, _, rfl, q.2⟩⟩
  · simp only [if_neg h]; exact ⟨fun ⟨_, _, _, h1, q⟩ => (nomatch h1), fun q => (h q.1).elim⟩
@[simp] theorem wp_srcStr {x : Str} {q : Src → En → Sto → Prop} : Wp (srcStr (.d (.str x))) e S q ↔ x.cps.size ≤ 1000000 ∧ q ⟨x.cps.toList.map fun c => .str ⟨#[c]⟩, []⟩ e S := by
  constructor
  · rintro ⟨_, _, _, h, k⟩
    obtain ⟨y, h1, h2, h3⟩ := srcStr_eq h
    cases h1; cases h3
    exact ⟨h2, k⟩
  · rintro ⟨h, k⟩
    exact ⟨_, _, _, by unfold srcStr; simp [h], k⟩
theorem wp_srcZip {r1 r2 : R} {s1 s2 : Src} {q : Src → En → Sto → Prop} (h1 : srcOf r1 e S = some (s1, e, S)) (h2 : srcOf r2 e S = some (s2, e, S)) (h : (isTupR r1 == isTupR r2) = true) : Wp (srcZip [r1, r2]) e S q ↔ q ⟨zipD s1.items s2.items, s1.ws ++ s2.ws⟩ e S :=
  wp_some (by unfold srcZip; simp only [h1, h2, h]; rfl)
/-! for -/
@[simp] theorem wp_mFor {t : Tgt} {mi : M Src} {b : M Fl} : Wp (mFor t mi b) e S F ↔ Wp mi e S fun src e1 S1 => (src.ws.all fun p => isRef p.1) = true ∧ Wp (forL t b src.ws src.items) e1 S1 F := by
  simp only [mFor, wp_bnd, wp_ite, wp_stk]
  have h : ∀ src : Src, ∀ p : Prop, (if (src.ws.all fun p => isRef p.1) = true then p else False) ↔ ((src.ws.all fun p => isRef p.1) = true ∧ p) := fun src p => by split <;> simp [*]
  constructor
  · exact fun w => w.mono fun a e S q => (h _ _).mp q
  · exact fun w => w.mono fun a e S q => (h _ _).mpr q
def lpQ (I : En → Sto → Prop) (F : Fl → En → Sto → Prop) : Fl → En → Sto → Prop
  | .nx, e, S => I e S
  | .ct, e, S => I e S
  | .bk, e, S => F .nx e S
  | .rt r, e, S => F (.rt r) e S
@[simp] theorem lpQ_nx {I : En → Sto → Prop} : lpQ I F .nx e S = I e S := rfl
@[simp] theorem lpQ_ct {I : En → Sto → Prop} : lpQ I F .ct e S = I e S := rfl
@[simp] theorem lpQ_bk {I : En → Sto → Prop} : lpQ I F .bk e S = F .nx e S := rfl
@[simp] theorem lpQ_rt {I : En → Sto → Prop} {r : Rt} : lpQ I F (.rt r) e S = F (.rt r) e S := rfl
theorem wp_forL {t : Tgt} {b : M Fl} (I : List D → En → Sto → Prop) {ds : List D} (h0 : I ds e S)
    (hs : ∀ d ds e S, I (d :: ds) e S → ∃ e1, t d e = some e1 ∧ Wp b e1 S (lpQ (I ds) F)) (hd : ∀ e S, I [] e S → F .nx e S) : Wp (forL t b [] ds) e S F := by
  induction ds generalizing e S with
  | nil => exact ⟨_, _, _, by unfold forL; rw [if_pos (wat_nil _ _)], hd _ _ h0⟩
  | cons d ds ih =>
    obtain ⟨e1, h1, fl, e2, S2, h2, q⟩ := hs d ds e S h0
    cases fl with
    | nx =>
      obtain ⟨a, e3, S3, h3, q⟩ := ih q
      exact ⟨a, e3, S3, by rw [forL]; simp only [wat_nil, h1, h2, if_true]; exact h3, q⟩
    | ct =>
      obtain ⟨a, e3, S3, h3, q⟩ := ih q
      exact ⟨a, e3, S3, by rw [forL]; simp only [wat_nil, h1, h2, if_true]; exact h3, q⟩
    | bk => exact ⟨.nx, e2, S2, by rw [forL]; simp only [wat_nil, h1, h2, if_true], q⟩
    | rt r => exact ⟨.rt r, e2, S2, by rw [forL]; simp only [wat_nil, h1, h2, if_true], q⟩
/-- the items that were, too -/
theorem wp_forL' {t : Tgt} {b : M Fl} {all : List D} (I : List D → List D → En → Sto → Prop) (h0 : I [] all e S)
    (hs : ∀ pre d post e S, all = pre ++ d :: post → I pre (d :: post) e S → ∃ e1, t d e = some e1 ∧ Wp b e1 S (lpQ (I (pre ++ [d]) post) F)) (hd : ∀ e S, I all [] e S → F .nx e S) : Wp (forL t b [] all) e S F := by
  refine wp_forL (fun ds e S => ∃ pre, all = pre ++ ds ∧ I pre ds e S) ⟨[], rfl, h0⟩ ?_ ?_
  · rintro d ds e S ⟨pre, hp, hi⟩
    obtain ⟨e1, h1, q⟩ := hs pre d ds e S hp hi
    refine ⟨e1, h1, q.mono fun fl e2 S2 k => ?_⟩
    cases fl with
    | nx => exact ⟨pre ++ [d], by simp [hp], k⟩
    | ct => exact ⟨pre ++ [d], by simp [hp], k⟩
    | bk => exact k
    | rt r => exact k
  · rintro e S ⟨pre, hp, hi⟩
    have : all = pre := by simpa using hp
    subst this
    exact hd e S hi
/-! while -/
theorem wp_whileL {c : M Bool} {b : M Fl} (I : Nat → En → Sto → Prop) {n N : Nat} (hn : n < N) (h0 : I n e S)
    (hs : ∀ n e S, I n e S → Wp c e S fun x e1 S1 => if x = true then ∃ m, n = m + 1 ∧ Wp b e1 S1 (lpQ (I m) F) else F .nx e1 S1) : Wp (whileL c b N) e S F := by
  induction N generalizing e S n with
  | zero => omega
  | succ N ih =>
    obtain ⟨x, e1, S1, h1, q⟩ := hs n e S h0
    cases x with
    | false => exact ⟨.nx, e1, S1, by rw [whileL]; simp only [h1], by simpa using q⟩
    | true =>
      rw [if_pos rfl] at q
      obtain ⟨m, hm, fl, e2, S2, h2, q⟩ := q
      cases fl with
      | nx =>
        obtain ⟨a, e3, S3, h3, q⟩ := ih (by omega) q
        exact ⟨a, e3, S3, by rw [whileL]; simp only [h1, h2]; exact h3, q⟩
      | ct =>
        obtain ⟨a, e3, S3, h3, q⟩ := ih (by omega) q
        exact ⟨a, e3, S3, by rw [whileL]; simp only [h1, h2]; exact h3, q⟩
      | bk => exact ⟨.nx, e2, S2, by rw [whileL]; simp only [h1, h2], q⟩
      | rt r => exact ⟨.rt r, e2, S2, by rw [whileL]; simp only [h1, h2], q⟩
/-! comprehensions -/
@[simp] theorem wp_mLc {vs : List Nat} {t : Tgt} {mi : M Src} {c : M Bool} {elt : M R} : Wp (mLc vs t mi c elt) e S Q ↔ Wp mi e S fun src e1 S1 => Wp (compL vs t c elt src.ws src.items) (wipeE e1 vs) S1 fun ys e2 S2 => Q (.new (.lst ys)) e2 S2 := by
  simp only [mLc, wp_bnd, wp_pur]
  rfl
@[simp] theorem wipeE_nil {e : En} : wipeE e [] = e := rfl
@[simp] theorem wipeE_cons {e : En} {v : Nat} {vs : List Nat} : wipeE e (v :: vs) = (wipeE e vs).set v none := rfl
theorem wp_compL {vs : List Nat} {t : Tgt} {c : M Bool} {elt : M R} {ws : List (R × List D)} {all : List D} {q : List D → En → Sto → Prop} (J : List D → List D → List D → Sto → Prop) (hw : ∀ S, wat ws e S = true) (h0 : J [] all [] S)
    (hs : ∀ pre d post acc S, all = pre ++ d :: post → J pre (d :: post) acc S → ∃ e1, t d e = some e1 ∧ Wp c e1 S fun b e2 S2 => if b = true then Wp elt e2 S2 fun r e3 S3 => ∃ y, r = .d y ∧ wipeE e3 vs = e ∧ J (pre ++ [d]) post (acc ++ [y]) S3 else wipeE e2 vs = e ∧ J (pre ++ [d]) post acc S2)
    (hd : ∀ acc S, J all [] acc S → q acc e S) : Wp (compL vs t c elt ws all) e S q := by
  suffices h : ∀ (post pre acc : List D) (S : Sto), all = pre ++ post → J pre post acc S → Wp (compL vs t c elt ws post) e S fun ys e2 S2 => q (acc ++ ys) e2 S2 by simpa using h all [] [] S rfl h0
  intro post
  induction post with
  | nil =>
    intro pre acc S hp hj
    have : all = pre := by simpa using hp
    subst this
    exact ⟨[], e, S, by rw [compL]; simp only [hw, if_true], by simpa using hd acc S hj⟩
  | cons d post ih =>
    intro pre acc S hp hj
    obtain ⟨e1, h1, b, e2, S2, h2, q2⟩ := hs pre d post acc S hp hj
    cases b with
    | false =>
      obtain ⟨hz, hj⟩ := q2
      obtain ⟨ys, e4, S4, h4, q4⟩ := ih (pre ++ [d]) acc S2 (by simp [hp]) hj
      exact ⟨ys, e4, S4, by rw [compL]; simp only [hw, h1, h2, hz, if_true]; exact h4, q4⟩
    | true =>
      rw [if_pos rfl] at q2
      obtain ⟨r, e3, S3, h3, y, rfl, hz, hj⟩ := q2
      obtain ⟨ys, e4, S4, h4, q4⟩ := ih (pre ++ [d]) (acc ++ [y]) S3 (by simp [hp]) hj
      exact ⟨y :: ys, e4, S4, by rw [compL]; simp only [hw, h1, h2, h3, hz, if_true, h4], by simpa using q4⟩
/-- nothing but the walk -/
theorem wp_compL_fm {vs : List Nat} {t : Tgt} {c : M Bool} {elt : M R} {ws : List (R × List D)} {all : List D} {q : List D → En → Sto → Prop} (p : D → Bool) (f : D → D) (hw : ∀ S, wat ws e S = true)
    (hs : ∀ d ∈ all, ∃ e1, t d e = some e1 ∧ Wp c e1 S fun b e2 S2 => b = p d ∧ if p d = true then Wp elt e2 S2 fun r e3 S3 => r = .d (f d) ∧ wipeE e3 vs = e ∧ S3 = S else wipeE e2 vs = e ∧ S2 = S)
    (hd : q ((all.filter p).map f) e S) : Wp (compL vs t c elt ws all) e S q := by
  refine wp_compL (fun pre post acc S' => S' = S ∧ acc = (pre.filter p).map f) hw ⟨rfl, rfl⟩ ?_ ?_
  · rintro pre d post acc S' hp ⟨rfl, rfl⟩
    obtain ⟨e1, h1, h⟩ := hs d (by simp [hp])
    refine ⟨e1, h1, h.mono ?_⟩
    rintro b e2 S2 ⟨rfl, h⟩
    cases hpd : p d with
    | true =>
      rw [hpd, if_pos rfl] at h
      rw [if_pos rfl]
      refine h.mono ?_
      rintro r e3 S3 ⟨rfl, hz, rfl⟩
      exact ⟨_, rfl, hz, rfl, by simp [hpd]⟩
    | false =>
      rw [hpd, if_neg (by decide)] at h
      rw [if_neg (by decide)]
      exact ⟨h.1, h.2, by simp [hpd]⟩
  · rintro acc S' ⟨rfl, rfl⟩
    exact hd
theorem wat_loc {i : Nat} {ds : List D} (h : e[i]? = some (some (.own (.lst ds)))) : wat [(.loc i, ds)] e S = true := wat_one (by simp [look, h])
/-! built-ins -/
@[simp] theorem g1_one {g : R → M R} {r : R} : g1 g [r] = g r := rfl
theorem wp_map {α : Type} {o : Option α} {k : α → R} {m : M R} (h : m e S = o.map fun d => (k d, e, S)) : Wp m e S Q ↔ ∃ d, o = some d ∧ Q (k d) e S := by
  unfold Wp; rw [h]; exact option_map_wp
@[simp] theorem seqOf_tup {ds : List D} : seqOf (.d (.tup ds)) e S = some ds := rfl
@[simp] theorem seqOf_lst {ds : List D} : seqOf (.d (.lst ds)) e S = some ds := rfl
@[simp] theorem seqOf_new {ds : List D} : seqOf (.new (.lst ds)) e S = some ds := rfl
@[simp] theorem seqOf_brw {ds : List D} : seqOf (.brw (.lst ds)) e S = some ds := rfl
theorem look_loc {i : Nat} {o : O} (h : e[i]? = some (some (.own o))) : look (.loc i) e S = some o := by simp [look, h]
theorem seqOf_loc {i : Nat} {ds : List D} (h : e[i]? = some (some (.own (.lst ds)))) : seqOf (.loc i) e S = some ds := by simp [seqOf, look, h]
theorem wp_len {r : R} {ds : List D} (h : seqOf r e S = some ds) : Wp (gLen r) e S Q ↔ Q (.d (.int ds.length)) e S := by
  refine (wp_map (o := seqOf r e S) (k := fun ds => .d (.int (ds.length : Nat))) ?_).trans ?_
  · cases r with
    | d x => cases x <;> first | rfl | (simp [seqOf, look] at h)
    | _ => rfl
  · simp [h]
@[simp] theorem wp_len_str {x : Str} : Wp (gLen (.d (.str x))) e S Q ↔ x.length ≤ 1000000 ∧ Q (.d (.int x.length)) e S := by
  unfold Wp gLen
  by_cases h : x.length ≤ 1000000
  · simp only [if_pos h]; exact ⟨fun ⟨_, _, _, h1, q⟩ => by cases h1; exact ⟨h, q⟩, fun q => ⟨_, _, _, rfl, q.2⟩⟩
  · simp only [if_neg h]; exact ⟨fun ⟨_, _, _, h1, q⟩ => (nomatch h1), fun q => (h q.1).elim⟩
theorem wp_len_tup {ds : List D} : Wp (gLen (.d (.tup ds))) e S Q ↔ Q (.d (.int ds.length)) e S := wp_len rfl
theorem wp_len_lst {ds : List D} : Wp (gLen (.d (.lst ds))) e S Q ↔ Q (.d (.int ds.length)) e S := wp_len rfl
theorem wp_len_new {ds : List D} : Wp (gLen (.new (.lst ds))) e S Q ↔ Q (.d (.int ds.length)) e S := wp_len rfl
theorem wp_len_brw {ds : List D} : Wp (gLen (.brw (.lst ds))) e S Q ↔ Q (.d (.int ds.length)) e S := wp_len rfl
theorem wp_tuple {r : R} : Wp (gTuple r) e S Q ↔ ∃ ds, seqOf r e S = some ds ∧ Q (.d (.tup ds)) e S := wp_map (k := fun ds => .d (.tup ds)) rfl
theorem wp_list {r : R} : Wp (gList r) e S Q ↔ ∃ ds, seqOf r e S = some ds ∧ Q (.new (.lst ds)) e S := wp_map (k := fun ds => .new (.lst ds)) rfl
@[simp] theorem wp_int_int {i : Int} : Wp (gInt (.d (.int i))) e S Q ↔ Q (.d (.int i)) e S := wp_some rfl
@[simp] theorem wp_int_bl {b : Bool} : Wp (gInt (.d (.bl b))) e S Q ↔ Q (.d (.int (if b then 1 else 0))) e S := wp_some rfl
@[simp] theorem wp_neg {i : Int} : Wp (gNeg (.d (.int i))) e S Q ↔ Q (.d (.int (-i))) e S := wp_pur
theorem wp_bls {f : List Bool → Bool} {r : R} {ds : List D} {bs : List Bool} (h : lstOf r e S = some ds) (hb : blsOf ds = some bs) : Wp (gBls f r) e S Q ↔ Q (.d (.bl (f bs))) e S := wp_some (by simp [gBls, h, hb])
theorem wp_dict {r : R} {ds : List D} {kvs : List (Key × D)} (h : lstOf r e S = some ds) (hk : prsOf ds = some kvs) : Wp (gDict r) e S Q ↔ Q (.new (.dct (mergeD [] kvs))) e S := wp_some (by simp [gDict, h, hk])
theorem wp_sortedK {r : R} {kvs : List (Key × D)} {ks : List Str} (h : look r e S = some (.dct kvs)) (hk : keysS kvs = some ks) (hl : ks.length < 64) : Wp (gSortedK r) e S Q ↔ Q (.new (.lst ((srtS ks).map D.str))) e S := wp_some (by simp [gSortedK, h, hk, hl])
/-! operators -/
@[simp] theorem wp_add_int {i j : Int} : Wp (gAdd (.d (.int i)) (.d (.int j))) e S Q ↔ Q (.d (.int (i + j))) e S := wp_some rfl
@[simp] theorem wp_add_str {x y : Str} : Wp (gAdd (.d (.str x)) (.d (.str y))) e S Q ↔ x.length + y.length ≤ 1000000 ∧ Q (.d (.str (x ++ y))) e S := by
  unfold Wp gAdd
  by_cases h : x.length + y.length ≤ 1000000
  · simp only [if_pos h]; exact ⟨fun ⟨_, _, _, h1, q⟩ => by cases h1; exact ⟨h, q⟩, fun q => ⟨_, _, _, rfl, q.2⟩⟩
  · simp only [if_neg h]; exact ⟨fun ⟨_, _, _, h1, q⟩ => (nomatch h1), fun q => (h q.1).elim⟩
theorem wp_add_lst {rx ry : R} {xs ys : List D} (h1 : look rx e S = some (.lst xs)) (h2 : look ry e S = some (.lst ys)) (n1 : notLst rx = true) (n2 : notLst ry = true) (hl : xs.length + ys.length ≤ 1000000) : Wp (gAdd rx ry) e S Q ↔ Q (.new (.lst (xs ++ ys))) e S := by
  refine wp_some ?_
  have : gAdd rx ry e S = (match look rx e S, look ry e S with
    | some (.lst xs), some (.lst ys) => if notLst rx && notLst ry && decide (xs.length + ys.length ≤ 1000000) then some (R.new (.lst (xs ++ ys)), e, S) else none
    | _, _ => none) := by
    cases rx with
    | d x => cases x <;> first | (simp [look] at h1; done) | rfl
    | _ => rfl
  rw [this, h1, h2]
  simp [n1, n2, hl]
theorem deq_flat {n : Nat} {x y : D} (fx : flat x = true) : deq n x y = some (eqS x y) := deq_unlike (by cases x <;> first | (cases y <;> rfl) | cases fx)
theorem deq_flatR {n : Nat} {x y : D} (fy : flat y = true) : deq n x y = some (eqS x y) := deq_unlike (by cases y <;> first | (cases x <;> rfl) | cases fy)
theorem datB_flat {x : D} (fx : flat x = true) : datB x = true := by cases x <;> first | rfl | cases fx
theorem isDic_flat {x : D} (fx : flat x = true) : isDic x = false := by cases x <;> first | rfl | cases fx
theorem dat_d {x : D} (h : datB x = true) : dat (.d x) e S = some x := by cases x <;> first | rfl | cases h
/-- x == y, in general -/
theorem wp_eqG {neg : Bool} {rx ry : R} : Wp (gEq neg rx ry) e S Q ↔ ∃ x, dat rx e S = some x ∧ ∃ y, dat ry e S = some y ∧ datB x = true ∧ datB y = true ∧ neOk neg x y = true ∧ ∃ b, deq 60 x y = some b ∧ Q (.d (.bl (b != neg))) e S := by
  constructor
  · rintro ⟨a, e', S', h, q⟩
    unfold gEq at h
    split at h
    · rename_i x y h1 h2
      split at h
      · rename_i hc
        simp only [Bool.and_eq_true] at hc
        obtain ⟨b, hb, hz⟩ := Option.map_eq_some_iff.mp h
        cases hz
        exact ⟨x, h1, y, h2, hc.1.1, hc.1.2, hc.2, b, hb, q⟩
      · cases h
    · cases h
  · rintro ⟨x, h1, y, h2, h3, h4, h5, b, hb, q⟩
    exact ⟨_, _, _, by unfold gEq; simp only [h1, h2, h3, h4, h5, hb]; rfl, q⟩
theorem wp_eq {neg : Bool} {x y : D} (fx : flat x = true) (fy : flat y = true) : Wp (gEq neg (.d x) (.d y)) e S Q ↔ Q (.d (.bl (eqS x y != neg))) e S := by
  refine wp_some ?_
  unfold gEq
  rw [dat_d (datB_flat fx), dat_d (datB_flat fy)]
  simp [datB_flat fx, datB_flat fy, neOk, isDic_flat fx, isDic_flat fy, deq_flat fx]
@[simp] theorem wp_eq_int {neg : Bool} {x y : Int} : Wp (gEq neg (.d (.int x)) (.d (.int y))) e S Q ↔ Q (.d (.bl ((x == y) != neg))) e S := wp_eq rfl rfl
@[simp] theorem wp_eq_str {neg : Bool} {x y : Str} : Wp (gEq neg (.d (.str x)) (.d (.str y))) e S Q ↔ Q (.d (.bl ((x == y) != neg))) e S := wp_eq rfl rfl
@[simp] theorem wp_eq_bl {neg : Bool} {x y : Bool} : Wp (gEq neg (.d (.bl x)) (.d (.bl y))) e S Q ↔ Q (.d (.bl ((x == y) != neg))) e S := wp_eq rfl rfl
def inD (x : D) (ds : List D) : Bool := ds.any fun y => eqS y x
theorem inF_flat {x : D} : ∀ {ds : List D}, ds.all flat = true → inF x ds = some (inD x ds)
  | [], _ => rfl
  | d :: ds, h => by
    rw [List.all_cons, Bool.and_eq_true] at h
    unfold inF
    rw [deq_flat h.1, inF_flat h.2]
    rfl
/-- x in r, in general -/
theorem wp_inG {neg : Bool} {x : D} {r : R} (hr : ∀ z, r ≠ .d (.str z)) : Wp (gIn neg (.d x) r) e S Q ↔ ∃ ds, seqOf r e S = some ds ∧ datB x = true ∧ datsB ds = true ∧ ∃ b, inF x ds = some b ∧ Q (.d (.bl (b != neg))) e S := by
  have : gIn neg (.d x) r e S = (match seqOf r e S with
    | some ds => if datB x && datsB ds then (inF x ds).map fun b => (R.d (.bl (b != neg)), e, S) else none
    | none => none) := by
    unfold gIn
    split
    · rename_i z _ _ ; exact (hr _ rfl).elim
    · rename_i h1 _; cases h1; rfl
    · rename_i h2 h3; first | exact (h2 _ rfl).elim | exact (h3 _ rfl).elim | exact (h2 _ _ rfl rfl).elim | exact (h3 _ _ rfl rfl).elim
  unfold Wp
  rw [this]
  constructor
  · rintro ⟨z, e', S', h, q⟩
    split at h
    · split at h
      · rename_i hf
        rw [Bool.and_eq_true] at hf
        obtain ⟨b, hb, hz⟩ := Option.map_eq_some_iff.mp h
        cases hz
        exact ⟨_, by assumption, hf.1, hf.2, b, hb, q⟩
      · cases h
    · cases h
  · rintro ⟨ds, h1, h2, h3, b, hb, q⟩
    exact ⟨_, _, _, by rw [h1]; simp [h2, h3, hb], q⟩
@[simp] theorem dSub_int {i j : Int} : dSub (.int i) (.int j) = some (.int (i - j)) := rfl
theorem dMod_int {i j : Int} (h : 0 < j) : dMod (.int i) (.int j) = some (.int (i % j)) := if_pos h
theorem dDiv_int {i j : Int} (h : 0 < j ∧ j < 1073741824) : dDiv (.int i) (.int j) = some (.int (i / j)) := if_pos h
@[simp] theorem dLt_int {i j : Int} : dLt (.int i) (.int j) = some (.bl (decide (i < j))) := rfl
@[simp] theorem dLe_int {i j : Int} : dLe (.int i) (.int j) = some (.bl (decide (i ≤ j))) := rfl
theorem dPow_int {i j : Int} (h : 0 ≤ j ∧ j ≤ 1000 ∧ i.natAbs < 1000) : dPow (.int i) (.int j) = some (.int (i ^ j.toNat)) := if_pos h
theorem dMul_int {i j : Int} (h : (small i || small j) = true) : dMul (.int i) (.int j) = some (.int (i * j)) := if_pos h
/-! methods -/
@[simp] theorem wp_mMth {T : String} {g : R → List R → M R} : Wp (mMth T g ma ms) e S Q ↔ Wp ma e S fun r e1 S1 => isTy T r e1 S1 = true ∧ Wp ms e1 S1 fun rs e2 S2 => Wp (g r rs) e2 S2 Q := by
  simp only [mMth, wp_bnd]
  constructor
  · exact fun w => w.mono fun r e1 S1 ⟨x, e2, S2, h, q⟩ => by
      obtain ⟨h1, h2⟩ := chk_eq h
      cases h2
      exact ⟨h1, q⟩
  · exact fun w => w.mono fun r e1 S1 ⟨h, q⟩ => ⟨r, e1, S1, by unfold chk; rw [if_pos h], q⟩
@[simp] theorem isTy_str {x : Str} : isTy "str" (.d (.str x)) e S = true := rfl
theorem isTy_list {r : R} {ds : List D} (h : look r e S = some (.lst ds)) : isTy "list" r e S = true := by
  unfold isTy
  rw [if_neg (by decide), if_pos rfl, h]
theorem wp_wrL {r : R} {f : List D → Option (R × List D)} {ds es : List D} {x : R} (h : look r e S = some (.lst ds)) (hw : isW r = true) (hf : f ds = some (x, es)) : Wp (wrL r f) e S Q ↔ Q x (putE r (.lst es) e) (putS r (.lst es) S) := wp_some (by unfold wrL; simp [h, hw, hf])
theorem wp_append {r : R} {ds : List D} {x : D} (h : look r e S = some (.lst ds)) (hw : isW r = true) (hl : ds.length < 1000000) : Wp (gAppend r [.d x]) e S Q ↔ Q (.d .non) (putE r (.lst (ds ++ [x])) e) (putS r (.lst (ds ++ [x])) S) := wp_wrL h hw (by simp [hl])
theorem wp_pop {r : R} {ds : List D} {x : D} (h : look r e S = some (.lst (ds ++ [x]))) (hw : isW r = true) : Wp (gPop r []) e S Q ↔ Q (.d x) (putE r (.lst ds) e) (putS r (.lst ds) S) := wp_wrL h hw (by simp)
theorem wp_pop0 {r : R} {ds : List D} {x : D} (h : look r e S = some (.lst (x :: ds))) (hw : isW r = true) : Wp (gPop r [.d (.int 0)]) e S Q ↔ Q (.d x) (putE r (.lst ds) e) (putS r (.lst ds) S) := by
  refine wp_wrL h hw ?_
  have : seqIndex? 0 (x :: ds).length = some 0 := by simp [seqIndex?]
  rw [if_pos (by decide), this]
  rfl
theorem wp_index {r : R} {ds : List D} {x : D} {j : Nat} (h : lstOf r e S = some ds) (fx : flat x = true) (fs : ds.all flat = true) (hj : idxD x ds = some j) : Wp (gIndex r [.d x]) e S Q ↔ Q (.d (.int j)) e S := wp_some (by unfold gIndex; simp only [h, Option.bind_some, fx, fs, hj]; rfl)
theorem wp_join {a : Str} {r : R} {ds : List D} {ys : List Str} (h : seqOf r e S = some ds) (hs : strsOf ds = some ys) (hl : (ys.map (·.length)).sum + ys.length * a.length ≤ 16777216) : Wp (gJoin (.d (.str a)) [r]) e S Q ↔ Q (.d (.str (Txt.join a ys))) e S := wp_some (by unfold gJoin; simp only [h, hs, Option.bind_some, if_pos hl])
@[simp] theorem putE_loc {i : Nat} {o : O} : putE (.loc i) o e = e.set i (some (.own o)) := rfl
@[simp] theorem putE_ref {n : Nat} {o : O} : putE (.d (.ref n)) o e = e := rfl
@[simp] theorem putS_loc {i : Nat} {o : O} : putS (.loc i) o S = S := rfl
@[simp] theorem putS_ref {n : Nat} {o : O} : putS (.d (.ref n)) o S = S.set n o := rfl
@[simp] theorem isW_loc {i : Nat} : isW (.loc i) = true := rfl
@[simp] theorem isW_ref {i : Nat} : isW (.d (.ref i)) = true := rfl
@[simp] theorem look_new {o : O} : look (.new o) e S = some o := rfl
@[simp] theorem look_brw {o : O} : look (.brw o) e S = some o := rfl
@[simp] theorem look_dl {ds : List D} : look (.d (.lst ds)) e S = some (.lst ds) := rfl
@[simp] theorem look_ref {n : Nat} : look (.d (.ref n)) e S = S[n]? := rfl
theorem lstOf_of {r : R} {ds : List D} (h : look r e S = some (.lst ds)) : lstOf r e S = some ds := by unfold lstOf; rw [h]
/-! slices -/
@[simp] theorem wp_mSl {l h : M (Option Int)} : Wp (mSl ma l h) e S Q ↔ Wp ma e S fun x e1 S1 => Wp l e1 S1 fun lo e2 S2 => Wp h e2 S2 fun hi e3 S3 => Wp (gSl x lo hi) e3 S3 Q := by simp [mSl]
@[simp] theorem wp_asI {i : Int} {q : Option Int → En → Sto → Prop} : Wp (asI (.d (.int i))) e S q ↔ q (some i) e S := wp_pur
@[simp] theorem wp_sl_tup {ds : List D} {lo hi : Option Int} : Wp (gSl (.d (.tup ds)) lo hi) e S Q ↔ Q (.d (.tup (cutD ds lo hi))) e S := wp_some rfl
theorem wp_sl_lst {r : R} {ds : List D} {lo hi : Option Int} (h : look r e S = some (.lst ds)) : Wp (gSl r lo hi) e S Q ↔ Q (.new (.lst (cutD ds lo hi))) e S := by
  refine wp_some ?_
  have : gSl r lo hi e S = (match look r e S with
    | some (.lst ds) => some (R.new (.lst (cutD ds lo hi)), e, S)
    | _ => none) := by
    cases r with
    | d x => cases x <;> first | (simp [look] at h; done) | rfl
    | _ => rfl
  rw [this, h]
theorem cutD_to {ds : List D} {n : Nat} : cutD ds none (some n) = ds.take n := by
  unfold cutD
  rw [HT.sIx_none, HT.sIx_nat]
  simp only [List.drop_zero, Nat.sub_zero]
  rw [List.take_eq_take_iff]
  omega
@[simp] theorem wp_mStar {i j : Nat} : Wp (mStar i j ma) e S F ↔ Wp ma e S fun r e1 S1 => ∃ d ds, r = .d (.tup (d :: ds)) ∧ i < e1.length ∧ j < e1.length ∧ F .nx ((e1.set i (some (.d d))).set j (some (.own (.lst ds)))) S1 := by
  simp only [mStar, wp_bnd]
  constructor
  · exact fun w => w.mono fun r e1 S1 ⟨fl, e2, S2, h, q⟩ => by
      obtain ⟨d, ds, rfl, h1, h2, h3⟩ := starE_eq h
      cases h3
      exact ⟨d, ds, rfl, h1, h2, q⟩
  · exact fun w => w.mono fun r e1 S1 ⟨d, ds, h, h1, h2, q⟩ => by
      subst h
      exact ⟨_, _, _, by unfold starE; simp [h1, h2], q⟩
theorem wp_mIsi {c : Cl} : Wp (mIsi c ma) e S Q ↔ Wp ma e S fun r e1 S1 => ∃ k, kd r e1 S1 = some k ∧ Q (.d (.bl (isK k c))) e1 S1 := by
  simp only [mIsi, wp_bnd]
  constructor
  · exact fun w => w.mono fun r e1 S1 q => option_map_wp.mp q
  · exact fun w => w.mono fun r e1 S1 q => option_map_wp.mpr q
end
end G

set_option Elab.async false
set_option linter.all false
set_option maxRecDepth 1000000
set_option maxHeartbeats 2000000
/-! G15: what a mirror comes to: by what objects hold. -/
namespace G
variable [Wld]
open PySem PySem.Spec PyProof.Rows L2
def ownQ : Option (Option Sl) → Option O
  | some (some (.own o)) => some o
  | _ => none
theorem ownQ_own {o : O} : ownQ (some (some (.own o))) = some o := rfl
def seqL : Option O → Option (List D)
  | some (.lst ds) => some ds
  | _ => none
theorem seqL_lst {ds : List D} : seqL (some (.lst ds)) = some ds := rfl
def isL : Option O → Bool
  | some (.lst _) => true
  | _ => false
theorem isL_lst {ds : List D} : isL (some (.lst ds)) = true := rfl
def ixO : Option O → D → Option D
  | some (.lst ds), .int i => atD ds i
  | some (.dct kvs), y => (keyOf y).bind (valD kvs)
  | _, _ => none
theorem ixO_lst {ds : List D} {i : Int} : ixO (some (.lst ds)) (.int i) = atD ds i := rfl
theorem ixO_dct_int {kvs : List (Key × D)} {i : Int} : ixO (some (.dct kvs)) (.int i) = valD kvs (.inl i) := rfl
theorem ixO_dct_str {kvs : List (Key × D)} {x : Str} : ixO (some (.dct kvs)) (.str x) = valD kvs (.inr x) := rfl
theorem lock_lst {ds : List D} : lock (.lst ds) = some (.lst ds) := rfl
section
variable {e : En} {S : Sto} {Q : R → En → Sto → Prop} {F : Fl → En → Sto → Prop} {r : R}
theorem gtName_eq {i : Nat} {d : D} (h : i < e.length) : gtName i d e = some (e.set i (some (.d d))) := if_pos h
theorem gtCons_eq {t : Tgt} {ts : Tgts} {d : D} {ds : List D} : gtCons t ts (d :: ds) e = (t d e).bind fun e1 => ts ds e1 := rfl
theorem gtNil_eq : gtNil [] e = some e := rfl
theorem gtTup_eq {n : Nat} {ts : Tgts} {ds : List D} : gtTup n ts (.tup ds) e = if ds.length = n then ts ds e else none := rfl
theorem look_locE {i : Nat} : look (.loc i) e S = ownQ e[i]? := by
  simp only [look]
  cases e[i]? with
  | none => rfl
  | some s => cases s with
    | none => rfl
    | some s => cases s <;> rfl
theorem look_locC {i : Nat} {a : Option Sl} : look (.loc i) (a :: e) S = ownQ (a :: e)[i]? := look_locE
theorem seqOf_locE {i : Nat} : seqOf (.loc i) e S = seqL (look (.loc i) e S) := by
  unfold seqOf seqL
  show (match look (.loc i) e S with | some (.lst ds) => some ds | _ => none) = _
  cases look (.loc i) e S with
  | none => rfl
  | some o => cases o <;> rfl
theorem seqOf_refE {n : Nat} : seqOf (.d (.ref n)) e S = seqL (S[n]?) := by
  unfold seqOf seqL
  show (match S[n]? with | some (.lst ds) => some ds | _ => none) = _
  cases S[n]? with
  | none => rfl
  | some o => cases o <;> rfl
theorem lstOf_E : lstOf r e S = seqL (look r e S) := by
  unfold lstOf seqL
  cases look r e S with
  | none => rfl
  | some o => cases o <;> rfl
theorem isTy_listE : isTy "list" r e S = isL (look r e S) := by
  unfold isTy
  rw [if_neg (by decide), if_pos rfl]
  cases look r e S with
  | none => rfl
  | some o => cases o <;> rfl
theorem wp_toRt_locE {i : Nat} : Wp (toRt (.loc i)) e S F ↔ ∃ o, look (.loc i) e S = some o ∧ F (.rt (.new o)) e S := by
  constructor
  · rintro ⟨a, e', S', h, q⟩
    obtain ⟨o, h1, h2⟩ := toRt_loc h
    cases h2
    exact ⟨o, look_loc h1, q⟩
  · rintro ⟨o, h, q⟩
    rw [look_locE] at h
    have : e[i]? = some (some (.own o)) := by
      cases h1 : e[i]? with
      | none => rw [h1] at h; cases h
      | some s => cases s with
        | none => rw [h1] at h; cases h
        | some s => cases s <;> rw [h1] at h <;> cases h; rfl
    exact (wp_toRt_loc this).mpr q
theorem own_of {i : Nat} {o : O} (h : look (.loc i) e S = some o) : e[i]? = some (some (.own o)) := by
  rw [look_locE] at h
  cases h1 : e[i]? with
  | none => rw [h1] at h; cases h
  | some s => cases s with
    | none => rw [h1] at h; cases h
    | some s => cases s <;> rw [h1] at h <;> cases h; rfl
theorem toArg_locE {i : Nat} : toArg (.loc i) e = (look (.loc i) e []).map Sl.brw := by
  rw [look_locE]
  simp only [toArg]
  cases e[i]? with
  | none => rfl
  | some s => cases s with
    | none => rfl
    | some s => cases s <;> rfl
theorem wp_toD_locE {i : Nat} : Wp (toD (.loc i)) e S Q ↔ ∃ o, look (.loc i) e S = some o ∧ ∃ d, lock o = some d ∧ Q (.d d) (e.set i (some (.d d))) S := by
  constructor
  · rintro ⟨a, e', S', h, q⟩
    unfold toD at h
    dsimp only at h
    split at h
    · rename_i o ho
      obtain ⟨d, h1, h2⟩ := Option.map_eq_some_iff.mp h
      cases h2
      exact ⟨o, look_loc ho, d, h1, q⟩
    · cases h
  · rintro ⟨o, h, d, hl, q⟩
    refine ⟨_, _, _, ?_, q⟩
    unfold toD
    simp only [own_of h, hl, Option.map_some]
theorem wp_src_locE {i : Nat} {q : Src → En → Sto → Prop} : Wp (srcOf (.loc i)) e S q ↔ ∃ ds, look (.loc i) e S = some (.lst ds) ∧ q ⟨ds, [(.loc i, ds)]⟩ e S := by
  constructor
  · rintro ⟨a, e', S', h, k⟩
    unfold srcOf at h
    dsimp only at h
    split at h
    · rename_i h2; cases h; exact ⟨_, h2, k⟩
    · cases h
  · rintro ⟨ds, h, k⟩
    exact (wp_src_loc (own_of h)).mpr k
theorem wp_ixE (h1 : ∀ ds, r ≠ .d (.tup ds)) (h2 : ∀ s, r ≠ .d (.str s)) {y : D} : Wp (gIx r (.d y)) e S Q ↔ ∃ d, ixO (look r e S) y = some d ∧ Q (.d d) e S := by
  refine wp_map (k := fun d => R.d d) ?_
  have hq : gIx r (.d y) e S = (match look r e S with
    | some (.lst ds) => (match y with
      | .int i => (atD ds i).map fun d => (R.d d, e, S)
      | _ => none)
    | some (.dct kvs) => (keyOf y).bind fun k => (valD kvs k).map fun d => (R.d d, e, S)
    | _ => none) := by
    cases r with
    | d x => cases x <;> first | exact (h1 _ rfl).elim | exact (h2 _ rfl).elim | rfl
    | _ => rfl
  rw [hq]
  cases look r e S with
  | none => rfl
  | some o => cases o with
    | lst ds => cases y <;> rfl
    | dct kvs =>
      simp only [ixO]
      cases keyOf y <;> rfl
    | kd kvs => cases y <;> rfl
theorem wp_ix_locC {i : Nat} {y : D} : Wp (gIx (.loc i) (.d y)) e S Q ↔ ∃ d, ixO (look (.loc i) e S) y = some d ∧ Q (.d d) e S := wp_ixE (by intro _ h; cases h) (by intro _ h; cases h)
theorem wp_ix_refC {i : Nat} {y : D} : Wp (gIx (.d (.ref i)) (.d y)) e S Q ↔ ∃ d, ixO S[i]? y = some d ∧ Q (.d d) e S := wp_ixE (by intro _ h; cases h) (by intro _ h; cases h)
theorem wp_ix_newC {o : O} {y : D} : Wp (gIx (.new o) (.d y)) e S Q ↔ ∃ d, ixO (some o) y = some d ∧ Q (.d d) e S := wp_ixE (by intro _ h; cases h) (by intro _ h; cases h)
theorem wp_ix_brwC {o : O} {y : D} : Wp (gIx (.brw o) (.d y)) e S Q ↔ ∃ d, ixO (some o) y = some d ∧ Q (.d d) e S := wp_ixE (by intro _ h; cases h) (by intro _ h; cases h)
theorem wp_slE (h1 : ∀ ds, r ≠ .d (.tup ds)) (h2 : ∀ s, r ≠ .d (.str s)) {lo hi : Option Int} : Wp (gSl r lo hi) e S Q ↔ ∃ ds, seqL (look r e S) = some ds ∧ Q (.new (.lst (cutD ds lo hi))) e S := by
  refine wp_map (k := fun ds => R.new (.lst (cutD ds lo hi))) ?_
  have : gSl r lo hi e S = (match look r e S with
    | some (.lst ds) => some (R.new (.lst (cutD ds lo hi)), e, S)
    | _ => none) := by
    cases r with
    | d x => cases x <;> first | exact (h1 _ rfl).elim | exact (h2 _ rfl).elim | rfl
    | _ => rfl
  rw [this]
  cases look r e S with
  | none => rfl
  | some o => cases o <;> rfl
theorem wp_sl_locC {i : Nat} {lo hi : Option Int} : Wp (gSl (.loc i) lo hi) e S Q ↔ ∃ ds, seqL (look (.loc i) e S) = some ds ∧ Q (.new (.lst (cutD ds lo hi))) e S := wp_slE (by intro _ h; cases h) (by intro _ h; cases h)
theorem wp_sl_refC {i : Nat} {lo hi : Option Int} : Wp (gSl (.d (.ref i)) lo hi) e S Q ↔ ∃ ds, seqL S[i]? = some ds ∧ Q (.new (.lst (cutD ds lo hi))) e S := wp_slE (by intro _ h; cases h) (by intro _ h; cases h)
theorem wp_sl_newC {o : O} {lo hi : Option Int} : Wp (gSl (.new o) lo hi) e S Q ↔ ∃ ds, seqL (some o) = some ds ∧ Q (.new (.lst (cutD ds lo hi))) e S := wp_slE (by intro _ h; cases h) (by intro _ h; cases h)
theorem wp_sl_brwC {o : O} {lo hi : Option Int} : Wp (gSl (.brw o) lo hi) e S Q ↔ ∃ ds, seqL (some o) = some ds ∧ Q (.new (.lst (cutD ds lo hi))) e S := wp_slE (by intro _ h; cases h) (by intro _ h; cases h)
theorem wp_sl_dlC {ds : List D} {lo hi : Option Int} : Wp (gSl (.d (.lst ds)) lo hi) e S Q ↔ Q (.new (.lst (cutD ds lo hi))) e S := wp_sl_lst rfl
theorem wp_len_E (h2 : ∀ s, r ≠ .d (.str s)) : Wp (gLen r) e S Q ↔ ∃ ds, seqOf r e S = some ds ∧ Q (.d (.int ds.length)) e S := by
  refine wp_map (k := fun ds : List D => R.d (.int (ds.length : Nat))) ?_
  cases r with
  | d x => cases x <;> first | exact (h2 _ rfl).elim | rfl
  | _ => rfl
theorem wp_len_locC {i : Nat} : Wp (gLen (.loc i)) e S Q ↔ ∃ ds, seqOf (.loc i) e S = some ds ∧ Q (.d (.int ds.length)) e S := wp_len_E (by intro _ h; cases h)
theorem wp_len_refC {i : Nat} : Wp (gLen (.d (.ref i))) e S Q ↔ ∃ ds, seqOf (.d (.ref i)) e S = some ds ∧ Q (.d (.int ds.length)) e S := wp_len_E (by intro _ h; cases h)
theorem wp_blsE {f : List Bool → Bool} : Wp (gBls f r) e S Q ↔ ∃ ds, lstOf r e S = some ds ∧ ∃ bs, blsOf ds = some bs ∧ Q (.d (.bl (f bs))) e S := by
  constructor
  · rintro ⟨a, e', S', h, q⟩
    obtain ⟨ds, h1, h2⟩ := Option.bind_eq_some_iff.mp h
    obtain ⟨bs, h3, h4⟩ := Option.map_eq_some_iff.mp h2
    cases h4
    exact ⟨ds, h1, bs, h3, q⟩
  · rintro ⟨ds, h1, bs, h2, q⟩
    exact (wp_bls h1 h2).mpr q
theorem wp_dictE : Wp (gDict r) e S Q ↔ ∃ ds, lstOf r e S = some ds ∧ ∃ kvs, prsOf ds = some kvs ∧ Q (.new (.dct (mergeD [] kvs))) e S := by
  constructor
  · rintro ⟨a, e', S', h, q⟩
    obtain ⟨ds, h1, h2⟩ := Option.bind_eq_some_iff.mp h
    obtain ⟨bs, h3, h4⟩ := Option.map_eq_some_iff.mp h2
    cases h4
    exact ⟨ds, h1, bs, h3, q⟩
  · rintro ⟨ds, h1, bs, h2, q⟩
    exact (wp_dict h1 h2).mpr q
theorem wp_appendE {x : D} : Wp (gAppend r [.d x]) e S Q ↔ ∃ ds, look r e S = some (.lst ds) ∧ isW r = true ∧ ds.length < 1000000 ∧ Q (.d .non) (putE r (.lst (ds ++ [x])) e) (putS r (.lst (ds ++ [x])) S) := by
  constructor
  · rintro ⟨a, e', S', h, q⟩
    obtain ⟨ds, y, es, h1, h2, h3, h4⟩ := wrL_eq (show wrL r _ e S = _ from h)
    cases h4
    split at h3
    · cases h3; exact ⟨ds, h1, h2, by assumption, q⟩
    · cases h3
  · rintro ⟨ds, h1, h2, h3, q⟩
    exact (wp_append h1 h2 h3).mpr q
theorem wp_popE : Wp (gPop r []) e S Q ↔ ∃ ds, look r e S = some (.lst ds) ∧ isW r = true ∧ ∃ d, ds[ds.length - 1]? = some d ∧ Q (.d d) (putE r (.lst ds.dropLast) e) (putS r (.lst ds.dropLast) S) := by
  constructor
  · rintro ⟨a, e', S', h, q⟩
    obtain ⟨ds, y, es, h1, h2, h3, h4⟩ := wrL_eq (show wrL r _ e S = _ from h)
    cases h4
    obtain ⟨d, h5, h6⟩ := Option.map_eq_some_iff.mp h3
    cases h6
    exact ⟨ds, h1, h2, d, h5, q⟩
  · rintro ⟨ds, h1, h2, d, h3, q⟩
    exact (wp_wrL h1 h2 (by rw [h3]; rfl)).mpr q
theorem wp_setItE {k : Int} {x : D} : Wp (setIt r (.d (.int k)) x) e S F ↔ ∃ ds, look r e S = some (.lst ds) ∧ isW r = true ∧ ∃ j, ixN ds.length k = some j ∧ F .nx (putE r (.lst (ds.set j x)) e) (putS r (.lst (ds.set j x)) S) := by
  constructor
  · rintro ⟨a, e', S', h, q⟩
    obtain ⟨ds, k', j, h1, h2, h3, h4, h5⟩ := setIt_eq h
    cases h2; cases h5
    exact ⟨ds, h1, h3, j, h4, q⟩
  · rintro ⟨ds, h1, h2, j, h3, q⟩
    exact (wp_setIt h1 h2 h3).mpr q
theorem wp_indexE {x : D} : Wp (gIndex r [.d x]) e S Q ↔ ∃ ds, lstOf r e S = some ds ∧ flat x = true ∧ ds.all flat = true ∧ ∃ j, idxD x ds = some j ∧ Q (.d (.int (j : Nat))) e S := by
  constructor
  · rintro ⟨a, e', S', h, q⟩
    obtain ⟨ds, h1, h2⟩ := Option.bind_eq_some_iff.mp (show (lstOf r e S).bind _ = _ from h)
    split at h2
    · rename_i hf
      rw [Bool.and_eq_true] at hf
      obtain ⟨j, h3, h4⟩ := Option.map_eq_some_iff.mp h2
      cases h4
      exact ⟨ds, h1, hf.1, hf.2, j, h3, q⟩
    · cases h2
  · rintro ⟨ds, h1, h2, h3, j, h4, q⟩
    exact (wp_index h1 h2 h3 h4).mpr q
theorem wp_joinE {a : Str} : Wp (gJoin (.d (.str a)) [r]) e S Q ↔ ∃ ds, seqOf r e S = some ds ∧ ∃ ys, strsOf ds = some ys ∧ (ys.map (·.length)).sum + ys.length * a.length ≤ 16777216 ∧ Q (.d (.str (Txt.join a ys))) e S := by
  constructor
  · rintro ⟨z, e', S', h, q⟩
    obtain ⟨ds, h1, h2⟩ := Option.bind_eq_some_iff.mp (show (seqOf r e S).bind _ = _ from h)
    obtain ⟨ys, h3, h4⟩ := Option.bind_eq_some_iff.mp h2
    split at h4
    · cases h4; exact ⟨ds, h1, ys, h3, by assumption, q⟩
    · cases h4
  · rintro ⟨ds, h1, ys, h2, h3, q⟩
    exact (wp_join h1 h2 h3).mpr q
theorem wp_sortedKE : Wp (gSortedK r) e S Q ↔ ∃ kvs, look r e S = some (.dct kvs) ∧ ∃ ks, keysS kvs = some ks ∧ ks.length < 64 ∧ Q (.new (.lst ((srtS ks).map D.str))) e S := by
  constructor
  · rintro ⟨z, e', S', h, q⟩
    unfold gSortedK at h
    split at h
    · obtain ⟨ks, h3, h4⟩ := Option.bind_eq_some_iff.mp h
      split at h4
      · cases h4; exact ⟨_, by assumption, ks, h3, by assumption, q⟩
      · cases h4
    · cases h
  · rintro ⟨kvs, h1, ks, h2, h3, q⟩
    exact (wp_sortedK h1 h2 h3).mpr q
theorem wp_in_tupC {neg : Bool} {x : D} {ds : List D} : Wp (gIn neg (.d x) (.d (.tup ds))) e S Q ↔ datB x = true ∧ datsB ds = true ∧ ∃ b, inF x ds = some b ∧ Q (.d (.bl (b != neg))) e S := by
  rw [wp_inG (by intro _ h; cases h)]
  simp only [seqOf_tup, Option.some.injEq, exists_eq_left']
theorem wp_in_locC {neg : Bool} {x : D} {i : Nat} : Wp (gIn neg (.d x) (.loc i)) e S Q ↔ ∃ ds, seqOf (.loc i) e S = some ds ∧ datB x = true ∧ datsB ds = true ∧ ∃ b, inF x ds = some b ∧ Q (.d (.bl (b != neg))) e S := wp_inG (by intro _ h; cases h)
theorem wp_in_newC {neg : Bool} {x : D} {ds : List D} : Wp (gIn neg (.d x) (.new (.lst ds))) e S Q ↔ datB x = true ∧ datsB ds = true ∧ ∃ b, inF x ds = some b ∧ Q (.d (.bl (b != neg))) e S := by
  rw [wp_inG (by intro _ h; cases h)]
  simp only [seqOf_new, Option.some.injEq, exists_eq_left']
theorem wp_in_brwC {neg : Bool} {x : D} {ds : List D} : Wp (gIn neg (.d x) (.brw (.lst ds))) e S Q ↔ datB x = true ∧ datsB ds = true ∧ ∃ b, inF x ds = some b ∧ Q (.d (.bl (b != neg))) e S := by
  rw [wp_inG (by intro _ h; cases h)]
  simp only [seqOf_brw, Option.some.injEq, exists_eq_left']
theorem wp_in_dlC {neg : Bool} {x : D} {ds : List D} : Wp (gIn neg (.d x) (.d (.lst ds))) e S Q ↔ datB x = true ∧ datsB ds = true ∧ ∃ b, inF x ds = some b ∧ Q (.d (.bl (b != neg))) e S := by
  rw [wp_inG (by intro _ h; cases h)]
  simp only [seqOf_lst, Option.some.injEq, exists_eq_left']
theorem datB_non : datB .non = true := rfl
theorem datB_bl {b : Bool} : datB (.bl b) = true := rfl
theorem datB_int {i : Int} : datB (.int i) = true := rfl
theorem datB_str {x : Str} : datB (.str x) = true := rfl
theorem datB_tup {ds : List D} : datB (.tup ds) = datsB ds := by simp only [datB]
theorem datB_lst {ds : List D} : datB (.lst ds) = datsB ds := by simp only [datB]
theorem datB_dic {ks : List Key} {ds : List D} : datB (.dic ks ds) = datsB ds := by simp only [datB]
theorem datsB_nil : datsB [] = true := rfl
theorem datsB_cons {d : D} {ds : List D} : datsB (d :: ds) = (datB d && datsB ds) := by simp only [datsB]
theorem datsB_strs {xs : List Str} : datsB (xs.map D.str) = true := by rw [datsB_all]; simp [datB]
theorem datsB_ints {xs : List Int} : datsB (xs.map D.int) = true := by rw [datsB_all]; simp [datB]
theorem datsB_app {xs ys : List D} : datsB (xs ++ ys) = (datsB xs && datsB ys) := by rw [datsB_all, datsB_all, datsB_all, List.all_append]
theorem flats_strs {xs : List Str} : (xs.map D.str).all flat = true := by simp [flat]
theorem flats_ints {xs : List Int} : (xs.map D.int).all flat = true := by simp [flat]
theorem flat_int {i : Int} : flat (.int i) = true := rfl
theorem flat_str {x : Str} : flat (.str x) = true := rfl
theorem flat_bl {b : Bool} : flat (.bl b) = true := rfl
theorem flat_non : flat .non = true := rfl
def srcV : R → En → Sto → Option Src
  | .d (.tup ds), _, _ => some ⟨ds, []⟩
  | .d (.lst ds), _, _ => some ⟨ds, []⟩
  | .new (.lst ds), _, _ => some ⟨ds, []⟩
  | .brw (.lst ds), _, _ => some ⟨ds, []⟩
  | .loc i, e, S => (seqL (look (.loc i) e S)).map fun ds => ⟨ds, [(.loc i, ds)]⟩
  | _, _, _ => none
theorem srcV_tup {ds : List D} : srcV (.d (.tup ds)) e S = some ⟨ds, []⟩ := rfl
theorem srcV_lst {ds : List D} : srcV (.d (.lst ds)) e S = some ⟨ds, []⟩ := rfl
theorem srcV_new {ds : List D} : srcV (.new (.lst ds)) e S = some ⟨ds, []⟩ := rfl
theorem srcV_brw {ds : List D} : srcV (.brw (.lst ds)) e S = some ⟨ds, []⟩ := rfl
theorem srcV_loc {i : Nat} : srcV (.loc i) e S = (seqL (look (.loc i) e S)).map fun ds => ⟨ds, [(.loc i, ds)]⟩ := rfl
theorem srcV_of {r : R} {s : Src} (h : srcV r e S = some s) : srcOf r e S = some (s, e, S) := by
  unfold srcV at h
  split at h
  · cases h; rfl
  · cases h; rfl
  · cases h; rfl
  · cases h; rfl
  · rename_i i
    obtain ⟨ds, h1, h2⟩ := Option.map_eq_some_iff.mp h
    cases h2
    have : look (.loc i) e S = some (.lst ds) := by
      cases h3 : look (.loc i) e S with
      | none => rw [h3] at h1; cases h1
      | some o => cases o <;> rw [h3] at h1 <;> cases h1; rfl
    simp only [srcOf, this]
  · cases h
theorem wp_zipC {r1 r2 : R} {q : Src → En → Sto → Prop} : (∃ s1 s2, srcV r1 e S = some s1 ∧ srcV r2 e S = some s2 ∧ (isTupR r1 == isTupR r2) = true ∧ q ⟨zipD s1.items s2.items, s1.ws ++ s2.ws⟩ e S) → Wp (srcZip [r1, r2]) e S q := by
  rintro ⟨s1, s2, h1, h2, h3, k⟩
  exact (wp_srcZip (srcV_of h1) (srcV_of h2) h3).mpr k
theorem wp_addL {rx ry : R} {xs ys : List D} (h : (look rx e S = some (.lst xs) ∧ look ry e S = some (.lst ys)) ∧ (notLst rx = true ∧ notLst ry = true) ∧ xs.length + ys.length ≤ 1000000 ∧ Q (.new (.lst (xs ++ ys))) e S) : Wp (gAdd rx ry) e S Q := (wp_add_lst h.1.1 h.1.2 h.2.1.1 h.2.1.2 h.2.2.1).mpr h.2.2.2
end
end G

set_option Elab.async false
set_option linter.all false
set_option maxRecDepth 100000
set_option maxHeartbeats 4000000
/-! GV: the calculus in one bundle. -/
namespace G
variable [Wld]
open PySem PySem.Spec PyProof.Rows L2
section
variable {e : En} {S : Sto} {Q : R → En → Sto → Prop}
theorem wp_repr {r : R} : Wp (gRepr r) e S Q ↔ ∃ x, dat r e S = some x ∧ ∃ t, shownD x = some t ∧ Q (.d (.str t)) e S := by
  constructor
  · rintro ⟨a, e', S', h, q⟩
    obtain ⟨x, h1, h2⟩ := Option.bind_eq_some_iff.mp (show (dat r e S).bind _ = _ from h)
    obtain ⟨t, h3, h4⟩ := Option.map_eq_some_iff.mp h2
    cases h4
    exact ⟨x, h1, t, h3, q⟩
  · rintro ⟨x, h1, t, h2, q⟩
    exact ⟨_, _, _, by unfold gRepr; rw [h1]; simp [h2], q⟩
theorem wp_add_tup {xs ys : List D} : Wp (gAdd (.d (.tup xs)) (.d (.tup ys))) e S Q ↔ xs.length + ys.length ≤ 1000000 ∧ Q (.d (.tup (xs ++ ys))) e S := by
  unfold Wp gAdd
  by_cases h : xs.length + ys.length ≤ 1000000
  · simp only [if_pos h]; exact ⟨fun ⟨_, _, _, h1, q⟩ => by cases h1; exact ⟨h, q⟩, fun q => ⟨_, _, _, rfl, q.2⟩⟩
  · simp only [if_neg h]; exact ⟨fun ⟨_, _, _, h1, q⟩ => (nomatch h1), fun q => (h q.1).elim⟩
theorem wp_upper {x : Str} : Wp (gUpper (.d (.str x)) []) e S Q ↔ x.length ≤ 1000000 ∧ Q (.d (.str (Txt.upper x))) e S := by
  unfold Wp gUpper
  by_cases h : x.length ≤ 1000000
  · simp only [if_pos h]; exact ⟨fun ⟨_, _, _, h1, q⟩ => by cases h1; exact ⟨h, q⟩, fun q => ⟨_, _, _, rfl, q.2⟩⟩
  · simp only [if_neg h]; exact ⟨fun ⟨_, _, _, h1, q⟩ => (nomatch h1), fun q => (h q.1).elim⟩
theorem wp_addG {rx ry : R} (hn : ∀ x y, rx = .d x → ry = .d y → False) : Wp (gAdd rx ry) e S Q ↔ ∃ xs, look rx e S = some (.lst xs) ∧ ∃ ys, look ry e S = some (.lst ys) ∧ notLst rx = true ∧ notLst ry = true ∧ xs.length + ys.length ≤ 1000000 ∧ Q (.new (.lst (xs ++ ys))) e S := by
  have hq : gAdd rx ry e S = (match look rx e S, look ry e S with
    | some (.lst xs), some (.lst ys) => if notLst rx && notLst ry && decide (xs.length + ys.length ≤ 1000000) then some (R.new (.lst (xs ++ ys)), e, S) else none
    | _, _ => none) := by
    cases rx with
    | d x => cases ry with
      | d y => exact (hn x y rfl rfl).elim
      | _ => cases x <;> rfl
    | _ => rfl
  unfold Wp
  rw [hq]
  constructor
  · rintro ⟨a, e', S', h, q⟩
    split at h
    · rename_i xs ys h1 h2
      split at h
      · rename_i hc
        cases h
        simp only [Bool.and_eq_true, decide_eq_true_eq] at hc
        exact ⟨xs, h1, ys, h2, hc.1.1, hc.1.2, hc.2, q⟩
      · cases h
    · cases h
  · rintro ⟨xs, h1, ys, h2, h3, h4, h5, q⟩
    exact ⟨_, _, _, by rw [h1, h2]; simp [h3, h4, h5], q⟩
theorem wp_add_nn {xs ys : List D} : Wp (gAdd (.new (.lst xs)) (.new (.lst ys))) e S Q ↔ xs.length + ys.length ≤ 1000000 ∧ Q (.new (.lst (xs ++ ys))) e S := by
  rw [wp_addG (by intro _ _ h; cases h)]
  simp only [look_new, look_brw, Option.some.injEq, O.lst.injEq, exists_eq_left', true_and, notLst]
theorem wp_add_nb {xs ys : List D} : Wp (gAdd (.new (.lst xs)) (.brw (.lst ys))) e S Q ↔ xs.length + ys.length ≤ 1000000 ∧ Q (.new (.lst (xs ++ ys))) e S := by
  rw [wp_addG (by intro _ _ h; cases h)]
  simp only [look_new, look_brw, Option.some.injEq, O.lst.injEq, exists_eq_left', true_and, notLst]
theorem wp_add_bn {xs ys : List D} : Wp (gAdd (.brw (.lst xs)) (.new (.lst ys))) e S Q ↔ xs.length + ys.length ≤ 1000000 ∧ Q (.new (.lst (xs ++ ys))) e S := by
  rw [wp_addG (by intro _ _ h; cases h)]
  simp only [look_new, look_brw, Option.some.injEq, O.lst.injEq, exists_eq_left', true_and, notLst]
theorem wp_add_bb {xs ys : List D} : Wp (gAdd (.brw (.lst xs)) (.brw (.lst ys))) e S Q ↔ xs.length + ys.length ≤ 1000000 ∧ Q (.new (.lst (xs ++ ys))) e S := by
  rw [wp_addG (by intro _ _ h; cases h)]
  simp only [look_new, look_brw, Option.some.injEq, O.lst.injEq, exists_eq_left', true_and, notLst]
theorem wp_add_ln {i : Nat} {ys : List D} : Wp (gAdd (.loc i) (.new (.lst ys))) e S Q ↔ ∃ xs, look (.loc i) e S = some (.lst xs) ∧ xs.length + ys.length ≤ 1000000 ∧ Q (.new (.lst (xs ++ ys))) e S := by
  rw [wp_addG (by intro _ _ h; cases h)]
  simp only [look_new, look_brw, Option.some.injEq, O.lst.injEq, exists_eq_left', true_and, notLst]
theorem wp_add_lb {i : Nat} {ys : List D} : Wp (gAdd (.loc i) (.brw (.lst ys))) e S Q ↔ ∃ xs, look (.loc i) e S = some (.lst xs) ∧ xs.length + ys.length ≤ 1000000 ∧ Q (.new (.lst (xs ++ ys))) e S := by
  rw [wp_addG (by intro _ _ h; cases h)]
  simp only [look_new, look_brw, Option.some.injEq, O.lst.injEq, exists_eq_left', true_and, notLst]
theorem wp_add_ll {i j : Nat} : Wp (gAdd (.loc i) (.loc j)) e S Q ↔ ∃ xs, look (.loc i) e S = some (.lst xs) ∧ ∃ ys, look (.loc j) e S = some (.lst ys) ∧ xs.length + ys.length ≤ 1000000 ∧ Q (.new (.lst (xs ++ ys))) e S := by
  rw [wp_addG (by intro _ _ h; cases h)]
  simp only [true_and, notLst]
theorem wp_add_nl {j : Nat} {xs : List D} : Wp (gAdd (.new (.lst xs)) (.loc j)) e S Q ↔ ∃ ys, look (.loc j) e S = some (.lst ys) ∧ xs.length + ys.length ≤ 1000000 ∧ Q (.new (.lst (xs ++ ys))) e S := by
  rw [wp_addG (by intro _ _ h; cases h)]
  simp only [look_new, look_brw, Option.some.injEq, O.lst.injEq, exists_eq_left', true_and, notLst]
theorem wp_add_bl {j : Nat} {xs : List D} : Wp (gAdd (.brw (.lst xs)) (.loc j)) e S Q ↔ ∃ ys, look (.loc j) e S = some (.lst ys) ∧ xs.length + ys.length ≤ 1000000 ∧ Q (.new (.lst (xs ++ ys))) e S := by
  rw [wp_addG (by intro _ _ h; cases h)]
  simp only [look_new, look_brw, Option.some.injEq, O.lst.injEq, exists_eq_left', true_and, notLst]
theorem wp_add_bi {a : Bool} {j : Int} : Wp (gAdd (.d (.bl a)) (.d (.int j))) e S Q ↔ Q (.d (.int ((if a = true then 1 else 0) + j))) e S := wp_some rfl
theorem dSub_bi {a : Bool} {j : Int} : dSub (.bl a) (.int j) = some (.int ((if a = true then 1 else 0) - j)) := rfl
theorem dSub_ib {i : Int} {b : Bool} : dSub (.int i) (.bl b) = some (.int (i - if b = true then 1 else 0)) := rfl
theorem wp_mDn : Wp mDn e S Q ↔ Q (.new (.dct [])) e S := wp_pur
theorem wp_toD_dct {kvs : List (Key × D)} : Wp (toD (.new (.dct kvs))) e S Q ↔ Q (.d (.dic (kvs.map (·.1)) (kvs.map (·.2)))) e S := wp_some rfl
theorem wp_str1 {x : Str} : Wp (gStr (.d (.str x))) e S Q ↔ Q (.d (.str x)) e S := wp_some rfl
end
theorem ev0 : type_of% (And.intro @wp_mSeq (And.intro @wp_mSet (And.intro @wp_mC (And.intro @wp_setS_d (And.intro @wp_setS_new (And.intro @seQ_nx (And.intro @seQ_rt (And.intro @seQ_bk (And.intro @seQ_ct (And.intro @lpQ_nx (And.intro @lpQ_ct (And.intro @lpQ_bk (And.intro @lpQ_rt (And.intro @flQ_rt (And.intro @flQ_nx (And.intro @flQ_bk (And.intro @flQ_ct (And.intro @wp_mFor (And.intro @wp_mSrc (And.intro @wp_mSl (And.intro @wp_pur (And.intro @wp_bnd (And.intro @wp_asI (And.intro @wp_mVarC (And.intro @varQ_d (And.intro @varQ_own (And.intro @varQ_brw (And.intro @wp_gP (And.intro @wp_add_int (And.intro @wp_mBin (And.intro @wp_mUn (And.intro @wp_neg (And.intro @wp_mRet (And.intro @wp_mBox (And.intro @wp_mLst (And.intro @wp_mTup (And.intro @wp_mCons (And.intro @wp_mNil (And.intro @wp_mLc @wp_src_tup))))))))))))))))))))))))))))))))))))))) := (And.intro @wp_mSeq (And.intro @wp_mSet (And.intro @wp_mC (And.intro @wp_setS_d (And.intro @wp_setS_new (And.intro @seQ_nx (And.intro @seQ_rt (And.intro @seQ_bk (And.intro @seQ_ct (And.intro @lpQ_nx (And.intro @lpQ_ct (And.intro @lpQ_bk (And.intro @lpQ_rt (And.intro @flQ_rt (And.intro @flQ_nx (And.intro @flQ_bk (And.intro @flQ_ct (And.intro @wp_mFor (And.intro @wp_mSrc (And.intro @wp_mSl (And.intro @wp_pur (And.intro @wp_bnd (And.intro @wp_asI (And.intro @wp_mVarC (And.intro @varQ_d (And.intro @varQ_own (And.intro @varQ_brw (And.intro @wp_gP (And.intro @wp_add_int (And.intro @wp_mBin (And.intro @wp_mUn (And.intro @wp_neg (And.intro @wp_mRet (And.intro @wp_mBox (And.intro @wp_mLst (And.intro @wp_mTup (And.intro @wp_mCons (And.intro @wp_mNil (And.intro @wp_mLc @wp_src_tup)))))))))))))))))))))))))))))))))))))))
theorem ev1 : type_of% (And.intro @wp_src_lst (And.intro @wp_src_new (And.intro @wp_src_brw (And.intro @wipeE_cons (And.intro @wipeE_nil (And.intro @wp_toBox (And.intro @dsOf_cons (And.intro @dsOf_nil (And.intro @wp_toRt_d (And.intro @wp_toRt_new (And.intro @wp_mIf (And.intro @wp_mIfS (And.intro @wp_mNot (And.intro @wp_mAnd (And.intro @wp_mOr (And.intro @wp_mAndV (And.intro @wp_mOrV (And.intro @wp_mNotV (And.intro @wp_asB (And.intro @wp_mSkip (And.intro @wp_mDrop (And.intro @wp_mRetN (And.intro @wp_mSetI (And.intro @wp_mAsg (And.intro @wp_mPar2 (And.intro @wp_mPar3 (And.intro @wp_mCall (And.intro @toArgs_nil (And.intro @toArgs_cons (And.intro @toArg_d (And.intro @toArg_new (And.intro @toArg_brw (And.intro @r_d (And.intro @r_new (And.intro @g1_one (And.intro @wp_len_str (And.intro @wp_int_int (And.intro @wp_int_bl (And.intro @wp_add_str @wp_eq_int))))))))))))))))))))))))))))))))))))))) := (And.intro @wp_src_lst (And.intro @wp_src_new (And.intro @wp_src_brw (And.intro @wipeE_cons (And.intro @wipeE_nil (And.intro @wp_toBox (And.intro @dsOf_cons (And.intro @dsOf_nil (And.intro @wp_toRt_d (And.intro @wp_toRt_new (And.intro @wp_mIf (And.intro @wp_mIfS (And.intro @wp_mNot (And.intro @wp_mAnd (And.intro @wp_mOr (And.intro @wp_mAndV (And.intro @wp_mOrV (And.intro @wp_mNotV (And.intro @wp_asB (And.intro @wp_mSkip (And.intro @wp_mDrop (And.intro @wp_mRetN (And.intro @wp_mSetI (And.intro @wp_mAsg (And.intro @wp_mPar2 (And.intro @wp_mPar3 (And.intro @wp_mCall (And.intro @toArgs_nil (And.intro @toArgs_cons (And.intro @toArg_d (And.intro @toArg_new (And.intro @toArg_brw (And.intro @r_d (And.intro @r_new (And.intro @g1_one (And.intro @wp_len_str (And.intro @wp_int_int (And.intro @wp_int_bl (And.intro @wp_add_str @wp_eq_int)))))))))))))))))))))))))))))))))))))))
theorem ev2 : type_of% (And.intro @wp_eq_str (And.intro @wp_eq_bl (And.intro @dSub_int (And.intro @dLt_int (And.intro @dLe_int (And.intro @wp_mMth (And.intro @isTy_str (And.intro @putE_loc (And.intro @putE_ref (And.intro @putS_loc (And.intro @putS_ref (And.intro @isW_loc (And.intro @isW_ref (And.intro @look_new (And.intro @look_brw (And.intro @look_dl (And.intro @look_ref (And.intro @wp_sl_tup (And.intro @wp_mStar (And.intro @wp_mIsi (And.intro @wp_gIsN (And.intro @atD_0 (And.intro @atD_1 (And.intro @atD_2 (And.intro @atD_3 (And.intro @atD_4 (And.intro @wp_ix_tup (And.intro @wp_ix_new (And.intro @wp_ix_brw (And.intro @wp_ix_dl (And.intro @wp_mD (And.intro @wp_toD_d (And.intro @wp_toD_new (And.intro @wp_srcR1 (And.intro @wp_srcStr (And.intro @wp_len_tup (And.intro @wp_len_lst (And.intro @wp_len_new (And.intro @wp_len_brw @look_locC))))))))))))))))))))))))))))))))))))))) := (And.intro @wp_eq_str (And.intro @wp_eq_bl (And.intro @dSub_int (And.intro @dLt_int (And.intro @dLe_int (And.intro @wp_mMth (And.intro @isTy_str (And.intro @putE_loc (And.intro @putE_ref (And.intro @putS_loc (And.intro @putS_ref (And.intro @isW_loc (And.intro @isW_ref (And.intro @look_new (And.intro @look_brw (And.intro @look_dl (And.intro @look_ref (And.intro @wp_sl_tup (And.intro @wp_mStar (And.intro @wp_mIsi (And.intro @wp_gIsN (And.intro @atD_0 (And.intro @atD_1 (And.intro @atD_2 (And.intro @atD_3 (And.intro @atD_4 (And.intro @wp_ix_tup (And.intro @wp_ix_new (And.intro @wp_ix_brw (And.intro @wp_ix_dl (And.intro @wp_mD (And.intro @wp_toD_d (And.intro @wp_toD_new (And.intro @wp_srcR1 (And.intro @wp_srcStr (And.intro @wp_len_tup (And.intro @wp_len_lst (And.intro @wp_len_new (And.intro @wp_len_brw @look_locC)))))))))))))))))))))))))))))))))))))))
theorem ev3 : type_of% (And.intro @ownQ_own (And.intro @seqL_lst (And.intro @isL_lst (And.intro @ixO_lst (And.intro @ixO_dct_int (And.intro @ixO_dct_str (And.intro @lock_lst (And.intro @seqOf_tup (And.intro @seqOf_lst (And.intro @seqOf_new (And.intro @seqOf_brw (And.intro @seqOf_locE (And.intro @seqOf_refE (And.intro @lstOf_E (And.intro @isTy_listE (And.intro @wp_toRt_locE (And.intro @toArg_locE (And.intro @wp_toD_locE (And.intro @wp_src_locE (And.intro @wp_ix_locC (And.intro @wp_ix_newC (And.intro @wp_ix_brwC (And.intro @wp_sl_locC (And.intro @wp_sl_refC (And.intro @wp_sl_newC (And.intro @wp_sl_brwC (And.intro @wp_sl_dlC (And.intro @wp_len_locC (And.intro @wp_len_refC (And.intro @wp_blsE (And.intro @wp_dictE (And.intro @wp_appendE (And.intro @wp_popE (And.intro @wp_indexE (And.intro @wp_joinE (And.intro @wp_sortedKE (And.intro @wp_in_tupC (And.intro @wp_in_locC (And.intro @wp_in_newC @wp_in_dlC))))))))))))))))))))))))))))))))))))))) := (And.intro @ownQ_own (And.intro @seqL_lst (And.intro @isL_lst (And.intro @ixO_lst (And.intro @ixO_dct_int (And.intro @ixO_dct_str (And.intro @lock_lst (And.intro @seqOf_tup (And.intro @seqOf_lst (And.intro @seqOf_new (And.intro @seqOf_brw (And.intro @seqOf_locE (And.intro @seqOf_refE (And.intro @lstOf_E (And.intro @isTy_listE (And.intro @wp_toRt_locE (And.intro @toArg_locE (And.intro @wp_toD_locE (And.intro @wp_src_locE (And.intro @wp_ix_locC (And.intro @wp_ix_newC (And.intro @wp_ix_brwC (And.intro @wp_sl_locC (And.intro @wp_sl_refC (And.intro @wp_sl_newC (And.intro @wp_sl_brwC (And.intro @wp_sl_dlC (And.intro @wp_len_locC (And.intro @wp_len_refC (And.intro @wp_blsE (And.intro @wp_dictE (And.intro @wp_appendE (And.intro @wp_popE (And.intro @wp_indexE (And.intro @wp_joinE (And.intro @wp_sortedKE (And.intro @wp_in_tupC (And.intro @wp_in_locC (And.intro @wp_in_newC @wp_in_dlC)))))))))))))))))))))))))))))))))))))))
theorem ev4 : type_of% (And.intro @wp_tuple (And.intro @wp_list (And.intro @gtName_eq (And.intro @gtCons_eq (And.intro @gtNil_eq (And.intro @gtTup_eq (And.intro @O.lst.injEq (And.intro @O.dct.injEq (And.intro @flat_int (And.intro @flat_str (And.intro @flat_bl (And.intro @flat_non (And.intro @Bool.and_self (And.intro @Bool.false_eq_true (And.intro @true_and (And.intro @and_true (And.intro @R.d.injEq (And.intro @D.bl.injEq (And.intro @D.int.injEq (And.intro @D.str.injEq (And.intro @Bool.bne_false (And.intro @Bool.bne_true (And.intro @Bool.not_true (And.intro @Bool.not_false (And.intro @datB_non (And.intro @datB_bl (And.intro @datB_int (And.intro @datB_str (And.intro @datB_tup (And.intro @datB_lst (And.intro @datB_dic (And.intro @datsB_nil (And.intro @datsB_cons (And.intro @datsB_strs (And.intro @datsB_ints (And.intro @inF_flat (And.intro @wp_in_brwC (And.intro @flats_strs (And.intro @flats_ints @wp_repr))))))))))))))))))))))))))))))))))))))) := (And.intro @wp_tuple (And.intro @wp_list (And.intro @gtName_eq (And.intro @gtCons_eq (And.intro @gtNil_eq (And.intro @gtTup_eq (And.intro @O.lst.injEq (And.intro @O.dct.injEq (And.intro @flat_int (And.intro @flat_str (And.intro @flat_bl (And.intro @flat_non (And.intro @Bool.and_self (And.intro @Bool.false_eq_true (And.intro @true_and (And.intro @and_true (And.intro @R.d.injEq (And.intro @D.bl.injEq (And.intro @D.int.injEq (And.intro @D.str.injEq (And.intro @Bool.bne_false (And.intro @Bool.bne_true (And.intro @Bool.not_true (And.intro @Bool.not_false (And.intro @datB_non (And.intro @datB_bl (And.intro @datB_int (And.intro @datB_str (And.intro @datB_tup (And.intro @datB_lst (And.intro @datB_dic (And.intro @datsB_nil (And.intro @datsB_cons (And.intro @datsB_strs (And.intro @datsB_ints (And.intro @inF_flat (And.intro @wp_in_brwC (And.intro @flats_strs (And.intro @flats_ints @wp_repr)))))))))))))))))))))))))))))))))))))))
theorem ev5 : type_of% (And.intro @wp_str1 (And.intro @wp_add_tup (And.intro @wp_upper (And.intro @wp_add_nn (And.intro @wp_add_nb (And.intro @wp_add_bn (And.intro @wp_add_bb (And.intro @wp_add_ln (And.intro @wp_add_nl (And.intro @wp_add_ll (And.intro @wp_add_lb (And.intro @wp_add_bl (And.intro @wp_mDn (And.intro @wp_toD_dct (And.intro @wp_add_bi (And.intro @dSub_bi @dSub_ib)))))))))))))))) := (And.intro @wp_str1 (And.intro @wp_add_tup (And.intro @wp_upper (And.intro @wp_add_nn (And.intro @wp_add_nb (And.intro @wp_add_bn (And.intro @wp_add_bb (And.intro @wp_add_ln (And.intro @wp_add_nl (And.intro @wp_add_ll (And.intro @wp_add_lb (And.intro @wp_add_bl (And.intro @wp_mDn (And.intro @wp_toD_dct (And.intro @wp_add_bi (And.intro @dSub_bi @dSub_ib))))))))))))))))
end G

set_option Elab.async false
set_option linter.all false
set_option maxRecDepth 100000
set_option maxHeartbeats 4000000
/-! GM: the calculus of GN. -/
namespace G
variable [Wld]
open PySem PySem.Spec PyProof.Rows L2
section
variable {e : En} {S : Sto} {Q : R → En → Sto → Prop}
theorem wp_inT {neg : Bool} {d a : Addr} {tb : List (Str × D)} {z : Str} : Wp (gInT neg d tb (.d (.str z)) (.d (.fn a))) e S Q ↔ a = d ∧ Q (.d (.bl ((tb.lookup z).isSome != neg))) e S := by
  unfold Wp gInT
  by_cases h : a = d
  · simp only [if_pos h]; exact ⟨fun ⟨_, _, _, h1, q⟩ => by cases h1; exact ⟨h, q⟩, fun q => ⟨_, _, _, rfl, q.2⟩⟩
  · simp only [if_neg h]; exact ⟨fun ⟨_, _, _, h1, q⟩ => (nomatch h1), fun q => (h q.1).elim⟩
theorem wp_ixT {d a : Addr} {tb : List (Str × D)} {z : Str} : Wp (gIxT d tb (.d (.fn a)) (.d (.str z))) e S Q ↔ a = d ∧ ∃ x, tb.lookup z = some x ∧ Q (.d x) e S := by
  constructor
  · rintro ⟨r, e1, S1, h, q⟩
    obtain ⟨t, x, h1, h2, h3, h4⟩ := gIxT_eq h
    cases h1; cases h2; cases h4
    exact ⟨rfl, x, h3, q⟩
  · rintro ⟨rfl, x, h, q⟩
    exact ⟨_, _, _, by simp only [gIxT, if_true, h]; rfl, q⟩
theorem wp_callL {i n : Nat} {tb : List (Addr × Fn)} {ms : M (List R)} : Wp (mCallL i n tb ms) e S Q ↔ ∃ a, e[i]? = some (some (.d (.fn a))) ∧ ∃ f, tb.lookup a = some f ∧ Wp (mCall n f ms) e S Q := by
  constructor
  · rintro ⟨r, e1, S1, h, q⟩
    unfold mCallL at h
    split at h
    · rename_i a ha
      split at h
      · rename_i f hf
        exact ⟨a, ha, f, hf, r, e1, S1, h, q⟩
      · cases h
    · cases h
  · rintro ⟨a, ha, f, hf, r, e1, S1, h, q⟩
    exact ⟨r, e1, S1, by unfold mCallL; rw [ha]; simp only [hf]; exact h, q⟩
end
theorem ev6 : type_of% (And.intro @wp_inT (And.intro @wp_ixT @wp_callL)) := And.intro @wp_inT (And.intro @wp_ixT @wp_callL)
end G

set_option Elab.async false
set_option linter.all false
set_option maxRecDepth 100000
set_option maxHeartbeats 4000000
/-! GT: the calculus of GD, GL. -/
namespace G
variable [Wld]
open PySem PySem.Spec PyProof.Rows L2
section
variable {e : En} {S : Sto}
theorem wp_asgL {n : Nat} {ts : Tgts} {m : M R} {Q : Fl → En → Sto → Prop} : Wp (mAsgL n ts m) e S Q ↔ Wp m e S fun r e1 S1 => ∃ ds, lstOf r e1 S1 = some ds ∧ ds.length = n ∧ ∃ e2, ts ds e1 = some e2 ∧ Q .nx e2 S1 := by
  unfold mAsgL
  rw [wp_bnd]
  constructor
  · rintro ⟨r, e1, S1, h1, fl, e2, S2, h2, q⟩
    obtain ⟨ds, h3, h4⟩ := Option.bind_eq_some_iff.mp (show (lstOf r e1 S1).bind _ = _ from h2)
    split at h4
    · rename_i hl
      obtain ⟨e3, h5, h6⟩ := Option.map_eq_some_iff.mp h4
      cases h6
      exact ⟨r, e1, _, h1, ds, h3, hl, _, h5, q⟩
    · cases h4
  · rintro ⟨r, e1, S1, h1, ds, h3, hl, e2, h5, q⟩
    exact ⟨r, e1, S1, h1, _, _, _, by show (lstOf r e1 S1).bind _ = _; rw [h3]; simp only [Option.bind_some, hl, if_true, h5, Option.map_some], q⟩
variable {Q : R → En → Sto → Prop}
theorem wp_addF {rx ry : R} : Wp (gAddF rx ry) e S Q ↔ ∃ xs, look rx e S = some (.lst xs) ∧ ∃ ys, look ry e S = some (.lst ys) ∧ xs.length + ys.length ≤ 1000000 ∧ Q (.new (.lst (xs ++ ys))) e S := by
  constructor
  · rintro ⟨r, e1, S1, h, q⟩
    obtain ⟨xs, ys, h1, h2, h3, h4⟩ := gAddF_eq h
    cases h4
    exact ⟨xs, h1, ys, h2, h3, q⟩
  · rintro ⟨xs, h1, ys, h2, h3, q⟩
    exact ⟨_, _, _, by unfold gAddF; rw [h1, h2]; simp only [h3, if_true], q⟩
theorem wp_mDl {kvs : List (Str × Int)} : Wp (mDl kvs) e S Q ↔ Q (.new (.dct (kvs.map fun p => (.inr p.1, .int p.2)))) e S := wp_pur
theorem wp_get {rx : R} {y z : D} : Wp (gGet rx (.d y) z) e S Q ↔ ∃ kvs, look rx e S = some (.dct kvs) ∧ ∃ k, keyOf y = some k ∧ Q (.d ((valD kvs k).getD z)) e S := by
  constructor
  · rintro ⟨r, e1, S1, h, q⟩
    obtain ⟨kvs, y', k, h1, h2, h3, h4⟩ := gGet_eq h
    cases h1; cases h4
    exact ⟨kvs, h2, k, h3, q⟩
  · rintro ⟨kvs, h2, k, h3, q⟩
    exact ⟨_, _, _, by unfold gGet; simp only [h2, h3, Option.map_some], q⟩
theorem wp_chkD {rx : R} {Q : Unit → En → Sto → Prop} : Wp (chkD rx) e S Q ↔ ∃ kvs, look rx e S = some (.dct kvs) ∧ Q () e S := by
  constructor
  · rintro ⟨r, e1, S1, h, q⟩
    obtain ⟨⟨kvs, h1⟩, h2⟩ := chkD_eq h
    cases h2
    exact ⟨kvs, h1, q⟩
  · rintro ⟨kvs, h1, q⟩
    exact ⟨_, _, _, by unfold chkD; rw [h1], q⟩
theorem wp_unD {z : D} {Q : D → En → Sto → Prop} : Wp (unD (.d z)) e S Q ↔ Q z e S := wp_pur
theorem wp_extend {r : R} {zs : List D} : Wp (gExtend r [.new (.lst zs)]) e S Q ↔ ∃ ds, look r e S = some (.lst ds) ∧ isW r = true ∧ ds.length + zs.length ≤ 1000000 ∧ Q (.d .non) (putE r (.lst (ds ++ zs)) e) (putS r (.lst (ds ++ zs)) S) := by
  constructor
  · rintro ⟨a, e', S', h, q⟩
    obtain ⟨ds, y, es, h1, h2, h3, h4⟩ := wrL_eq (show wrL r _ e S = _ from h)
    cases h4
    split at h3
    · cases h3; exact ⟨ds, h1, h2, by assumption, q⟩
    · cases h3
  · rintro ⟨ds, h1, h2, h3, q⟩
    exact (wp_wrL h1 h2 (by rw [if_pos h3])).mpr q
theorem wp_popI {r : R} {i : Int} : Wp (gPop r [.d (.int i)]) e S Q ↔ ∃ ds, look r e S = some (.lst ds) ∧ isW r = true ∧ -(2 ^ 63) ≤ i ∧ i < 2 ^ 63 ∧ ∃ k, seqIndex? i ds.length = some k ∧ ∃ d, ds[k]? = some d ∧ Q (.d d) (putE r (.lst (ds.eraseIdx k)) e) (putS r (.lst (ds.eraseIdx k)) S) := by
  constructor
  · rintro ⟨a, e', S', h, q⟩
    obtain ⟨ds, y, es, h1, h2, h3, h4⟩ := wrL_eq (show wrL r _ e S = _ from h)
    cases h4
    split at h3
    · rename_i hi
      obtain ⟨k, hk, h3⟩ := Option.bind_eq_some_iff.mp h3
      obtain ⟨d, hd, hz⟩ := Option.map_eq_some_iff.mp h3
      cases hz
      exact ⟨ds, h1, h2, hi.1, hi.2, k, hk, d, hd, q⟩
    · cases h3
  · rintro ⟨ds, h1, h2, h3, h4, k, hk, d, hd, q⟩
    exact (wp_wrL h1 h2 (by rw [if_pos ⟨h3, h4⟩, hk]; simp only [Option.bind_some, hd, Option.map_some])).mpr q
end
theorem wp_isNL_d {neg : Bool} {x : D} {e : En} {S : Sto} {Q : R → En → Sto → Prop} : Wp (gIsNL neg (.d x) (.d .non)) e S Q ↔ Q (.d (.bl (isNon x != neg))) e S := wp_some rfl
theorem wp_isNL_new {neg : Bool} {o : O} {e : En} {S : Sto} {Q : R → En → Sto → Prop} : Wp (gIsNL neg (.new o) (.d .non)) e S Q ↔ Q (.d (.bl neg)) e S := wp_some rfl
theorem wp_isNL_brw {neg : Bool} {o : O} {e : En} {S : Sto} {Q : R → En → Sto → Prop} : Wp (gIsNL neg (.brw o) (.d .non)) e S Q ↔ Q (.d (.bl neg)) e S := wp_some rfl
theorem wp_isNL_loc {neg : Bool} {i : Nat} {e : En} {S : Sto} {Q : R → En → Sto → Prop} : Wp (gIsNL neg (.loc i) (.d .non)) e S Q ↔ ∃ o, look (.loc i) e S = some o ∧ Q (.d (.bl neg)) e S := by
  constructor
  · rintro ⟨r, e1, S1, h, q⟩
    obtain ⟨o, h1, h2⟩ := Option.map_eq_some_iff.mp (show (look (.loc i) e S).map (fun _ => (R.d (.bl neg), e, S)) = _ from h)
    cases h2
    exact ⟨o, h1, q⟩
  · rintro ⟨o, h1, q⟩
    exact ⟨_, _, _, by show (look (.loc i) e S).map (fun _ => (R.d (.bl neg), e, S)) = _; rw [h1]; rfl, q⟩
theorem wp_zipX {e : En} {S : Sto} {r1 r2 : R} {q : Src → En → Sto → Prop} (h : ∃ s1 s2, srcV r1 e S = some s1 ∧ srcV r2 e S = some s2 ∧ q ⟨zipD s1.items s2.items, s1.ws ++ s2.ws⟩ e S) : Wp (srcZipX [r1, r2]) e S q := by
  obtain ⟨s1, s2, h1, h2, k⟩ := h
  refine ⟨_, _, _, ?_, k⟩
  unfold srcZipX
  simp only [srcV_of h1, srcV_of h2]
theorem wp_mulL {rx : R} {k : Int} {e : En} {S : Sto} {Q : R → En → Sto → Prop} : Wp (gMulL rx (.d (.int k))) e S Q ↔ ∃ xs, look rx e S = some (.lst xs) ∧ notLst rx = true ∧ -(2 ^ 63) ≤ k ∧ k < 2 ^ 63 ∧ xs.length * k.toNat ≤ 1000000 ∧ Q (.new (.lst (List.replicate k.toNat xs).flatten)) e S := by
  constructor
  · rintro ⟨r, e1, S1, h, q⟩
    obtain ⟨xs, k', h1, h2, h3, h4, h5, h6, h7⟩ := gMulL_eq h
    cases h2; cases h7
    exact ⟨xs, h1, h3, h4, h5, h6, q⟩
  · rintro ⟨xs, h1, h2, h3, h4, h5, q⟩
    exact ⟨_, _, _, by unfold gMulL; simp only [h1, h2, decide_eq_true h3, decide_eq_true h4, decide_eq_true h5, Bool.and_self, if_true], q⟩
theorem notLst_new {o : O} : notLst (.new o) = true := rfl
theorem notLst_loc {i : Nat} : notLst (.loc i) = true := rfl
theorem notLst_brw {o : O} : notLst (.brw o) = true := rfl
theorem ev7 : type_of% (And.intro @wp_isNL_d (And.intro @wp_isNL_new (And.intro @wp_isNL_brw (And.intro @wp_isNL_loc (And.intro @wp_asgL (And.intro @wp_addF (And.intro @wp_mDl (And.intro @wp_get (And.intro @wp_chkD (And.intro @wp_extend (And.intro @wp_mulL (And.intro @notLst_new (And.intro @notLst_loc (And.intro @notLst_brw @wp_unD)))))))))))))) := (And.intro @wp_isNL_d (And.intro @wp_isNL_new (And.intro @wp_isNL_brw (And.intro @wp_isNL_loc (And.intro @wp_asgL (And.intro @wp_addF (And.intro @wp_mDl (And.intro @wp_get (And.intro @wp_chkD (And.intro @wp_extend (And.intro @wp_mulL (And.intro @notLst_new (And.intro @notLst_loc (And.intro @notLst_brw @wp_unD))))))))))))))
end G

set_option Elab.async false
set_option linter.all false
set_option maxRecDepth 1000000
set_option maxHeartbeats 4000000
/-! GA: sorted(xs, key=f), the rule. -/
namespace G
variable [Wld]
open PySem PySem.Spec PyProof.Rows PySem.W L2
theorem exa_ok {P : Program} {w : World} {H : Hp} {h : Heap} {a : Addr} {o : PySem.Obj} (e : h.get? a = some o) : ObjOk P w H h a (exa a o) := ⟨e, ⟨o, e⟩, fun _ _ e1 k => k _ e1⟩
section
variable {X : Cx} {pins : List (Addr × PySem.Obj)} {σ : SV} {H : Hp} {s : Shared}
/-- two new objects at once -/
theorem inv_two {g : Heap} {tk : Nat} {a c : Addr} {oa oc : PySem.Obj} (I : Inv X pins σ H s) (k : ∀ b o, s.heap.get? b = some o → g.get? b = some o) (ha : s.heap.objs.size ≤ a) (hc : s.heap.objs.size ≤ c) (ac : c ≠ a) (ea : g.get? a = some oa) (ec : g.get? c = some oc) :
    Inv X pins σ (upd (upd H a (exa a oa)) c (exa c oc)) { s with heap := g, toks := tk } := by
  have na := I.hok.fresh ha
  have nc := I.hok.fresh hc
  have nc' : upd H a (exa a oa) c = none := by rw [upd_ne ac]; exact nc
  refine I.un (t' := tk) (Un.trans (Un.laid (h' := s.heap) (fun _ _ e => e) ha na) (Un.laid k hc nc')) fun b u e => ?_
  by_cases h1 : b = c
  · subst h1; rw [upd_same] at e; cases e; exact exa_ok ec
  · rw [upd_ne h1] at e
    by_cases h2 : b = a
    · subst h2; rw [upd_same] at e; cases e; exact exa_ok ea
    · rw [upd_ne h2] at e
      refine (I.hok b u e).stay (fun c v _ q => k c v q) (fun y q => ?_) fun y xs q => ?_
      · rw [upd_ne (ne_of_none q nc), upd_ne (ne_of_none q na)]; exact q
      · rw [upd_ne (ne_of_none q nc), upd_ne (ne_of_none q na)]; exact q
end
section
variable {K : PySem.W.Frag} {H H' : Hp} {ι ι' : List Addr} {S : Sto}
theorem RelS.rel (R : RelS K H ι S) : Rel K H ι [] [] S := ⟨rfl, fun i s h => by simp at h, R.ilen, R.st, R.nd, fun i o a h => by simp at h, fun i o a h => by simp at h⟩
theorem RelS.notin (R : RelS K H ι S) {a : Addr} (h : ∀ o : O, ¬ RO K H ι a o) : a ∉ ι := fun z => by
  obtain ⟨n, hn⟩ := List.getElem?_of_mem z
  have hlt := (List.getElem?_eq_some_iff.mp hn).1
  rw [R.ilen] at hlt
  exact h _ (R.st n _ a (List.getElem?_eq_getElem hlt) hn)
theorem ro_exa {a : Addr} {vs : Array Value} {n : Nat} (h : H a = some (exa a (seqObj "list" vs n))) {g : Heap} (hg : g.get? a = some (seqObj "list" vs n)) (u : O) : ¬ RO K H ι a u := fun r => by
  cases u with
  | lst ds => obtain ⟨xs, h1, _⟩ := r; rw [h] at h1; cases h1
  | dct kvs => obtain ⟨xs, h1, _⟩ := r; rw [h] at h1; cases h1
  | kd kvs =>
    obtain ⟨o', es, ep, xs, k⟩ := r
    have e1 := HO.ext.inj (Option.some.inj (h.symm.trans k.at_))
    have e2 : g.get? a = some o' := (congrFun e1 g).mp hg
    rw [hg] at e2
    obtain rfl := Option.some.inj e2
    exact absurd k.ex.1 (by simp [seqObj])
theorem stay_exa {a b : Addr} {o : PySem.Obj} (h : H a = some (exa b o)) (u : HO) : Stay H (upd H a u) := Stay.mut h (fun _ z => nomatch z) fun _ _ z => nomatch z
theorem RelS.upd (R : RelS K H ι S) {a : Addr} {vs : Array Value} {n : Nat} (h : H a = some (exa a (seqObj "list" vs n))) {g : Heap} (hg : g.get? a = some (seqObj "list" vs n)) (u : HO) : RelS K (upd H a u) ι S :=
  (R.rel.other (u := u) (stay_exa h u) (R.notin (ro_exa h hg)) fun ⟨i, s, h1, _⟩ => by simp at h1).s
theorem PostC.fresh {H0 : Hp} {ι0 : List Addr} (P : PostC H0 ι0 H ι) {a : Addr} {u : HO} (f : H0 a = none) (st : Stay H (upd H a u)) : PostC H0 ι0 (upd H a u) ι :=
  ⟨P.pre, P.stay.trans st, fun b x h => by rw [upd_ne (ne_of_none h f)]; exact P.dom b x h, fun b x h1 h2 => by rw [upd_ne (ne_of_none h1 f)]; exact P.keep b x h1 h2⟩
theorem PostC.trans {H0 H1 H2 : Hp} {ι0 ι1 ι2 : List Addr} (a : PostC H0 ι0 H1 ι1) (b : PostC H1 ι1 H2 ι2) : PostC H0 ι0 H2 ι2 := by
  obtain ⟨⟨l, rfl⟩, s, d, k⟩ := a
  obtain ⟨⟨l', rfl⟩, s', d', k'⟩ := b
  exact ⟨⟨l ++ l', by simp⟩, s.trans s', fun x o h => let ⟨o1, h1⟩ := d x o h; d' x o1 h1, fun x o h1 h2 => let ⟨q1, q2⟩ := k x o h1 h2; k' x o q1 q2⟩
theorem PostC.new {a : Addr} {u : HO} (f : H a = none) : PostC H ι (upd H a u) ι :=
  ⟨⟨[], by simp⟩, Stay.new f, fun b x h => ⟨x, by rw [upd_ne (ne_of_none h f)]; exact h⟩, fun b x h1 h2 => ⟨by rw [upd_ne (ne_of_none h1 f)]; exact h1, h2⟩⟩
theorem RKy.upd {v : V} {r : Rt} {a : Addr} {vs : Array Value} {n : Nat} (k : RKy K H ι v r) (h : H a = some (exa a (seqObj "list" vs n))) {g : Heap} (hg : g.get? a = some (seqObj "list" vs n)) (u : HO) : RKy K (upd H a u) ι v r := by
  cases r with
  | d x => exact RD.mono (stay_exa h u) ⟨[], by simp⟩ _ _ k
  | new q =>
    obtain ⟨c, e, ro, n⟩ := k
    have ca : c ≠ a := fun z => by subst z; exact ro_exa h hg q ro
    exact ⟨c, e, ro.mono (stay_exa h u) ⟨[], by simp⟩ fun w hw => by rw [upd_ne ca]; exact hw, n⟩
theorem EachIs.snoc {α β : Type} {R : α → β → Prop} : ∀ {as : List α} {bs : List β} {a : α} {b : β}, EachIs R as bs → R a b → EachIs R (as ++ [a]) (bs ++ [b])
  | _, _, _, _, .nil, h => .cons h .nil
  | _, _, _, _, .cons h t, r => .cons h (EachIs.snoc t r)
end
/-! ### the keys -/
open Classical in
/-- f's key of d, where f leaves the store as it is -/
noncomputable def kyOf (f : Fn) (S : Sto) (d : D) : Option PyData := match f [.d d] S with
  | some (r, S') => if S' = S then rtKey r else none
  | none => none
noncomputable def kyG (f : Fn) (S : Sto) (d : D) : PyData := (kyOf f S d).getD .none
theorem kyOf_eq {f : Fn} {S : Sto} {d : D} {k : PyData} (h : kyOf f S d = some k) : ∃ r, f [.d d] S = some (r, S) ∧ rtKey r = some k := by
  unfold kyOf at h
  split at h
  · split at h
    · rename_i r S' e es
      subst es
      exact ⟨_, e, h⟩
    · cases h
  · cases h
theorem kyOf_of {f : Fn} {S : Sto} {d : D} {k : PyData} {r : Rt} (h : f [.d d] S = some (r, S)) (e : rtKey r = some k) : kyOf f S d = some k := by
  unfold kyOf; rw [h]; simp [e]
structure KeysOk (f : Fn) (S : Sto) (ds : List D) : Prop where
  ok : ∀ d ∈ ds, ∃ k, kyOf f S d = some k
  al : AllAlike (ds.map (kyG f S))
  so : Sortable (ds.map (kyG f S))
  dp : ∀ d ∈ ds, (kyG f S d).depth ≤ 60
open Classical in
noncomputable def gSortK (f : Fn) (r : R) : M R := fun e S => (lstOf r e S).bind fun ds => if KeysOk f S ds then some (.new (.lst (ds.mergeSort (dataLe false (kyG f S)))), e, S) else none
theorem gSortK_eq {f : Fn} {r : R} {e : En} {S : Sto} {z : R × En × Sto} (h : gSortK f r e S = some z) : ∃ ds, lstOf r e S = some ds ∧ KeysOk f S ds ∧ z = (.new (.lst (ds.mergeSort (dataLe false (kyG f S)))), e, S) := by
  obtain ⟨ds, h1, h2⟩ := Option.bind_eq_some_iff.mp h
  split at h2
  · cases h2; exact ⟨ds, h1, by assumption, rfl⟩
  · cases h2
theorem wp_sortK {f : Fn} {r : R} {e : En} {S : Sto} {Q : R → En → Sto → Prop} : Wp (gSortK f r) e S Q ↔ ∃ ds, lstOf r e S = some ds ∧ KeysOk f S ds ∧ Q (.new (.lst (ds.mergeSort (dataLe false (kyG f S))))) e S := by
  constructor
  · rintro ⟨a, e', S', h, q⟩
    obtain ⟨ds, h1, h2, h3⟩ := gSortK_eq h
    cases h3
    exact ⟨ds, h1, h2, q⟩
  · rintro ⟨ds, h1, h2, q⟩
    exact ⟨_, _, _, by unfold gSortK; rw [h1]; simp only [Option.bind_some, if_pos h2], q⟩
/-! ### the rule -/
section
variable {X : Cx} {k : Nat} {q : Addr} {fd : FuncData} {ps : List Str} {f : Fn}
theorem paired_get {α β : Type} {R : α → β → Prop} : ∀ {l : List α} {m : List β} {i : Nat} {b : β}, Paired R l m → m[i]? = some b → ∃ a, l[i]? = some a ∧ R a b
  | _, _, _, _, .nil, h => by simp at h
  | _, _, 0, _, .cons r _, h => by simp at h; subst h; exact ⟨_, rfl, r⟩
  | _, _, i + 1, _, .cons _ t, h => by
    obtain ⟨a, h1, h2⟩ := paired_get t (by simpa using h)
    exact ⟨a, by simpa using h1, h2⟩
theorem RDs.get' {K : PySem.W.Frag} {H : Hp} {ι : List Addr} : ∀ {vs : List V} {ds : List D} {i : Nat} {v : V}, RDs K H ι vs ds → vs[i]? = some v → ∃ d, ds[i]? = some d ∧ RD K H ι v d
  | _, _, _, _, .nil, h => by simp at h
  | _, _, 0, _, .cons r _, h => by simp at h; subst h; exact ⟨_, rfl, r⟩
  | _, _, i + 1, _, .cons _ t, h => by
    obtain ⟨a, h1, h2⟩ := RDs.get' t (by simpa using h)
    exact ⟨a, by simpa using h1, h2⟩
/-- what leads over the calls -/
def JK (X : Cx) (pins : List (Addr × PySem.Obj)) (σ : SV) (H : Hp) (ι : List Addr) (S : Sto) (f : Fn) (ds : List D) (a c : Addr) (i : Nat) (ks : List Value) (t : Shared) : Prop :=
  ∃ H' ι' va na vc nc vs, Inv X pins σ H' t ∧ H' a = some (exa a (seqObj "list" va na)) ∧ H' c = some (exa c (seqObj "list" vc nc)) ∧ RelS X.K H' ι' S ∧ PostC H ι H' ι' ∧ Vals vs ks ∧ EachIs (fun v d => ∃ r, f [.d d] S = some (r, S) ∧ RKy X.K H' ι' v r) vs (ds.take i)
theorem each_vals {R : V → D → Prop} {T : Value → PyData → Prop} {kf : D → PyData} (go : ∀ v u d, R v d → RelV v u → T u (kf d)) : ∀ {vs : List V} {us : List Value} {ds : List D}, Vals vs us → EachIs R vs ds → EachIs T us (ds.map kf)
  | [], _, _, .nil, .nil => .nil
  | _ :: _, _, _, .cons r rs, .cons h hs => .cons (go _ _ _ h r) (each_vals go rs hs)
theorem each_mem' {α β : Type} {R : α → β → Prop} : ∀ {as : List α} {bs : List β}, EachIs R as bs → EachIs (fun a b => R a b ∧ b ∈ bs) as bs
  | _, _, .nil => .nil
  | _, _, .cons h t => .cons ⟨h, by simp⟩ ((each_mem' t).mono fun _ _ z => ⟨z.1, List.mem_cons_of_mem _ z.2⟩)
theorem jk_leads {pins : List (Addr × PySem.Obj)} {σ : SV} {H : Hp} {ι : List Addr} {S : Sto} {ds : List D} {xs : List Value} {vs0 : List V} {a c : Addr} (F : FnG X.prog X.w X.K X.mg X.base k q fd ps (spG X.K 1 f)) (hr : Room k X.A.in1.in1) (hgd : X.A.guards = some []) (hb : Binds X.K fd ps [])
    (na : H a = none) (nc : H c = none) (rv : Vals vs0 xs) (rd : RDs X.K H ι vs0 ds) (ok : KeysOk f S ds) (ca : c ≠ a) : Leads X.prog X.w X.A.in1.in1 (.ref q) xs (ds.map (kyG f S)) a c (JK X pins σ H ι S f ds a c) := by
  refine ⟨fun i x ks t kv ec ea E hx hJ hc ha => ?_, fun i ks t kv ec g hJ hc sb ⟨kv', ec', ho⟩ => ?_, fun ks t hJ => ?_⟩
  · obtain ⟨H', ι', va, na1, vc, nc1, vs, I, h1, h2, RS, P, rvs, ek⟩ := hJ
    have ga1 : t.heap.get? a = some (seqObj "list" va na1) := (I.hok a _ h1).1
    have gc1 : t.heap.get? c = some (seqObj "list" vc nc1) := (I.hok c _ h2).1
    obtain ⟨v, hv, rx⟩ := paired_get rv hx
    obtain ⟨d, hd, rdd⟩ := rd.get' hv
    obtain ⟨kk, hk⟩ := ok.ok d (List.mem_of_getElem? hd)
    obtain ⟨r, hf, _⟩ := kyOf_eq hk
    have rd' := RD.mono P.stay P.pre _ _ rdd
    have qa : seqObj "list" va na1 = seqObj "list" #[] ea := by rw [ha] at ga1; exact (Option.some.inj ga1).symm
    have qc : seqObj "list" vc nc1 = seqObj "list" kv ec := by rw [hc] at gc1; exact (Option.some.inj gc1).symm
    have hsp : spG X.K 1 f ([v] ++ []) H' (fun w H2 => ∃ ι2, RelS X.K H2 ι2 S ∧ PostC H' ι' H2 ι2 ∧ RRt X.K H' H2 ι2 w r) (fun _ _ _ => False) :=
      ⟨rfl, ι', [.d d], S, r, S, RS, .cons rd' (fun _ _ z => z.elim) (fun z => z) .nil, hf, fun w H2 ι2 q1 q2 q3 => ⟨ι2, q1, q2, q3⟩⟩
    have rr : Vals ([v] ++ []) ([x] ++ []) := .cons rx .nil
    refine wpAny_call (codeAny_mono (F.run X.A.in1.in1 X.stack t H' ⟨[x], []⟩ _ _ _ _ hr (by exact hgd) I.env0.in1.in1 (hb t [x] I.kIn (by rw [← rr.length]; exact F.len _ _ _ _ hsp)) rr hsp) fun z s' hz => ?_)
    match z, hz with
    | .error e, hz => exact hz.elim
    | .ok .next, hz => exact hz.elim
    | .ok .brk, hz => exact hz.elim
    | .ok .cont, hz => exact hz.elim
    | .ok (.ret u), hz =>
      obtain ⟨w, H2, I2, rw2, ι2, q1, q2, q3⟩ := I.after hz
      have k1 := (q2.keep a _ h1 (RS.notin (ro_exa h1 ga1))).1
      have k2 := (q2.keep c _ h2 (RS.notin (ro_exa h2 gc1))).1
      refine ⟨⟨H2, ι2, _, _, _, _, vs ++ [w], I2, k1, k2, q1, P.trans q2, rvs.append (.cons rw2 .nil), ?_⟩, by rw [← qc]; exact (I2.hok c _ k2).1, by rw [← qa]; exact (I2.hok a _ k1).1⟩
      have e : ds.take (i + 1) = ds.take i ++ [d] := by rw [List.take_add_one, hd]; rfl
      rw [e]
      exact EachIs.snoc (ek.mono fun v' d' ⟨r', e1, e2⟩ => ⟨r', e1, e2.post q2⟩) ⟨r, hf, q3.ky⟩
  · obtain ⟨H', ι', va, na1, vc, nc1, vs, I, h1, h2, RS, P, rvs, ek⟩ := hJ
    have ga1 : t.heap.get? a = some (seqObj "list" va na1) := (I.hok a _ h1).1
    have gc1 : t.heap.get? c = some (seqObj "list" vc nc1) := (I.hok c _ h2).1
    refine ⟨upd H' c (exa c (seqObj "list" kv' ec')), ι', va, na1, kv', ec', vs, ?_, ?_, upd_same, RS.upd h2 gc1 _, P.fresh nc (stay_exa h2 _), rvs, ek.mono fun v' d' ⟨r', e1, e2⟩ => ⟨r', e1, e2.upd h2 gc1 _⟩⟩
    · exact I.write (h' := g) (t' := t.toks) (by rw [h2]; trivial) (.inl rfl) (fun b u hb e => (sb.2 b hb).trans e) ⟨_, ho⟩ (exa_ok ho)
    · rw [upd_ne ca.symm]; exact h1
  · obtain ⟨H', ι', va, na1, vc, nc1, vs, I, h1, h2, RS, P, rvs, ek⟩ := hJ
    have ga1 : t.heap.get? a = some (seqObj "list" va na1) := (I.hok a _ h1).1
    have gc1 : t.heap.get? c = some (seqObj "list" vc nc1) := (I.hok c _ h2).1
    have e : ds.take xs.length = ds := by rw [← rv.length, rd.length, List.take_length]
    rw [e] at ek
    refine each_vals (R := fun v d => (∃ r, f [.d d] S = some (r, S) ∧ RKy X.K H' ι' v r) ∧ d ∈ ds) (fun v u d ⟨⟨r, e1, e2⟩, hm⟩ ru => ?_) rvs (each_mem' ek)
    obtain ⟨kk, hk⟩ := ok.ok d hm
    obtain ⟨r', e3, e4⟩ := kyOf_eq hk
    rw [e1] at e3
    obtain rfl : r = r' := by cases e3; rfl
    have : kyG f S d = kk := by unfold kyG; rw [hk]; rfl
    rw [this]
    exact e2.reads I ru e4
theorem each_vd {K : PySem.W.Frag} {H : Hp} {ι : List Addr} : ∀ {vs : List V} {us : List Value} {ds : List D}, Vals vs us → RDs K H ι vs ds → EachIs (fun u (b : V × D) => RelV b.1 u ∧ RD K H ι b.1 b.2) us (vs.zip ds)
  | _, _, [], rv, .nil => by cases rv; exact .nil
  | _, _, _ :: _, .cons r rs, .cons h hs => .cons ⟨r, h⟩ (each_vd rs hs)
theorem of_each_vd {K : PySem.W.Frag} {H : Hp} {ι : List Addr} : ∀ {us : List Value} {bs : List (V × D)}, EachIs (fun u (b : V × D) => RelV b.1 u ∧ RD K H ι b.1 b.2) us bs → Vals (bs.map (·.1)) us ∧ RDs K H ι (bs.map (·.1)) (bs.map (·.2))
  | _, _, .nil => ⟨.nil, .nil⟩
  | _, _, .cons h t => let ⟨a, b⟩ := of_each_vd t; ⟨.cons h.1 a, .cons h.2 b⟩
theorem ck_sortK (F : FnG X.prog X.w X.K X.mg X.base k q fd ps (spG X.K 1 f)) (hr : Room (k + 2) X.A) (hgd : X.A.guards = some []) (hb : Binds X.K fd ps []) : CallRK X (.builtin "sorted") [Str.ofString "key"] (fun xs zs H Q => zs = [.ref q] ∧ tOA X.K (g1 (gSortK f)) xs H Q) := fun pins s σ H xs zs us ws Q I rx rz hq => by
  obtain ⟨rfl, ι, σ', e, S, rs, r, e', S', R, hrr, hm, fin⟩ := hq
  unfold g1 at hm
  split at hm
  · cases hrr with | cons h1 h2 =>
    cases h2
    cases rx with | cons k1 k2 =>
    cases k2
    cases rz with | cons z1 z2 =>
    cases z2
    cases z1
    obtain ⟨ds, hl, ok, hz⟩ := gSortK_eq hm
    cases hz
    obtain ⟨l, vs0, rfl, hS, rd⟩ := R.lst h1 hl
    cases k1
    obtain ⟨its, rv, pl, zl⟩ := I.list hS
    have isl : s.heap.IsList l its.toArray := pl.isList
    have lits : vs0.length = its.length := rv.length
    have na := I.hok.fresh (Nat.le_succ s.heap.objs.size)
    have nc := I.hok.fresh (Nat.le_add_right s.heap.objs.size 3)
    have ca : s.heap.objs.size + 3 ≠ s.heap.objs.size + 1 := Nat.ne_of_gt (Nat.add_lt_add_left (by decide) _)
    show wpAny _ _ (call (.builtin "sorted") [.ref l] [(Str.ofString "key", .ref q)]) _ _ s
    refine srt_sorted (J := JK X pins σ H ι S f ds (s.heap.objs.size + 1) (s.heap.objs.size + 3)) (kz := ds.map (kyG f S)) isl
      (jk_leads F hr.in1.in1 hgd hb na nc rv rd ok ca) (fun g tk ea kp ga gc => ?_) (by rw [List.length_map, ← rd.length, lits]) (by rw [← lits]; exact zl) ok.al ok.so (fun d hd => ?_) fun ks t hJ g tk n out b2 got ko => ?_
    · exact ⟨_, ι, _, _, _, _, [], inv_two I kp (Nat.le_succ _) (Nat.le_add_right _ 3) ca ga gc, by rw [upd_ne ca.symm]; exact upd_same, upd_same, (R.s.rel.new na).1.s.rel.new (by rw [upd_ne ca]; exact nc) |>.1.s, (PostC.new na).trans (PostC.new (by rw [upd_ne ca]; exact nc)), .nil, .nil⟩
    · obtain ⟨d', hd', rfl⟩ := List.mem_map.mp hd
      have := ok.dp d' hd'
      have := hr.un
      omega
    · obtain ⟨H', ι', va, na1, vc, nc1, vs, I', e1, e2, RS, P, rvs, ek⟩ := hJ
      have ga1 : t.heap.get? (s.heap.objs.size + 1) = some (seqObj "list" va na1) := (I'.hok _ _ e1).1
      have gc1 : t.heap.get? (s.heap.objs.size + 3) = some (seqObj "list" vc nc1) := (I'.hok _ _ e2).1
      obtain ⟨h1', sc, ⟨ec, gc⟩, sa⟩ := b2
      have rd' := RDs.mono P.stay P.pre _ _ rd
      have eb : ds = (vs0.zip ds).map (·.2) := by rw [List.map_snd_zip (by rw [rd.length]; exact Nat.le_refl _)]
      have kz : ds.map (kyG f S) = (vs0.zip ds).map fun b => kyG f S b.2 := by
        conv => lhs; rw [eb]
        rw [List.map_map]; rfl
      rw [kz] at ko
      have eo := PySem.W.keyedOut_each (fun b : V × D => kyG f S b.2) ko (each_vd rv rd')
      obtain ⟨v1, v2⟩ := of_each_vd eo
      have es : ((vs0.zip ds).mergeSort (dataLe false fun b : V × D => kyG f S b.2)).map (·.2) = ds.mergeSort (dataLe false (kyG f S)) := by
        have := List.map_mergeSort (r := dataLe false fun b : V × D => kyG f S b.2) (s := dataLe false (kyG f S)) (f := fun b : V × D => b.2) (l := vs0.zip ds) (fun _ _ _ _ => rfl)
        rw [this, ← eb]
      rw [es] at v2
      have zo : (((vs0.zip ds).mergeSort (dataLe false fun b : V × D => kyG f S b.2)).map (·.1)).length ≤ sizeLine := by
        rw [List.length_map, List.length_mergeSort, List.length_zip, rd.length, Nat.min_self, ← rd.length]; exact zl
      have I1 : Inv X pins σ (upd H' (s.heap.objs.size + 3) (exa (s.heap.objs.size + 3) (seqObj "list" #[] ec))) { t with heap := h1', toks := t.toks } :=
        I'.write (by rw [e2]; trivial) (.inl rfl) (fun b u hb e => (sc.2 b hb).trans e) ⟨_, gc⟩ (exa_ok gc)
      have e1' : upd H' (s.heap.objs.size + 3) (exa (s.heap.objs.size + 3) (seqObj "list" #[] ec)) (s.heap.objs.size + 1) = some (exa (s.heap.objs.size + 1) (seqObj "list" va na1)) := by rw [upd_ne ca.symm]; exact e1
      have I2 : Inv X pins σ (upd (upd H' (s.heap.objs.size + 3) (exa (s.heap.objs.size + 3) (seqObj "list" #[] ec))) (s.heap.objs.size + 1) (.lst (((vs0.zip ds).mergeSort (dataLe false fun b : V × D => kyG f S b.2)).map (·.1)))) { t with heap := g, toks := tk } :=
        I1.write (t' := tk) (h' := g) (by rw [e1']; trivial) (.inl rfl) (fun b u hb e => (sa.2 b hb).trans e) ⟨_, got⟩ ⟨zo, out, n, v1, got⟩
      have P1 := P.fresh (u := exa (s.heap.objs.size + 3) (seqObj "list" #[] ec)) nc (stay_exa e2 _)
      have P2 := P1.fresh (u := .lst (((vs0.zip ds).mergeSort (dataLe false fun b : V × D => kyG f S b.2)).map (·.1))) na (stay_exa e1' _)
      have RS1 := RS.upd e2 gc1 (exa (s.heap.objs.size + 3) (seqObj "list" #[] ec))
      have RS2 := RS1.upd e1' ga1 (.lst (((vs0.zip ds).mergeSort (dataLe false fun b : V × D => kyG f S b.2)).map (·.1)))
      obtain ⟨R3, P3⟩ := R.called RS2 P2
      refine ⟨.ref (s.heap.objs.size + 1), _, I2, rfl, fin _ _ ι' R3 P3 ⟨_, rfl, ⟨_, upd_same, ?_⟩, RS.notin (ro_exa e1 ga1), R.ne_none na⟩ ⟨_, rfl, na⟩⟩
      exact RDs.mono ((stay_exa e2 _).trans (stay_exa e1' _)) ⟨[], by simp⟩ _ _ v2
  · cases hm
theorem ge_sortK {ex : Expr} {m' : M (List R)} {y : Str} {p np kpos pos : Pos} (F : GF X.prog X.w X.K X.mg X.base k y 1 f) (hr : Room (k + 2) X.A) (hgd : X.A.guards = some []) (hgy : Gl X y) (hg : Gl X "sorted") (hm : X.mg "sorted" = none) (hv : bootBuiltins "sorted" = some (.builtin "sorted")) (h : GA X [ex] m')
    (hdy : (y == ("__debug__" : Str)) = false := by decide) (he : backTo pos (starEach [ex] X.env) = (false, eval ex X.env) :: backTo pos (starEach [] X.env) := by rfl) (hpl : (backTo pos (starEach [ex] X.env)).any (·.1) = false := by rfl)
    (hall : (backToKw pos (keywordEach [⟨some (Str.ofString "key"), .Name y np, kpos⟩] X.env)).all (·.1.isSome) = true := by rfl) (hnone : (backToKw pos (keywordEach [⟨some (Str.ofString "key"), .Name y np, kpos⟩] X.env)).any (·.1.isNone) = false := by rfl) (hks : (backToKw pos (keywordEach [⟨some (Str.ofString "key"), .Name y np, kpos⟩] X.env)).filterMap (·.1) = [Str.ofString "key"] := by rfl) :
    GE X (.Call (.Name "sorted" p) [ex] [⟨some (Str.ofString "key"), .Name y np, kpos⟩] pos) (bnd m' (g1 (gSortK f))) := by
  obtain ⟨q, fd, ps, ok, hmf, hk, hb⟩ := F.ex
  refine PE.imp (pe_callBK (ck_sortK ok hr hgd hb) hg hm hv h (pk_cons (pe_glob (v := .ref q) hgy hmf rfl hdy) pk_nil) (by decide) (by decide) he hpl hall hnone hks) fun σ H Q q => ?_
  obtain ⟨ι, e, S, rs, e1, S1, R, h1, q⟩ := tG_cb q
  exact ⟨ι, e, S, rs, e1, S1, R, h1, fun vs H1 ι1 R1 P1 r1 => ⟨rfl, q vs H1 ι1 R1 P1 r1⟩⟩
end
end G

set_option Elab.async false
set_option linter.all false
set_option maxRecDepth 1000000
set_option maxHeartbeats 4000000
/-! GB: dicts: comprehensions, d[k] = v, k in d, d.pop(k), list(d.values()). -/
namespace G
variable [Wld]
open PySem PySem.Spec PyProof.Rows L2
section
variable {K : PySem.W.Frag} {H : Hp} {ι : List Addr} {σ : SV} {e : En} {S : Sto} {v : V} {r : R}
theorem Rel.writeD {kvs : List (Key × D)} (R : Rel K H ι σ e S) (hr : RR K H ι σ e v r) (hl : G.look r e S = some (.dct kvs)) (hw : isW r = true) :
    ∃ a ws, v = .ref a ∧ H a = some (.dK ws) ∧ RK K H ι ws kvs ∧ ∀ ws' kvs', RK K H ι ws' kvs' → Rel K (upd H a (.dK ws')) ι σ (putE r (.dct kvs') e) (putS r (.dct kvs') S) ∧ Post H ι σ e (upd H a (.dK ws')) ι σ (putE r (.dct kvs') e) := by
  obtain ⟨a, rfl, ro, w⟩ := R.write hr hl hw
  have st := ro.stay
  obtain ⟨xs, h1, h2⟩ := ro
  exact ⟨a, xs, rfl, h1, h2, fun ys es h => w _ _ ⟨ys, upd_same, h.mono (st _) ⟨[], by simp⟩⟩⟩
def dropD (kvs : List (Key × D)) (k : Key) : List (Key × D) := kvs.filter fun kv => decide (kv.1 ≠ k)
theorem RK.drop {ws : List (Key × V)} {kvs : List (Key × D)} (h : RK K H ι ws kvs) (k : Key) : RK K H ι (dropK ws k) (dropD kvs k) := by
  induction h with
  | nil => exact .nil
  | cons h1 _ ih =>
    rename_i p q _ _ _
    unfold dropK dropD
    by_cases hk : q.1 = k
    · rw [List.filter_cons_of_neg (by simp [h1.1, hk]), List.filter_cons_of_neg (by simp [hk])]; exact ih
    · rw [List.filter_cons_of_pos (by simp [h1.1, hk]), List.filter_cons_of_pos (by simp [hk])]; exact .cons h1 ih
theorem RK.snds {ws : List (Key × V)} {kvs : List (Key × D)} (h : RK K H ι ws kvs) : RDs K H ι (ws.map (·.2)) (kvs.map (·.2)) := by
  induction h with
  | nil => exact .nil
  | cons h1 _ ih => exact .cons h1.2 ih
theorem RK.len {ws : List (Key × V)} {kvs : List (Key × D)} (h : RK K H ι ws kvs) : ws.length = kvs.length := Paired.length h
theorem putD_len (kvs : List (Key × D)) (k : Key) (d : D) : (putD kvs k d).length ≤ kvs.length + 1 := by
  unfold putD
  split <;> simp
theorem mergeD_len : ∀ (more kvs : List (Key × D)), (mergeD kvs more).length ≤ kvs.length + more.length
  | [], kvs => by simp [mergeD]
  | p :: more, kvs => by
    have h := mergeD_len more (putD kvs p.1 p.2)
    have h2 := putD_len kvs p.1 p.2
    have e : mergeD kvs (p :: more) = mergeD (putD kvs p.1 p.2) more := rfl
    rw [e, List.length_cons]
    omega
theorem mergeD_snoc (kvs more : List (Key × D)) (p : Key × D) : mergeD kvs (more ++ [p]) = putD (mergeD kvs more) p.1 p.2 := by
  unfold mergeD; rw [List.foldl_append]; rfl
theorem prsOf_append : ∀ {xs ys : List D} {all : List (Key × D)}, prsOf (xs ++ ys) = some all → ∃ a b, prsOf xs = some a ∧ prsOf ys = some b ∧ all = a ++ b
  | [], ys, all, h => ⟨[], all, rfl, h, rfl⟩
  | x :: xs, ys, all, h => by
    rw [List.cons_append] at h
    unfold prsOf at h
    split at h
    · rename_i hh; cases hh
    · rename_i kd vd ds' hh
      cases hh
      obtain ⟨k, hk, h⟩ := Option.bind_eq_some_iff.mp h
      obtain ⟨cs, e1, e2⟩ := Option.map_eq_some_iff.mp h
      subst e2
      obtain ⟨a, b, e3, e4, rfl⟩ := prsOf_append e1
      refine ⟨(k, vd) :: a, b, ?_, e4, rfl⟩
      unfold prsOf
      rw [hk, e3]; rfl
    · cases h
theorem prsOf_snoc {xs : List D} {a : List (Key × D)} {kd vd : D} {k : Key} (h : prsOf xs = some a) (hk : keyOf kd = some k) : prsOf (xs ++ [.tup [kd, vd]]) = some (a ++ [(k, vd)]) := by
  induction xs generalizing a with
  | nil => cases h; unfold prsOf; simp only [List.nil_append]; rw [hk]; rfl
  | cons x xs ih =>
    unfold prsOf at h
    split at h
    · rename_i hh; cases hh
    · rename_i kd' vd' ds' hh
      cases hh
      obtain ⟨k', hk', h⟩ := Option.bind_eq_some_iff.mp h
      obtain ⟨cs, e1, e2⟩ := Option.map_eq_some_iff.mp h
      subst e2
      rw [List.cons_append]
      unfold prsOf
      rw [hk', ih e1]; rfl
    · cases h
end
/-! ### comprehensions -/
def mKV (mk mv : M R) : M R := bnd mk fun k => bnd mv fun x => match k, x with
  | .d k, .d x => pur (.d (.tup [k, x]))
  | _, _ => stk
noncomputable def mDc (vs : List Nat) (t : Tgt) (mi : M Src) (c : M Bool) (mk mv : M R) : M R := bnd mi fun src => bnd (fun e S => compL vs t c (mKV mk mv) src.ws src.items (wipeE e vs) S) fun ys e S => (prsOf ys).map fun kvs => (.new (.dct (mergeD [] kvs)), e, S)
theorem tDc_of {K : PySem.W.Frag} {mi : M Src} {vs : List Nat} {t : Tgt} {mc : M Bool} {mk mv : M R} {σ : SV} {H : Hp} {Q : VK} (q : tG K (mDc vs t mi mc mk mv) σ H Q) : tDc (tGI K mi) (tGG K vs t) (tGT K mc) (tG K mk) (tG K mv) vs σ H Q := by
  obtain ⟨ι, e, S, r, e', S', R, hm, q⟩ := q
  obtain ⟨src, e1, S1, h1, hm⟩ := bnd_eq hm
  obtain ⟨ys, e2, S2, h2, hm⟩ := bnd_eq hm
  obtain ⟨all, hall, hz0⟩ := Option.map_eq_some_iff.mp hm
  cases hz0
  refine ⟨ι, e, S, src, e1, S1, R, h1, fun J H1 ι1 R1 P1 fd hz => fun Da hD => ?_⟩
  have hend := compL_env h2 fun i hi s => wipeE_none hi
  obtain ⟨R2, P2, nD1, nD2⟩ := R1.new (u := .dK []) hD
  obtain ⟨R3, P3⟩ := R2.wipe vs
  have P3' := P2.trans P3
  refine ⟨fun i m H' => m = src.items.length - i ∧ i ≤ src.items.length ∧ ∃ ι4 e4 S4 acc ak xs zs, Rel K H' ι4 (L2.wipe σ vs) e4 S4 ∧ Post H1 ι1 σ e1 H' ι4 (L2.wipe σ vs) e4 ∧ H' Da = some (.dK xs) ∧ prsOf acc = some ak ∧ RK K H' ι4 xs (mergeD [] ak) ∧ Da ∉ ι4 ∧ ¬ Obj (L2.wipe σ vs) e4 Da ∧
      ak.length ≤ i ∧ compL vs t mc (mKV mk mv) src.ws (src.items.drop i) e4 S4 = some (zs, e', S') ∧ ys = acc ++ zs ∧ (∀ i ∈ vs, ∀ s, e4[i]? ≠ some (some s)) ∧ e4.length = e1.length,
    ⟨_, rfl, Nat.zero_le _, ι1, wipeE e1 vs, S1, [], [], [], ys, R3, P3', upd_same, rfl, .nil, nD1, fun ⟨i, s, z1, z2, z3⟩ => nD2 ⟨i, s, (wipeE_some z1).1, z2, (wipe_some z3).1⟩, Nat.le_refl _, by simpa using h2, rfl, fun i hi s => wipeE_none hi, wipeE_length _ _⟩, ?_⟩
  rintro i m H4 ⟨rfl, hi, ι4, e4, S4, acc, ak, xs, zs, R4, P4, hD4, hak, rd4, n1, n2, hacc, hc, rfl, hw4, hlen4⟩
  have hσe : (L2.wipe σ vs).length = e4.length := R4.len
  have hlen : σ.length = e4.length := by rw [← hσe, wipe_length]
  by_cases hlt : i < src.items.length
  · rw [List.drop_eq_getElem_cons hlt] at hc
    unfold compL at hc
    split at hc
    case isFalse => cases hc
    rename_i hwat
    split at hc
    case h_2 => cases hc
    rename_i e5 ht
    have wl : ∀ p ∈ src.ws, ∀ j, p.1 = .loc j → (L2.wipe σ vs)[j]? = σ[j]? := fun p hp j hj => by
      have z := of_wat hwat p hp
      rw [hj] at z
      have z' : (match e4[j]? with
        | some (some (.own o)) => some o
        | _ => none) = some (O.lst p.2) := z
      split at z'
      · rename_i hh
        rw [wipe_at, if_neg (fun zz => hw4 j zz.1 _ hh)]
      · cases z'
    obtain ⟨go, yld⟩ := (fd i H4 ι4 _ e4 S4 R4 P4 (of_wat hwat) wl).1 _ (List.getElem?_eq_getElem hlt)
    refine .inr ⟨go, fun H' => ∃ ι9 e9 S9 acc9 ak9 xs9 zs9, Rel K H' ι9 (L2.wipe σ vs) e9 S9 ∧ Post H1 ι1 σ e1 H' ι9 (L2.wipe σ vs) e9 ∧ H' Da = some (.dK xs9) ∧ prsOf acc9 = some ak9 ∧ RK K H' ι9 xs9 (mergeD [] ak9) ∧ Da ∉ ι9 ∧ ¬ Obj (L2.wipe σ vs) e9 Da ∧
      ak9.length ≤ i + 1 ∧ compL vs t mc (mKV mk mv) src.ws (src.items.drop (i + 1)) e9 S9 = some (zs9, e', S') ∧ acc ++ zs = acc9 ++ zs9 ∧ (∀ i ∈ vs, ∀ s, e9[i]? ≠ some (some s)) ∧ e9.length = e1.length,
      fun H' h => ⟨src.items.length - (i + 1), by omega, rfl, hlt, h⟩, fun x H5 hy => ?_⟩
    obtain ⟨R5, P5, rdx, keep5⟩ := yld x H5 hy
    refine ⟨ι4, e4, S4, _, e5, R5, rdx, ht, fun σ6 R6 P6 hwσ => ⟨by rw [hwσ, wipe_wipe], ?_⟩⟩
    have PA := (P4.trans P5).trans P6
    have hD5 : H5 Da = some (.dK xs) := keep5 _ _ hD4
    have P46 := P5.trans P6
    have kD : ∀ {H7 ι7 σ7 e7}, Post H5 ι4 σ6 e5 H7 ι7 σ7 e7 → H7 Da = some (.dK xs) ∧ Da ∉ ι7 ∧ ¬ Own σ7 e7 Da ∧ ¬ Obj σ7 e7 Da := fun P7 => by
      obtain ⟨z1, z2, z3, z4⟩ := (P46.trans P7).keep Da _ hD4 n1 fun z => n2 (.of z)
      exact ⟨z1, z2, z3, z4 n2⟩
    have back : ∀ {H7 ι7 e7 S7}, Rel K H7 ι7 σ6 e7 S7 → Post H5 ι4 σ6 e5 H7 ι7 σ6 e7 → Rel K H7 ι7 (L2.wipe σ vs) (wipeE e7 vs) S7 ∧ Post H1 ι1 σ e1 H7 ι7 (L2.wipe σ vs) (wipeE e7 vs) := fun {H7 ι7 e7 S7} R7 P7 => by
      obtain ⟨R8, P8⟩ := R7.wipe vs
      have hx : L2.wipe σ6 vs = L2.wipe σ vs := by rw [hwσ, wipe_wipe]
      rw [hx] at R8 P8
      exact ⟨R8, (PA.trans P7).trans P8⟩
    have nObj : ∀ {e7 : En}, ¬ Obj σ6 e7 Da → ¬ Obj (L2.wipe σ vs) (wipeE e7 vs) Da := fun {e7} h => by
      have hx : L2.wipe σ6 vs = L2.wipe σ vs := by rw [hwσ, wipe_wipe]
      rintro ⟨i, s, z1, z2, z3⟩
      rw [← hx] at z3
      exact h ⟨i, s, (wipeE_some z1).1, z2, (wipe_some z3).1⟩
    have lenE : ∀ {H7 ι7 e7 S7}, Rel K H7 ι7 σ6 e7 S7 → (wipeE e7 vs).length = e1.length := fun {H7 ι7 e7 S7} R7 => by
      have : (L2.wipe σ6 vs).length = (L2.wipe (L2.wipe σ vs) vs).length := by rw [hwσ]
      rw [wipe_length, wipe_length, wipe_length] at this
      rw [wipeE_length, ← R7.len, this]
      exact R1.len
    split at hc
    · rename_i e7 S7 hcond
      refine ⟨ι4, e5, S4, true, e7, S7, R6, hcond, fun H7 ι7 R7 P7 => ?_⟩
      refine iteT ?_
      split at hc
      · rename_i y e8 S8 helt
        split at hc
        case h_2 => cases hc
        rename_i zs' e9 S9 hrest
        cases hc
        obtain ⟨rk, e71, S71, hk1, helt⟩ := bnd_eq helt
        obtain ⟨rv, e72, S72, hv1, helt⟩ := bnd_eq helt
        refine ⟨ι7, e7, S7, _, e71, S71, R7, hk1, fun vk H71 ι71 R71 P71 r71 f71 => ⟨ι71, e71, S71, _, e72, S72, R71, hv1, fun v H8 ι8 R8 P8' r8 f8 => ?_⟩⟩
        have P8 := P71.trans P8'
        cases rk with
        | d kd =>
          cases rv with
          | d vd =>
            cases helt
            have hpre := prsOf_append (xs := acc) (ys := [.tup [kd, vd]] ++ zs') (by simpa using hall)
            obtain ⟨_, b0, _, hb0, _⟩ := hpre
            obtain ⟨b1, _, hb1, _, _⟩ := prsOf_append hb0
            obtain ⟨k, hk⟩ : ∃ k, keyOf kd = some k := by
              unfold prsOf at hb1
              obtain ⟨k, hk, _⟩ := Option.bind_eq_some_iff.mp hb1
              exact ⟨k, hk⟩
            have P78 := P7.trans P8
            obtain ⟨k1, k2, k3, k4⟩ := kD P78
            have rkd : RD K H8 ι8 vk kd := RD.mono P8'.stay P8'.pre _ _ r71
            have rd8 := rd4.mono (P46.trans P78).stay (P46.trans P78).pre
            refine ⟨xs, k, keyOf_v rkd hk, k1, by rw [rd4.len]; exact Nat.lt_of_lt_of_le (Nat.lt_of_le_of_lt (Nat.le_trans (mergeD_len _ _) (by simpa using hacc)) hlt) hz, ?_⟩
            obtain ⟨R9, P9⟩ := back R8 P78
            have st : Stay H8 (upd H8 Da (.dK (putK xs k v))) := Stay.mut k1 (fun _ z => nomatch z) fun _ _ z => nomatch z
            have n9 := nObj k4
            refine ⟨ι8, wipeE e8 vs, S8, acc ++ [.tup [kd, vd]], ak ++ [(k, vd)], putK xs k v, zs', R9.other st k2 n9, P9.fresh hD st, upd_same, prsOf_snoc hak hk, ?_, k2, n9, by simp; omega, hrest, by simp, fun i hi s => wipeE_none hi, lenE R8⟩
            rw [mergeD_snoc]
            exact (rd8.put k r8).mono st ⟨[], by simp⟩
          | _ => cases helt
        | _ => cases helt
      · cases hc
    · rename_i e7 S7 hcond
      refine ⟨ι4, e5, S4, false, e7, S7, R6, hcond, fun H7 ι7 R7 P7 => ?_⟩
      refine iteF ?_
      obtain ⟨k1, k2, k3, k4⟩ := kD P7
      obtain ⟨R9, P9⟩ := back R7 P7
      exact ⟨ι7, wipeE e7 vs, S7, acc, ak, xs, zs, R9, P9, k1, hak, rd4.mono (P46.trans P7).stay (P46.trans P7).pre, k2, nObj k4, by omega, hc, rfl, fun i hi s => wipeE_none hi, lenE R7⟩
    · cases hc
  · have ei : i = src.items.length := by omega
    subst ei
    rw [List.drop_length] at hc
    unfold compL at hc
    split at hc
    case isFalse => cases hc
    rename_i hwat
    cases hc
    have wl : ∀ p ∈ src.ws, ∀ j, p.1 = .loc j → (L2.wipe σ vs)[j]? = σ[j]? := fun p hp j hj => by
      have z := of_wat hwat p hp
      rw [hj] at z
      have z' : (match e'[j]? with
        | some (some (.own o)) => some o
        | _ => none) = some (O.lst p.2) := z
      split at z'
      · rename_i hh
        rw [wipe_at, if_neg (fun zz => hw4 j zz.1 _ hh)]
      · cases z'
    refine .inl ⟨(fd _ H4 ι4 _ _ _ R4 P4 (of_wat hwat) wl).2 (Nat.le_refl _), ?_⟩
    have RF := R4.unwipe hlen hw4
    have PF : Post H1 ι1 σ e1 H4 ι4 σ e' := by
      refine ⟨P4.pre, P4.stay, P4.dom, fun b x g1 g2 g3 => ?_⟩
      obtain ⟨z1, z2, z3, z4⟩ := P4.keep b x g1 g2 g3
      have fwd : ∀ {i : Nat} {s : Sl} {v : V}, e'[i]? = some (some s) → σ[i]? = some (some v) → (L2.wipe σ vs)[i]? = some (some v) := fun {i s v} h h' => by
        rw [wipe_at, if_neg (fun z => hw4 i z.1 s h)]; exact h'
      refine ⟨z1, z2, ?_, fun h => ?_⟩
      · rintro ⟨i, o, h5, h6⟩
        exact z3 ⟨i, o, h5, fwd h5 h6⟩
      · rintro ⟨i, s, h5, h7, h6⟩
        exact z4 h ⟨i, s, h5, h7, fwd h5 h6⟩
    have eall : all = ak := by
      rw [List.append_nil, hak] at hall
      exact (Option.some.inj hall).symm
    subst eall
    refine q _ H4 ι4 RF (P1.trans PF) ⟨Da, rfl, ⟨xs, hD4, rd4⟩, n1, fun ⟨i, s, h5, h7, h6⟩ => ?_⟩ ⟨Da, rfl, P1.back hD⟩
    refine n2 ⟨i, s, h5, h7, ?_⟩
    rw [wipe_at, if_neg (fun z => hw4 i z.1 s h5)]; exact h6
section
variable {X : Cx} {kx vx tg iter : Expr} {ifs : List Expr} {scope : Scope} {own : List (Str × Nat)} {pos : Pos} {mi : M Src} {t : Tgt} {mc : M Bool} {mk mv : M R}
theorem ge_dc (hc : X.calm = true) (hN : X.N.Nodup) (hi : GI X tg iter mi) (ok : BlkOk X.N X.env.scope scope own)
    (hg : ∀ (s : Shared) (H : Hp) (C : Addr) (cl : List (Str × Addr)) (fp : List Addr), GG (X.blk s H scope (compEnvC scope cl C X.env) fp) (own.map (·.2)) tg t)
    (ht : ∀ (s : Shared) (H : Hp) (C : Addr) (cl : List (Str × Addr)) (fp : List Addr), GTs (X.blk s H scope (compEnvC scope cl C X.env) fp) ifs mc)
    (hk : ∀ (s : Shared) (H : Hp) (C : Addr) (cl : List (Str × Addr)) (fp : List Addr), GE (X.blk s H scope (compEnvC scope cl C X.env) fp) kx mk)
    (he : ∀ (s : Shared) (H : Hp) (C : Addr) (cl : List (Str × Addr)) (fp : List Addr), GE (X.blk s H scope (compEnvC scope cl C X.env) fp) vx mv) (hs : ∀ x, foldedSetIterable iter X.env x = pure x := by intro _; rfl) :
    GE X (.DictComp kx vx [⟨tg, iter, ifs, 0⟩] scope pos) (mDc (own.map (·.2)) t mi mc mk mv) := PE.imp (pe_dc hc hN hi ok hg (fun s H C cl fp => (ht s H C cl fp).h) hk he hs) fun σ H Q q => tDc_of q
end
section
variable {X : Cx} {o i value e : Expr} {pos pos' apos cpos mpos p : Pos} {mo mi mv mk : M R}
/-! ### d[k] = v -/
def setK (ro ri : R) (x : D) : M Fl := fun e S => match ri with
  | .d y => (match look ro e S with
    | some (.dct kvs) => (keyOf y).bind fun k => if isW ro && decide (kvs.length < 1000000) then some (.nx, putE ro (.dct (putD kvs k x)) e, putS ro (.dct (putD kvs k x)) S) else none
    | _ => none)
  | _ => none
theorem setK_eq {ro ri : R} {x : D} {e : En} {S : Sto} {z} (h : setK ro ri x e S = some z) : ∃ kvs y k, look ro e S = some (.dct kvs) ∧ ri = .d y ∧ keyOf y = some k ∧ isW ro = true ∧ kvs.length < 1000000 ∧ z = (.nx, putE ro (.dct (putD kvs k x)) e, putS ro (.dct (putD kvs k x)) S) := by
  unfold setK at h
  split at h
  · split at h
    · obtain ⟨k, h1, h2⟩ := Option.bind_eq_some_iff.mp h
      split at h2
      · rename_i hc
        simp only [Bool.and_eq_true, decide_eq_true_eq] at hc
        exact ⟨_, _, k, by assumption, rfl, h1, hc.1, hc.2, (Option.some.inj h2).symm⟩
      · cases h2
    · cases h
  · cases h
def mSetK (mv mo mi : M R) : M Fl := bnd mv fun v => match v with
  | .d x => bnd mo fun o => bnd mi fun i => setK o i x
  | _ => stk
theorem gs_setK (hu : X.A.units + 1 < cLine) (hv : GE X value mv) (ho : GE X o mo) (hi : GE X i mi) (hs : swapsWith value (some (.Subscript o i pos')) pos.line X.env = pure false := by rfl) :
    GS X (.Assign [.Subscript o i pos'] value pos) (mSetK mv mo mi) := PS.imp (ps_dput hu ho hi hv hs) fun D σ H q => by
  obtain ⟨ι, e, S, fl, e', S', R, hm, q⟩ := q
  obtain ⟨x, e1, S1, h1, hm⟩ := bnd_eq hm
  refine ⟨ι, e, S, x, e1, S1, R, h1, fun v H1 ι1 R1 P1 r1 _ => ?_⟩
  cases x with
  | d x =>
    obtain ⟨ro, e2, S2, h2, hm⟩ := bnd_eq (show bnd mo (fun o => bnd mi fun i => setK o i x) e1 S1 = some (fl, e', S') from hm)
    obtain ⟨ri, e3, S3, h3, hm⟩ := bnd_eq hm
    obtain ⟨kvs, y, k, g1, rfl, g2, g3, g4, hz⟩ := setK_eq hm
    cases hz
    refine ⟨ι1, e1, S1, ro, e2, S2, R1, h2, fun vo H2 ι2 R2 P2 r2 _ => ⟨ι2, e2, S2, _, e3, S3, R2, h3, fun vi H3 ι3 R3 P3 r3 _ => ?_⟩⟩
    obtain ⟨a, ws, rfl, k1, k2, k3⟩ := R3.writeD (r2.post P3) g1 g3
    have r3' : RD X.K H3 ι3 vi y := r3
    have rx : RD X.K H3 ι3 v x := (show RR X.K H3 ι3 σ e3 v (.d x) from (RR.post (r := .d x) r1 (P2.trans P3)))
    obtain ⟨R4, P4⟩ := k3 _ _ (k2.put k rx)
    exact ⟨a, _, rfl, .inl ⟨ws, k, k1, keyOf_v r3' g2, by rw [k2.len]; exact Nat.lt_of_lt_of_le g4 line_ge, rfl⟩, q σ _ ι3 R4 (((P1.trans P2).trans P3).trans P4)⟩
  | _ => cases hm
/-! ### k in d -/
def gInD (neg : Bool) (rx ry : R) : M R := fun e S => match rx with
  | .d y => (match look ry e S with
    | some (.dct kvs) => (keyOf y).map fun k => (.d (.bl ((valD kvs k).isSome != neg)), e, S)
    | _ => none)
  | _ => none
theorem gInD_eq {neg : Bool} {rx ry : R} {e : En} {S : Sto} {z : R × En × Sto} (h : gInD neg rx ry e S = some z) : ∃ kvs y k, rx = .d y ∧ look ry e S = some (.dct kvs) ∧ keyOf y = some k ∧ z = (.d (.bl ((valD kvs k).isSome != neg)), e, S) := by
  unfold gInD at h
  split at h
  · split at h
    · obtain ⟨k, h1, h2⟩ := Option.map_eq_some_iff.mp h
      exact ⟨_, _, k, rfl, by assumption, h1, h2.symm⟩
    · cases h
  · cases h
theorem tDI_of {K : PySem.W.Frag} {neg : Bool} {σ : SV} {H : Hp} {Q : VK} (q : tG K (mBin (gInD neg) mi mo) σ H Q) : tG K mi σ H fun y H1 => tG K mo σ H1 fun x H2 => ∃ a ov, x = .ref a ∧ DGet H2 a y ov ∧ Q (.bl (ov.isSome != neg)) H2 := by
  obtain ⟨ι, e, S, r, e', S', R, hm, q⟩ := q
  obtain ⟨ry, e1, S1, h1, hm⟩ := bnd_eq hm
  obtain ⟨rx, e2, S2, h2, hm⟩ := bnd_eq hm
  obtain ⟨kvs, y, k, rfl, hl, hk, hz⟩ := gInD_eq hm
  cases hz
  refine ⟨ι, e, S, _, e1, S1, R, h1, fun v H1 ι1 R1 P1 r1 _ => ⟨ι1, _, _, rx, _, _, R1, h2, fun x H2 ι2 R2 P2 r2 _ => ?_⟩⟩
  obtain ⟨p, ws, rfl, g1, g2⟩ := R2.lookD r2 hl
  have r1'' : RD K H2 ι2 v y := RR.post (r := .d y) r1 P2
  refine ⟨p, valV ws k, rfl, .inl ⟨ws, k, g1, keyOf_v r1'' hk, rfl⟩, ?_⟩
  have e : (valV ws k).isSome = (valD kvs k).isSome := by
    cases hv : valD kvs k with
    | none => rw [(g2.val k).2 hv]; rfl
    | some d => obtain ⟨z, hz, _⟩ := (g2.val k).1 d hv; rw [hz]; rfl
  rw [e]
  exact q _ H2 ι2 R2 (P1.trans P2) (.bl _) trivial
theorem ge_din (hu : X.A.units + 1 < cLine) (hi : GE X i mi) (ho : GE X o mo) (h1 : behindInMarks .In o = false := by first | exact nomark _ | rfl) : GE X (.Compare i [.In] [o] pos) (mBin (gInD false) mi mo) :=
  PE.imp (pe_cmp (pc_din hu hi ho) h1) fun σ H Q q => by simpa [tDIn] using tDI_of q
theorem ge_dnin (hu : X.A.units + 1 < cLine) (hi : GE X i mi) (ho : GE X o mo) (h1 : behindInMarks .NotIn o = false := by first | exact nomark _ | rfl) : GE X (.Compare i [.NotIn] [o] pos) (mBin (gInD true) mi mo) :=
  PE.imp (pe_cmp (pc_dnotin hu hi ho) h1) fun σ H Q q => by simpa [tDNotIn] using tDI_of q
theorem gt_din (hu : X.A.units + 1 < cLine) (hi : GE X i mi) (ho : GE X o mo) (h1 : behindInMarks .In o = false := by first | exact nomark _ | rfl) : GT X (.Compare i [.In] [o] pos) (bnd (mBin (gInD false) mi mo) asB) :=
  PT.imp (pt_cmp (pc_din hu hi ho) h1) fun σ H Q q => by simpa [tDIn, tB] using tDI_of (tG_test q)
theorem gt_dnin (hu : X.A.units + 1 < cLine) (hi : GE X i mi) (ho : GE X o mo) (h1 : behindInMarks .NotIn o = false := by first | exact nomark _ | rfl) : GT X (.Compare i [.NotIn] [o] pos) (bnd (mBin (gInD true) mi mo) asB) :=
  PT.imp (pt_cmp (pc_dnotin hu hi ho) h1) fun σ H Q q => by simpa [tDNotIn, tB] using tDI_of (tG_test q)
/-! ### d.pop(k) -/
def gDPop (rx ry : R) : M R := fun e S => match ry with
  | .d y => (match look rx e S with
    | some (.dct kvs) => (keyOf y).bind fun k => (valD kvs k).bind fun d => if isW rx then some (.d d, putE rx (.dct (dropD kvs k)) e, putS rx (.dct (dropD kvs k)) S) else none
    | _ => none)
  | _ => none
theorem gDPop_eq {rx ry : R} {e : En} {S : Sto} {z : R × En × Sto} (h : gDPop rx ry e S = some z) : ∃ kvs y k d, ry = .d y ∧ look rx e S = some (.dct kvs) ∧ keyOf y = some k ∧ valD kvs k = some d ∧ isW rx = true ∧ z = (.d d, putE rx (.dct (dropD kvs k)) e, putS rx (.dct (dropD kvs k)) S) := by
  unfold gDPop at h
  split at h
  · split at h
    · obtain ⟨k, h1, h2⟩ := Option.bind_eq_some_iff.mp h
      obtain ⟨d, h3, h4⟩ := Option.bind_eq_some_iff.mp h2
      split at h4
      · exact ⟨_, _, k, d, rfl, by assumption, h1, h3, by assumption, (Option.some.inj h4).symm⟩
      · cases h4
    · cases h
  · cases h
def mDPop (mo mk : M R) : M R := bnd mo fun x => bnd (chkD x) fun _ => bnd mk fun y => gDPop x y
theorem ge_dpop (ho : GE X o mo) (he : GE X e mk) (m : M1 X o "pop" apos e cpos := by exact ⟨rfl, rfl, rfl, rfl⟩) : GE X (.Call (.Attribute o "pop" apos) [e] [] cpos) (mDPop mo mk) :=
  PE.imp (pe_dpop1 ho he m) fun σ H Q q => by
    obtain ⟨ι, e0, S, r, e', S', R, hm, q⟩ := q
    obtain ⟨x, e1, S1, h1, hm⟩ := bnd_eq hm
    obtain ⟨_, _, _, h0, hm⟩ := bnd_eq hm
    obtain ⟨⟨kvs0, hlk0⟩, hz⟩ := chkD_eq h0
    cases hz
    obtain ⟨y, e2, S2, h2, hm⟩ := bnd_eq hm
    refine ⟨ι, e0, S, x, e1, S1, R, h1, fun v H1 ι1 R1 P1 r1 f1 => ?_⟩
    obtain ⟨p, ws, rfl, g1, g2⟩ := R1.lookD r1 hlk0
    refine ⟨p, rfl, .inl ⟨ws, g1⟩, ι1, e1, S1, y, e2, S2, R1, h2, fun vy H2 ι2 R2 P2 r2 _ => ?_⟩
    obtain ⟨kvs, y', k, d, rfl, hlk, hk, hd, hw, hz⟩ := gDPop_eq hm
    cases hz
    obtain ⟨a, ws', ea, k1, k2, k3⟩ := R2.writeD (r1.post P2) hlk hw
    cases ea
    have r2' : RD X.K H2 ι2 vy y' := r2
    obtain ⟨z, hz, rz⟩ := (k2.val k).1 d hd
    obtain ⟨R4, P4⟩ := k3 _ _ (k2.drop k)
    exact ⟨ws', k, z, k1, keyOf_v r2' hk, hz, q z _ ι2 R4 ((P1.trans P2).trans P4) (RD.mono P4.stay P4.pre _ _ rz) trivial⟩
/-! ### list(d.values()) -/
def rVals : V → List V → Hp → VK → Prop := fun x xs H Q => ∃ a kvs, x = .ref a ∧ xs = [] ∧ Rd H a (.dK kvs) ∧ ∀ p, H p = none → Q (.ref p) (upd H p (viewO "dict_values" p a))
theorem mt_values : MtR X "dict.values" rVals := fun pins s σ H x xs v us Q I rx rs q => by
  obtain ⟨a, kvs, rfl, rfl, hR, q⟩ := q
  cases rs
  obtain rfl : v = Value.ref a := rx
  obtain ⟨_, hsys, vs, rel, dof⟩ := dk_rd I.hok hR
  obtain ⟨ob, es, ep, ho, ex, _⟩ := id dof
  refine call_meetsIn PySem.F.slot_dict_values dof.typeIs PySem.F.entry_dict_values (PySem.F.args_dict_values_1 _) (meets_dict_values (mixKind X.prog X.w) a hsys) ⟨⟨vs, dof⟩, ?_⟩
  exact ⟨.ref s.heap.objs.size, _, I.laid (t' := s.toks) (fun b u e => Heap.get?_push_of_some _ e) (Nat.le_refl _) (viewO_ok (Heap.get?_push_size _ rfl)), rfl, q _ (I.hok.fresh (Nat.le_refl _))⟩
theorem cr_listVals (hc : X.calm = true) : CallR X (.type "list") (fun xs H Q => ∃ p a kvs, xs = [.ref p] ∧ H p = some (viewO "dict_values" p a) ∧ Rd H a (.dK kvs) ∧ ∀ l, H l = none → Q (.ref l) (upd H l (.lst (kvs.map (·.2))))) := fun pins s σ H xs us Q I rx q => by
  obtain ⟨p, a, kvs, rfl, hp, hR, q⟩ := q
  obtain rfl := Vals.ref1 rx
  obtain ⟨hz, hsys, vs, rel, dof⟩ := dk_rd I.hok hR
  obtain ⟨ep, dat⟩ := dof.dictAt
  have hv : s.heap.get? p = some (DSub.viewOb "dict_values" a) := (show ObjOk X.prog X.w H s.heap p (viewO "dict_values" p a) from I.hok p _ hp).1
  have lv : vs.length = kvs.length := rel.length.symm
  refine PySem.W.kdl_call (PySem.W.kdl_values (knd := mixKind X.prog X.w) (kvs := vs) (ep := ep)) (I.ok.hd hc) ⟨⟨_, hv, rfl, rfl⟩, dat⟩ (by rw [lv]; exact hz) fun h' tk acc' c' hk hS hacc => ?_
  have ev := PySem.W.kdl_vals_eq (kvs := vs) acc'.toList (by rw [Array.length_toList]; exact hacc.1) fun j v e => hacc.2 j v (by rw [← Array.getElem?_toList]; exact e)
  have hv' : Vals (kvs.map (·.2)) acc'.toList := by
    rw [ev]
    clear ev hacc hk hS dat dof lv hR q hz hv
    induction rel with
    | nil => exact .nil
    | cons h1 _ ih => exact .cons h1.2 ih
  have ok : ObjOk X.prog X.w (upd H s.heap.objs.size (.lst (kvs.map (·.2)))) h' s.heap.objs.size (.lst (kvs.map (·.2))) := ⟨by rw [List.length_map]; exact hz, acc'.toList, c', hv', by simpa using hS⟩
  exact ⟨.ref s.heap.objs.size, _, I.laid (t' := tk) hk (Nat.le_refl _) ok, rfl, q _ (I.hok.fresh (Nat.le_refl _))⟩
def notDic : R → Bool
  | .d (.dic _ _) => false
  | _ => true
theorem Rel.lookMD {K : PySem.W.Frag} {H : Hp} {ι : List Addr} {σ : SV} {e : En} {S : Sto} {v : V} {r : G.R} {kvs : List (Key × D)} (R : Rel K H ι σ e S) (hr : RR K H ι σ e v r) (h : G.look r e S = some (.dct kvs)) (hn : notDic r = true) : ∃ a ws, v = .ref a ∧ H a = some (.dK ws) ∧ RK K H ι ws kvs := by
  cases r with
  | d x =>
    have hr' : RD K H ι v x := hr
    cases hr' with
    | dic _ _ _ => cases hn
    | ref hi =>
      have h' : S[_]? = some _ := h
      obtain ⟨xs, h4, h5⟩ := R.st _ _ _ h' hi
      exact ⟨_, xs, rfl, h4, h5⟩
    | _ => cases h
  | new o => obtain ⟨a, rfl, ro, _⟩ := hr; cases h; obtain ⟨xs, h4, h5⟩ := ro; exact ⟨a, xs, rfl, h4, h5⟩
  | brw o => obtain ⟨a, rfl, ro, _⟩ := hr; cases h; obtain ⟨xs, h4, h5⟩ := ro; exact ⟨a, xs, rfl, h4, h5⟩
  | loc i =>
    have h' : (match e[i]? with
      | some (some (.own o)) => some o
      | _ => none) = some (O.dct kvs) := h
    split at h'
    · cases h'
      rename_i he
      obtain ⟨w, hw, a, rfl, ro⟩ := R.sl _ _ he
      have hr' : σ[i]? = some (some v) := hr
      rw [hr'] at hw; cases hw
      obtain ⟨xs, h4, h5⟩ := ro
      exact ⟨a, xs, rfl, h4, h5⟩
    · cases h'
def gVals (r : R) : M R := fun e S => match look r e S with
  | some (.dct kvs) => if notDic r = true then some (.new (.lst (kvs.map (·.2))), e, S) else none
  | _ => none
theorem ge_listVals (hc : X.calm = true) (hg : Gl X "list") (hm : X.mg "list" = none) (hv : bootBuiltins "list" = some (.type "list")) (ho : GE X o mo)
    (hbase : attributeBase o "values" X.env (eval o X.env) = eval o X.env := by rfl) (hline : (apos.endLine == mpos.line) = true := by rfl)
    (he : starEach [Expr.Call (.Attribute o "values" apos) [] [] mpos] X.env = (false, eval (Expr.Call (.Attribute o "values" apos) [] [] mpos) X.env) :: starEach [] X.env := by rfl) (hpl : (backTo pos (starEach ([] : List Expr) X.env)).any (·.1) = false := by rfl) :
    GE X (.Call (.Name "list" p) [.Call (.Attribute o "values" apos) [] [] mpos] [] pos) (bnd mo gVals) :=
  PE.imp (pe_callTy (cr_listVals hc) hg hm hv (pa_cons (pe_bm0 PySem.F.plainAttrs_dict PySem.F.slot_dict_values PySem.F.type_dict_values mt_values ho hbase hline) pa_nil) (by decide) (by decide) he hpl) fun σ H Q q => by
    obtain ⟨ι, e, S, r, e', S', R, hm, q⟩ := q
    obtain ⟨x, e1, S1, h1, hm⟩ := bnd_eq hm
    refine ⟨ι, e, S, x, e1, S1, R, h1, fun v H1 ι1 R1 P1 r1 _ => ?_⟩
    unfold gVals at hm
    split at hm
    · rename_i kvs hl
      split at hm
      case isFalse => cases hm
      rename_i hn
      cases hm
      obtain ⟨a, ws, rfl, g1, g2⟩ := R1.lookMD r1 hl hn
      refine ⟨.inr (.inr (.inl ⟨rfl, .inl ⟨ws, g1⟩⟩)), a, ws, rfl, rfl, .inl g1, fun p hp => ?_⟩
      obtain ⟨R2, P2, _, _⟩ := R1.new (u := viewO "dict_values" p a) hp
      have g1' : Rd (upd H1 p (viewO "dict_values" p a)) a (.dK ws) := .inl (by rw [upd_ne (ne_of_none g1 hp)]; exact g1)
      refine ⟨p, a, ws, rfl, upd_same, g1', fun l hl' => ?_⟩
      obtain ⟨R3, P3, n1, n2⟩ := R2.new (u := .lst (ws.map (·.2))) hl'
      exact q _ _ ι1 R3 (P1.trans (P2.trans P3)) ⟨l, rfl, ⟨_, upd_same, RDs.mono (P2.trans P3).stay (P2.trans P3).pre _ _ g2.snds⟩, n1, n2⟩ ⟨l, rfl, P1.back (P2.back hl')⟩
    · cases hm
end
end G

set_option Elab.async false
set_option linter.all false
set_option maxRecDepth 1000000
set_option maxHeartbeats 4000000
/-! GC: enumerate of a list, of a tuple. -/
namespace G
variable [Wld]
open PySem PySem.Spec PyProof.Rows L2
/-- enumerate.__new__ of what begins a walk -/
theorem enumNew {v : Value} {o : PySem.Obj} {P : Heap → Prop} (B : Begins v o P) : Meets (Builtin.«enumerate.__new__» ⟨[.type "enumerate", v], []⟩) (fun _ R s => P s.heap ∧
      R (.ok (.ret (.ref (s.heap.push o).objs.size))) { s with heap := (s.heap.push o).push { cls := .type "enumerate", data := .fields #[.none, .bool false, .ref s.heap.objs.size, rawInt 0, .none, .none] } }) := .of_wp fun prog w A R s h => by
  obtain ⟨g, ge, dr, tk, os⟩ := s
  obtain ⟨hP, hR⟩ := h
  have se := sub_enumerate
  have it : ∀ {A' : Around} {E : Value → Shared → Prop} {Q : Value → Shared → Prop}, Q (.ref g.objs.size) ⟨g.push o, ge, dr, tk, os⟩ → wpAny (model prog w) A' (pyIter v) Q E ⟨g, ge, dr, tk, os⟩ := fun q => B.iter prog w _ _ ⟨g, ge, dr, tk, os⟩ _ hP q
  wp_walk using it
  refine wpAny_stack_any fun st => wpAny_pure ?_
  split
  · rename_i c _ _ _ _ _
    cases (c == Value.type "enumerate") <;> (wp_walk using it; exact ⟨_, rfl, hR⟩)
  · wp_walk using it
    exact ⟨_, rfl, hR⟩
section
variable {prog : Program} {w : World} {A : Around} {E : Value → Shared → Prop} {s : Shared}
theorem callEnum {v : Value} {o : PySem.Obj} {P : Heap → Prop} {Q : Value → Shared → Prop} (B : Begins v o P) (h1 : P s.heap)
    (h : ∀ g, IsEnum g (s.heap.objs.size + 1) s.heap.objs.size 0 .none → g.get? s.heap.objs.size = some o → g.objs.size = s.heap.objs.size + 2 → (∀ b u, s.heap.get? b = some u → g.get? b = some u) → Q (.ref (s.heap.objs.size + 1)) { s with heap := g }) :
    wpAny (model prog w) A (call (.type "enumerate") [v]) Q E s := by
  refine callType_new F.called_enumerate (by decide) (F.typeCall_enumerate_1 _) (F.newCall_enumerate_1 _) (fun obj => F.args_object_init_2 obj _) F.entry_enumerate_new (enumNew B) ⟨h1, ?_⟩
  have hz : (s.heap.push o).objs.size = s.heap.objs.size + 1 := Heap.size_push ..
  show _ ∧ _
  rw [hz]
  have e1 := Heap.get?_push_size (s.heap.push o) (o := { cls := .type "enumerate", data := .fields #[.none, .bool false, .ref s.heap.objs.size, rawInt 0, .none, .none] }) rfl
  rw [hz] at e1
  exact ⟨⟨_, e1, rfl⟩, h _ e1 (Heap.get?_push_of_some _ (Heap.get?_push_size _ B.free)) (by rw [Heap.size_push, hz]) fun b u x => Heap.get?_push_of_some _ (Heap.get?_push_of_some _ x)⟩
theorem enumEndT {e it t : Addr} {i : Nat} {items : Array Value} {old : Value} {c : Int} {Q : Option Value → Shared → Prop} (hh : A.handled = none) (he : IsEnum s.heap e it c old) (hi : s.heap.IsTupleIter it t i) (ht : s.heap.IsTuple t items) (hx : items[i]? = none)
    (hQ : ∀ g, Heap.ExtBut it s.heap g → Q none { s with heap := g }) : wpAny (model prog w) A (pyNext (.ref e)) Q E s := by
  have hT : s.TypeIs (.ref e) "enumerate" := ⟨_, he, rfl⟩
  unfold pyNext
  refine wpAny_bind (wpAny_attempt (wpAny_callSpecial?_slot (name := Str.ofString "__next__") hT F.slot_enumerate_next (wpAny_call_entry F.slot_enumerate_next hT F.entry_enumerate_next ?_ (F.args_enumerate_next_1 _))))
  show wpAny _ _ (field (.ref e) 2 >>= _) _ _ _
  refine wpAny_bind (wpAny_field he rfl (x := .ref it) rfl ?_)
  refine wpAny_bind (wpAny_nextOf_tuple_end (show A.in1.handled = none from hh) hi ht hx fun g x h1 h2 => ?_)
  obtain ⟨o, ho, hc⟩ := h2
  exact wpAny_bind (wpAny_isInstance (T := "StopIteration") (b := true) ⟨o, ho, hc⟩ isSubtype_stop (wpAny_pure (hQ _ h1)))
end
/-- the tuple at a, each item in a new pair -/
def Iten (K : PySem.W.Frag) (a : Addr) : It :=
  ⟨fun i H => ∃ (xs : List V) (x : V), SqT K H a xs ∧ xs[i]? = some x, fun i H v H' => ∃ T x, v = .ref T ∧ H T = none ∧ H' = upd H T (.tup [.int (i : Nat), x]) ∧ ∀ xs, SqT K H a xs → xs[i]? = some x, fun i H => ∃ xs : List V, SqT K H a xs ∧ xs.length ≤ i⟩
theorem turnEnumT {P : Program} {w : World} {K : PySem.W.Frag} {elts : List Expr} {kk : Nat} {tpos : Pos} (a e it : Addr) :
    Turn P w K (.Tuple elts kk tpos) (Iten K a) [e, it] e (fun i h => (∃ old, IsEnum h e it ((i : Nat) : Int) old) ∧ h.IsTupleIter it a i ∧ e ≠ it ∧ e ≠ a ∧ it ≠ a) where
  mem := by simp
  obj := fun i h st b hb => by
    obtain ⟨⟨old, he⟩, ⟨o, ho, hc, hd⟩, _⟩ := st
    have eb : b = e ∨ b = it := by simpa using hb
    rcases eb with z | z
    · rw [z]; exact ⟨_, he, fun v q => nomatch q⟩
    · rw [z]; exact ⟨o, ho, fun v q => by rw [hd] at q; cases q⟩
  keep := fun i h h' st k => let ⟨⟨old, he⟩, hi, hne⟩ := st; ⟨⟨old, k e (by simp) _ he⟩, hi.at fun o q => k it (by simp) o q, hne⟩
  item := by
    intro X hP hw hK hc i pins s σ H E I hf st hg
    subst hP hw hK
    obtain ⟨⟨old, he⟩, hit, hne, hea, hia⟩ := st
    obtain ⟨xs, x, hq, hx⟩ := hg
    obtain ⟨its, rv, p, hz⟩ := I.tuple hq
    obtain ⟨u, hu, ru⟩ := rv.get hx
    have hel : e < s.heap.objs.size := Heap.lt_size he
    have hil : it < s.heap.objs.size := by obtain ⟨_, q, _⟩ := hit; exact Heap.lt_size q
    have hlt : i < its.toArray.size := by
      have := (List.getElem?_eq_some_iff.mp hu).1
      simpa using this
    have hD := Draws.tuple (prog := X.prog) (w := X.w) (A := X.A.in1) (show X.A.in1.handled = none from I.ok.hd hc) it a hia.symm its.toArray
    refine wpAny_pyNext_enum_itemD hD he ⟨hit, p⟩ hlt hne (by simp [hne, hea]) fun y h' tk hy ho hst' hT hsz hk => ?_
    have ey : y = u := by
      have z : its.toArray[i]? = some u := by simpa using hu
      rw [z] at hy; exact (Option.some.inj hy).symm
    subst ey
    refine ⟨_, rfl, wpAny_letOwnedTupleGo_enum (s := { s with heap := h', toks := tk + 1 }) ho fun h'' he' sb => ?_⟩
    have hT2 : h''.get? s.heap.objs.size = some { cls := .type "tuple", data := .seq #[.int i tk, y] } := (sb.2 _ (Nat.ne_of_gt hel)).trans hT
    have new : ObjOk X.prog X.w (upd H s.heap.objs.size (.tup [.int (i : Nat), x])) h'' s.heap.objs.size (.tup [.int (i : Nat), x]) :=
      ⟨by show 2 ≤ sizeLine; decide, [.int i tk, y], .cons ⟨_, rfl⟩ (.cons ru .nil), ⟨_, hT2, rfl, _, rfl⟩⟩
    have I1 : Inv X pins σ (upd H s.heap.objs.size (.tup [.int (i : Nat), x])) { s with heap := h'', toks := tk + 1 } :=
      I.turnedNew (ch := [e, it]) (fun b ob hb q => (sb.2 b (fun z => hb (by simp [z]))).trans (hk b ob (fun z => hb (by simp [z])) (fun z => hb (by simp [z])) q)) hf (Nat.le_refl _) new
    refine ⟨.ref s.heap.objs.size, _, I1, rfl, ⟨_, x, rfl, I.hok.fresh (Nat.le_refl _), rfl, fun ys hy => by rw [I.tuple_inj hy hq]; exact hx⟩, ⟨⟨y, ?_⟩, hst'.1.at fun o q => (sb.2 it (Ne.symm hne)).trans q, hne, hea, hia⟩, fun b hb => ?_⟩
    · have e1 : ((i + 1 : Nat) : Int) = (i : Int) + 1 := by omega
      rw [e1]; exact he'
    · have hb' : b < s.heap.objs.size := by
        have eb : b = e ∨ b = it := by simpa using hb
        rcases eb with z | z
        · rw [z]; exact hel
        · rw [z]; exact hil
      rw [upd_ne (Nat.ne_of_lt hb')]
      exact (hf b hb).1
  done := by
    intro X hP hw hK hc i pins s σ H E I hf st hg
    subst hP hw hK
    obtain ⟨⟨old, he⟩, hit, hne, hea, hia⟩ := st
    obtain ⟨xs, hq, hx⟩ := hg
    obtain ⟨its, rv, p, hz⟩ := I.tuple hq
    obtain ⟨f0, f1, f2, f3, f4, f5⟩ := hf it (by simp)
    have hl := rv.length
    exact enumEndT (I.ok.hd hc) he hit p (by simp; omega) fun h' eb => ⟨rfl, I.turned (t' := s.toks) (fun b o hb q => eb b o hb q) f0 f1 f3 f4 f5⟩
  self := fun A i s Q E st h => let ⟨⟨_, he⟩, _⟩ := st; wpAny_pyIter_enum he h
def iEnumT (K : PySem.W.Frag) (ta : TA) : TI := fun σ H R => ta σ H fun vs H1 => ∃ a xs, vs = [.ref a] ∧ SqT K H1 a xs ∧ R (Iten K a) H1
theorem pi_enumT {X : Cx} {e : Expr} {ta : TA} {p pos tpos : Pos} {elts : List Expr} {kk : Nat} (hg : Gl X "enumerate") (hm : X.mg "enumerate" = none) (ha : PA X [e] ta) (hs : starEach [e] X.env = [(false, eval e X.env)] := by rfl) :
    PI X (.Tuple elts kk tpos) (.Call (.Name "enumerate" p) [e] [] pos) (iEnumT X.K ta) := by
  refine ⟨fun pins s σ H R I h => ?_⟩
  refine Call_ (ld_blt I hg hm boot_enumerate (PyProof.Rows.callWith_type1 (thn (ha.run pos pins s σ H _ I h) fun us s1 ⟨vs, H1, I1, r1, q1⟩ => ?_) hs rfl))
  obtain ⟨a, xs, ex, hq, q⟩ := q1
  subst ex
  cases r1 with
  | cons r rr =>
    cases rr
    cases r
    obtain ⟨its, rv, p', hz⟩ := I1.tuple hq
    have al : a < s1.heap.objs.size := p'.lt
    refine callEnum (begins_tuple a its.toArray) p' fun h' he hit hsz hk => wpAny_pyIter_enum he ?_
    have I2 : Inv X pins σ H1 { s1 with heap := h' } := I1.kept (t' := s1.toks) hk
    refine ⟨s1.heap.objs.size + 1, [s1.heap.objs.size + 1, s1.heap.objs.size], _, _, H1, rfl, I2, turnEnumT a (s1.heap.objs.size + 1) s1.heap.objs.size, ⟨⟨.none, he⟩, ⟨_, hit, rfl, rfl⟩, Nat.succ_ne_self _, Nat.ne_of_gt (Nat.lt_succ_of_lt al), Nat.ne_of_gt al⟩, fun b hb => ?_, q⟩
    have eb : b = s1.heap.objs.size + 1 ∨ b = s1.heap.objs.size := by simpa using hb
    have hle : s1.heap.objs.size ≤ b := by
      rcases eb with z | z
      · rw [z]; exact Nat.le_add_right _ _
      · rw [z]; exact Nat.le_refl _
    exact I1.fpOk hle (I1.hok.fresh hle)
def enumD (ds : List D) : List D := ds.zipIdx.map fun p => .tup [.int (p.2 : Nat), p.1]
theorem enum_get {ds : List D} {i : Nat} {d : D} (h : (enumD ds)[i]? = some d) : ∃ x, ds[i]? = some x ∧ d = .tup [.int (i : Nat), x] := by
  unfold enumD at h
  rw [List.getElem?_map, List.getElem?_zipIdx] at h
  obtain ⟨p, hp, rfl⟩ := Option.map_eq_some_iff.mp h
  obtain ⟨x, hx, rfl⟩ := Option.map_eq_some_iff.mp hp
  exact ⟨x, hx, by simp⟩
theorem enum_len (ds : List D) : (enumD ds).length = ds.length := by simp [enumD]
def srcEnum (rs : List R) : M Src := fun e S => match rs with
  | [r] => (srcOf r e S).map fun z => (⟨enumD z.1.items, z.1.ws⟩, e, S)
  | _ => none
theorem gi_enum {X : Cx} {a : Expr} {p pos : Pos} {ms : M (List R)} {elts : List Expr} {kk : Nat} {tpos : Pos} (hg : Gl X "enumerate") (hm : X.mg "enumerate" = none) (ha : GA X [a] ms) (hs : starEach [a] X.env = [(false, eval a X.env)] := by rfl) :
    GI X (.Tuple elts kk tpos) (.Call (.Name "enumerate" p) [a] [] pos) (bnd ms srcEnum) :=
  PI.imp (PI.bd (PI.or (pi_enum hg hm ha hs) (pi_enumT hg hm ha hs))) fun σ H Q q => by
    obtain ⟨ι, e, S, src, e', S', R, hm, q⟩ := q
    obtain ⟨rs, e1, S1, h1, hm⟩ := bnd_eq hm
    unfold srcEnum at hm
    split at hm
    case h_2 => cases hm
    rename_i ra
    obtain ⟨⟨s1, e2, S2⟩, g1, hz⟩ := Option.map_eq_some_iff.mp hm
    cases hz
    by_cases ht : isTupR ra = true
    · refine .inr ⟨ι, e, S, _, _, _, R, h1, fun vs H1 ι1 R1 P1 r1 => ?_⟩
      cases r1 with
      | cons ka kb =>
        cases kb
        obtain ⟨_, _, a, rfl, ta, la, wa⟩ := R1.walks ka g1
        have fa := ta (isTupR_iff.mp ht)
        obtain ⟨xs, hxs, rxs⟩ := fa H1 ι1 σ _ _ R1 .refl wa fun _ _ _ _ => rfl
        have hxs' : SqT X.K H1 a xs := hxs
        refine ⟨a, xs, rfl, hxs', fun bd => q _ H1 ι1 R1 P1 (fun i H ι σ2 e S R P w1 w2 => ?_) ?_⟩
        · obtain ⟨us, h3, h4⟩ := fa H ι σ2 e S R P w1 w2
          have h3' : SqT X.K H a us := h3
          refine ⟨fun d hd => ?_, fun hl => ⟨us, h3', by rw [h4.length]; have hl' : (enumD s1.items).length ≤ i := hl; rw [enum_len] at hl'; exact hl'⟩⟩
          obtain ⟨x, e1, rfl⟩ := enum_get hd
          obtain ⟨vx, e3, rx⟩ := h4.get e1
          refine ⟨⟨us, vx, h3', e3⟩, fun z H' hz => ?_⟩
          obtain ⟨T, x', rfl, hT, rfl, f1⟩ := hz
          have := f1 us h3'; rw [e3] at this; cases this
          obtain ⟨R2, P2, _⟩ := R.new (u := .tup [.int (i : Nat), vx]) hT
          exact ⟨R2, P2, .tup (.inl (.inl upd_same)) (.cons (.int _) (.cons (RD.mono P2.stay P2.pre _ _ rx) .nil)), fun c o h => by rw [upd_ne (ne_of_none h hT)]; exact h⟩
        · show (enumD _).length ≤ _
          rw [enum_len, ← rxs.length]
          exact bd a xs (.inr hxs')
    · refine .inl ⟨ι, e, S, _, _, _, R, h1, fun vs H1 ι1 R1 P1 r1 => ?_⟩
      have ht' : ∀ ds, ra ≠ .d (.tup ds) := fun ds z => ht (isTupR_iff.mpr ⟨ds, z⟩)
      cases r1 with
      | cons ka kb =>
        cases kb
        obtain ⟨_, _, a, rfl, ta, la, wa⟩ := R1.walks ka g1
        have fa := la ht'
        obtain ⟨xs, hxs, rxs⟩ := fa H1 ι1 σ _ _ R1 .refl wa fun _ _ _ _ => rfl
        have hxs' : SqL X.K H1 a xs := hxs
        refine ⟨a, xs, rfl, hxs', fun bd => q _ H1 ι1 R1 P1 (fun i H ι σ2 e S R P w1 w2 => ?_) ?_⟩
        · obtain ⟨us, h3, h4⟩ := fa H ι σ2 e S R P w1 w2
          have h3' : SqL X.K H a us := h3
          refine ⟨fun d hd => ?_, fun hl => ⟨us, h3', by rw [h4.length]; have hl' : (enumD s1.items).length ≤ i := hl; rw [enum_len] at hl'; exact hl'⟩⟩
          obtain ⟨x, e1, rfl⟩ := enum_get hd
          obtain ⟨vx, e3, rx⟩ := h4.get e1
          refine ⟨⟨us, vx, h3', e3⟩, fun z H' hz => ?_⟩
          obtain ⟨T, x', rfl, hT, rfl, f1⟩ := hz
          have := f1 us h3'; rw [e3] at this; cases this
          obtain ⟨R2, P2, _⟩ := R.new (u := .tup [.int (i : Nat), vx]) hT
          exact ⟨R2, P2, .tup (.inl (.inl upd_same)) (.cons (.int _) (.cons (RD.mono P2.stay P2.pre _ _ rx) .nil)), fun c o h => by rw [upd_ne (ne_of_none h hT)]; exact h⟩
        · show (enumD _).length ≤ _
          rw [enum_len, ← rxs.length]
          exact bd a xs (.inl hxs')
end G

set_option Elab.async false
set_option linter.all false
set_option maxRecDepth 1000000
set_option maxHeartbeats 4000000
/-! GF: sorted(texts); what is never reached; the calculus of GA, GB, GC. -/
namespace G
variable [Wld]
open PySem PySem.Spec PyProof.Rows L2
def gSortS (r : R) : M R := fun e S => (lstOf r e S).bind fun ds => (strsOf ds).bind fun xs => if xs.length < 64 then some (.new (.lst ((srtS xs).map D.str)), e, S) else none
theorem gSortS_eq {r : R} {e : En} {S : Sto} {z : R × En × Sto} (h : gSortS r e S = some z) : ∃ ds xs, lstOf r e S = some ds ∧ strsOf ds = some xs ∧ xs.length < 64 ∧ z = (.new (.lst ((srtS xs).map D.str)), e, S) := by
  obtain ⟨ds, h1, h2⟩ := Option.bind_eq_some_iff.mp h
  obtain ⟨xs, h3, h4⟩ := Option.bind_eq_some_iff.mp h2
  split at h4
  · cases h4; exact ⟨ds, xs, h1, h3, by assumption, rfl⟩
  · cases h4
theorem cg_sortS {X : Cx} : CallR X (.builtin "sorted") (tOA X.K (g1 gSortS)) := g1_of cr_sortedS fun ι σ e S v rx r' e' S' H Q R hr hm q => by
  obtain ⟨ds, xs, h1, h2, h3, hz⟩ := gSortS_eq hm
  cases hz
  obtain ⟨a, vs, rfl, g1, g2⟩ := R.lst hr h1
  refine ⟨a, xs, rfl, by rw [← g2.ofStrs h2]; exact g1, h3, fun ys p hp hs hn => ?_⟩
  have := srtS_of hp hs
  subst this
  obtain ⟨R4, P4, n1, n2⟩ := R.new (u := .lst ((srtS xs).map V.str)) hn
  exact q _ _ ι R4 P4 ⟨p, rfl, ⟨_, upd_same, RDs.strs _⟩, n1, n2⟩ ⟨p, rfl, hn⟩
def g2I (f : Int → Int → Int) (rs : List R) : M R := match rs with
  | [.d (.int i), .d (.int j)] => pur (.d (.int (f i j)))
  | _ => stk
theorem g2I_of {X : Cx} {f : Int → Int → Int} {id : String} (h : CallR X (.builtin id) (fun xs H Q => ∃ i j, xs = [.int i, .int j] ∧ Q (.int (f i j)) H)) : CallR X (.builtin id) (tOA X.K (g2I f)) := CallR.imp h fun xs H Q q => by
  obtain ⟨ι, σ, e, S, rs, r, e', S', R, hr, hm, q⟩ := q
  unfold g2I at hm
  split at hm
  · cases hm
    cases hr with | cons h1 h2 =>
    cases h2 with | cons h2 h3 =>
    cases h3
    cases h1
    cases h2
    exact ⟨_, _, rfl, q _ H ι R .refl (.int _) trivial⟩
  · cases hm
def max2 (i j : Int) : Int := if j > i then j else i
def min2 (i j : Int) : Int := if j < i then j else i
theorem cg_max2 {X : Cx} (hc : X.calm = true) : CallR X (.builtin "max") (tOA X.K (g2I max2)) := g2I_of (call_max2 hc)
theorem cg_min2 {X : Cx} (hc : X.calm = true) : CallR X (.builtin "min") (tOA X.K (g2I min2)) := g2I_of (call_min2 hc)
theorem gs_setLcB {X : Cx} {i : Nat} {y : Str} {py : Pos} {elt tg iter : Expr} {ifs : List Expr} {scope : Scope} {own : List (Str × Nat)} {pos spos : Pos} {mi : M Src} {t : Tgt} {mc : M Bool} {me : M R}
    (hc : X.calm = true) (hN : X.N.Nodup) (hy : X.N[i]? = some y) (hyl : X.env.scope.names.lookup y = some .local)
    (hsw : swapsWith (.ListComp elt [⟨tg, iter, ifs, 0⟩] scope pos) (some (.Name y py)) spos.line X.env = pure true) (hi : GI X tg iter mi) (ok : BlkOk X.N X.env.scope scope own)
    (hg : ∀ (s : Shared) (H : Hp) (C : Addr) (cl : List (Str × Addr)) (fp : List Addr), GG (X.blk s H scope (compEnvC scope cl C X.env) fp) (own.map (·.2)) tg t)
    (ht : ∀ (s : Shared) (H : Hp) (C : Addr) (cl : List (Str × Addr)) (fp : List Addr), GTs (X.blk s H scope (compEnvC scope cl C X.env) fp) ifs mc)
    (he : ∀ (s : Shared) (H : Hp) (C : Addr) (cl : List (Str × Addr)) (fp : List Addr), GE (X.blk s H scope (compEnvC scope cl C X.env) fp) elt me) (hs : ∀ x, foldedSetIterable iter X.env x = pure x := by intro _; rfl) :
    GS X (.Assign [.Name y py] (.ListComp elt [⟨tg, iter, ifs, 0⟩] scope pos) spos) (mSet i (mBox (mLc (own.map (·.2)) t mi mc me))) :=
  PS.imp (ps_setLc hc hN hy hyl hsw hi ok hg (fun s H C cl fp => (ht s H C cl fp).h) he hs) fun D σ H q => by
    obtain ⟨ι, e, S, fl, e', S', R, hm, q⟩ := q
    obtain ⟨r, e1, S1, h1, hm⟩ := bnd_eq hm
    obtain ⟨s, hsl, hil, hz⟩ := setS_eq hm
    cases hz
    obtain ⟨x, e0, S0, h0, hb⟩ := bnd_eq h1
    cases x with
    | new o =>
      cases hb
      refine tLc_of (Q := fun x H1 => gName i x σ H1 D.nx) ⟨ι, e, S, _, _, _, R, h0, fun v H1 ι1 R1 P1 r1 f1 => ?_⟩
      obtain ⟨a, rfl, ro, n1, n2⟩ := r1
      obtain ⟨a', ea, f1⟩ := f1
      cases ea
      obtain ⟨R2, P2⟩ := R1.box P1 ro n1 n2 f1
      obtain ⟨R3, P3⟩ := R2.put (r := .d (.ref S0.length)) (v := .ref a) P2 (.ref (by rw [← R1.ilen]; simp)) trivial hsl hil
      exact q _ H1 _ R3 P3
    | _ => cases hb
theorem gs_never {X : Cx} {st : Stmt} : GS X st stk := ⟨fun pins s σ H D I q => by obtain ⟨_, _, _, _, _, _, _, hm, _⟩ := q; cases hm⟩
section
variable {e : En} {S : Sto} {Q : R → En → Sto → Prop}
theorem wp_sortS {r : R} : Wp (gSortS r) e S Q ↔ ∃ ds, lstOf r e S = some ds ∧ ∃ xs, strsOf ds = some xs ∧ xs.length < 64 ∧ Q (.new (.lst ((srtS xs).map D.str))) e S := by
  constructor
  · rintro ⟨a, e', S', h, q⟩
    obtain ⟨ds, xs, h1, h2, h3, hz⟩ := gSortS_eq h
    cases hz
    exact ⟨ds, h1, xs, h2, h3, q⟩
  · rintro ⟨ds, h1, xs, h2, h3, q⟩
    exact ⟨_, _, _, by unfold gSortS; rw [h1]; simp only [Option.bind_some, h2, if_pos h3], q⟩
theorem wp_inD {neg : Bool} {y : D} {ry : R} : Wp (gInD neg (.d y) ry) e S Q ↔ ∃ kvs, look ry e S = some (.dct kvs) ∧ ∃ k, keyOf y = some k ∧ Q (.d (.bl ((valD kvs k).isSome != neg))) e S := by
  constructor
  · rintro ⟨a, e', S', h, q⟩
    obtain ⟨kvs, y', k, h1, h2, h3, hz⟩ := gInD_eq h
    cases h1; cases hz
    exact ⟨kvs, h2, k, h3, q⟩
  · rintro ⟨kvs, h2, k, h3, q⟩
    exact ⟨_, _, _, by unfold gInD; simp only [h2, h3, Option.map_some], q⟩
theorem wp_dpop {rx : R} {y : D} : Wp (gDPop rx (.d y)) e S Q ↔ ∃ kvs, look rx e S = some (.dct kvs) ∧ isW rx = true ∧ ∃ k, keyOf y = some k ∧ ∃ d, valD kvs k = some d ∧ Q (.d d) (putE rx (.dct (dropD kvs k)) e) (putS rx (.dct (dropD kvs k)) S) := by
  constructor
  · rintro ⟨a, e', S', h, q⟩
    obtain ⟨kvs, y', k, d, h1, h2, h3, h4, h5, hz⟩ := gDPop_eq h
    cases h1; cases hz
    exact ⟨kvs, h2, h5, k, h3, d, h4, q⟩
  · rintro ⟨kvs, h2, h5, k, h3, d, h4, q⟩
    exact ⟨_, _, _, by unfold gDPop; simp only [h2, h3, h4, Option.bind_some, if_pos h5], q⟩
theorem wp_setK {ro : R} {y x : D} {Q : Fl → En → Sto → Prop} : Wp (setK ro (.d y) x) e S Q ↔ ∃ kvs, look ro e S = some (.dct kvs) ∧ isW ro = true ∧ kvs.length < 1000000 ∧ ∃ k, keyOf y = some k ∧ Q .nx (putE ro (.dct (putD kvs k x)) e) (putS ro (.dct (putD kvs k x)) S) := by
  constructor
  · rintro ⟨a, e', S', h, q⟩
    obtain ⟨kvs, y', k, h1, h2, h3, h4, h5, hz⟩ := setK_eq h
    cases h2; cases hz
    exact ⟨kvs, h1, h4, h5, k, h3, q⟩
  · rintro ⟨kvs, h1, h4, h5, k, h3, q⟩
    exact ⟨_, _, _, by unfold setK; simp only [h1, h3, Option.bind_some, h4, decide_eq_true h5, Bool.and_self, if_true], q⟩
theorem wp_vals {r : R} : Wp (gVals r) e S Q ↔ ∃ kvs, look r e S = some (.dct kvs) ∧ notDic r = true ∧ Q (.new (.lst (kvs.map (·.2)))) e S := by
  constructor
  · rintro ⟨a, e', S', h, q⟩
    unfold gVals at h
    split at h
    · split at h
      · cases h; exact ⟨_, by assumption, by assumption, q⟩
      · cases h
    · cases h
  · rintro ⟨kvs, h1, h2, q⟩
    exact ⟨_, _, _, by unfold gVals; simp only [h1, if_pos h2], q⟩
theorem wp_g2I {f : Int → Int → Int} {i j : Int} : Wp (g2I f [.d (.int i), .d (.int j)]) e S Q ↔ Q (.d (.int (f i j))) e S := wp_pur
theorem notDic_new {o : O} : notDic (.new o) = true := rfl
theorem notDic_loc {i : Nat} : notDic (.loc i) = true := rfl
theorem notDic_brw {o : O} : notDic (.brw o) = true := rfl
theorem notDic_ref {n : Nat} : notDic (.d (.ref n)) = true := rfl
end
theorem ev8 : type_of% (And.intro @wp_sortK (And.intro @wp_sortS (And.intro @wp_inD (And.intro @wp_dpop (And.intro @wp_setK (And.intro @wp_vals (And.intro @notDic_new (And.intro @notDic_loc (And.intro @notDic_brw (And.intro @notDic_ref @wp_g2I)))))))))) := And.intro @wp_sortK (And.intro @wp_sortS (And.intro @wp_inD (And.intro @wp_dpop (And.intro @wp_setK (And.intro @wp_vals (And.intro @notDic_new (And.intro @notDic_loc (And.intro @notDic_brw (And.intro @notDic_ref @wp_g2I)))))))))
end G

set_option Elab.async false
set_option linter.all false
set_option maxRecDepth 1000000
set_option maxHeartbeats 4000000
/-! GU: the calculus of GB's, GC's mirrors. -/
namespace G
variable [Wld]
open PySem PySem.Spec PyProof.Rows L2
section
variable {e : En} {S : Sto} {Q : R → En → Sto → Prop} {F : Fl → En → Sto → Prop}
theorem wp_mKV {mk mv : M R} : Wp (mKV mk mv) e S Q ↔ Wp mk e S fun k e1 S1 => Wp mv e1 S1 fun x e2 S2 => ∃ kd, k = .d kd ∧ ∃ xd, x = .d xd ∧ Q (.d (.tup [kd, xd])) e2 S2 := by
  simp only [mKV, wp_bnd]
  constructor
  · rintro ⟨k, e1, S1, h1, x, e2, S2, h2, a, e3, S3, h3, q⟩
    refine ⟨k, e1, S1, h1, x, e2, S2, h2, ?_⟩
    cases k with
    | d kd =>
      cases x with
      | d xd => cases h3; exact ⟨kd, rfl, xd, rfl, q⟩
      | _ => cases h3
    | _ => cases h3
  · rintro ⟨k, e1, S1, h1, x, e2, S2, h2, kd, rfl, xd, rfl, q⟩
    exact ⟨_, e1, S1, h1, _, e2, S2, h2, _, _, _, rfl, q⟩
theorem wp_mDc {vs : List Nat} {t : Tgt} {mi : M Src} {c : M Bool} {mk mv : M R} : Wp (mDc vs t mi c mk mv) e S Q ↔ Wp mi e S fun src e1 S1 => Wp (compL vs t c (mKV mk mv) src.ws src.items) (wipeE e1 vs) S1 fun ys e2 S2 => ∃ kvs, prsOf ys = some kvs ∧ Q (.new (.dct (mergeD [] kvs))) e2 S2 := by
  simp only [mDc, wp_bnd]
  constructor
  · rintro ⟨src, e1, S1, h1, ys, e2, S2, h2, a, e3, S3, h3, q⟩
    obtain ⟨kvs, h4, h5⟩ := Option.map_eq_some_iff.mp h3
    cases h5
    exact ⟨src, e1, S1, h1, ys, e2, S2, h2, kvs, h4, q⟩
  · rintro ⟨src, e1, S1, h1, ys, e2, S2, h2, kvs, h4, q⟩
    exact ⟨src, e1, S1, h1, ys, e2, S2, h2, _, _, _, Option.map_eq_some_iff.mpr ⟨kvs, h4, rfl⟩, q⟩
theorem wp_mSetK {mv mo mi : M R} : Wp (mSetK mv mo mi) e S F ↔ Wp mv e S fun v e1 S1 => ∃ x, v = .d x ∧ Wp mo e1 S1 fun o e2 S2 => Wp mi e2 S2 fun i e3 S3 => Wp (setK o i x) e3 S3 F := by
  simp only [mSetK, wp_bnd]
  constructor
  · rintro ⟨v, e1, S1, h, q⟩
    refine ⟨v, e1, S1, h, ?_⟩
    split at q
    · exact ⟨_, rfl, by simpa using q⟩
    · exact (wp_stk.mp q).elim
  · rintro ⟨v, e1, S1, h, x, rfl, q⟩
    exact ⟨_, e1, S1, h, by simpa using q⟩
theorem wp_mDPop {mo mk : M R} : Wp (mDPop mo mk) e S Q ↔ Wp mo e S fun x e1 S1 => Wp (chkD x) e1 S1 fun _ e2 S2 => Wp mk e2 S2 fun y e3 S3 => Wp (gDPop x y) e3 S3 Q := by simp only [mDPop, wp_bnd]
theorem srcV_ref {n : Nat} {ds : List D} (h : S[n]? = some (.lst ds)) : srcOf (.d (.ref n)) e S = some (⟨ds, [(.d (.ref n), ds)]⟩, e, S) := by simp [srcOf, look, h]
theorem wp_src_ref {n : Nat} {q : Src → En → Sto → Prop} : Wp (srcOf (.d (.ref n))) e S q ↔ ∃ ds, seqL S[n]? = some ds ∧ q ⟨ds, [(.d (.ref n), ds)]⟩ e S := by
  constructor
  · rintro ⟨a, e', S', h, k⟩
    have h' : (match S[n]? with
      | some (.lst ds) => some (⟨ds, [(R.d (.ref n), ds)]⟩, e, S)
      | _ => none) = some (a, e', S') := h
    split at h'
    · cases h'; rename_i ds hh; exact ⟨ds, by rw [hh]; rfl, k⟩
    · cases h'
  · rintro ⟨ds, h, k⟩
    have : S[n]? = some (.lst ds) := by
      cases h3 : S[n]? with
      | none => rw [h3] at h; cases h
      | some o => cases o <;> rw [h3] at h <;> cases h; rfl
    exact ⟨_, _, _, srcV_ref this, k⟩
theorem wp_enum {r : R} {q : Src → En → Sto → Prop} : Wp (srcEnum [r]) e S q ↔ Wp (srcOf r) e S fun s _ _ => q ⟨enumD s.items, s.ws⟩ e S := by
  constructor
  · rintro ⟨a, e', S', h, k⟩
    obtain ⟨⟨s, e1, S1⟩, h1, h2⟩ := Option.map_eq_some_iff.mp (show (srcOf r e S).map _ = _ from h)
    cases h2
    exact ⟨s, e1, S1, h1, k⟩
  · rintro ⟨s, e1, S1, h1, k⟩
    exact ⟨_, _, _, Option.map_eq_some_iff.mpr ⟨_, h1, rfl⟩, k⟩
end
theorem wp_abs {e : En} {S : Sto} {Q : R → En → Sto → Prop} {i : Int} : Wp (gAbs (.d (.int i))) e S Q ↔ Q (.d (.int (if i < 0 then -i else i))) e S := wp_some rfl
theorem wp_compLE {e : En} {S : Sto} {vs : List Nat} {t : Tgt} {c : M Bool} {elt : M R} {ws : List (R × List D)} {all : List D} {q : List D → En → Sto → Prop} (J : List D → List D → List D → En → Sto → Prop) (hw : ∀ pre post acc e S, J pre post acc e S → wat ws e S = true) (h0 : J [] all [] e S)
    (hs : ∀ pre d post acc e S, all = pre ++ d :: post → J pre (d :: post) acc e S → ∃ e1, t d e = some e1 ∧ Wp c e1 S fun b e2 S2 => if b = true then Wp elt e2 S2 fun r e3 S3 => ∃ y, r = .d y ∧ J (pre ++ [d]) post (acc ++ [y]) (wipeE e3 vs) S3 else J (pre ++ [d]) post acc (wipeE e2 vs) S2)
    (hd : ∀ acc e S, J all [] acc e S → q acc e S) : Wp (compL vs t c elt ws all) e S q := by
  suffices h : ∀ (post pre acc : List D) (e : En) (S : Sto), all = pre ++ post → J pre post acc e S → Wp (compL vs t c elt ws post) e S fun ys e2 S2 => q (acc ++ ys) e2 S2 by simpa using h all [] [] e S rfl h0
  intro post
  induction post with
  | nil =>
    intro pre acc e S hp hj
    have : all = pre := by simpa using hp
    subst this
    exact ⟨[], e, S, by rw [compL]; simp only [hw _ _ _ _ _ hj, if_true], by simpa using hd acc e S hj⟩
  | cons d post ih =>
    intro pre acc e S hp hj
    obtain ⟨e1, h1, b, e2, S2, h2, q2⟩ := hs pre d post acc e S hp hj
    cases b with
    | false =>
      obtain ⟨ys, e4, S4, h4, q4⟩ := ih (pre ++ [d]) acc _ S2 (by simp [hp]) q2
      exact ⟨ys, e4, S4, by rw [compL]; simp only [hw _ _ _ _ _ hj, h1, h2, if_true]; exact h4, q4⟩
    | true =>
      rw [if_pos rfl] at q2
      obtain ⟨r, e3, S3, h3, y, rfl, hj2⟩ := q2
      obtain ⟨ys, e4, S4, h4, q4⟩ := ih (pre ++ [d]) (acc ++ [y]) _ S3 (by simp [hp]) hj2
      exact ⟨y :: ys, e4, S4, by rw [compL]; simp only [hw _ _ _ _ _ hj, h1, h2, h3, if_true, h4], by simpa using q4⟩
theorem enumD_nil : enumD [] = [] := rfl
theorem ev9 : type_of% (And.intro @wp_mKV (And.intro @wp_mDc (And.intro @wp_mSetK (And.intro @wp_mDPop (And.intro @wp_enum (And.intro @wp_src_ref @wp_abs)))))) := And.intro @wp_mKV (And.intro @wp_mDc (And.intro @wp_mSetK (And.intro @wp_mDPop (And.intro @wp_enum (And.intro @wp_src_ref @wp_abs)))))
end G

set_option Elab.async false
set_option linter.all false
set_option maxRecDepth 100000
set_option maxHeartbeats 4000000
/-! GW: how great a data is, and its text. -/
namespace G
variable [Wld]
open PySem PySem.Spec PyProof.Rows L2
/-! ### texts of ASCII -/
def Asc (x : Str) : Prop := ∀ c ∈ x.cps.toList, c < 128
theorem Asc.app {a b : Str} (h : Asc a) (k : Asc b) : Asc (a ++ b) := fun c hc => by
  have : (a ++ b).cps.toList = a.cps.toList ++ b.cps.toList := by show (a.cps ++ b.cps).toList = _; simp
  rw [this] at hc
  rcases List.mem_append.mp hc with hc | hc
  · exact h c hc
  · exact k c hc
theorem Asc.join {sep : Str} (hs : Asc sep) : ∀ {ts : List Str}, (∀ t ∈ ts, Asc t) → Asc (Str.join sep ts)
  | [], _ => fun c hc => by
    have e : Str.join sep [] = ⟨#[]⟩ := rfl
    rw [e] at hc; simp at hc
  | [x], h => h x (by simp)
  | x :: y :: r, h => ((h x (by simp)).app hs).app (Asc.join hs fun t ht => h t (List.mem_cons_of_mem _ ht))
theorem digitChar_asc (n : Nat) : (Nat.digitChar n).toNat < 128 := by
  have h : ∀ k : Fin 17, (Nat.digitChar k.1).toNat < 128 := by decide +kernel
  by_cases hn : n < 17
  · exact h ⟨n, hn⟩
  · have e : Nat.digitChar n = '*' := by
      unfold Nat.digitChar
      repeat rw [if_neg (by omega)]
    rw [e]; decide
theorem toDigitsCore_asc (b : Nat) : ∀ (f n : Nat) (ds : List Char), (∀ c ∈ ds, c.toNat < 128) → ∀ c ∈ Nat.toDigitsCore b f n ds, c.toNat < 128
  | 0, n, ds, h => by unfold Nat.toDigitsCore; exact h
  | f + 1, n, ds, h => by
    unfold Nat.toDigitsCore
    dsimp only
    have h' : ∀ c ∈ Nat.digitChar (n % b) :: ds, c.toNat < 128 := fun c hc => by
      rcases List.mem_cons.mp hc with rfl | hc
      · exact digitChar_asc _
      · exact h c hc
    split
    · exact h'
    · exact toDigitsCore_asc b f _ _ h'
theorem toDigits_asc (b n : Nat) : ∀ c ∈ Nat.toDigits b n, c.toNat < 128 := toDigitsCore_asc b _ n [] (fun _ h => nomatch h)
theorem asc_ofString {s : String} (h : ∀ c ∈ s.toList, c.toNat < 128) : Asc (Str.ofString s) := by
  rw [congrFun Str.ofString_eq_byList s]
  intro c hc
  simp only [Str.ofStringByList, List.mem_map] at hc
  obtain ⟨d, hd, rfl⟩ := hc
  exact h d hd
theorem asc_int (i : Int) : Asc (Str.ofString (toString i)) := by
  refine asc_ofString ?_
  cases i with
  | ofNat m =>
    have e : toString (Int.ofNat m) = Nat.repr m := rfl
    rw [e]
    unfold Nat.repr
    rw [String.toList_ofList]
    exact toDigits_asc 10 m
  | negSucc m =>
    have e : toString (Int.negSucc m) = "-" ++ Nat.repr (m + 1) := rfl
    rw [e, String.toList_append]
    intro c hc
    rcases List.mem_append.mp hc with hc | hc
    · have : c = '-' := by simpa using hc
      subst this; decide
    · unfold Nat.repr at hc
      rw [String.toList_ofList] at hc
      exact toDigits_asc 10 _ c hc
theorem asc_reprChar {q c : Nat} (hc : c < 128) : ∀ b ∈ Builtin.Str.reprChar q c, b < 128 := by
  have hx : ∀ w : Nat, ∀ b ∈ (List.replicate (w - ((Nat.toDigits 16 c).map Char.toNat).length) 48 ++ (Nat.toDigits 16 c).map Char.toNat), b < 128 := fun w b hb => by
    rcases List.mem_append.mp hb with hb | hb
    · rw [(List.mem_replicate.mp hb).2]; decide
    · obtain ⟨d, hd, rfl⟩ := List.mem_map.mp hb
      exact toDigits_asc 16 c d hd
  unfold Builtin.Str.reprChar
  dsimp only
  repeat' split
  all_goals intro b hb
  all_goals first
    | (simp only [List.mem_cons, List.not_mem_nil, or_false] at hb; omega)
    | (rcases List.mem_append.mp hb with hb | hb
       · simp only [List.mem_cons, List.not_mem_nil, or_false] at hb; omega
       · exact hx _ b hb)
theorem asc_reprText {x : Str} (h : Asc x) : Asc (reprText x) := by
  have hq : reprQuote x < 128 := by unfold reprQuote; split <;> decide
  have go : ∀ (l : List Nat) (acc : Array Nat), (∀ c ∈ l, c < 128) → (∀ c ∈ acc.toList, c < 128) → ∀ c ∈ (l.foldl (fun out c => out ++ (Builtin.Str.reprChar (reprQuote x) c).toArray) acc).toList, c < 128 := by
    intro l
    induction l with
    | nil => intro acc _ h2; exact h2
    | cons c r ih =>
      intro acc h1 h2
      refine ih _ (fun d hd => h1 d (List.mem_cons_of_mem _ hd)) fun d hd => ?_
      simp only [Array.toList_append, List.mem_append] at hd
      rcases hd with hd | hd
      · exact h2 d hd
      · exact asc_reprChar (h1 c (by simp)) d hd
  unfold reprText
  intro c hc
  rw [← Array.foldl_toList, Array.toList_push] at hc
  rcases List.mem_append.mp hc with hc | hc
  · exact go _ _ h (fun c hc => by simp at hc; rw [hc]; exact hq) c hc
  · simp at hc; rw [hc]; exact hq
/-! ### data: small leaves, weight, depth -/
def ascB (x : Str) : Bool := x.cps.toList.all fun c => decide (c < 128)
theorem ascB_iff {x : Str} : ascB x = true ↔ Asc x := by
  unfold ascB Asc
  rw [List.all_eq_true]
  exact ⟨fun h c hc => of_decide_eq_true (h c hc), fun h c hc => decide_eq_true (h c hc)⟩
def keyOkB (N : Nat) : Key → Bool
  | .inl i => decide (i.natAbs ≤ N)
  | .inr x => ascB x
def keyW : Key → Nat
  | .inl _ => 70
  | .inr x => x.length
mutual
/-- numbers of at most N, texts of ASCII -/
def lvB (N L : Nat) : D → Bool
  | .non => true
  | .bl _ => true
  | .int i => decide (i.natAbs ≤ N)
  | .str x => ascB x
  | .tup ds => decide (ds.length ≤ L) && lvsB N L ds
  | .lst ds => decide (ds.length ≤ L) && lvsB N L ds
  | .dic ks ds => ks.all (keyOkB N) && decide (ks.length = ds.length) && lvsB N L ds
  | .ref _ => false
  | .fn _ => false
def lvsB (N L : Nat) : List D → Bool
  | [] => true
  | d :: ds => lvB N L d && lvsB N L ds
end
mutual
def wt : D → Nat
  | .int _ => 70
  | .str x => x.length
  | .tup ds => wts ds
  | .lst ds => wts ds
  | .dic ks ds => (ks.map fun k => keyW k + 1).sum + wts ds
  | _ => 0
def wts : List D → Nat
  | [] => 0
  | d :: ds => wt d + 1 + wts ds
end
mutual
def dep : D → Nat
  | .tup ds => deps ds + 1
  | .lst ds => deps ds + 1
  | .dic _ ds => deps ds + 1
  | _ => 0
def deps : List D → Nat
  | [] => 0
  | d :: ds => max (dep d) (deps ds)
end
theorem lvsB_all {N L : Nat} : ∀ ds : List D, lvsB N L ds = ds.all (lvB N L)
  | [] => rfl
  | d :: ds => by rw [lvsB, lvsB_all ds]; rfl
theorem wts_sum : ∀ ds : List D, wts ds = (ds.map fun d => wt d + 1).sum
  | [] => rfl
  | d :: ds => by rw [wts, wts_sum ds]; simp
theorem deps_le {k : Nat} : ∀ {ds : List D}, deps ds ≤ k ↔ ∀ d ∈ ds, dep d ≤ k
  | [] => by simp [deps]
  | d :: ds => by rw [deps, Nat.max_le, deps_le (ds := ds)]; simp
mutual
theorem lv_dat {N L : Nat} : ∀ {d : D}, lvB N L d = true → datB d = true
  | .non, _ => rfl
  | .bl _, _ => rfl
  | .int _, _ => rfl
  | .str _, _ => rfl
  | .tup ds, h => by simp only [datB]; exact lvs_dats (by simp only [lvB, Bool.and_eq_true] at h; exact h.2)
  | .lst ds, h => by simp only [datB]; exact lvs_dats (by simp only [lvB, Bool.and_eq_true] at h; exact h.2)
  | .dic ks ds, h => by simp only [lvB, Bool.and_eq_true] at h; simp only [datB]; exact lvs_dats h.2
  | .ref _, h => by cases h
  | .fn _, h => by cases h
theorem lvs_dats {N L : Nat} : ∀ {ds : List D}, lvsB N L ds = true → datsB ds = true
  | [], _ => rfl
  | d :: ds, h => by simp only [lvsB, Bool.and_eq_true] at h; simp only [datsB, lv_dat h.1, lvs_dats h.2, Bool.and_self]
end
theorem int_shown {N : Nat} {i : Int} (hN : N < 10 ^ 21) (h : i.natAbs ≤ N) : (PyData.int i).leavesShort 22 = true ∧ (PyData.int i).showable = true := by
  have h1 : i.natAbs < 10 ^ 21 := by omega
  have h2 := int_text_length_le10 (k := 21) (by decide) h1
  have h3 : (Str.ofString (toString i)).length ≤ 22 := by rw [PySem.ofString_length]; exact h2
  have h4 : i.natAbs.log2 < 1920 := by
    by_cases h0 : i.natAbs = 0
    · rw [h0]; decide
    · exact (Nat.log2_lt h0).mpr (Nat.lt_of_lt_of_le h1 (Nat.le_trans (by decide : 10 ^ 21 ≤ 2 ^ 80) (Nat.pow_le_pow_right (by decide) (by decide))))
  exact ⟨by simp only [PyData.leavesShort, PyData.shown]; exact decide_eq_true h3, by simp only [PyData.showable, decide_eq_true_eq]; exact h4⟩
theorem int_w {N : Nat} {i : Int} (hN : N < 10 ^ 21) (h : i.natAbs ≤ N) : (PyData.int i).weight ≤ 70 := by
  have h1 : i.natAbs < 10 ^ 21 := by omega
  simp only [PyData.weight]
  split
  · omega
  · rename_i h0
    have h0' : i.natAbs ≠ 0 := fun e => h0 (by have : i = 0 := Int.natAbs_eq_zero.mp e; subst this; rfl)
    have := (Nat.log2_lt (k := 70) h0').mpr (Nat.lt_of_lt_of_le h1 (by decide))
    omega
theorem str_short {x : Str} (h : Asc x) : (PyData.str x).leavesShort 22 = true := by
  simp only [PyData.leavesShort, List.all_eq_true, decide_eq_true_eq]
  exact fun c hc => Nat.lt_trans (h c hc) (by decide)
theorem asc_lit {s : String} (h : (Str.ofString s).cps.toList.all (fun c => decide (c < 128)) = true) : Asc (Str.ofString s) := ascB_iff.mp h
theorem asc_textFrom : ∀ (ts : List Str) (k : Nat) (acc : Str), (∀ t ∈ ts, Asc t) → Asc acc → Asc (textFrom k acc ts)
  | [], _, acc, _, h => h
  | t :: r, k, acc, ht, h => by
    refine asc_textFrom r (k + 1) _ (fun x hx => ht x (List.mem_cons_of_mem _ hx)) ((h.app ?_).app (ht t (by simp)))
    split <;> exact asc_lit (by decide)
theorem asc_list {ts : List Str} (h : ∀ t ∈ ts, Asc t) : Asc (listText ts) := by
  unfold listText
  exact (asc_textFrom ts 0 _ h (asc_lit (by decide))).app (asc_lit (by decide))
theorem asc_tuple {ts : List Str} (h : ∀ t ∈ ts, Asc t) : Asc (tupleText ts) := by
  unfold tupleText
  refine ((show Asc (Str.ofString "(") from asc_lit (by decide)).app (Asc.join (asc_lit (by decide)) h)).app ?_
  split <;> exact asc_lit (by decide)
theorem asc_dict {ts : List Str} (h : ∀ t ∈ ts, Asc t) : Asc (dictText ts) := by
  unfold dictText
  exact ((show Asc (Str.ofString "{") from asc_lit (by decide)).app (Asc.join (asc_lit (by decide)) h)).app (asc_lit (by decide))
/-- what a data is for repr -/
structure Pd (d : D) (p : PyData) : Prop where
  e : pyr d = some p
  l : p.leavesShort 22 = true
  s : p.showable = true
  w : p.weight ≤ wt d
  d : p.depth ≤ dep d
  a : Asc p.shown
structure Pds (ds : List D) (ps : List PyData) : Prop where
  e : pyrs ds = some ps
  l : PyData.leavesShortAll 22 ps = true
  s : PyData.showableAll ps = true
  w : PyData.weightAll ps ≤ wts ds
  d : PyData.depthAll ps ≤ deps ds
  a : ∀ t ∈ PyData.shownAll ps, Asc t
theorem key_pd {N : Nat} (hN : N < 10 ^ 21) {k : Key} (h : keyOkB N k = true) : (keyP k).leavesShort 22 = true ∧ (keyP k).showable = true ∧ (keyP k).weight ≤ keyW k ∧ (keyP k).depth = 0 ∧ Asc (keyP k).shown := by
  cases k with
  | inl i =>
    have h' : i.natAbs ≤ N := of_decide_eq_true h
    obtain ⟨a, b⟩ := int_shown hN h'
    exact ⟨a, b, int_w hN h', by simp only [keyP, PyData.depth], by simp only [keyP, PyData.shown]; exact asc_int i⟩
  | inr x =>
    have h' := ascB_iff.mp h
    exact ⟨str_short h', rfl, Nat.le_refl _, rfl, by simp only [keyP, PyData.shown]; exact asc_reprText h'⟩
mutual
theorem lv_pd {N L : Nat} (hN : N < 10 ^ 21) : ∀ {d : D}, lvB N L d = true → ∃ p, Pd d p
  | .non, _ => ⟨.none, rfl, rfl, rfl, Nat.le_refl _, Nat.le_refl _, by simp only [PyData.shown]; exact asc_lit (by decide)⟩
  | .bl b, _ => ⟨.bool b, rfl, rfl, rfl, Nat.le_refl _, Nat.le_refl _, by simp only [PyData.shown]; cases b <;> exact asc_lit (by decide)⟩
  | .int i, h => by
    have h' : i.natAbs ≤ N := of_decide_eq_true h
    obtain ⟨a, b⟩ := int_shown hN h'
    exact ⟨.int i, rfl, a, b, by simp only [wt]; exact int_w hN h', by simp only [PyData.depth, dep, Nat.le_refl], by simp only [PyData.shown]; exact asc_int i⟩
  | .str x, h => by
    have h' : Asc x := ascB_iff.mp (by simpa only [lvB] using h)
    exact ⟨.str x, rfl, str_short h', rfl, Nat.le_refl _, Nat.le_refl _, by simp only [PyData.shown]; exact asc_reprText h'⟩
  | .tup ds, h => by
    obtain ⟨ps, q⟩ := lvs_pd hN (ds := ds) (by simp only [lvB, Bool.and_eq_true] at h; exact h.2)
    exact ⟨.tuple ps, by simp only [pyr, q.e, Option.map_some], by simp only [PyData.leavesShort]; exact q.l, by simp only [PyData.showable]; exact q.s, by simp only [PyData.weight, wt]; exact q.w, by simp only [PyData.depth, dep]; exact Nat.succ_le_succ q.d, by simp only [PyData.shown]; exact asc_tuple q.a⟩
  | .lst ds, h => by
    obtain ⟨ps, q⟩ := lvs_pd hN (ds := ds) (by simp only [lvB, Bool.and_eq_true] at h; exact h.2)
    exact ⟨.list ps, by simp only [pyr, q.e, Option.map_some], by simp only [PyData.leavesShort]; exact q.l, by simp only [PyData.showable]; exact q.s, by simp only [PyData.weight, wt]; exact q.w, by simp only [PyData.depth, dep]; exact Nat.succ_le_succ q.d, by simp only [PyData.shown]; exact asc_list q.a⟩
  | .dic ks ds, h => by
    simp only [lvB, Bool.and_eq_true, decide_eq_true_eq, List.all_eq_true] at h
    obtain ⟨⟨h1, h2⟩, h3⟩ := h
    obtain ⟨ps, q⟩ := lvs_pd hN (ds := ds) h3
    have hl := pyrs_len q.e
    have go : ∀ (ks : List Key) (ps : List PyData) (ds : List D), (∀ k ∈ ks, keyOkB N k = true) → ks.length = ps.length → PyData.leavesShortAll 22 ps = true → PyData.showableAll ps = true → (∀ t ∈ PyData.shownAll ps, Asc t) →
        PyData.leavesShortKv 22 ((ks.map keyP).zip ps) = true ∧ PyData.showableKv ((ks.map keyP).zip ps) = true ∧ PyData.weightKv ((ks.map keyP).zip ps) ≤ (ks.map fun k => keyW k + 1).sum + PyData.weightAll ps ∧ PyData.depthKv ((ks.map keyP).zip ps) = PyData.depthAll ps ∧ ∀ t ∈ PyData.shownKv ((ks.map keyP).zip ps), Asc t := by
      intro ks
      induction ks with
      | nil => intro ps ds _ hl _ _ _; cases ps with
        | nil => exact ⟨rfl, rfl, Nat.le_refl _, rfl, fun _ h => by simp [PyData.shownKv] at h⟩
        | cons _ _ => simp at hl
      | cons k ks ih => intro ps ds hk hl hs1 hs2 hs3; cases ps with
        | nil => simp at hl
        | cons p ps =>
          simp only [PyData.leavesShortAll, PyData.showableAll, Bool.and_eq_true] at hs1 hs2
          simp only [PyData.shownAll, List.mem_cons] at hs3
          obtain ⟨a1, a2, a3, a4, a5⟩ := ih ps ds (fun k hk' => hk k (List.mem_cons_of_mem _ hk')) (by simpa using hl) hs1.2 hs2.2 (fun t ht => hs3 t (.inr ht))
          obtain ⟨b1, b2, b3, b4, b5⟩ := key_pd hN (hk k (by simp))
          simp only [List.map_cons, List.zip_cons_cons, PyData.leavesShortKv, PyData.showableKv, PyData.weightKv, PyData.depthKv, PyData.shownKv, PyData.weightAll, PyData.depthAll, List.sum_cons, a1, a2, a4, b1, b2, b4, hs1.1, hs2.1]
          refine ⟨rfl, rfl, by omega, by omega, fun t ht => ?_⟩
          rcases List.mem_cons.mp ht with rfl | ht
          · exact (b5.app (asc_lit (by decide))).app (hs3 _ (.inl rfl))
          · exact a5 t ht
    obtain ⟨a1, a2, a3, a4, a5⟩ := go ks ps ds h1 (by omega) q.l q.s q.a
    exact ⟨.dict ((ks.map keyP).zip ps), by simp only [pyr, q.e, Option.map_some], by simp only [PyData.leavesShort]; exact a1, by simp only [PyData.showable]; exact a2, by simp only [PyData.weight, wt]; exact Nat.le_trans a3 (Nat.add_le_add_left q.w _), by simp only [PyData.depth, dep, a4]; exact Nat.succ_le_succ q.d, by simp only [PyData.shown]; exact asc_dict a5⟩
  | .ref _, h => by cases h
  | .fn _, h => by cases h
theorem lvs_pd {N L : Nat} (hN : N < 10 ^ 21) : ∀ {ds : List D}, lvsB N L ds = true → ∃ ps, Pds ds ps
  | [], _ => ⟨[], rfl, rfl, rfl, Nat.le_refl _, Nat.le_refl _, fun _ h => by simp [PyData.shownAll] at h⟩
  | d :: ds, h => by
    simp only [lvsB, Bool.and_eq_true] at h
    obtain ⟨p, q⟩ := lv_pd hN h.1
    obtain ⟨ps, qs⟩ := lvs_pd hN h.2
    refine ⟨p :: ps, by simp only [pyrs, q.e, qs.e], by simp only [PyData.leavesShortAll, q.l, qs.l, Bool.and_self], by simp only [PyData.showableAll, q.s, qs.s, Bool.and_self], ?_, ?_, fun t ht => ?_⟩
    · simp only [PyData.weightAll, wts]; have := q.w; have := qs.w; omega
    · simp only [PyData.depthAll, deps]; have := q.d; have := qs.d; omega
    · simp only [PyData.shownAll, List.mem_cons] at ht
      rcases ht with rfl | ht
      · exact q.a
      · exact qs.a t ht
end
/-- data with numbers of at most N, of weight at most W, of depth at most k -/
structure Dt (N L W k : Nat) (d : D) : Prop where
  l : lvB N L d = true
  w : wt d ≤ W
  d : dep d ≤ k
theorem Dt.mono {N L W k N' L' W' k' : Nat} {d : D} (h : Dt N L W k d) (h1 : N ≤ N') (hL : L ≤ L') (h2 : W ≤ W') (h3 : k ≤ k') : Dt N' L' W' k' d := by
  refine ⟨?_, Nat.le_trans h.w h2, Nat.le_trans h.d h3⟩
  have hk : ∀ k : Key, keyOkB N k = true → keyOkB N' k = true := fun k hk => by
    cases k with
    | inl i => exact decide_eq_true (Nat.le_trans (of_decide_eq_true hk) h1)
    | inr x => exact hk
  have go : (∀ d, lvB N L d = true → lvB N' L' d = true) ∧ (∀ ds, lvsB N L ds = true → lvsB N' L' ds = true) := by
    constructor
    · intro d
      exact D.rec (motive_1 := fun d => lvB N L d = true → lvB N' L' d = true) (motive_2 := fun ds => lvsB N L ds = true → lvsB N' L' ds = true)
        (fun _ => rfl) (fun _ _ => rfl) (fun i h => decide_eq_true (Nat.le_trans (of_decide_eq_true h) h1)) (fun x h => by simpa only [lvB] using h)
        (fun ds ih h => by simp only [lvB, Bool.and_eq_true, decide_eq_true_eq] at h ⊢; exact ⟨Nat.le_trans h.1 hL, ih h.2⟩) (fun ds ih h => by simp only [lvB, Bool.and_eq_true, decide_eq_true_eq] at h ⊢; exact ⟨Nat.le_trans h.1 hL, ih h.2⟩)
        (fun ks ds ih h => by
          simp only [lvB, Bool.and_eq_true, List.all_eq_true] at h ⊢
          exact ⟨⟨fun k hk' => hk k (h.1.1 k hk'), h.1.2⟩, ih h.2⟩)
        (fun _ h => by cases h) (fun _ h => by cases h) (fun _ => rfl) (fun d ds i1 i2 h => by
          simp only [lvsB, Bool.and_eq_true] at h ⊢
          exact ⟨i1 h.1, i2 h.2⟩) d
    · intro ds
      exact D.rec_1 (motive_1 := fun d => lvB N L d = true → lvB N' L' d = true) (motive_2 := fun ds => lvsB N L ds = true → lvsB N' L' ds = true)
        (fun _ => rfl) (fun _ _ => rfl) (fun i h => decide_eq_true (Nat.le_trans (of_decide_eq_true h) h1)) (fun x h => by simpa only [lvB] using h)
        (fun ds ih h => by simp only [lvB, Bool.and_eq_true, decide_eq_true_eq] at h ⊢; exact ⟨Nat.le_trans h.1 hL, ih h.2⟩) (fun ds ih h => by simp only [lvB, Bool.and_eq_true, decide_eq_true_eq] at h ⊢; exact ⟨Nat.le_trans h.1 hL, ih h.2⟩)
        (fun ks ds ih h => by
          simp only [lvB, Bool.and_eq_true, List.all_eq_true] at h ⊢
          exact ⟨⟨fun k hk' => hk k (h.1.1 k hk'), h.1.2⟩, ih h.2⟩)
        (fun _ h => by cases h) (fun _ h => by cases h) (fun _ => rfl) (fun d ds i1 i2 h => by
          simp only [lvsB, Bool.and_eq_true] at h ⊢
          exact ⟨i1 h.1, i2 h.2⟩) ds
  exact go.1 d h.l
theorem Dt.dat {N L W k : Nat} {d : D} (h : Dt N L W k d) : datB d = true := lv_dat h.l
/-- its text -/
theorem Dt.shown {N L W k : Nat} {d : D} (h : Dt N L W k d) (hN : N < 10 ^ 21) (hW : W ≤ 600000) (hk : k ≤ 60) : ∃ t, shownD d = some t ∧ t.length ≤ 24 * W + 22 ∧ Asc t := by
  obtain ⟨p, q⟩ := lv_pd hN h.l
  have h1 := PyData.shown_le 22 (by decide) p q.l
  have h2 : 24 * p.weight ≤ 24 * W := Nat.mul_le_mul_left _ (Nat.le_trans q.w h.w)
  have h3 : p.shown.length ≤ sizeLine := by rw [sizeLine_eq]; omega
  have h4 := Nat.le_trans q.d h.d
  refine ⟨p.shown, ?_, by omega, q.a⟩
  unfold shownD
  simp only [q.e, q.s, decide_eq_true h3, decide_eq_true (Nat.le_trans h4 hk), Bool.and_self, if_true]
theorem wt_mem : ∀ {ds : List D} {d : D}, d ∈ ds → wt d ≤ wts ds
  | x :: ds, d, h => by
    rw [wts]
    rcases List.mem_cons.mp h with rfl | h
    · omega
    · have := wt_mem h; omega
theorem dt_tup {N L W k : Nat} {ds : List D} : Dt N L W (k + 1) (.tup ds) ↔ ds.length ≤ L ∧ (∀ d ∈ ds, Dt N L W k d) ∧ wts ds ≤ W := by
  constructor
  · rintro ⟨h1, h2, h3⟩
    simp only [lvB, Bool.and_eq_true, decide_eq_true_eq, lvsB_all, List.all_eq_true] at h1
    simp only [wt] at h2
    simp only [dep, Nat.succ_le_succ_iff] at h3
    have h3 := deps_le.mp h3
    exact ⟨h1.1, fun d hd => ⟨h1.2 d hd, Nat.le_trans (wt_mem hd) h2, h3 d hd⟩, h2⟩
  · rintro ⟨h1, h2, h3⟩
    refine ⟨?_, by simpa only [wt] using h3, by simp only [dep]; exact Nat.succ_le_succ (deps_le.mpr fun d hd => (h2 d hd).d)⟩
    simp only [lvB, Bool.and_eq_true, decide_eq_true_eq, lvsB_all, List.all_eq_true]
    exact ⟨h1, fun d hd => (h2 d hd).l⟩
theorem dt_lst {N L W k : Nat} {ds : List D} : Dt N L W (k + 1) (.lst ds) ↔ ds.length ≤ L ∧ (∀ d ∈ ds, Dt N L W k d) ∧ wts ds ≤ W := by
  have : Dt N L W (k + 1) (.lst ds) ↔ Dt N L W (k + 1) (.tup ds) := by
    constructor <;> (rintro ⟨h1, h2, h3⟩; exact ⟨by simpa only [lvB] using h1, by simpa only [wt] using h2, by simpa only [dep] using h3⟩)
  rw [this, dt_tup]
theorem dt_str {N L W k : Nat} {x : Str} : Dt N L W k (.str x) ↔ Asc x ∧ x.length ≤ W := ⟨fun ⟨h1, h2, _⟩ => ⟨ascB_iff.mp h1, h2⟩, fun ⟨h1, h2⟩ => ⟨ascB_iff.mpr h1, h2, Nat.zero_le _⟩⟩
theorem dt_int {N L W k : Nat} {i : Int} : Dt N L W k (.int i) ↔ i.natAbs ≤ N ∧ 70 ≤ W := ⟨fun ⟨h1, h2, _⟩ => ⟨of_decide_eq_true h1, h2⟩, fun ⟨h1, h2⟩ => ⟨decide_eq_true h1, h2, Nat.zero_le _⟩⟩
theorem dt_non {N L W k : Nat} : Dt N L W k .non := ⟨rfl, Nat.zero_le _, Nat.zero_le _⟩
theorem dt_bl {N L W k : Nat} {b : Bool} : Dt N L W k (.bl b) := ⟨rfl, Nat.zero_le _, Nat.zero_le _⟩
theorem wts_app : ∀ (a b : List D), wts (a ++ b) = wts a + wts b
  | [], b => by simp [wts]
  | x :: a, b => by rw [List.cons_append, wts, wts, wts_app a b]; omega
end G

set_option Elab.async false
set_option linter.all false
set_option maxRecDepth 1000000
set_option maxHeartbeats 4000000
/-! GH: dicts keyed by rows, as the library tells them. -/
namespace G
variable [Wld]
open PySem PySem.Spec PyProof.Rows L2
theorem nks_cons {d : D} {ds : List D} {qs : List NestedKey} (h : nks (d :: ds) = some qs) : ∃ p ps, nk d = some p ∧ nks ds = some ps ∧ qs = p :: ps := by
  unfold nks at h
  split at h
  · cases h; exact ⟨_, _, by assumption, by assumption, rfl⟩
  · cases h
section
variable {H : Hp} {ι : List Addr} {X : Cx} {pins : List (Addr × PySem.Obj)} {σ : SV} {s : Shared}
mutual
theorem RD.nest (I : Inv X pins σ H s) : ∀ (d : D) (v : V) (u : Value) (k : NestedKey), RD X.K H ι v d → RelV v u → nk d = some k → NestedIs s.heap k u
  | .non, _, _, _, h, r, e => by cases h; cases r; cases e; exact .none
  | .bl b, _, _, _, h, r, e => by cases e
  | .int i, _, _, _, h, r, e => by cases h; obtain ⟨t, rfl⟩ := r; cases e; exact .int i t
  | .str x, _, _, _, h, r, e => by cases h; obtain ⟨t, rfl⟩ := r; cases e; exact .text x t
  | .tup ds, _, _, _, h, r, e => by
    obtain ⟨ps, e1, e2⟩ := Option.map_eq_some_iff.mp (show (nks ds).map NestedKey.tup = some _ from e)
    subst e2
    cases h with | tup h1 h2 =>
    cases r
    obtain ⟨its, rv, ⟨o, g, c, n, dd⟩, _⟩ := I.tuple h1
    exact .tup g c dd (by simpa using RDs.nest I ds _ _ _ h2 rv e1)
  | .lst ds, _, _, _, h, r, e => by cases e
  | .dic _ _, _, _, _, _, _, e => by cases e
  | .ref _, _, _, _, _, _, e => by cases e
  | .fn _, _, _, _, _, _, e => by cases e
theorem RDs.nest (I : Inv X pins σ H s) : ∀ (ds : List D) (vs : List V) (us : List Value) (ks : List NestedKey), RDs X.K H ι vs ds → Vals vs us → nks ds = some ks → NestedAll s.heap ks us
  | [], _, _, _, h, r, e => by cases h; cases r; cases e; exact .nil
  | d :: ds, _, _, _, h, r, e => by
    obtain ⟨p, ps, e1, e2, rfl⟩ := nks_cons e
    cases h with | cons h1 h2 =>
    cases r with | cons r1 r2 =>
    exact .cons (RD.nest I d _ _ p h1 r1 e1) (RDs.nest I ds _ _ ps h2 r2 e2)
end
theorem paired_memL {α β : Type} {R : α → β → Prop} : ∀ {l : List α} {m : List β} {a : α}, Paired R l m → a ∈ l → ∃ b ∈ m, R a b
  | _, _, _, .nil, h => by cases h
  | x :: l, y :: m, a, .cons r t, h => by
    rcases List.mem_cons.mp h with rfl | h
    · exact ⟨y, by simp, r⟩
    · obtain ⟨b, h1, h2⟩ := paired_memL t h
      exact ⟨b, by simp [h1], h2⟩
theorem KdAt.dict (I : Inv X pins σ H s) (hw : X.w = Wld.w) {a : Addr} {kvs : List (D × D)} {o : PySem.Obj} {es : Array DictEntry} {ep : Nat} {xs : List (NestedKey × Addr × V × Value)} (h : KdAt X.K H ι a kvs o es ep xs) :
    s.heap.DictOfH (nestedKind X.prog X.w) a (xs.map fun x => (x.1, x.2.1, x.2.2.2)) := by
  refine ⟨o, es, ep, (I.hok a _ h.at_).1, h.ex, h.dt, ?_, fun y hy => ?_, ?_⟩
  · rw [h.en, List.map_map]
    refine List.map_congr_left fun x _ => ?_
    show _ = entryOfKey _ _
    unfold entryOfKey
    rw [← hw]
    rfl
  · obtain ⟨x, hx, rfl⟩ := List.mem_map.mp hy
    obtain ⟨q, _, h1, h2, _⟩ := paired_memL h.pr hx
    exact ⟨RD.nest I _ _ _ _ h2 rfl h1, h.dp x hx⟩
  · rw [List.map_map]
    exact h.nd
end
end G

set_option Elab.async false
set_option linter.all false
set_option maxRecDepth 1000000
set_option maxHeartbeats 4000000
/-! GHA: dicts keyed by rows: an entry set, looked for, displays by comprehensions. -/
namespace G
variable [Wld]
open PySem PySem.Spec PyProof.Rows L2
def valKd (kvs : List (D × D)) (k : NestedKey) : Option D := (kvs.find? fun q => decide (nk q.1 = some k)).map (·.2)
def setKd (k : NestedKey) (d : D) (q : D × D) : D × D := if nk q.1 = some k then (q.1, d) else q
def putKd (kvs : List (D × D)) (kd : D) (k : NestedKey) (d : D) : List (D × D) := if (valKd kvs k).isSome then kvs.map (setKd k d) else kvs ++ [(kd, d)]
theorem putKd_len (kvs : List (D × D)) (kd : D) (k : NestedKey) (d : D) : (putKd kvs kd k d).length ≤ kvs.length + 1 := by
  unfold putKd
  split <;> simp
abbrev X4 := NestedKey × Addr × V × Value
def pj (x : X4) : NestedKey × Addr × Value := (x.1, x.2.1, x.2.2.2)
def set4 (k : NestedKey) (v : V) (r : Value) (x : X4) : X4 := if x.1 = k then (x.1, x.2.1, v, r) else x
def has4 (xs : List X4) (k : NestedKey) : Option X4 := xs.find? fun x => decide (x.1 = k)
def store4 (xs : List X4) (k : NestedKey) (b : Addr) (v : V) (r : Value) : List X4 := if (has4 xs k).isSome then xs.map (set4 k v r) else xs ++ [(k, b, v, r)]
theorem at_pj (xs : List X4) (k : NestedKey) : atKey (xs.map pj) k = (has4 xs k).map fun x => (x.2.1, x.2.2.2) := by
  unfold atKey has4
  rw [List.find?_map, Option.map_map]
  rfl
theorem store4_pj (xs : List X4) (k : NestedKey) (b : Addr) (v : V) (r : Value) : (store4 xs k b v r).map pj = storedH (xs.map pj) k b r := by
  unfold store4 storedH
  rw [at_pj, Option.isSome_map]
  split
  · rw [List.map_map, List.map_map]
    refine List.map_congr_left fun x _ => ?_
    show pj (set4 k v r x) = putAt k r (pj x)
    unfold set4 putAt pj
    by_cases h : x.1 = k <;> simp [h]
  · rw [List.map_append]; rfl
theorem paired_find {α β : Type} {R : α → β → Prop} {P : α → Bool} {Q : β → Bool} : ∀ {l : List α} {m : List β}, Paired R l m → (∀ a b, R a b → P a = Q b) → (l.find? P = none ∧ m.find? Q = none) ∨ ∃ a b, l.find? P = some a ∧ m.find? Q = some b ∧ R a b
  | _, _, .nil, _ => .inl ⟨rfl, rfl⟩
  | a :: l, b :: m, .cons r t, e => by
    have h := e a b r
    cases hq : Q b with
    | true => exact .inr ⟨a, b, by rw [List.find?_cons_of_pos (h.trans hq)], by rw [List.find?_cons_of_pos hq], r⟩
    | false =>
      rcases paired_find t e with ⟨z1, z2⟩ | ⟨a', b', z1, z2, z3⟩
      · exact .inl ⟨by rw [List.find?_cons_of_neg (by rw [h, hq]; decide)]; exact z1, by rw [List.find?_cons_of_neg (by rw [hq]; decide)]; exact z2⟩
      · exact .inr ⟨a', b', by rw [List.find?_cons_of_neg (by rw [h, hq]; decide)]; exact z1, by rw [List.find?_cons_of_neg (by rw [hq]; decide)]; exact z2, z3⟩
theorem paired_map {α β γ δ : Type} {R : α → β → Prop} {S : γ → δ → Prop} {f : α → γ} {g : β → δ} : ∀ {l : List α} {m : List β}, Paired R l m → (∀ a b, R a b → S (f a) (g b)) → Paired S (l.map f) (m.map g)
  | _, _, .nil, _ => .nil
  | _, _, .cons r t, e => .cons (e _ _ r) (paired_map t e)
theorem paired_snoc {α β : Type} {R : α → β → Prop} {a : α} {b : β} : ∀ {l : List α} {m : List β}, Paired R l m → R a b → Paired R (l ++ [a]) (m ++ [b])
  | _, _, .nil, r => .cons r .nil
  | _, _, .cons r t, q => .cons r (paired_snoc t q)
def Pr4 (K : PySem.W.Frag) (H : Hp) (ι : List Addr) (x : X4) (q : D × D) : Prop := nk q.1 = some x.1 ∧ RD K H ι (.ref x.2.1) q.1 ∧ RelV x.2.2.1 x.2.2.2 ∧ RD K H ι x.2.2.1 q.2
theorem Pr4.find {K : PySem.W.Frag} {H : Hp} {ι : List Addr} {xs : List X4} {kvs : List (D × D)} (h : Paired (Pr4 K H ι) xs kvs) (k : NestedKey) : (has4 xs k = none ∧ valKd kvs k = none) ∨ ∃ x d, has4 xs k = some x ∧ valKd kvs k = some d ∧ x.1 = k ∧ RelV x.2.2.1 x.2.2.2 ∧ RD K H ι x.2.2.1 d := by
  have e : ∀ (a : X4) (b : D × D), Pr4 K H ι a b → (decide (a.1 = k)) = decide (nk b.1 = some k) := fun a b r => by
    rw [r.1]; simp
  rcases paired_find h e with ⟨z1, z2⟩ | ⟨a, b, z1, z2, z3⟩
  · exact .inl ⟨z1, by unfold valKd; rw [z2]; rfl⟩
  · refine .inr ⟨a, b.2, z1, by unfold valKd; rw [z2]; rfl, ?_, z3.2.2.1, z3.2.2.2⟩
    have := List.find?_some z1
    simpa using this
theorem Pr4.put {K : PySem.W.Frag} {H : Hp} {ι : List Addr} {xs : List X4} {kvs : List (D × D)} (h : Paired (Pr4 K H ι) xs kvs) {k : NestedKey} {kd d : D} {b : Addr} {v : V} {r : Value} (hk : nk kd = some k) (rk : RD K H ι (.ref b) kd) (rr : RelV v r) (rv : RD K H ι v d) :
    Paired (Pr4 K H ι) (store4 xs k b v r) (putKd kvs kd k d) := by
  have e : (has4 xs k).isSome = (valKd kvs k).isSome := by
    rcases Pr4.find h k with ⟨z1, z2⟩ | ⟨x, d', z1, z2, _⟩ <;> rw [z1, z2] <;> rfl
  unfold store4 putKd
  rw [e]
  split
  · refine paired_map h fun a q z => ?_
    unfold set4 setKd
    by_cases hk' : a.1 = k
    · rw [if_pos hk', if_pos (by rw [z.1, hk'])]
      exact ⟨z.1, z.2.1, rr, rv⟩
    · rw [if_neg hk', if_neg (by rw [z.1]; intro h; exact hk' (Option.some.inj h))]
      exact z
  · exact paired_snoc h ⟨hk, rk, rr, rv⟩
theorem store4_len {xs : List X4} {k b v r} : (store4 xs k b v r).length ≤ xs.length + 1 := by
  unfold store4
  split <;> simp
theorem store4_mem {P : NestedKey → Prop} {xs : List X4} {k b v r} (h : ∀ x ∈ xs, P x.1) (hk : P k) : ∀ x ∈ store4 xs k b v r, P x.1 := by
  intro x hx
  unfold store4 at hx
  split at hx
  · obtain ⟨y, hy, rfl⟩ := List.mem_map.mp hx
    unfold set4
    split <;> exact h y hy
  · rcases List.mem_append.mp hx with hx | hx
    · exact h x hx
    · cases List.mem_singleton.mp hx; exact hk
section
variable {H : Hp} {ι : List Addr} {X : Cx} {pins : List (Addr × PySem.Obj)} {σ : SV} {s : Shared}
theorem KdAt.pj {a : Addr} {kvs : List (D × D)} {o : PySem.Obj} {es : Array DictEntry} {ep : Nat} {xs : List X4} (h : KdAt X.K H ι a kvs o es ep xs) : Paired (Pr4 X.K H ι) xs kvs := h.pr
theorem KdAt.len {a : Addr} {kvs : List (D × D)} {o : PySem.Obj} {es : Array DictEntry} {ep : Nat} {xs : List X4} (h : KdAt X.K H ι a kvs o es ep xs) : xs.length = kvs.length := Paired.length h.pr
theorem RO.kset {E : Value → Shared → Prop} {Q : Unit → Shared → Prop} (I : Inv X pins σ H s) (hw : X.w = Wld.w) (hu : X.A.units + 8 < cLine) {a : Addr} {kvs : List (D × D)} (h : RO X.K H ι a (.kd kvs)) {kd d : D} {k : NestedKey} (hk : nk kd = some k) (hkd : k.depth ≤ 8) {b : Addr} {v : V} {r : Value}
    (rk : RD X.K H ι (.ref b) kd) (rv : RD X.K H ι v d) (rr : RelV v r) (hsz : kvs.length < sizeLine) (q : ∀ o' s', Inv X pins σ (upd H a (exa a o')) s' → RO X.K (upd H a (exa a o')) ι a (.kd (putKd kvs kd k d)) → Q () s') : wpAny (model X.prog X.w) X.A (dictSet a (.ref b) r) Q E s := by
  obtain ⟨o, es, ep, xs, h⟩ := h
  have dd := h.dict I hw
  have hl := h.len
  refine wpAny_dictSet_heap (knd := nestedKind X.prog X.w) (k := k) hu ⟨RD.nest I _ _ _ _ rk rfl hk, hkd⟩ dd (fun h' dd' sb => ?_) (by rw [List.length_map]; omega)
  have dd2 : h'.DictOfH (nestedKind X.prog X.w) a ((store4 xs k b v r).map G.pj) := by rw [store4_pj]; exact dd'
  obtain ⟨o', es', ep', g1, g2, g3, g4, g5, g6⟩ := dd2
  have st : Stay H (upd H a (exa a o')) := Stay.mut h.at_ (fun _ z => nomatch z) (fun _ _ z => nomatch z)
  refine q o' _ (d_write I (by rw [h.at_]; trivial) sb ⟨o', g1⟩ ⟨g1, ⟨o', g1⟩, fun h1 h2 e1 st => st _ e1⟩) ⟨o', es', ep', store4 xs k b v r, upd_same, g2, g3, ?_, ?_, ?_, h.sm, ?_, ?_⟩
  · rw [g4, List.map_map]
    refine List.map_congr_left fun x _ => ?_
    show entryOfKey _ _ = _
    unfold entryOfKey
    rw [← hw]; rfl
  · rw [List.map_map] at g6
    exact g6
  · have := store4_len (xs := xs) (k := k) (b := b) (v := v) (r := r)
    omega
  · exact store4_mem (P := fun k => k.depth ≤ 8) h.dp hkd
  · refine Pr4.put (Paired.mapP h.pr fun x p z => ⟨z.1, RD.mono st ⟨[], by simp⟩ _ _ z.2.1, z.2.2.1, RD.mono st ⟨[], by simp⟩ _ _ z.2.2.2⟩) hk (RD.mono st ⟨[], by simp⟩ _ _ rk) rr (RD.mono st ⟨[], by simp⟩ _ _ rv)
theorem RO.kget (I : Inv X pins σ H s) (hw : X.w = Wld.w) {a : Addr} {kvs : List (D × D)} (h : RO X.K H ι a (.kd kvs)) : ∃ xs : List X4, s.heap.DictOfH (nestedKind X.prog X.w) a (xs.map G.pj) ∧ (a == sysModules) = false ∧ Paired (Pr4 X.K H ι) xs kvs := by
  obtain ⟨o, es, ep, xs, h⟩ := h
  exact ⟨xs, h.dict I hw, h.sm, h.pr⟩
end
/-- the object of a new dict -/
abbrev newD : PySem.Obj := { cls := .type "dict", data := .dict #[] }
theorem RO.knew {K : PySem.W.Frag} {H : Hp} {ι : List Addr} {a : Addr} (hs : (a == sysModules) = false) : RO K (upd H a (exa a newD)) ι a (.kd []) :=
  ⟨newD, #[], 0, [], upd_same, ⟨rfl, rfl, rfl⟩, rfl, rfl, List.nodup_nil, Nat.zero_le _, hs, (fun _ z => nomatch z), .nil⟩
end G

set_option Elab.async false
set_option linter.all false
set_option maxRecDepth 1000000
set_option maxHeartbeats 4000000
/-! GHB: dicts keyed by rows: comprehensions. -/
namespace G
variable [Wld]
open PySem PySem.Spec PyProof.Rows L2
/-- an entry can be set in the dict at D, and so Nx holds -/
def KSet (K : PySem.W.Frag) (D : Addr) (y z : V) (H5 : Hp) (Nx : Hp → Prop) : Prop :=
  ∀ (X : Cx) (pins : List (Addr × PySem.Obj)) (σ : SV) (s : Shared) (u r : Value) (E : Value → Shared → Prop) (Q : Unit → Shared → Prop),
    X.K = K → X.w = Wld.w → X.A.units + 8 < cLine → Inv X pins σ H5 s → RelV y u → RelV z r →
    (∀ H' s', Inv X pins σ H' s' → Nx H' → Q () s') → wpAny (model X.prog X.w) X.A (dictSet D u r) Q E s
/-- {k: v for .. in .. if ..}, the entries set as KSet tells -/
def tDcK (K : PySem.W.Frag) (wi : TI) (g : TG) (tt : TT) (tk tv : TE) (vs : List Nat) : TE := fun σ H Q =>
  wi σ H fun J H1 => ∀ D, H1 D = none → (D == sysModules) = false →
    ∃ W : Nat → Nat → Hp → Prop, (∃ m, W 0 m (upd H1 D (exa D newD))) ∧ ∀ i m H, W i m H →
      (J.stop i H ∧ Q (.ref D) H) ∨
      (J.go i H ∧ ∃ Nx : Hp → Prop, (∀ H', Nx H' → ∃ m', m' < m ∧ W (i + 1) m' H') ∧
        ∀ x H', J.yld i H x H' → g x (L2.wipe σ vs) H' fun σ2 H2 => L2.wipe σ2 vs = L2.wipe σ vs ∧
          tt σ2 H2 fun b H3 => if b = true then tk σ2 H3 fun y H4 => tv σ2 H4 fun z H5 => KSet K D y z H5 Nx else Nx H3)
section
variable {X : Cx}
theorem pe_dcK {kx vx tg iter : Expr} {ifs : List Expr} {scope : Scope} {own : List (Str × Nat)} {pos : Pos} {wi : TI} {g : TG} {tt : TT} {tk tv : TE}
    (hw : X.w = Wld.w) (hu : X.A.units + 8 < cLine) (hc : X.calm = true) (hN : X.N.Nodup) (hi : PI X tg iter wi) (ok : BlkOk X.N X.env.scope scope own)
    (hg : ∀ s H C cl fp, PG (X.blk s H scope (compEnvC scope cl C X.env) fp) tg g)
    (ht : ∀ s H C cl fp, PTs (X.blk s H scope (compEnvC scope cl C X.env) fp) ifs tt)
    (hk : ∀ s H C cl fp, PE (X.blk s H scope (compEnvC scope cl C X.env) fp) kx tk)
    (he : ∀ s H C cl fp, PE (X.blk s H scope (compEnvC scope cl C X.env) fp) vx tv)
    (hs : ∀ x, foldedSetIterable iter X.env x = pure x := by intro _; rfl) :
    PE X (.DictComp kx vx [⟨tg, iter, ifs, 0⟩] scope pos) (tDcK X.K wi g tt tk tv (own.map (·.2))) := by
  refine ⟨fun pins s σ H Q I h => ?_⟩
  rw [arm_eval_DictComp]
  have hfree : ∀ y ∈ scope.names, y.2 = .free → ∃ c, X.env.cells.lookup y.1 = some c := fun y hy e =>
    (ok.free y hy e).elim (fun k => I.ok.has _ (.inl k)) fun k => I.ok.has _ (.inr k)
  refine wpAny_comprehension_free (use := none) rfl hs (closure_ok hfree) ok.kind (fun y hy e => by rw [ok.uniq y hy, e]) ?_
  refine thn (hi.run pins s σ H _ I h) fun xv sa hx => thn hx fun itv sb hb => ?_
  obtain ⟨it, fp, tn, J, Hb, e0, Ib, T, stb, fb, q⟩ := hb
  subst e0
  refine wpAny_newObj_type (newEnv_comp ?_)
  obtain ⟨Da, hDa⟩ : ∃ Da, sb.heap.objs.size = Da := ⟨_, rfl⟩
  rw [hDa]
  have hDn : Hb Da = none := Ib.hok.fresh (Nat.le_of_eq hDa)
  have hDs : (Da == sysModules) = false := by
    have := Ib.big
    rw [hDa] at this
    exact beq_eq_false_iff_ne.mpr (Ne.symm (Nat.ne_of_lt this))
  obtain ⟨W, ⟨m0, w0⟩, turn⟩ := q Da hDn hDs
  obtain ⟨sc, hsc⟩ : ∃ sc : Shared, ({ sb with heap := sb.heap.push newD } : Shared) = sc := ⟨_, rfl⟩
  have hcp : sc.heap = sb.heap.push newD := by rw [← hsc]
  have Ic : Inv X pins σ (upd Hb Da (exa Da newD)) sc := by
    rw [← hsc]
    refine Ib.laid (t' := sb.toks) (fun b o e => Heap.get?_push_of_some _ e) (Nat.le_of_eq hDa) ?_
    have z : (sb.heap.push newD).get? Da = some newD := by rw [← hDa]; exact Heap.get?_push_size _ rfl
    exact ⟨z, ⟨_, z⟩, fun h1 h2 e1 st => st _ e1⟩
  have small : ∀ b ∈ fp, b < sb.heap.objs.size := fun b hb => by
    obtain ⟨o, e, _⟩ := T.obj _ _ stb b hb
    exact Heap.lt_size e
  have fc : ∀ b ∈ fp, FpOk X pins (upd Hb Da (exa Da newD)) b ∧ b < sc.heap.objs.size := fun b hb => by
    have lt := small b hb
    refine ⟨⟨?_, (fb b hb).2⟩, by rw [hcp, Heap.size_push]; exact Nat.lt_succ_of_lt lt⟩
    rw [upd_ne (by rw [← hDa]; exact Nat.ne_of_lt lt)]
    exact (fb b hb).1
  have stc : tn 0 sc.heap := T.keep _ _ _ stb fun b _ o e => by rw [hcp]; exact Heap.get?_push_of_some _ e
  have I0 := block_start Ic ok hN fc
  obtain ⟨Hc, hHc⟩ : ∃ Hc, upd Hb Da (exa Da newD) = Hc := ⟨_, rfl⟩
  rw [hHc] at I0 Ic fc w0
  obtain ⟨C, hC⟩ : ∃ C, sc.heap.objs.size = C := ⟨_, rfl⟩
  obtain ⟨cl, hcl⟩ : ∃ cl, cellsFrom (sc.heap.objs.size + 1) scope.names (cloFrom X.env.cells scope.names []) = cl := ⟨_, rfl⟩
  have pg := hg sc Hc sc.heap.objs.size cl fp
  have pt := ht sc Hc sc.heap.objs.size cl fp
  have pk := hk sc Hc sc.heap.objs.size cl fp
  have pv := he sc Hc sc.heap.objs.size cl fp
  rw [hcl] at I0
  have goal' : codeAny (model X.prog X.w) X.A (.compStart (.DictComp kx vx [⟨tg, iter, ifs, 0⟩] scope pos) 0 (.ref it) (.ref Da) (compEnvC scope cl sc.heap.objs.size X.env))
      (compPost (model X.prog X.w) X.A X.xe none (EP X pins σ Q) (.ref Da) sc.heap.objs.size) { sc with heap := pushCells (sc.heap.push newD) scope.names } := by
    obtain ⟨ce, hce⟩ : ∃ ce, compEnvC scope cl sc.heap.objs.size X.env = ce := ⟨_, rfl⟩
    have cL : ce.locals = sc.heap.objs.size := by rw [← hce]; rfl
    rw [hce] at I0 pg pt pk pv ⊢
    obtain ⟨sd, hsd⟩ : ∃ sd : Shared, ({ sc with heap := pushCells (sc.heap.push newD) scope.names } : Shared) = sd := ⟨_, rfl⟩
    rw [hsd] at I0 ⊢
    have std : tn 0 sd.heap := T.keep _ _ _ stc fun b _ o e => by rw [← hsd]; exact pushCells_keeps _ _ _ _ (Heap.get?_push_of_some _ e)
    have none0 : ∀ b ∈ fp, Hc b = none := fun b hb => (fc b hb).1.1
    have fps : ∀ {σ' : SV} {H' : Hp} {s' : Shared}, Inv (X.blk sc Hc scope ce fp) [] σ' H' s' → (∀ b ∈ fp, H' b = none) → ∀ b ∈ fp, FpOk (X.blk sc Hc scope ce fp) [] H' b :=
      fun {σ' H' s'} I' hn b hb => ⟨hn b hb, (I'.ok.exf b hb).1, I'.ok.exfs b hb, .inl hb, fun x c e => (I'.ok.exf b hb).2 x c e, fun p hp => absurd (show p ∈ ([] : List (Addr × PySem.Obj)) ++ [] from hp) (by simp)⟩
    have loop : codeAny (model X.prog X.w) X.A (.compLoop (.DictComp kx vx [⟨tg, iter, ifs, 0⟩] scope pos) 0 (.ref it) (.ref Da) ce) (compPost (model X.prog X.w) X.A X.xe none (EP X pins σ Q) (.ref Da) sc.heap.objs.size) sd := by
      refine compLoop_anyD (fun n s' => ∃ i H', Inv (X.blk sc Hc scope ce fp) [] (L2.wipe σ (own.map (·.2))) H' s' ∧ tn i s'.heap ∧ (∀ b ∈ fp, H' b = none) ∧ W i n H') ?_ m0 ⟨0, Hc, I0, std, none0, w0⟩
      rintro n s5 ⟨i, H5, I5, st5, n5, w5⟩
      rcases turn i n H5 w5 with ⟨stop, qq⟩ | ⟨go, Nx, hNx, step⟩
      · refine thnF (T.done (X.blk sc Hc scope ce fp) rfl rfl rfl hc i [] s5 _ H5 (fun _ _ => False) I5 (fps I5 n5) st5 stop) fun r s6 ⟨hr, I6⟩ => ?_
        subst hr
        have I7 : Inv X pins σ H5 s6 := Ic.call' (ch := fp) I6.os I6.base I6.hok I6.bare fun b hb =>
          let z := (fc b hb).1
          ⟨z.2.2.2.1, z.2.1, z.2.2.2.2.1, z.2.2.2.2.2⟩
        have nC : H5 sc.heap.objs.size = none := by rw [← cL]; exact I6.free
        obtain ⟨m, hn, _⟩ := I6.loc
        have hn' : s6.heap.Ns ce.locals m := hn
        rw [cL] at hn'
        obtain ⟨f0, f1, f2, f3, f4, f5⟩ := Ic.fpOk (Nat.le_refl _) nC
        exact ⟨m, hn', fun h'' sb' => ⟨.ref Da, H5, I7.turned (t' := s6.toks) (fun b o hb e => (sb'.2 b hb).trans e) f0 f1 f3 f4 f5, rfl, qq⟩⟩
      · refine thnF (T.item (X.blk sc Hc scope ce fp) rfl rfl rfl hc i [] s5 _ H5 (fun _ _ => False) I5 (fps I5 n5) st5 go) fun r s6 ⟨u, hr, h6⟩ => ?_
        subst hr
        refine thnF h6 fun _ s7 ⟨x, H7, I7, r7, y7, st7, n7⟩ => ?_
        refine thnF (pg.run _ s7 _ H7 x u _ (I7.pinned (fps I7 n7) (T.obj _ _ st7)) r7 (step x H7 y7)) fun _ s8 ⟨σ8, H8, I8, hw8, q8⟩ => ?_
        refine thnF (pt.run _ s8 σ8 H8 _ I8 q8) fun b s9 ⟨H9, I9, q9⟩ => ?_
        have fin : ∀ {s' : Shared} {H' : Hp}, Inv (X.blk sc Hc scope ce fp) ([] ++ pinsAt fp s7.heap) σ8 H' s' → Nx H' →
            ∃ m, m < n ∧ ∃ i H', Inv (X.blk sc Hc scope ce fp) [] (L2.wipe σ (own.map (·.2))) H' s' ∧ tn i s'.heap ∧ (∀ b ∈ fp, H' b = none) ∧ W i m H' := fun {s' H'} I' nx => by
          obtain ⟨m', hm, w'⟩ := hNx H' nx
          have pin' : ∀ b ∈ fp, ∀ o, s7.heap.get? b = some o → s'.heap.get? b = some o ∧ H' b = none := fun b hb o e => by
            have z := I'.pin (b, o) (List.mem_append_right _ (List.mem_append_right _ (mem_pinsAt hb e)))
            exact ⟨z.1, z.2.1⟩
          have hl : (L2.wipe σ (own.map (·.2))).length = σ8.length := by rw [← hw8, wipe_length]
          refine ⟨m', hm, i + 1, H', (I'.unpinned (pins := [])).weak hl (fun j v e => ?_), T.keep _ _ _ st7 fun b hb o e => (pin' b hb o e).1, fun b hb => ?_, w'⟩
          · rw [← hw8] at e
            exact (wipe_some e).1
          · obtain ⟨o, e, _⟩ := T.obj _ _ st7 b hb
            exact (pin' b hb o e).2
        cases b with
        | false =>
          rw [if_neg Bool.false_ne_true] at q9
          rw [if_neg Bool.false_ne_true]
          exact fin I9 q9
        | true =>
          rw [if_pos rfl] at q9
          rw [if_pos rfl]
          refine thnF (pk.run _ s9 σ8 H9 _ I9 q9) fun z s10 ⟨yk, H10, I10, r10, q10⟩ => ?_
          refine thnF (pv.run _ s10 σ8 H10 _ I10 q10) fun z2 s11 ⟨yv, H11, I11, r11, ks⟩ => ?_
          exact ks (X.blk sc Hc scope ce fp) _ _ _ _ _ _ _ rfl hw hu I11 r10 r11 fun H12 s12 I12 nx => fin I12 nx
    exact codeAny_compStart_dict loop (T.self X.A 0 _ _ _ std loop)
  rw [← hcl, ← hsc] at goal'
  exact goal'
end
end G

set_option Elab.async false
set_option linter.all false
set_option maxRecDepth 1000000
set_option maxHeartbeats 4000000
/-! GHC: dicts keyed by rows: the mirror of a comprehension; in, not in; get. -/
namespace G
variable [Wld]
open PySem PySem.Spec PyProof.Rows L2
/-- what may be a key of a dict keyed by rows -/
def rk : D → Option NestedKey
  | .tup ds => (nk (.tup ds)).bind fun k => if k.depth ≤ 8 then some k else none
  | _ => none
theorem rk_eq {d : D} {k : NestedKey} (h : rk d = some k) : nk d = some k ∧ k.depth ≤ 8 ∧ ∃ ds, d = .tup ds := by
  cases d with
  | tup ds =>
    obtain ⟨k', h1, h2⟩ := Option.bind_eq_some_iff.mp h
    split at h2
    · cases h2; exact ⟨h1, by assumption, ds, rfl⟩
    · cases h2
  | _ => cases h
abbrev Tr := D × NestedKey × D
def kdsOf : List D → Option (List Tr)
  | [] => some []
  | .tup [kd, vd] :: ds => (rk kd).bind fun k => (kdsOf ds).map ((kd, k, vd) :: ·)
  | _ => none
def mergeKd (kvs : List (D × D)) (ps : List Tr) : List (D × D) := ps.foldl (fun a p => putKd a p.1 p.2.1 p.2.2) kvs
theorem mergeKd_snoc (kvs : List (D × D)) (ps : List Tr) (p : Tr) : mergeKd kvs (ps ++ [p]) = putKd (mergeKd kvs ps) p.1 p.2.1 p.2.2 := by
  unfold mergeKd; rw [List.foldl_append]; rfl
theorem mergeKd_len : ∀ (ps : List Tr) (kvs : List (D × D)), (mergeKd kvs ps).length ≤ kvs.length + ps.length
  | [], kvs => by simp [mergeKd]
  | p :: ps, kvs => by
    have h := mergeKd_len ps (putKd kvs p.1 p.2.1 p.2.2)
    have h2 := putKd_len kvs p.1 p.2.1 p.2.2
    have e : mergeKd kvs (p :: ps) = mergeKd (putKd kvs p.1 p.2.1 p.2.2) ps := rfl
    rw [e, List.length_cons]
    omega
theorem kdsOf_cons {x : D} {xs : List D} {all : List Tr} (h : kdsOf (x :: xs) = some all) : ∃ kd vd k cs, x = .tup [kd, vd] ∧ rk kd = some k ∧ kdsOf xs = some cs ∧ all = (kd, k, vd) :: cs := by
  unfold kdsOf at h
  split at h
  · rename_i hh; cases hh
  · rename_i kd vd ds' hh
    cases hh
    obtain ⟨k, hk, h⟩ := Option.bind_eq_some_iff.mp h
    obtain ⟨cs, e1, e2⟩ := Option.map_eq_some_iff.mp h
    exact ⟨kd, vd, k, cs, rfl, hk, e1, e2.symm⟩
  · cases h
theorem kdsOf_mk {kd vd : D} {k : NestedKey} {xs : List D} {cs : List Tr} (hk : rk kd = some k) (h : kdsOf xs = some cs) : kdsOf (.tup [kd, vd] :: xs) = some ((kd, k, vd) :: cs) := by
  unfold kdsOf
  rw [hk, h]; rfl
theorem kdsOf_append : ∀ {xs ys : List D} {all : List Tr}, kdsOf (xs ++ ys) = some all → ∃ a b, kdsOf xs = some a ∧ kdsOf ys = some b ∧ all = a ++ b
  | [], ys, all, h => ⟨[], all, rfl, h, rfl⟩
  | x :: xs, ys, all, h => by
    obtain ⟨kd, vd, k, cs, rfl, hk, e1, rfl⟩ := kdsOf_cons (x := x) (xs := xs ++ ys) h
    obtain ⟨a, b, e3, e4, rfl⟩ := kdsOf_append e1
    exact ⟨_, b, kdsOf_mk hk e3, e4, rfl⟩
theorem kdsOf_snoc {xs : List D} {a : List Tr} {kd vd : D} {k : NestedKey} (h : kdsOf xs = some a) (hk : rk kd = some k) : kdsOf (xs ++ [.tup [kd, vd]]) = some (a ++ [(kd, k, vd)]) := by
  induction xs generalizing a with
  | nil => cases h; exact kdsOf_mk hk rfl
  | cons x xs ih =>
    obtain ⟨kd', vd', k', cs, rfl, hk', e1, rfl⟩ := kdsOf_cons h
    exact kdsOf_mk hk' (ih e1)
/-- {k: v for .. in .. if ..}, the keys rows -/
noncomputable def mDcK (vs : List Nat) (t : Tgt) (mi : M Src) (c : M Bool) (mk mv : M R) : M R := bnd mi fun src => bnd (fun e S => compL vs t c (mKV mk mv) src.ws src.items (wipeE e vs) S) fun ys e S => (kdsOf ys).map fun ps => (.new (.kd (mergeKd [] ps)), e, S)
theorem tDcK_of {K : PySem.W.Frag} {mi : M Src} {vs : List Nat} {t : Tgt} {mc : M Bool} {mk mv : M R} {σ : SV} {H : Hp} {Q : VK} (q : tG K (mDcK vs t mi mc mk mv) σ H Q) : tDcK K (tGI K mi) (tGG K vs t) (tGT K mc) (tG K mk) (tG K mv) vs σ H Q := by
  obtain ⟨ι, e, S, r, e', S', R, hm, q⟩ := q
  obtain ⟨src, e1, S1, h1, hm⟩ := bnd_eq hm
  obtain ⟨ys, e2, S2, h2, hm⟩ := bnd_eq hm
  obtain ⟨all, hall, hz0⟩ := Option.map_eq_some_iff.mp hm
  cases hz0
  refine ⟨ι, e, S, src, e1, S1, R, h1, fun J H1 ι1 R1 P1 fd hz => fun Da hD hDs => ?_⟩
  have hend := compL_env h2 fun i hi s => wipeE_none hi
  obtain ⟨R2, P2, nD1, nD2⟩ := R1.new (u := exa Da newD) hD
  obtain ⟨R3, P3⟩ := R2.wipe vs
  have P3' := P2.trans P3
  refine ⟨fun i m H' => m = src.items.length - i ∧ i ≤ src.items.length ∧ ∃ ι4 e4 S4 acc ak zs, Rel K H' ι4 (L2.wipe σ vs) e4 S4 ∧ Post H1 ι1 σ e1 H' ι4 (L2.wipe σ vs) e4 ∧ kdsOf acc = some ak ∧ RO K H' ι4 Da (.kd (mergeKd [] ak)) ∧ Da ∉ ι4 ∧ ¬ Obj (L2.wipe σ vs) e4 Da ∧
      ak.length ≤ i ∧ compL vs t mc (mKV mk mv) src.ws (src.items.drop i) e4 S4 = some (zs, e', S') ∧ ys = acc ++ zs ∧ (∀ i ∈ vs, ∀ s, e4[i]? ≠ some (some s)) ∧ e4.length = e1.length,
    ⟨_, rfl, Nat.zero_le _, ι1, wipeE e1 vs, S1, [], [], ys, R3, P3', rfl, RO.knew hDs, nD1, fun ⟨i, s, z1, z2, z3⟩ => nD2 ⟨i, s, (wipeE_some z1).1, z2, (wipe_some z3).1⟩, Nat.le_refl _, by simpa using h2, rfl, fun i hi s => wipeE_none hi, wipeE_length _ _⟩, ?_⟩
  rintro i m H4 ⟨rfl, hi, ι4, e4, S4, acc, ak, zs, R4, P4, hak, ro4, n1, n2, hacc, hc, rfl, hw4, hlen4⟩
  obtain ⟨u4, hD4, _⟩ := ro4.there
  have hσe : (L2.wipe σ vs).length = e4.length := R4.len
  have hlen : σ.length = e4.length := by rw [← hσe, wipe_length]
  by_cases hlt : i < src.items.length
  · rw [List.drop_eq_getElem_cons hlt] at hc
    unfold compL at hc
    split at hc
    case isFalse => cases hc
    rename_i hwat
    split at hc
    case h_2 => cases hc
    rename_i e5 ht
    have wl : ∀ p ∈ src.ws, ∀ j, p.1 = .loc j → (L2.wipe σ vs)[j]? = σ[j]? := fun p hp j hj => by
      have z := of_wat hwat p hp
      rw [hj] at z
      have z' : (match e4[j]? with
        | some (some (.own o)) => some o
        | _ => none) = some (O.lst p.2) := z
      split at z'
      · rename_i hh
        rw [wipe_at, if_neg (fun zz => hw4 j zz.1 _ hh)]
      · cases z'
    obtain ⟨go, yld⟩ := (fd i H4 ι4 _ e4 S4 R4 P4 (of_wat hwat) wl).1 _ (List.getElem?_eq_getElem hlt)
    refine .inr ⟨go, fun H' => ∃ ι9 e9 S9 acc9 ak9 zs9, Rel K H' ι9 (L2.wipe σ vs) e9 S9 ∧ Post H1 ι1 σ e1 H' ι9 (L2.wipe σ vs) e9 ∧ kdsOf acc9 = some ak9 ∧ RO K H' ι9 Da (.kd (mergeKd [] ak9)) ∧ Da ∉ ι9 ∧ ¬ Obj (L2.wipe σ vs) e9 Da ∧
      ak9.length ≤ i + 1 ∧ compL vs t mc (mKV mk mv) src.ws (src.items.drop (i + 1)) e9 S9 = some (zs9, e', S') ∧ acc ++ zs = acc9 ++ zs9 ∧ (∀ i ∈ vs, ∀ s, e9[i]? ≠ some (some s)) ∧ e9.length = e1.length,
      fun H' h => ⟨src.items.length - (i + 1), by omega, rfl, hlt, h⟩, fun x H5 hy => ?_⟩
    obtain ⟨R5, P5, rdx, keep5⟩ := yld x H5 hy
    refine ⟨ι4, e4, S4, _, e5, R5, rdx, ht, fun σ6 R6 P6 hwσ => ⟨by rw [hwσ, wipe_wipe], ?_⟩⟩
    have PA := (P4.trans P5).trans P6
    have hD5 : H5 Da = some u4 := keep5 _ _ hD4
    have P46 := P5.trans P6
    have kD : ∀ {H7 ι7 σ7 e7}, Post H5 ι4 σ6 e5 H7 ι7 σ7 e7 → (∀ u, H4 Da = some u → H7 Da = some u) ∧ Da ∉ ι7 ∧ ¬ Own σ7 e7 Da ∧ ¬ Obj σ7 e7 Da := fun P7 => by
      obtain ⟨z1, z2, z3, z4⟩ := (P46.trans P7).keep Da _ hD4 n1 fun z => n2 (.of z)
      exact ⟨fun u hu => (hD4.symm.trans hu) ▸ z1, z2, z3, z4 n2⟩
    have back : ∀ {H7 ι7 e7 S7}, Rel K H7 ι7 σ6 e7 S7 → Post H5 ι4 σ6 e5 H7 ι7 σ6 e7 → Rel K H7 ι7 (L2.wipe σ vs) (wipeE e7 vs) S7 ∧ Post H1 ι1 σ e1 H7 ι7 (L2.wipe σ vs) (wipeE e7 vs) := fun {H7 ι7 e7 S7} R7 P7 => by
      obtain ⟨R8, P8⟩ := R7.wipe vs
      have hx : L2.wipe σ6 vs = L2.wipe σ vs := by rw [hwσ, wipe_wipe]
      rw [hx] at R8 P8
      exact ⟨R8, (PA.trans P7).trans P8⟩
    have nObj : ∀ {e7 : En}, ¬ Obj σ6 e7 Da → ¬ Obj (L2.wipe σ vs) (wipeE e7 vs) Da := fun {e7} h => by
      have hx : L2.wipe σ6 vs = L2.wipe σ vs := by rw [hwσ, wipe_wipe]
      rintro ⟨i, s, z1, z2, z3⟩
      rw [← hx] at z3
      exact h ⟨i, s, (wipeE_some z1).1, z2, (wipe_some z3).1⟩
    have lenE : ∀ {H7 ι7 e7 S7}, Rel K H7 ι7 σ6 e7 S7 → (wipeE e7 vs).length = e1.length := fun {H7 ι7 e7 S7} R7 => by
      have : (L2.wipe σ6 vs).length = (L2.wipe (L2.wipe σ vs) vs).length := by rw [hwσ]
      rw [wipe_length, wipe_length, wipe_length] at this
      rw [wipeE_length, ← R7.len, this]
      exact R1.len
    split at hc
    · rename_i e7 S7 hcond
      refine ⟨ι4, e5, S4, true, e7, S7, R6, hcond, fun H7 ι7 R7 P7 => ?_⟩
      refine iteT ?_
      split at hc
      · rename_i y e8 S8 helt
        split at hc
        case h_2 => cases hc
        rename_i zs' e9 S9 hrest
        cases hc
        obtain ⟨rk0, e71, S71, hk1, helt⟩ := bnd_eq helt
        obtain ⟨rv, e72, S72, hv1, helt⟩ := bnd_eq helt
        refine ⟨ι7, e7, S7, _, e71, S71, R7, hk1, fun vk H71 ι71 R71 P71 r71 f71 => ⟨ι71, e71, S71, _, e72, S72, R71, hv1, fun v H8 ι8 R8 P8' r8 f8 => ?_⟩⟩
        have P8 := P71.trans P8'
        cases rk0 with
        | d kd =>
          cases rv with
          | d vd =>
            cases helt
            have hpre := kdsOf_append (xs := acc) (ys := [.tup [kd, vd]] ++ zs') (by simpa using hall)
            obtain ⟨_, b0, _, hb0, _⟩ := hpre
            obtain ⟨kd1, vd1, k, _, ek, hk, _, _⟩ := kdsOf_cons hb0
            cases ek
            have P78 := P7.trans P8
            obtain ⟨k1, k2, k3, k4⟩ := kD P78
            have rkd : RD K H8 ι8 vk kd := RD.mono P8'.stay P8'.pre _ _ r71
            have ro8 : RO K H8 ι8 Da (.kd (mergeKd [] ak)) := ro4.mono (P46.trans P78).stay (P46.trans P78).pre k1
            intro X pins σz sz u r E Q hK hw hu I ru rr qq
            subst hK
            obtain ⟨hk1', hk2, ds, rfl⟩ := rk_eq hk
            have rkd' := rkd
            cases rkd' with | tup z1 z2 =>
            obtain rfl : u = _ := ru
            have hml := mergeKd_len ak []
            refine RO.kset I hw hu ro8 hk1' hk2 rkd r8 rr (by simp at hml; omega) fun o' s' I' ro' => qq _ s' I' ?_
            obtain ⟨R9, P9⟩ := back R8 P78
            have st : Stay H8 (upd H8 Da (exa Da o')) := ro8.stay _
            have n9 := nObj k4
            refine ⟨ι8, wipeE e8 vs, S8, acc ++ [.tup [.tup ds, vd]], ak ++ [(.tup ds, k, vd)], zs', R9.other st k2 n9, P9.fresh hD st, kdsOf_snoc hak hk, ?_, k2, n9, by simp; omega, hrest, by simp, fun i hi s => wipeE_none hi, lenE R8⟩
            rw [mergeKd_snoc]
            exact ro'
          | _ => cases helt
        | _ => cases helt
      · cases hc
    · rename_i e7 S7 hcond
      refine ⟨ι4, e5, S4, false, e7, S7, R6, hcond, fun H7 ι7 R7 P7 => ?_⟩
      refine iteF ?_
      obtain ⟨k1, k2, k3, k4⟩ := kD P7
      obtain ⟨R9, P9⟩ := back R7 P7
      exact ⟨ι7, wipeE e7 vs, S7, acc, ak, zs, R9, P9, hak, ro4.mono (P46.trans P7).stay (P46.trans P7).pre k1, k2, nObj k4, by omega, hc, rfl, fun i hi s => wipeE_none hi, lenE R7⟩
    · cases hc
  · have ei : i = src.items.length := by omega
    subst ei
    rw [List.drop_length] at hc
    unfold compL at hc
    split at hc
    case isFalse => cases hc
    rename_i hwat
    cases hc
    have wl : ∀ p ∈ src.ws, ∀ j, p.1 = .loc j → (L2.wipe σ vs)[j]? = σ[j]? := fun p hp j hj => by
      have z := of_wat hwat p hp
      rw [hj] at z
      have z' : (match e'[j]? with
        | some (some (.own o)) => some o
        | _ => none) = some (O.lst p.2) := z
      split at z'
      · rename_i hh
        rw [wipe_at, if_neg (fun zz => hw4 j zz.1 _ hh)]
      · cases z'
    refine .inl ⟨(fd _ H4 ι4 _ _ _ R4 P4 (of_wat hwat) wl).2 (Nat.le_refl _), ?_⟩
    have RF := R4.unwipe hlen hw4
    have PF : Post H1 ι1 σ e1 H4 ι4 σ e' := by
      refine ⟨P4.pre, P4.stay, P4.dom, fun b x g1 g2 g3 => ?_⟩
      obtain ⟨z1, z2, z3, z4⟩ := P4.keep b x g1 g2 g3
      have fwd : ∀ {i : Nat} {s : Sl} {v : V}, e'[i]? = some (some s) → σ[i]? = some (some v) → (L2.wipe σ vs)[i]? = some (some v) := fun {i s v} h h' => by
        rw [wipe_at, if_neg (fun z => hw4 i z.1 s h)]; exact h'
      refine ⟨z1, z2, ?_, fun h => ?_⟩
      · rintro ⟨i, o, h5, h6⟩
        exact z3 ⟨i, o, h5, fwd h5 h6⟩
      · rintro ⟨i, s, h5, h7, h6⟩
        exact z4 h ⟨i, s, h5, h7, fwd h5 h6⟩
    have eall : all = ak := by
      rw [List.append_nil, hak] at hall
      exact (Option.some.inj hall).symm
    subst eall
    refine q _ H4 ι4 RF (P1.trans PF) ⟨Da, rfl, ro4, n1, fun ⟨i, s, h5, h7, h6⟩ => ?_⟩ ⟨Da, rfl, P1.back hD⟩
    refine n2 ⟨i, s, h5, h7, ?_⟩
    rw [wipe_at, if_neg (fun z => hw4 i z.1 s h5)]; exact h6
section
variable {X : Cx} {kx vx tg iter : Expr} {ifs : List Expr} {scope : Scope} {own : List (Str × Nat)} {pos : Pos} {mi : M Src} {t : Tgt} {mc : M Bool} {mk mv : M R}
theorem ge_dcK (hw : X.w = Wld.w) (hu : X.A.units + 64 < cLine) (hc : X.calm = true) (hN : X.N.Nodup) (hi : GI X tg iter mi) (ok : BlkOk X.N X.env.scope scope own)
    (hg : ∀ (s : Shared) (H : Hp) (C : Addr) (cl : List (Str × Addr)) (fp : List Addr), GG (X.blk s H scope (compEnvC scope cl C X.env) fp) (own.map (·.2)) tg t)
    (ht : ∀ (s : Shared) (H : Hp) (C : Addr) (cl : List (Str × Addr)) (fp : List Addr), GTs (X.blk s H scope (compEnvC scope cl C X.env) fp) ifs mc)
    (hk : ∀ (s : Shared) (H : Hp) (C : Addr) (cl : List (Str × Addr)) (fp : List Addr), GE (X.blk s H scope (compEnvC scope cl C X.env) fp) kx mk)
    (he : ∀ (s : Shared) (H : Hp) (C : Addr) (cl : List (Str × Addr)) (fp : List Addr), GE (X.blk s H scope (compEnvC scope cl C X.env) fp) vx mv) (hs : ∀ x, foldedSetIterable iter X.env x = pure x := by intro _; rfl) :
    GE X (.DictComp kx vx [⟨tg, iter, ifs, 0⟩] scope pos) (mDcK (own.map (·.2)) t mi mc mk mv) := PE.imp (pe_dcK hw (by omega) hc hN hi ok hg (fun s H C cl fp => (ht s H C cl fp).h) hk he hs) fun σ H Q q => tDcK_of q
end
/-! ### in, not in -/
def gInK (neg : Bool) (rx ry : R) : M R := fun e S => match rx with
  | .d y => (match look ry e S with
    | some (.kd kvs) => (rk y).map fun k => (.d (.bl ((valKd kvs k).isSome != neg)), e, S)
    | _ => none)
  | _ => none
theorem gInK_eq {neg : Bool} {rx ry : R} {e : En} {S : Sto} {z : R × En × Sto} (h : gInK neg rx ry e S = some z) : ∃ kvs y k, rx = .d y ∧ look ry e S = some (.kd kvs) ∧ rk y = some k ∧ z = (.d (.bl ((valKd kvs k).isSome != neg)), e, S) := by
  unfold gInK at h
  split at h
  · split at h
    · obtain ⟨k, h1, h2⟩ := Option.map_eq_some_iff.mp h
      exact ⟨_, _, k, rfl, by assumption, h1, h2.symm⟩
    · cases h
  · cases h
theorem Rel.lookK {K : PySem.W.Frag} {H : Hp} {ι : List Addr} {σ : SV} {e : En} {S : Sto} {v : V} {r : R} {kvs : List (D × D)} (R : Rel K H ι σ e S) (hr : RR K H ι σ e v r) (hl : G.look r e S = some (.kd kvs)) : ∃ a, v = .ref a ∧ RO K H ι a (.kd kvs) := by
  obtain ⟨a, rfl, h | ⟨xs, ds', h, e1, rd⟩ | ⟨ob, ws, kvs, h, e1, rk⟩⟩ := R.look hr hl
  · exact ⟨a, rfl, h⟩
  · cases e1
  · cases e1
section
variable {X : Cx}
theorem in_core {neg : Bool} {pins : List (Addr × PySem.Obj)} {σ : SV} {s : Shared} {H : Hp} {x y : V} {v u : Value} {Q : VK} (hw : X.w = Wld.w) (hu : X.A.units + 64 < cLine) (I : Inv X pins σ H s) (rx : RelV x v) (ry : RelV y u) (q : tO2 X.K (gInK neg) x y H Q) :
    ∃ k a d xs b, v = .ref b ∧ u = .ref a ∧ (nestedKind X.prog X.w).is s.heap k b ∧ (a == sysModules) = false ∧ s.heap.DictOfH (nestedKind X.prog X.w) a (List.map G.pj xs) ∧ (has4 xs k).isSome = d ∧ Q (.bl (d != neg)) H := by
  obtain ⟨ι, σ', e, S, r1, r2, r, e', S', R, h1, h2, hm, q⟩ := q
  obtain ⟨kvs, y', k, rfl, hl, hk, hz⟩ := gInK_eq hm
  cases hz
  obtain ⟨a, rfl, ro⟩ := R.lookK h2 hl
  obtain ⟨hk1, hk2, ds, rfl⟩ := rk_eq hk
  have h1' : RD X.K H ι x (.tup ds) := h1
  have h1'' := h1'
  cases h1'' with | tup z1 z2 =>
  obtain rfl : v = _ := rx
  obtain rfl : u = _ := ry
  obtain ⟨xs, dd, hs, pr⟩ := ro.kget I hw
  refine ⟨k, a, (valKd kvs k).isSome, xs, _, rfl, rfl, ⟨RD.nest I _ _ _ _ h1' rfl hk1, hk2⟩, hs, dd, ?_, q _ H ι R .refl (.bl _) trivial⟩
  rcases Pr4.find pr k with ⟨z3, z4⟩ | ⟨x, d', z3, z4, _⟩ <;> rw [z3, z4] <;> rfl
theorem gop_inK (hw : X.w = Wld.w) (hu : X.A.units + 64 < cLine) : OpR X (compareOp .In) (tO2 X.K (gInK false)) := fun pins s σ H x y v u Q I rx ry q => by
  obtain ⟨k, a, d, xs, b, rfl, rfl, hk, hs, dd, hd, q⟩ := in_core hw hu I rx ry q
  refine in_keyed (knd := nestedKind X.prog X.w) (k := k) (by show X.A.in1.units + 8 < cLine; rw [Around.in1_units]; omega) hk hs ⟨_, dd, rfl⟩ ?_
  rw [valueAt_pairsH, Option.isSome_map, at_pj, Option.isSome_map, hd]
  exact fin_bl (I.kept (fun _ _ e => e)) q (by cases d <;> rfl)
theorem gop_notInK (hw : X.w = Wld.w) (hu : X.A.units + 64 < cLine) : OpR X (compareOp .NotIn) (tO2 X.K (gInK true)) := fun pins s σ H x y v u Q I rx ry q => by
  obtain ⟨k, a, d, xs, b, rfl, rfl, hk, hs, dd, hd, q⟩ := in_core hw hu I rx ry q
  refine notIn_keyed (knd := nestedKind X.prog X.w) (k := k) (by show X.A.in1.units + 8 < cLine; rw [Around.in1_units]; omega) hk hs ⟨_, dd, rfl⟩ ?_
  rw [valueAt_pairsH, Option.isSome_map, at_pj, Option.isSome_map, hd]
  exact fin_bl (I.kept (fun _ _ e => e)) q (by cases d <;> rfl)
end
end G

set_option Elab.async false
set_option linter.all false
set_option maxRecDepth 1000000
set_option maxHeartbeats 2000000
/-! GHW: a law's row, the world told; the calculus of dicts keyed by rows. -/
namespace G
open PySem PySem.Spec PyProof.Rows L2
theorem walk_G3 {l : PySem.W.OpenLaw} {n k : Nat} {q : Program} {loose : List Str} {XP : (Str → Option Value) → Heap → Prop} {YP : World → Heap → Prop} {d : DefRec} {K : Params → PySem.W.Frag} {x : Str}
    (hn : l.most = some n) (hn2 : n ≤ sizeLine) (hdf : d.params.defaults = []) (hr : Room k callerA) (hY : ∀ (w : World) (h : Heap), YP w h → (K w.params).In h)
    (F : ∀ (w : World) (mg : Str → Option Value) (fa : Addr) (h : Heap), (K w.params).In h → h.Ns mainGlobals mg → mg d.name = some (.ref fa) →
      ∃ (i : Wld) (f : Fn) (fd : FuncData), (∀ (s : Shared) (u : Value), BindsTo s fd ⟨[u], []⟩ [(x, u)]) ∧ (∀ base : Heap, (K w.params).In base → base.Ns mainGlobals mg → FnG l.prog w (K w.params) mg base k fa fd [x] (spG (K w.params) 1 f)) ∧
        ∀ ns : List Int, ns.length ≤ n → (∀ z ∈ ns, Builtin.Int.intBits z ≤ 1048576) → ∃ S', f [.d (.lst (ns.map D.int))] [] = some (.d (.bl true), S')) :
    PySem.W.WalkO q loose XP YP l.row.toRowW d [] (fun f vs => PySem.call f vs) :=
  Att.attach_callB hn hdf fun w s₀ s₁ mg mb fa o pm cd doc a vs ns G Y ho hd hcd hmg hobj hints hlen hbits hg =>
    let ⟨i, _, fd, hb, hF, hf⟩ := F w mg fa _ (hY w _ Y) G.T.g hmg
    law_callG (hY w _ Y) G.T.g G.T.b G.T.builtins G.T.nolimit hg hobj hints (Nat.le_trans hlen hn2) hr hF hb fun H hO hS => let ⟨_, h⟩ := hf ns hlen hbits; spG_law hO hS h
end G

set_option Elab.async false
set_option linter.all false
set_option maxRecDepth 1000000
set_option maxHeartbeats 4000000
/-! GHV: the calculus of dicts keyed by rows. -/
namespace G
variable [Wld]
open PySem PySem.Spec PyProof.Rows L2
section
variable {e : En} {S : Sto} {Q : R → En → Sto → Prop}
theorem wp_inK {neg : Bool} {y : D} {ry : R} : Wp (gInK neg (.d y) ry) e S Q ↔ ∃ kvs, look ry e S = some (.kd kvs) ∧ ∃ k, rk y = some k ∧ Q (.d (.bl ((valKd kvs k).isSome != neg))) e S := by
  constructor
  · rintro ⟨r, e1, S1, h, q⟩
    obtain ⟨kvs, y', k, h1, h2, h3, h4⟩ := gInK_eq h
    cases h1
    cases h4
    exact ⟨kvs, h2, k, h3, q⟩
  · rintro ⟨kvs, h2, k, h3, q⟩
    refine ⟨_, _, _, ?_, q⟩
    unfold gInK
    simp only [h2, h3]; rfl
theorem wp_mDcK {vs : List Nat} {t : Tgt} {mi : M Src} {c : M Bool} {mk mv : M R} : Wp (mDcK vs t mi c mk mv) e S Q ↔ Wp mi e S fun src e1 S1 => Wp (compL vs t c (mKV mk mv) src.ws src.items) (wipeE e1 vs) S1 fun ys e2 S2 => ∃ ps, kdsOf ys = some ps ∧ Q (.new (.kd (mergeKd [] ps))) e2 S2 := by
  simp only [mDcK, wp_bnd]
  constructor
  · rintro ⟨src, e1, S1, h1, ys, e2, S2, h2, a, e3, S3, h3, q⟩
    obtain ⟨kvs, h4, h5⟩ := Option.map_eq_some_iff.mp h3
    cases h5
    exact ⟨src, e1, S1, h1, ys, e2, S2, h2, kvs, h4, q⟩
  · rintro ⟨src, e1, S1, h1, ys, e2, S2, h2, kvs, h4, q⟩
    exact ⟨src, e1, S1, h1, ys, e2, S2, h2, _, _, _, Option.map_eq_some_iff.mpr ⟨kvs, h4, rfl⟩, q⟩
end
/-! ### rows as keys -/
mutual
theorem nk_inj : ∀ (d d' : D) (k : NestedKey), nk d = some k → nk d' = some k → d = d'
  | .non, d', k, h, h' => by
    cases h
    cases d' with
    | non => rfl
    | tup ds => obtain ⟨ps, _, e⟩ := Option.map_eq_some_iff.mp (show (nks ds).map NestedKey.tup = some _ from h'); cases e
    | _ => cases h'
  | .int i, d', k, h, h' => by
    cases h
    cases d' with
    | int j => cases h'; rfl
    | tup ds => obtain ⟨ps, _, e⟩ := Option.map_eq_some_iff.mp (show (nks ds).map NestedKey.tup = some _ from h'); cases e
    | _ => cases h'
  | .str x, d', k, h, h' => by
    cases h
    cases d' with
    | str j => cases h'; rfl
    | tup ds => obtain ⟨ps, _, e⟩ := Option.map_eq_some_iff.mp (show (nks ds).map NestedKey.tup = some _ from h'); cases e
    | _ => cases h'
  | .tup ds, d', k, h, h' => by
    obtain ⟨ps, e1, e2⟩ := Option.map_eq_some_iff.mp (show (nks ds).map NestedKey.tup = some _ from h)
    subst e2
    cases d' with
    | tup ds' =>
      obtain ⟨qs, e3, e4⟩ := Option.map_eq_some_iff.mp (show (nks ds').map NestedKey.tup = some _ from h')
      cases e4
      rw [nks_inj ds ds' _ e1 e3]
    | _ => cases h'
  | .bl _, _, _, h, _ => by cases h
  | .lst _, _, _, h, _ => by cases h
  | .dic _ _, _, _, h, _ => by cases h
  | .ref _, _, _, h, _ => by cases h
  | .fn _, _, _, h, _ => by cases h
theorem nks_inj : ∀ (ds ds' : List D) (ks : List NestedKey), nks ds = some ks → nks ds' = some ks → ds = ds'
  | [], ds', _, h, h' => by
    cases h
    cases ds' with
    | nil => rfl
    | cons a l => obtain ⟨p, ps, _, _, e⟩ := nks_cons h'; cases e
  | d :: ds, ds', _, h, h' => by
    obtain ⟨p, ps, h1, h2, rfl⟩ := nks_cons h
    cases ds' with
    | nil => cases h'
    | cons a l =>
      obtain ⟨q, qs, h3, h4, e⟩ := nks_cons h'
      cases e
      rw [nk_inj d a _ h1 h3, nks_inj ds l _ h2 h4]
end
theorem rk_inj {d d' : D} {k : NestedKey} (h : rk d = some k) (h' : rk d' = some k) : d = d' := nk_inj d d' k (rk_eq h).1 (rk_eq h').1
theorem find_any {α : Type} (p : α → Bool) : ∀ l : List α, (l.find? p).isSome = l.any p
  | [] => rfl
  | a :: l => by
    rw [List.find?_cons, List.any_cons]
    cases p a with
    | true => rfl
    | false => simpa using find_any p l
def hasKd (kvs : List (D × D)) (k : NestedKey) : Bool := kvs.any fun q => decide (nk q.1 = some k)
theorem valKd_isSome (kvs : List (D × D)) (k : NestedKey) : (valKd kvs k).isSome = hasKd kvs k := by
  unfold valKd hasKd
  rw [Option.isSome_map, find_any]
theorem hasKd_put {kvs : List (D × D)} {kd d : D} {k k' : NestedKey} (hk : nk kd = some k) : hasKd (putKd kvs kd k d) k' = (hasKd kvs k' || decide (k = k')) := by
  unfold putKd
  rw [valKd_isSome]
  have em : hasKd (kvs.map (setKd k d)) k' = hasKd kvs k' := by
    unfold hasKd
    rw [List.any_map]
    refine congrArg (fun f => List.any kvs f) ?_
    funext q
    show decide (nk (setKd k d q).1 = some k') = _
    unfold setKd
    split <;> rfl
  split
  · rename_i h
    rw [em]
    by_cases e : k = k'
    · subst e; rw [h]; rfl
    · simp [e]
  · unfold hasKd
    rw [List.any_append]
    simp [hk]
theorem hasKd_merge {k' : NestedKey} : ∀ (ps : List Tr) (kvs : List (D × D)), (∀ p ∈ ps, nk p.1 = some p.2.1) → hasKd (mergeKd kvs ps) k' = (hasKd kvs k' || ps.any fun p => decide (p.2.1 = k'))
  | [], kvs, _ => by simp [mergeKd]
  | p :: ps, kvs, h => by
    have e : mergeKd kvs (p :: ps) = mergeKd (putKd kvs p.1 p.2.1 p.2.2) ps := rfl
    rw [e, hasKd_merge ps _ fun q hq => h q (List.mem_cons_of_mem p hq), hasKd_put (h p (by simp)), List.any_cons, Bool.or_assoc]
theorem kdsOf_nk : ∀ {ds : List D} {ps : List Tr}, kdsOf ds = some ps → ∀ p ∈ ps, rk p.1 = some p.2.1
  | [], _, h, p, hp => by cases h; cases hp
  | d :: ds, _, h, p, hp => by
    obtain ⟨kd, vd, k, cs, rfl, hk, e1, rfl⟩ := kdsOf_cons h
    rcases List.mem_cons.mp hp with rfl | hp
    · exact hk
    · exact kdsOf_nk e1 p hp
/-- {x: v for x in ds} holds just these -/
theorem kdsOf_map (f : D → D) : ∀ {ds : List D}, (∀ d ∈ ds, ∃ k, rk d = some k) → ∃ ps, kdsOf (ds.map fun d => .tup [d, f d]) = some ps ∧ ps.map (·.1) = ds
  | [], _ => ⟨[], rfl, rfl⟩
  | d :: ds, h => by
    obtain ⟨ps, h1, h2⟩ := kdsOf_map f (ds := ds) fun x hx => h x (by simp [hx])
    obtain ⟨k, hk⟩ := h d (by simp)
    exact ⟨(d, k, f d) :: ps, kdsOf_mk hk h1, by rw [List.map_cons, h2]⟩
theorem hasKd_rows {f : D → D} {ds : List D} {ps : List Tr} (h : kdsOf (ds.map fun d => .tup [d, f d]) = some ps) (e : ps.map (·.1) = ds) {x : D} {k : NestedKey} (hk : rk x = some k) : hasKd (mergeKd [] ps) k = true ↔ x ∈ ds := by
  have hn := kdsOf_nk h
  rw [hasKd_merge ps [] fun p hp => (rk_eq (hn p hp)).1]
  simp only [hasKd, List.any_nil, Bool.false_or, List.any_eq_true, decide_eq_true_eq]
  constructor
  · rintro ⟨p, hp, rfl⟩
    have := rk_inj hk (hn p hp)
    rw [this, ← e]
    exact List.mem_map_of_mem hp
  · intro hx
    rw [← e] at hx
    obtain ⟨p, hp, rfl⟩ := List.mem_map.mp hx
    have := hn p hp
    rw [hk] at this
    exact ⟨p, hp, (Option.some.inj this).symm⟩
end G

set_option Elab.async false
set_option linter.all false
set_option maxRecDepth 100000
set_option maxHeartbeats 4000000
namespace G
variable [Wld]
open PySem PySem.Spec PyProof.Rows L2
def topS (i : Nat) : Stmt := PySem.Challenge.pw_standviews_k10_net_of_two_stores.main.body.getD i (.Pass ⟨0, 0, 0, 0⟩)
structure FA where
  none_ : Unit
structure Txt (K : PySem.W.Frag) (w : World) (mg : Str → Option Value) (A : FA) : Prop where
  wld : w = Wld.w
  n_abs : mg "abs" = none
  n_all : mg "all" = none
  n_bool : mg "bool" = none
  n_enumerate : mg "enumerate" = none
  n_int : mg "int" = none
  n_isinstance : mg "isinstance" = none
  n_len : mg "len" = none
  n_list : mg "list" = none
  n_max : mg "max" = none
  n_min : mg "min" = none
  n_range : mg "range" = none
  n_repr : mg "repr" = none
  n_sorted : mg "sorted" = none
  n_str : mg "str" = none
  n_tuple : mg "tuple" = none
  n_zip : mg "zip" = none
  d_net : DF K mg "net" "net" (topS 1) ["plan", "store", "other"]
  d__law_box : DF K mg "_law_box" "_law_box" (topS 3) ["_law_script", "_law_k"]
  d__law_take : DF K mg "_law_take" "_law_take" (topS 4) ["_law_box_here", "_law_many"]
  d__law_rank : DF K mg "_law_rank" "_law_rank" (topS 5) ["_law_row_here"]
  d__law_rises : DF K mg "_law_rises" "_law_rises" (topS 6) ["_law_rows"]
  d__law_some_names : DF K mg "_law_some_names" "_law_some_names" (topS 7) ["_law_box_here", "_law_pool", "_law_many"]
  d__law_plan : DF K mg "_law_plan" "_law_plan" (topS 8) ["_law_box_here"]
  d__law_worth : DF K mg "_law_worth" "_law_worth" (topS 9) ["_law_box_here", "_law_kind", "_law_bare"]
  d__law_row : DF K mg "_law_row" "_law_row" (topS 10) ["_law_box_here", "_law_columns"]
  d__law_store : DF K mg "_law_store" "_law_store" (topS 11) ["_law_box_here", "_law_layout", "_law_far"]
  d__law_table : DF K mg "_law_table" "_law_table" (topS 12) ["_law_layout", "_law_name"]
  d__law_fits : DF K mg "_law_fits" "_law_fits" (topS 13) ["_law_kind", "_law_worth_here"]
  d__law_change_done : DF K mg "_law_change_done" "_law_change_done" (topS 14) ["_law_layout", "_law_tables", "_law_thing"]
  d__law_due : DF K mg "_law_due" "_law_due" (topS 15) ["_law_layout", "_law_stock", "_law_deeds"]
  d__law_dealing : DF K mg "_law_dealing" "_law_dealing" (topS 16) ["_law_box_here", "_law_layout", "_law_stock", "_law_far"]
  d__law_net : DF K mg "_law_net" "_law_net" (topS 17) ["_law_one", "_law_two"]
  d__law_known_right : DF K mg "_law_known_right" "_law_known_right" (topS 18) []
  d_law : DF K mg "law" "law" (topS 19) ["_law_script"]
section
variable {P : Program} {w : World} {K : PySem.W.Frag} {mg : Str → Option Value} {base : Heap} {A : FA}
abbrev s_net : Stmt := topS 1
abbrev N_net : List Str := ["plan", "store", "other", "found", "bag", "its", "gone", "ahead", "behind", "row"]
theorem sc_net : FnScope N_net ["plan", "store", "other"] (defScope s_net) := ⟨rfl, rfl, rfl, by decide +kernel, rfl, by decide +kernel, by decide +kernel⟩
noncomputable def b_net : M Fl := (mSeq (mSet 3 (mLst mNil)) (mSeq (mFor (gtTup 2 (gtCons (gtName 4) (gtCons (gtName 5) gtNil))) (bnd (mCons (mVar 1) (mCons (mVar 2) mNil)) srcZip) (mSeq (mAsg (gtTup 2 (gtCons (gtName 7) (gtCons (gtName 8) gtNil))) (mTup (mCons (mBox (mDcK [9] (gtName 9) (mSrc (mVar 4)) (pur true) (mVar 9) (mC (.bl true)))) (mCons (mBox (mDcK [9] (gtName 9) (mSrc (mVar 5)) (pur true) (mVar 9) (mC (.bl true)))) mNil)))) (mSeq (mSet 6 (bnd (mCons (mLc [9] (gtName 9) (mSrc (mVar 4)) (bnd (mBin (gInK true) (mVar 9) (mVar 8)) asB) (mVar 9)) mNil) (g1 gTuple))) (mDrop (mMth "list" gAppend (mVar 3) (mCons (mTup (mCons (mVar 6) (mCons (bnd (mCons (mLc [9] (gtName 9) (mSrc (mVar 5)) (bnd (mBin (gInK true) (mVar 9) (mVar 7)) asB) (mVar 9)) mNil) (g1 gTuple)) mNil))) mNil)))))) (mRet (bnd (mCons (mVar 3) mNil) (g1 gTuple)))))
noncomputable def f_net : Fn := runF 7 (b_net)
theorem g_net (T : Txt K w mg A) : GF P w K mg base 1 "net" 3 (f_net) := GF.bodyOf (k := 0) T.d_net sc_net (fun f cdv A0 outer s H vs Q E hr hgd => (by
  exact (gss_cons (gs_set (i := 3) sc_net.nd rfl (.inl rfl) (ge_lst ga_nil))
    (gss_cons (gs_for (vs := [4, 5]) PassesOwn.never rfl (gi_zip (by rfl) T.n_zip (ga_cons (ge_var 1) (ga_cons (ge_var 2) ga_nil))) (gg_tup rfl (ggs_cons (gg_name (i := 4) sc_net.nd rfl (.inl rfl)) (ggs_cons (gg_name (i := 5) sc_net.nd rfl (.inl rfl)) ggs_nil))) (gss_cons (gs_asg (vs := [7, 8]) (ge_tup (ga_cons (ge_box (ge_dcK (own := [("row", 9)]) T.wld hr.units rfl sc_net.nd (gi_seq (ge_var 4)) (blkOk_by (own := [("row", 9)]) (N := N_net) (sc := defScope s_net) (by decide +kernel)) (fun _ _ _ _ _ => (gg_name (i := 9) sc_net.nd rfl (.inl rfl))) (fun _ _ _ _ _ => gts_nil) (fun _ _ _ _ _ => (ge_var 9)) (fun _ _ _ _ _ => ge_bl))) (ga_cons (ge_box (ge_dcK (own := [("row", 9)]) T.wld hr.units rfl sc_net.nd (gi_seq (ge_var 5)) (blkOk_by (own := [("row", 9)]) (N := N_net) (sc := defScope s_net) (by decide +kernel)) (fun _ _ _ _ _ => (gg_name (i := 9) sc_net.nd rfl (.inl rfl))) (fun _ _ _ _ _ => gts_nil) (fun _ _ _ _ _ => (ge_var 9)) (fun _ _ _ _ _ => ge_bl))) ga_nil))) (gg_tup rfl (ggs_cons (gg_name (i := 7) sc_net.nd rfl (.inr rfl)) (ggs_cons (gg_name (i := 8) sc_net.nd rfl (.inr rfl)) ggs_nil))))
    (gss_cons (gs_set (i := 6) sc_net.nd rfl (.inl rfl) (ge_ct cg_tuple (by rfl) T.n_tuple (by decide +kernel) (ga_cons (ge_lc (own := [("row", 9)]) rfl sc_net.nd (gi_seq (ge_var 4)) (blkOk_by (own := [("row", 9)]) (N := N_net) (sc := defScope s_net) (by decide +kernel)) (fun _ _ _ _ _ => (gg_name (i := 9) sc_net.nd rfl (.inl rfl))) (fun _ _ _ _ _ => (gts_one (gt_cmp (gop_notInK T.wld hr.units) (ge_var 9) (ge_var 8)))) (fun _ _ _ _ _ => (ge_var 9))) ga_nil)))
    (gss_one (gs_expr (ge_m PySem.F.plainAttrs_list PySem.F.slot_list_append PySem.F.type_list_append mg_append (ge_var 3) (ga_cons (ge_tup (ga_cons (ge_var 6) (ga_cons (ge_ct cg_tuple (by rfl) T.n_tuple (by decide +kernel) (ga_cons (ge_lc (own := [("row", 9)]) rfl sc_net.nd (gi_seq (ge_var 5)) (blkOk_by (own := [("row", 9)]) (N := N_net) (sc := defScope s_net) (by decide +kernel)) (fun _ _ _ _ _ => (gg_name (i := 9) sc_net.nd rfl (.inl rfl))) (fun _ _ _ _ _ => (gts_one (gt_cmp (gop_notInK T.wld hr.units) (ge_var 9) (ge_var 7)))) (fun _ _ _ _ _ => (ge_var 9))) ga_nil)) ga_nil))) ga_nil)))))))
    (gss_one (gs_ret (ge_ct cg_tuple (by rfl) T.n_tuple (by decide +kernel) (ga_cons (ge_var 3) ga_nil))))))))
abbrev s__law_box : Stmt := topS 3
abbrev N__law_box : List Str := ["_law_script", "_law_k", "_law_cell", "_law_mixed"]
theorem sc__law_box : FnScope N__law_box ["_law_script", "_law_k"] (defScope s__law_box) := ⟨rfl, rfl, rfl, by decide +kernel, rfl, by decide +kernel, by decide +kernel⟩
noncomputable def b__law_box : M Fl := (mSeq (mSet 2 (mIf (bnd (mBin (gP dLt) (mVar 1) (bnd (mCons (mVar 0) mNil) (g1 gLen))) asB) (mBin gIx (mVar 0) (mVar 1)) (mC (.int 0)))) (mSeq (mSet 3 (mBin (gP dMod) (mBin (gP dMul) (mBin gAdd (mBin gAdd (mBin (gP dMod) (mVar 2) (mC (.int 2305843009213693951))) (mBin (gP dMul) (mBin (gP dMul) (mC (.int 7919)) (mVar 1)) (mVar 1))) (mC (.int 3))) (mC (.int 48271))) (mC (.int 2305843009213693921)))) (mRet (mBox (mLst (mCons (mIf (bnd (mBin (gP fun x y => dLe y x) (bnd (mCons (mVar 2) mNil) (g1 gAbs)) (mBin (gP dPow) (mC (.int 10)) (mC (.int 18)))) asB) (bnd (mCons (mVar 2) mNil) (g1 gAbs)) (mC (.int 0))) (mCons (mVar 3) (mCons (mC (.int 0)) mNil))))))))
noncomputable def f__law_box : Fn := runF 2 (b__law_box)
theorem g__law_box (T : Txt K w mg A) : GF P w K mg base 1 "_law_box" 2 (f__law_box) := GF.bodyOf (k := 0) T.d__law_box sc__law_box (fun f cdv A0 outer s H vs Q E hr hgd => (by
  exact (gss_cons (gs_set (i := 2) sc__law_box.nd rfl (.inl rfl) (ge_ifExp (gt_cmp gop_lt (ge_var 1) (ge_cb cg_len (by rfl) T.n_len PySem.boot_len (ga_cons (ge_var 0) ga_nil))) (ge_ix (hu_of hr) (ge_var 0) (ge_var 1)) ge_int))
    (gss_cons (gs_set (i := 3) sc__law_box.nd rfl (.inl rfl) (ge_op gop_mod (ge_op gop_mulI (ge_op gop_add (ge_op gop_add (ge_op gop_mod (ge_var 2) ge_int) (ge_op gop_mulI (ge_op gop_mulI ge_int (ge_var 1)) (ge_var 1))) ge_int) ge_int) ge_int))
    (gss_one (gs_ret (ge_box (ge_lst (ga_cons (ge_ifExp (gt_cmp gop_ge (ge_cb cg_abs (by rfl) T.n_abs (by decide +kernel) (ga_cons (ge_var 2) ga_nil)) (ge_op gop_pow ge_int ge_int)) (ge_cb cg_abs (by rfl) T.n_abs (by decide +kernel) (ga_cons (ge_var 2) ga_nil)) ge_int) (ga_cons (ge_var 3) (ga_cons ge_int ga_nil)))))))))))
abbrev s__law_take : Stmt := topS 4
abbrev N__law_take : List Str := ["_law_box_here", "_law_many", "_law_mixed", "_law_digit"]
theorem sc__law_take : FnScope N__law_take ["_law_box_here", "_law_many"] (defScope s__law_take) := ⟨rfl, rfl, rfl, by decide +kernel, rfl, by decide +kernel, by decide +kernel⟩
noncomputable def b__law_take : M Fl := (mSeq (mIfS (bnd (mBin (gP fun x y => dLt y x) (mBin gIx (mVar 0) (mC (.int 0))) (mC (.int 0))) asB) (mSeq (mSet 3 (mBin (gP dMod) (mBin gIx (mVar 0) (mC (.int 0))) (mVar 1))) (mSeq (mSetI (mBin (gP dDiv) (mBin gIx (mVar 0) (mC (.int 0))) (mVar 1)) (mVar 0) (mC (.int 0))) (mRet (mVar 3)))) mSkip) (mSeq (mSetI (mBin gAdd (mBin gIx (mVar 0) (mC (.int 2))) (mC (.int 1))) (mVar 0) (mC (.int 2))) (mSeq (mSet 2 (mBin (gP dMod) (mBin (gP dMul) (mBin gAdd (mBin gAdd (mBin gIx (mVar 0) (mC (.int 1))) (mBin (gP dMul) (mBin (gP dMul) (mC (.int 65537)) (mBin gIx (mVar 0) (mC (.int 2)))) (mBin gIx (mVar 0) (mC (.int 2))))) (mC (.int 11))) (mC (.int 48271))) (mC (.int 2305843009213693921)))) (mSeq (mSet 2 (mBin (gP dMod) (mBin (gP dMul) (mVar 2) (mBin gAdd (mBin (gP dMod) (mVar 2) (mC (.int 1000003))) (mBin (gP dMul) (mC (.int 99991)) (mBin gIx (mVar 0) (mC (.int 2)))))) (mC (.int 2305843009213693907)))) (mRet (mBin (gP dMod) (mBin gAdd (mBin (gP dDiv) (mVar 2) (mC (.int 97))) (mBin (gP dDiv) (mVar 2) (mC (.int 1000033)))) (mVar 1)))))))
noncomputable def f__law_take : Fn := runF 2 (b__law_take)
theorem g__law_take (T : Txt K w mg A) : GF P w K mg base 1 "_law_take" 2 (f__law_take) := GF.bodyOf (k := 0) T.d__law_take sc__law_take (fun f cdv A0 outer s H vs Q E hr hgd => (by
  exact (gss_cons (gs_if (gt_cmp gop_gt (ge_ix (hu_of hr) (ge_var 0) ge_int) ge_int) (gss_cons (gs_set (i := 3) sc__law_take.nd rfl (.inl rfl) (ge_op gop_mod (ge_ix (hu_of hr) (ge_var 0) ge_int) (ge_var 1)))
    (gss_cons (gs_setI (ge_op gop_div (ge_ix (hu_of hr) (ge_var 0) ge_int) (ge_var 1)) (ge_var 0) ge_int (ha := fun _ => rfl))
    (gss_one (gs_ret (ge_var 3))))) gss_nil)
    (gss_cons (gs_setI (ge_op gop_add (ge_ix (hu_of hr) (ge_var 0) ge_int) ge_int) (ge_var 0) ge_int (ha := fun _ => rfl))
    (gss_cons (gs_set (i := 2) sc__law_take.nd rfl (.inl rfl) (ge_op gop_mod (ge_op gop_mulI (ge_op gop_add (ge_op gop_add (ge_ix (hu_of hr) (ge_var 0) ge_int) (ge_op gop_mulI (ge_op gop_mulI ge_int (ge_ix (hu_of hr) (ge_var 0) ge_int)) (ge_ix (hu_of hr) (ge_var 0) ge_int))) ge_int) ge_int) ge_int))
    (gss_cons (gs_set (i := 2) sc__law_take.nd rfl (.inl rfl) (ge_op gop_mod (ge_op gop_mulI (ge_var 2) (ge_op gop_add (ge_op gop_mod (ge_var 2) ge_int) (ge_op gop_mulI ge_int (ge_ix (hu_of hr) (ge_var 0) ge_int)))) ge_int))
    (gss_one (gs_ret (ge_op gop_mod (ge_op gop_add (ge_op gop_div (ge_var 2) ge_int) (ge_op gop_div (ge_var 2) ge_int)) (ge_var 1))))))))))
abbrev s__law_rank : Stmt := topS 5
abbrev N__law_rank : List Str := ["_law_row_here", "_law_found", "_law_worth_here"]
theorem sc__law_rank : FnScope N__law_rank ["_law_row_here"] (defScope s__law_rank) := ⟨rfl, rfl, rfl, by decide +kernel, rfl, by decide +kernel, by decide +kernel⟩
noncomputable def b__law_rank : M Fl := (mSeq (mSet 1 (mLst mNil)) (mSeq (mFor (gtName 2) (mSrc (mVar 0)) (mDrop (mMth "list" gAppend (mVar 1) (mCons (mD (mIf (bnd (mBin (gIsN false) (mVar 2) (mC .non)) asB) (mLst (mCons (mC (.int 0)) (mCons (mC (.int 0)) (mCons (mC (.str "")) mNil)))) (mIf (bnd (mIsi .str (mVar 2)) asB) (mLst (mCons (mC (.int 2)) (mCons (mC (.int 0)) (mCons (mVar 2) mNil)))) (mLst (mCons (mC (.int 1)) (mCons (mVar 2) (mCons (mC (.str "")) mNil))))))) mNil)))) (mRet (mVar 1))))
noncomputable def f__law_rank : Fn := runF 2 (b__law_rank)
theorem g__law_rank (T : Txt K w mg A) : GF P w K mg base 1 "_law_rank" 1 (f__law_rank) := GF.bodyOf (k := 0) T.d__law_rank sc__law_rank (fun f cdv A0 outer s H vs Q E hr hgd => (by
  exact (gss_cons (gs_set (i := 1) sc__law_rank.nd rfl (.inl rfl) (ge_lst ga_nil))
    (gss_cons (gs_for (vs := [2]) PassesOwn.never rfl (gi_seq (ge_var 0)) (gg_name (i := 2) sc__law_rank.nd rfl (.inl rfl)) (gss_one (gs_expr (ge_m PySem.F.plainAttrs_list PySem.F.slot_list_append PySem.F.type_list_append mg_append (ge_var 1) (ga_cons (ge_D (ge_ifExp (gt_cmp gop_isN (ge_var 2) ge_non) (ge_lst (ga_cons ge_int (ga_cons ge_int (ga_cons ge_str ga_nil)))) (ge_ifExp (gt_val (ge_isi .str (by rfl) T.n_isinstance (by rfl) T.n_str (by decide +kernel) (ge_var 2))) (ge_lst (ga_cons ge_int (ga_cons ge_int (ga_cons (ge_var 2) ga_nil)))) (ge_lst (ga_cons ge_int (ga_cons (ge_var 2) (ga_cons ge_str ga_nil))))))) ga_nil)))))
    (gss_one (gs_ret (ge_var 1)))))))
abbrev s__law_rises : Stmt := topS 6
abbrev N__law_rises : List Str := ["_law_rows"]
theorem sc__law_rises : FnScope N__law_rises ["_law_rows"] (defScope s__law_rises) := ⟨rfl, rfl, rfl, by decide +kernel, rfl, by decide +kernel, by decide +kernel⟩
noncomputable def b__law_rises : M Fl := (mRet (bnd (mCons (bnd (mCons (mVar 0) mNil) (g1 (gSortK f__law_rank))) mNil) (g1 gTuple)))
noncomputable def f__law_rises : Fn := runF 0 (b__law_rises)
theorem g__law_rises (T : Txt K w mg A) : GF P w K mg base 4 "_law_rises" 1 (f__law_rises) := GF.bodyOf (k := 3) T.d__law_rises sc__law_rises (fun f cdv A0 outer s H vs Q E hr hgd => (by
  exact (gss_one (gs_ret (ge_ct cg_tuple (by rfl) T.n_tuple (by decide +kernel) (ga_cons (ge_sortK (GF.mono (g__law_rank T) (k := 1) (by decide)) hr hgd (by rfl) (by rfl) T.n_sorted (by decide +kernel) (ga_cons (ge_var 0) ga_nil)) ga_nil))))))
abbrev s__law_some_names : Stmt := topS 7
abbrev N__law_some_names : List Str := ["_law_box_here", "_law_pool", "_law_many", "_law_left", "_law_k"]
theorem sc__law_some_names : FnScope N__law_some_names ["_law_box_here", "_law_pool", "_law_many"] (defScope s__law_some_names) := ⟨rfl, rfl, rfl, by decide +kernel, rfl, by decide +kernel, by decide +kernel⟩
noncomputable def b__law_some_names : M Fl := (mSeq (mSet 3 (bnd (mCons (mVar 1) mNil) (g1 gList))) (mRet (mLc [4] (gtName 4) (bnd (mCons (mVar 2) mNil) srcR1) (pur true) (mMth "list" gPop (mVar 3) (mCons (mCall 2 f__law_take (mCons (mVar 0) (mCons (bnd (mCons (mVar 3) mNil) (g1 gLen)) mNil))) mNil)))))
noncomputable def f__law_some_names : Fn := runF 2 (b__law_some_names)
theorem g__law_some_names (T : Txt K w mg A) : GF P w K mg base 2 "_law_some_names" 3 (f__law_some_names) := GF.bodyOf (k := 1) T.d__law_some_names sc__law_some_names (fun f cdv A0 outer s H vs Q E hr hgd => (by
  exact (gss_cons (gs_set (i := 3) sc__law_some_names.nd rfl (.inr rfl) (ge_ct cg_list (by rfl) T.n_list (by decide +kernel) (ga_cons (ge_var 1) ga_nil)))
    (gss_one (gs_ret (ge_lc (own := [("_law_k", 4)]) rfl sc__law_some_names.nd (gi_range1 (by rfl) T.n_range (ga_cons (ge_var 2) ga_nil)) (blkOk_by (own := [("_law_k", 4)]) (N := N__law_some_names) (sc := defScope s__law_some_names) (by decide +kernel)) (fun _ _ _ _ _ => (gg_name (i := 4) sc__law_some_names.nd rfl (.inl rfl))) (fun _ _ _ _ _ => gts_nil) (fun _ _ _ _ _ => (ge_m PySem.F.plainAttrs_list PySem.F.slot_list_pop PySem.F.type_list_pop mg_pop (ge_var 3) (ga_cons (ge_call (GF.mono (g__law_take T) (by decide)) hr hgd (by rfl) (ga_cons (ge_var 0) (ga_cons (ge_cb cg_len (by rfl) T.n_len PySem.boot_len (ga_cons (ge_var 3) ga_nil)) ga_nil))) ga_nil)))))))))
abbrev s__law_plan : Stmt := topS 8
abbrev N__law_plan : List Str := ["_law_box_here", "_law_layout", "_law_name", "_law_columns", "_law_column"]
theorem sc__law_plan : FnScope N__law_plan ["_law_box_here"] (defScope s__law_plan) := ⟨rfl, rfl, rfl, by decide +kernel, rfl, by decide +kernel, by decide +kernel⟩
noncomputable def b__law_plan : M Fl := (mSeq (mSet 1 (mLst mNil)) (mSeq (mFor (gtName 2) (mSrc (bnd (mCons (mCall 3 f__law_some_names (mCons (mVar 0) (mCons (mLst (mCons (mC (.str "a")) (mCons (mC (.str "b")) (mCons (mC (.str "all")) (mCons (mC (.str "many")) (mCons (mC (.str "t")) (mCons (mC (.str "zz")) (mCons (mC (.str "abcdefgh")) mNil)))))))) (mCons (mBin gAdd (mC (.int 1)) (mCall 2 f__law_take (mCons (mVar 0) (mCons (mC (.int 3)) mNil)))) mNil)))) mNil) (g1 gSortS))) (mSeq (mSet 3 (mCall 3 f__law_some_names (mCons (mVar 0) (mCons (mLst (mCons (mC (.str "a")) (mCons (mC (.str "k")) (mCons (mC (.str "n")) (mCons (mC (.str "of")) (mCons (mC (.str "is")) (mCons (mC (.str "value")) (mCons (mC (.str "zzzzzzzz")) (mCons (mC (.str "b")) mNil))))))))) (mCons (mBin gAdd (mC (.int 1)) (mCall 2 f__law_take (mCons (mVar 0) (mCons (mC (.int 4)) mNil)))) mNil))))) (mDrop (mMth "list" gAppend (mVar 1) (mCons (mTup (mCons (mVar 2) (mCons (bnd (mCons (mLc [4] (gtName 4) (mSrc (mVar 3)) (pur true) (mTup (mCons (mVar 4) (mCons (mBin gIx (mLst (mCons (mC (.str "number")) (mCons (mC (.str "name")) mNil))) (mCall 2 f__law_take (mCons (mVar 0) (mCons (mC (.int 2)) mNil)))) mNil)))) mNil) (g1 gTuple)) mNil))) mNil))))) (mRet (bnd (mCons (mVar 1) mNil) (g1 gTuple)))))
noncomputable def f__law_plan : Fn := runF 4 (b__law_plan)
theorem g__law_plan (T : Txt K w mg A) : GF P w K mg base 3 "_law_plan" 1 (f__law_plan) := GF.bodyOf (k := 2) T.d__law_plan sc__law_plan (fun f cdv A0 outer s H vs Q E hr hgd => (by
  exact (gss_cons (gs_set (i := 1) sc__law_plan.nd rfl (.inl rfl) (ge_lst ga_nil))
    (gss_cons (gs_for (vs := [2]) PassesOwn.never rfl (gi_seq (ge_cb cg_sortS (by rfl) T.n_sorted (by decide +kernel) (ga_cons (ge_call (GF.mono (g__law_some_names T) (by decide)) hr hgd (by rfl) (ga_cons (ge_var 0) (ga_cons (ge_lst (ga_cons ge_str (ga_cons ge_str (ga_cons ge_str (ga_cons ge_str (ga_cons ge_str (ga_cons ge_str (ga_cons ge_str ga_nil)))))))) (ga_cons (ge_op gop_add ge_int (ge_call (GF.mono (g__law_take T) (by decide)) hr hgd (by rfl) (ga_cons (ge_var 0) (ga_cons ge_int ga_nil)))) ga_nil)))) ga_nil))) (gg_name (i := 2) sc__law_plan.nd rfl (.inl rfl)) (gss_cons (gs_set (i := 3) sc__law_plan.nd rfl (.inl rfl) (ge_call (GF.mono (g__law_some_names T) (by decide)) hr hgd (by rfl) (ga_cons (ge_var 0) (ga_cons (ge_lst (ga_cons ge_str (ga_cons ge_str (ga_cons ge_str (ga_cons ge_str (ga_cons ge_str (ga_cons ge_str (ga_cons ge_str (ga_cons ge_str ga_nil))))))))) (ga_cons (ge_op gop_add ge_int (ge_call (GF.mono (g__law_take T) (by decide)) hr hgd (by rfl) (ga_cons (ge_var 0) (ga_cons ge_int ga_nil)))) ga_nil)))))
    (gss_one (gs_expr (ge_m PySem.F.plainAttrs_list PySem.F.slot_list_append PySem.F.type_list_append mg_append (ge_var 1) (ga_cons (ge_tup (ga_cons (ge_var 2) (ga_cons (ge_ct cg_tuple (by rfl) T.n_tuple (by decide +kernel) (ga_cons (ge_lc (own := [("_law_column", 4)]) rfl sc__law_plan.nd (gi_seq (ge_var 3)) (blkOk_by (own := [("_law_column", 4)]) (N := N__law_plan) (sc := defScope s__law_plan) (by decide +kernel)) (fun _ _ _ _ _ => (gg_name (i := 4) sc__law_plan.nd rfl (.inl rfl))) (fun _ _ _ _ _ => gts_nil) (fun _ _ _ _ _ => (ge_tup (ga_cons (ge_var 4) (ga_cons (ge_ix (hu_of hr) (ge_lst (ga_cons ge_str (ga_cons ge_str ga_nil))) (ge_call (GF.mono (g__law_take T) (by decide)) hr hgd (by rfl) (ga_cons (ge_var 0) (ga_cons ge_int ga_nil)))) ga_nil))))) ga_nil)) ga_nil))) ga_nil))))))
    (gss_one (gs_ret (ge_ct cg_tuple (by rfl) T.n_tuple (by decide +kernel) (ga_cons (ge_var 1) ga_nil))))))))
abbrev s__law_worth : Stmt := topS 9
abbrev N__law_worth : List Str := ["_law_box_here", "_law_kind", "_law_bare"]
theorem sc__law_worth : FnScope N__law_worth ["_law_box_here", "_law_kind", "_law_bare"] (defScope s__law_worth) := ⟨rfl, rfl, rfl, by decide +kernel, rfl, by decide +kernel, by decide +kernel⟩
noncomputable def b__law_worth : M Fl := (mSeq (mIfS (mAnd (bnd (mVar 2) asB) (bnd (mBin (gEq false) (mCall 2 f__law_take (mCons (mVar 0) (mCons (mC (.int 5)) mNil))) (mC (.int 0))) asB)) (mRet (mC .non)) mSkip) (mSeq (mIfS (bnd (mBin (gEq false) (mVar 1) (mC (.str "name"))) asB) (mRet (mBin gIx (mLst (mCons (mC (.str "a")) (mCons (mC (.str "b")) (mCons (mC (.str "ab")) (mCons (mC (.str "zz")) (mCons (mC (.str "abcdefgh")) (mCons (mC (.str "z")) mNil))))))) (mCall 2 f__law_take (mCons (mVar 0) (mCons (mC (.int 6)) mNil))))) mSkip) (mRet (mBin gIx (mLst (mCons (mC (.int 0)) (mCons (mC (.int 1)) (mCons (mC (.int 2)) (mCons (mUn gNeg (mC (.int 1))) (mCons (mC (.int 3)) (mCons (mBin (gP dPow) (mC (.int 10)) (mC (.int 9))) (mCons (mUn gNeg (mBin (gP dPow) (mC (.int 10)) (mC (.int 9)))) (mCons (mC (.int 7)) mNil))))))))) (mCall 2 f__law_take (mCons (mVar 0) (mCons (mC (.int 8)) mNil)))))))
noncomputable def f__law_worth : Fn := runF 0 (b__law_worth)
theorem g__law_worth (T : Txt K w mg A) : GF P w K mg base 2 "_law_worth" 3 (f__law_worth) := GF.bodyOf (k := 1) T.d__law_worth sc__law_worth (fun f cdv A0 outer s H vs Q E hr hgd => (by
  exact (gss_cons (gs_if (GW.gt (gw_and (gt_val (ge_var 2)) (gw_and1 (gt_cmp (gop_eq hr.units) (ge_call (GF.mono (g__law_take T) (by decide)) hr hgd (by rfl) (ga_cons (ge_var 0) (ga_cons ge_int ga_nil))) ge_int)))) (gss_one (gs_ret ge_non)) gss_nil)
    (gss_cons (gs_if (gt_cmp (gop_eq hr.units) (ge_var 1) ge_str) (gss_one (gs_ret (ge_ix (hu_of hr) (ge_lst (ga_cons ge_str (ga_cons ge_str (ga_cons ge_str (ga_cons ge_str (ga_cons ge_str (ga_cons ge_str ga_nil))))))) (ge_call (GF.mono (g__law_take T) (by decide)) hr hgd (by rfl) (ga_cons (ge_var 0) (ga_cons ge_int ga_nil)))))) gss_nil)
    (gss_one (gs_ret (ge_ix (hu_of hr) (ge_lst (ga_cons ge_int (ga_cons ge_int (ga_cons ge_int (ga_cons (ge_un gun_neg ge_int) (ga_cons ge_int (ga_cons (ge_op gop_pow ge_int ge_int) (ga_cons (ge_un gun_neg (ge_op gop_pow ge_int ge_int)) (ga_cons ge_int ga_nil))))))))) (ge_call (GF.mono (g__law_take T) (by decide)) hr hgd (by rfl) (ga_cons (ge_var 0) (ga_cons ge_int ga_nil))))))))))
abbrev s__law_row : Stmt := topS 10
abbrev N__law_row : List Str := ["_law_box_here", "_law_columns", "_law_at", "_law_name", "_law_kind"]
theorem sc__law_row : FnScope N__law_row ["_law_box_here", "_law_columns"] (defScope s__law_row) := ⟨rfl, rfl, rfl, by decide +kernel, rfl, by decide +kernel, by decide +kernel⟩
noncomputable def b__law_row : M Fl := (mRet (bnd (mCons (mLc [2, 3, 4] (gtTup 2 (gtCons (gtName 2) (gtCons (gtTup 2 (gtCons (gtName 3) (gtCons (gtName 4) gtNil))) gtNil))) (bnd (mCons (mVar 1) mNil) srcEnum) (pur true) (mCall 3 f__law_worth (mCons (mVar 0) (mCons (mVar 4) (mCons (mBin (gP fun x y => dLt y x) (mVar 2) (mC (.int 0))) mNil))))) mNil) (g1 gTuple)))
noncomputable def f__law_row : Fn := runF 3 (b__law_row)
theorem g__law_row (T : Txt K w mg A) : GF P w K mg base 3 "_law_row" 2 (f__law_row) := GF.bodyOf (k := 2) T.d__law_row sc__law_row (fun f cdv A0 outer s H vs Q E hr hgd => (by
  exact (gss_one (gs_ret (ge_ct cg_tuple (by rfl) T.n_tuple (by decide +kernel) (ga_cons (ge_lc (own := [("_law_at", 2), ("_law_name", 3), ("_law_kind", 4)]) rfl sc__law_row.nd (gi_enum (by rfl) T.n_enumerate (ga_cons (ge_var 1) ga_nil)) (blkOk_by (own := [("_law_at", 2), ("_law_name", 3), ("_law_kind", 4)]) (N := N__law_row) (sc := defScope s__law_row) (by decide +kernel)) (fun _ _ _ _ _ => (gg_tup rfl (ggs_cons (gg_name (i := 2) sc__law_row.nd rfl (.inl rfl)) (ggs_cons (gg_tup rfl (ggs_cons (gg_name (i := 3) sc__law_row.nd rfl (.inl rfl)) (ggs_cons (gg_name (i := 4) sc__law_row.nd rfl (.inl rfl)) ggs_nil))) ggs_nil)))) (fun _ _ _ _ _ => gts_nil) (fun _ _ _ _ _ => (ge_call (GF.mono (g__law_worth T) (by decide)) hr hgd (by rfl) (ga_cons (ge_var 0) (ga_cons (ge_var 4) (ga_cons (ge_cmp gop_gt (ge_var 2) ge_int) ga_nil)))))) ga_nil))))))
abbrev s__law_store : Stmt := topS 11
abbrev N__law_store : List Str := ["_law_box_here", "_law_layout", "_law_far", "_law_stock", "_law_name", "_law_columns", "_law_rows", "_law_turn", "_law_row_here"]
theorem sc__law_store : FnScope N__law_store ["_law_box_here", "_law_layout", "_law_far"] (defScope s__law_store) := ⟨rfl, rfl, rfl, by decide +kernel, rfl, by decide +kernel, by decide +kernel⟩
noncomputable def b__law_store : M Fl := (mSeq (mSet 3 (mLst mNil)) (mSeq (mFor (gtTup 2 (gtCons (gtName 4) (gtCons (gtName 5) gtNil))) (mSrc (mVar 1)) (mSeq (mSet 6 mDn) (mSeq (mFor (gtName 7) (bnd (mCons (mCall 2 f__law_take (mCons (mVar 0) (mCons (mBin gAdd (mVar 2) (mC (.int 1))) mNil))) mNil) srcR1) (mSeq (mSet 8 (mCall 2 f__law_row (mCons (mVar 0) (mCons (mVar 5) mNil)))) (mSetK (mVar 8) (mVar 6) (mBin gIx (mVar 8) (mC (.int 0)))))) (mDrop (mMth "list" gAppend (mVar 3) (mCons (mCall 1 f__law_rises (mCons (bnd (mVar 6) gVals) mNil)) mNil)))))) (mRet (bnd (mCons (mVar 3) mNil) (g1 gTuple)))))
noncomputable def f__law_store : Fn := runF 6 (b__law_store)
theorem g__law_store (T : Txt K w mg A) : GF P w K mg base 5 "_law_store" 3 (f__law_store) := GF.bodyOf (k := 4) T.d__law_store sc__law_store (fun f cdv A0 outer s H vs Q E hr hgd => (by
  exact (gss_cons (gs_set (i := 3) sc__law_store.nd rfl (.inl rfl) (ge_lst ga_nil))
    (gss_cons (gs_for (vs := [4, 5]) PassesOwn.never rfl (gi_seq (ge_var 1)) (gg_tup rfl (ggs_cons (gg_name (i := 4) sc__law_store.nd rfl (.inl rfl)) (ggs_cons (gg_name (i := 5) sc__law_store.nd rfl (.inl rfl)) ggs_nil))) (gss_cons (gs_set (i := 6) sc__law_store.nd rfl (.inl rfl) ge_dn)
    (gss_cons (gs_for (vs := [7]) PassesOwn.never rfl (gi_range1 (by rfl) T.n_range (ga_cons (ge_call (GF.mono (g__law_take T) (by decide)) hr hgd (by rfl) (ga_cons (ge_var 0) (ga_cons (ge_op gop_add (ge_var 2) ge_int) ga_nil))) ga_nil)) (gg_name (i := 7) sc__law_store.nd rfl (.inl rfl)) (gss_cons (gs_set (i := 8) sc__law_store.nd rfl (.inl rfl) (ge_call (GF.mono (g__law_row T) (by decide)) hr hgd (by rfl) (ga_cons (ge_var 0) (ga_cons (ge_var 5) ga_nil))))
    (gss_one (gs_setK (hu_of hr) (ge_var 8) (ge_var 6) (ge_ix (hu_of hr) (ge_var 8) ge_int)))))
    (gss_one (gs_expr (ge_m PySem.F.plainAttrs_list PySem.F.slot_list_append PySem.F.type_list_append mg_append (ge_var 3) (ga_cons (ge_call (GF.mono (g__law_rises T) (by decide)) hr hgd (by rfl) (ga_cons (ge_listVals rfl (by rfl) T.n_list (by decide +kernel) (ge_var 6)) ga_nil)) ga_nil)))))))
    (gss_one (gs_ret (ge_ct cg_tuple (by rfl) T.n_tuple (by decide +kernel) (ga_cons (ge_var 3) ga_nil))))))))
abbrev s__law_table : Stmt := topS 12
abbrev N__law_table : List Str := ["_law_layout", "_law_name", "_law_found", "_law_at", "_law_called", "_law_columns"]
theorem sc__law_table : FnScope N__law_table ["_law_layout", "_law_name"] (defScope s__law_table) := ⟨rfl, rfl, rfl, by decide +kernel, rfl, by decide +kernel, by decide +kernel⟩
noncomputable def b__law_table : M Fl := (mSeq (mSet 2 (mUn gNeg (mC (.int 1)))) (mSeq (mFor (gtTup 2 (gtCons (gtName 3) (gtCons (gtTup 2 (gtCons (gtName 4) (gtCons (gtName 5) gtNil))) gtNil))) (bnd (mCons (mVar 0) mNil) srcEnum) (mIfS (mAnd (bnd (mIsi .str (mVar 1)) asB) (bnd (mBin (gEq false) (mVar 1) (mVar 4)) asB)) (mSet 2 (mVar 3)) mSkip)) (mRet (mVar 2))))
noncomputable def f__law_table : Fn := runF 4 (b__law_table)
theorem g__law_table (T : Txt K w mg A) : GF P w K mg base 1 "_law_table" 2 (f__law_table) := GF.bodyOf (k := 0) T.d__law_table sc__law_table (fun f cdv A0 outer s H vs Q E hr hgd => (by
  exact (gss_cons (gs_set (i := 2) sc__law_table.nd rfl (.inl rfl) (ge_un gun_neg ge_int))
    (gss_cons (gs_for (vs := [3, 4, 5]) PassesOwn.never rfl (gi_enum (by rfl) T.n_enumerate (ga_cons (ge_var 0) ga_nil)) (gg_tup rfl (ggs_cons (gg_name (i := 3) sc__law_table.nd rfl (.inl rfl)) (ggs_cons (gg_tup rfl (ggs_cons (gg_name (i := 4) sc__law_table.nd rfl (.inl rfl)) (ggs_cons (gg_name (i := 5) sc__law_table.nd rfl (.inl rfl)) ggs_nil))) ggs_nil))) (gss_one (gs_if (GW.gt (gw_and (gt_val (ge_isi .str (by rfl) T.n_isinstance (by rfl) T.n_str (by decide +kernel) (ge_var 1))) (gw_and1 (gt_cmp (gop_eq hr.units) (ge_var 1) (ge_var 4))))) (gss_one (gs_set (i := 2) sc__law_table.nd rfl (.inl rfl) (ge_var 3))) gss_nil)))
    (gss_one (gs_ret (ge_var 2)))))))
abbrev s__law_fits : Stmt := topS 13
abbrev N__law_fits : List Str := ["_law_kind", "_law_worth_here", "_law_letters", "_law_sign"]
theorem sc__law_fits : FnScope N__law_fits ["_law_kind", "_law_worth_here"] (defScope s__law_fits) := ⟨rfl, rfl, rfl, by decide +kernel, rfl, by decide +kernel, by decide +kernel⟩
noncomputable def b__law_fits : M Fl := (mSeq (mIfS (bnd (mBin (gIsN false) (mVar 1) (mC .non)) asB) (mRet (mC (.bl true))) mSkip) (mSeq (mIfS (bnd (mBin (gEq false) (mVar 0) (mC (.str "number"))) asB) (mRet (mAndV (mIsi .int (mVar 1)) (mAndV (mNotV (mIsi .bool (mVar 1))) (mChain (gP dLe) (gP dLe) (mUn gNeg (mBin (gP dPow) (mC (.int 10)) (mC (.int 9)))) (mVar 1) (mBin (gP dPow) (mC (.int 10)) (mC (.int 9))))))) mSkip) (mSeq (mSet 2 (mC (.str "abcdefghijklmnopqrstuvwxyz"))) (mRet (mAndV (mIsi .str (mVar 1)) (mAndV (mChain (gP dLt) (gP dLt) (mC (.int 0)) (bnd (mCons (mVar 1) mNil) (g1 gLen)) (mC (.int 9))) (bnd (mCons (mLc [3] (gtName 3) (bnd (mVar 1) srcStr) (pur true) (mBin (gIn false) (mVar 3) (mVar 2))) mNil) (g1 (gBls fun bs => bs.all id)))))))))
noncomputable def f__law_fits : Fn := runF 2 (b__law_fits)
theorem g__law_fits (T : Txt K w mg A) : GF P w K mg base 1 "_law_fits" 2 (f__law_fits) := GF.bodyOf (k := 0) T.d__law_fits sc__law_fits (fun f cdv A0 outer s H vs Q E hr hgd => (by
  exact (gss_cons (gs_if (gt_cmp gop_isN (ge_var 1) ge_non) (gss_one (gs_ret ge_bl)) gss_nil)
    (gss_cons (gs_if (gt_cmp (gop_eq hr.units) (ge_var 0) ge_str) (gss_one (gs_ret (ge_and (ge_isi .int (by rfl) T.n_isinstance (by rfl) T.n_int (by decide +kernel) (ge_var 1)) (ge_and (ge_not (ge_isi .bool (by rfl) T.n_isinstance (by rfl) T.n_bool (by decide +kernel) (ge_var 1))) (ge_one (ge_chain gop_le gop_le (ge_un gun_neg (ge_op gop_pow ge_int ge_int)) (ge_var 1) (ge_op gop_pow ge_int ge_int))))))) gss_nil)
    (gss_cons (gs_set (i := 2) sc__law_fits.nd rfl (.inr rfl) ge_str)
    (gss_one (gs_ret (ge_and (ge_isi .str (by rfl) T.n_isinstance (by rfl) T.n_str (by decide +kernel) (ge_var 1)) (ge_and (ge_chain gop_lt gop_lt ge_int (ge_cb cg_len (by rfl) T.n_len PySem.boot_len (ga_cons (ge_var 1) ga_nil)) ge_int) (ge_one (ge_cb (cg_all rfl) (by rfl) T.n_all (by decide +kernel) (ga_cons (ge_lc (own := [("_law_sign", 3)]) rfl sc__law_fits.nd (gi_str (ge_var 1)) (blkOk_by (own := [("_law_sign", 3)]) (N := N__law_fits) (sc := defScope s__law_fits) (by decide +kernel)) (fun _ _ _ _ _ => (gg_name (i := 3) sc__law_fits.nd rfl (.inl rfl))) (fun _ _ _ _ _ => gts_nil) (fun _ _ _ _ _ => (ge_cmp (gop_in hr.units) (ge_var 3) (ge_var 2)))) ga_nil))))))))))))
abbrev s__law_change_done : Stmt := topS 14
abbrev N__law_change_done : List Str := ["_law_layout", "_law_tables", "_law_thing", "_law_at", "_law_some", "_law_what", "_law_columns", "_law_row_here", "_law_worth_here", "_law_name", "_law_kind"]
theorem sc__law_change_done : FnScope N__law_change_done ["_law_layout", "_law_tables", "_law_thing"] (defScope s__law_change_done) := ⟨rfl, rfl, rfl, by decide +kernel, rfl, by decide +kernel, by decide +kernel⟩
noncomputable def b__law_change_done : M Fl := (mSeq (mIfS (mOr (mNot (bnd (mIsi .tuple (mVar 2)) asB)) (mOr (bnd (mBin (gEq true) (bnd (mCons (mVar 2) mNil) (g1 gLen)) (mC (.int 3))) asB) (mNot (bnd (mIsi .str (mBin gIx (mVar 2) (mC (.int 0)))) asB)))) (mRet (mC (.bl false))) mSkip) (mSeq (mSet 3 (mCall 2 f__law_table (mCons (mVar 0) (mCons (mBin gIx (mVar 2) (mC (.int 1))) mNil)))) (mSeq (mIfS (mOr (bnd (mBin (gP dLt) (mVar 3) (mC (.int 0))) asB) (bnd (mBin (gIn true) (mBin gIx (mVar 2) (mC (.int 0))) (mTup (mCons (mC (.str "put")) (mCons (mC (.str "drop")) mNil)))) asB)) (mRet (mC (.bl false))) mSkip) (mSeq (mAsg (gtTup 2 (gtCons (gtName 5) (gtCons (gtName 6) gtNil))) (mTup (mCons (mBin gIx (mVar 2) (mC (.int 2))) (mCons (mBin gIx (mBin gIx (mVar 0) (mVar 3)) (mC (.int 1))) mNil)))) (mSeq (mIfS (bnd (mBin (gEq false) (mBin gIx (mVar 2) (mC (.int 0))) (mC (.str "put"))) asB) (mSeq (mIfS (mOr (mNot (bnd (mIsi .tuple (mVar 5)) asB)) (mOr (bnd (mBin (gEq true) (bnd (mCons (mVar 5) mNil) (g1 gLen)) (bnd (mCons (mVar 6) mNil) (g1 gLen))) asB) (bnd (mBin (gEq false) (mSl (mVar 5) (pur none) (bnd (mC (.int 1)) asI)) (mTup (mCons (mC .non) mNil))) asB))) (mRet (mC (.bl false))) mSkip) (mSeq (mIfS (mNot (bnd (bnd (mCons (mLc [8, 9, 10] (gtTup 2 (gtCons (gtTup 2 (gtCons (gtName 9) (gtCons (gtName 10) gtNil))) (gtCons (gtName 8) gtNil))) (bnd (mCons (mVar 6) (mCons (mVar 5) mNil)) srcZip) (pur true) (mCall 2 f__law_fits (mCons (mVar 10) (mCons (mVar 8) mNil)))) mNil) (g1 (gBls fun bs => bs.all id))) asB)) (mRet (mC (.bl false))) mSkip) (mSeq (mSetI (mD (mBin gAdd (mLc [7] (gtName 7) (mSrc (mBin gIx (mVar 1) (mVar 3))) (bnd (mBin (gEq true) (mBin gIx (mVar 7) (mC (.int 0))) (mBin gIx (mVar 5) (mC (.int 0)))) asB) (mVar 7)) (mLst (mCons (mVar 5) mNil)))) (mVar 1) (mVar 3)) (mRet (mC (.bl true)))))) mSkip) (mSeq (mSet 4 (mLc [7] (gtName 7) (mSrc (mBin gIx (mVar 1) (mVar 3))) (mAnd (mNot (bnd (mIsi .bool (mVar 5)) asB)) (bnd (mBin (gEq false) (mBin gIx (mVar 7) (mC (.int 0))) (mVar 5)) asB)) (mVar 7))) (mSeq (mSetI (mD (mLc [7] (gtName 7) (mSrc (mBin gIx (mVar 1) (mVar 3))) (bnd (mBin (gIn true) (mVar 7) (mVar 4)) asB) (mVar 7))) (mVar 1) (mVar 3)) (mRet (mBin (gEq true) (mVar 4) (mLst mNil))))))))))
noncomputable def f__law_change_done : Fn := runF 8 (b__law_change_done)
theorem g__law_change_done (T : Txt K w mg A) : GF P w K mg base 2 "_law_change_done" 3 (f__law_change_done) := GF.bodyOf (k := 1) T.d__law_change_done sc__law_change_done (fun f cdv A0 outer s H vs Q E hr hgd => (by
  exact (gss_cons (gs_if (GW.gt (gw_or (gt_not (gt_val (ge_isi .tuple (by rfl) T.n_isinstance (by rfl) T.n_tuple (by decide +kernel) (ge_var 2)))) (gw_or (gt_cmp (gop_ne hr.units) (ge_cb cg_len (by rfl) T.n_len PySem.boot_len (ga_cons (ge_var 2) ga_nil)) ge_int) (gw_or1 (gt_not (gt_val (ge_isi .str (by rfl) T.n_isinstance (by rfl) T.n_str (by decide +kernel) (ge_ix (hu_of hr) (ge_var 2) ge_int)))))))) (gss_one (gs_ret ge_bl)) gss_nil)
    (gss_cons (gs_set (i := 3) sc__law_change_done.nd rfl (.inl rfl) (ge_call (GF.mono (g__law_table T) (by decide)) hr hgd (by rfl) (ga_cons (ge_var 0) (ga_cons (ge_ix (hu_of hr) (ge_var 2) ge_int) ga_nil))))
    (gss_cons (gs_if (GW.gt (gw_or (gt_cmp gop_lt (ge_var 3) ge_int) (gw_or1 (gt_cmp (gop_notIn hr.units) (ge_ix (hu_of hr) (ge_var 2) ge_int) (ge_tup (ga_cons ge_str (ga_cons ge_str ga_nil))))))) (gss_one (gs_ret ge_bl)) gss_nil)
    (gss_cons (gs_asg (vs := [5, 6]) (ge_tup (ga_cons (ge_ix (hu_of hr) (ge_var 2) ge_int) (ga_cons (ge_ix (hu_of hr) (ge_ix (hu_of hr) (ge_var 0) (ge_var 3)) ge_int) ga_nil))) (gg_tup rfl (ggs_cons (gg_name (i := 5) sc__law_change_done.nd rfl (.inr rfl)) (ggs_cons (gg_name (i := 6) sc__law_change_done.nd rfl (.inl rfl)) ggs_nil))))
    (gss_cons (gs_if (gt_cmp (gop_eq hr.units) (ge_ix (hu_of hr) (ge_var 2) ge_int) ge_str) (gss_cons (gs_if (GW.gt (gw_or (gt_not (gt_val (ge_isi .tuple (by rfl) T.n_isinstance (by rfl) T.n_tuple (by decide +kernel) (ge_var 5)))) (gw_or (gt_cmp (gop_ne hr.units) (ge_cb cg_len (by rfl) T.n_len PySem.boot_len (ga_cons (ge_var 5) ga_nil)) (ge_cb cg_len (by rfl) T.n_len PySem.boot_len (ga_cons (ge_var 6) ga_nil))) (gw_or1 (gt_cmp (gop_eq hr.units) (ge_slice (ge_var 5) go_none (go_some ge_int)) (ge_tup (ga_cons ge_non ga_nil))))))) (gss_one (gs_ret ge_bl)) gss_nil)
    (gss_cons (gs_if (gt_not (gt_val (ge_cb (cg_all rfl) (by rfl) T.n_all (by decide +kernel) (ga_cons (ge_lc (own := [("_law_worth_here", 8), ("_law_name", 9), ("_law_kind", 10)]) rfl sc__law_change_done.nd (gi_zip (by rfl) T.n_zip (ga_cons (ge_var 6) (ga_cons (ge_var 5) ga_nil))) (blkOk_by (own := [("_law_worth_here", 8), ("_law_name", 9), ("_law_kind", 10)]) (N := N__law_change_done) (sc := defScope s__law_change_done) (by decide +kernel)) (fun _ _ _ _ _ => (gg_tup rfl (ggs_cons (gg_tup rfl (ggs_cons (gg_name (i := 9) sc__law_change_done.nd rfl (.inl rfl)) (ggs_cons (gg_name (i := 10) sc__law_change_done.nd rfl (.inl rfl)) ggs_nil))) (ggs_cons (gg_name (i := 8) sc__law_change_done.nd rfl (.inl rfl)) ggs_nil)))) (fun _ _ _ _ _ => gts_nil) (fun _ _ _ _ _ => (ge_call (GF.mono (g__law_fits T) (by decide)) hr hgd (by rfl) (ga_cons (ge_var 10) (ga_cons (ge_var 8) ga_nil))))) ga_nil)))) (gss_one (gs_ret ge_bl)) gss_nil)
    (gss_cons (gs_setI (ge_D (ge_op gop_add (ge_lc (own := [("_law_row_here", 7)]) rfl sc__law_change_done.nd (gi_seq (ge_ix (hu_of hr) (ge_var 1) (ge_var 3))) (blkOk_by (own := [("_law_row_here", 7)]) (N := N__law_change_done) (sc := defScope s__law_change_done) (by decide +kernel)) (fun _ _ _ _ _ => (gg_name (i := 7) sc__law_change_done.nd rfl (.inl rfl))) (fun _ _ _ _ _ => (gts_one (gt_cmp (gop_ne hr.units) (ge_ix (hu_of hr) (ge_var 7) ge_int) (ge_ix (hu_of hr) (ge_var 5) ge_int)))) (fun _ _ _ _ _ => (ge_var 7))) (ge_lst (ga_cons (ge_var 5) ga_nil)))) (ge_var 1) (ge_var 3) (ha := fun _ => rfl))
    (gss_one (gs_ret ge_bl))))) gss_nil)
    (gss_cons (gs_set (i := 4) sc__law_change_done.nd rfl (.inr rfl) (ge_lc (own := [("_law_row_here", 7)]) rfl sc__law_change_done.nd (gi_seq (ge_ix (hu_of hr) (ge_var 1) (ge_var 3))) (blkOk_by (own := [("_law_row_here", 7)]) (N := N__law_change_done) (sc := defScope s__law_change_done) (by decide +kernel)) (fun _ _ _ _ _ => (gg_name (i := 7) sc__law_change_done.nd rfl (.inl rfl))) (fun _ _ _ _ _ => (gts_one (GW.gt (gw_and (gt_not (gt_val (ge_isi .bool (by rfl) T.n_isinstance (by rfl) T.n_bool (by decide +kernel) (ge_var 5)))) (gw_and1 (gt_cmp (gop_eq hr.units) (ge_ix (hu_of hr) (ge_var 7) ge_int) (ge_var 5))))))) (fun _ _ _ _ _ => (ge_var 7))))
    (gss_cons (gs_setI (ge_D (ge_lc (own := [("_law_row_here", 7)]) rfl sc__law_change_done.nd (gi_seq (ge_ix (hu_of hr) (ge_var 1) (ge_var 3))) (blkOk_by (own := [("_law_row_here", 7)]) (N := N__law_change_done) (sc := defScope s__law_change_done) (by decide +kernel)) (fun _ _ _ _ _ => (gg_name (i := 7) sc__law_change_done.nd rfl (.inl rfl))) (fun _ _ _ _ _ => (gts_one (gt_cmp (gop_notIn hr.units) (ge_var 7) (ge_var 4)))) (fun _ _ _ _ _ => (ge_var 7)))) (ge_var 1) (ge_var 3) (ha := fun _ => rfl))
    (gss_one (gs_ret (ge_cmp (gop_ne hr.units) (ge_var 4) (ge_lst ga_nil)))))))))))))
abbrev s__law_due : Stmt := topS 15
abbrev N__law_due : List Str := ["_law_layout", "_law_stock", "_law_deeds", "_law_tables", "_law_at", "_law_change", "_law_bag", "_law_rows"]
theorem sc__law_due : FnScope N__law_due ["_law_layout", "_law_stock", "_law_deeds"] (defScope s__law_due) := ⟨rfl, rfl, rfl, by decide +kernel, rfl, by decide +kernel, by decide +kernel⟩
noncomputable def b__law_due : M Fl := (mSeq (mIfS (mNot (bnd (mIsi .tuple (mVar 2)) asB)) (mRet (mTup (mCons (mC .non) (mCons (mC (.str "none")) mNil)))) mSkip) (mSeq (mSet 3 (mBox (mLc [6] (gtName 6) (mSrc (mVar 1)) (pur true) (mD (bnd (mCons (mVar 6) mNil) (g1 gList)))))) (mSeq (mFor (gtTup 2 (gtCons (gtName 4) (gtCons (gtName 5) gtNil))) (bnd (mCons (mVar 2) mNil) srcEnum) (mIfS (mNot (bnd (mCall 3 f__law_change_done (mCons (mVar 0) (mCons (mVar 3) (mCons (mVar 5) mNil)))) asB)) (mRet (mTup (mCons (mC .non) (mCons (mVar 4) mNil)))) mSkip)) (mRet (mTup (mCons (bnd (mCons (mLc [7] (gtName 7) (mSrc (mVar 3)) (pur true) (mCall 1 f__law_rises (mCons (mVar 7) mNil))) mNil) (g1 gTuple)) (mCons (mC .non) mNil)))))))
noncomputable def f__law_due : Fn := runF 5 (b__law_due)
theorem g__law_due (T : Txt K w mg A) : GF P w K mg base 5 "_law_due" 3 (f__law_due) := GF.bodyOf (k := 4) T.d__law_due sc__law_due (fun f cdv A0 outer s H vs Q E hr hgd => (by
  exact (gss_cons (gs_if (gt_not (gt_val (ge_isi .tuple (by rfl) T.n_isinstance (by rfl) T.n_tuple (by decide +kernel) (ge_var 2)))) (gss_one (gs_ret (ge_tup (ga_cons ge_non (ga_cons ge_str ga_nil))))) gss_nil)
    (gss_cons (gs_setLcB (i := 3) (own := [("_law_bag", 6)]) rfl sc__law_due.nd rfl rfl (sw_true rfl rfl rfl (by decide +kernel)) (gi_seq (ge_var 1)) (blkOk_by (own := [("_law_bag", 6)]) (N := N__law_due) (sc := defScope s__law_due) (by decide +kernel)) (fun _ _ _ _ _ => (gg_name (i := 6) sc__law_due.nd rfl (.inl rfl))) (fun _ _ _ _ _ => gts_nil) (fun _ _ _ _ _ => (ge_D (ge_ct cg_list (by rfl) T.n_list (by decide +kernel) (ga_cons (ge_var 6) ga_nil)))))
    (gss_cons (gs_for (vs := [4, 5]) PassesOwn.never rfl (gi_enum (by rfl) T.n_enumerate (ga_cons (ge_var 2) ga_nil)) (gg_tup rfl (ggs_cons (gg_name (i := 4) sc__law_due.nd rfl (.inl rfl)) (ggs_cons (gg_name (i := 5) sc__law_due.nd rfl (.inl rfl)) ggs_nil))) (gss_one (gs_if (gt_not (gt_val (ge_call (GF.mono (g__law_change_done T) (by decide)) hr hgd (by rfl) (ga_cons (ge_var 0) (ga_cons (ge_var 3) (ga_cons (ge_var 5) ga_nil)))))) (gss_one (gs_ret (ge_tup (ga_cons ge_non (ga_cons (ge_var 4) ga_nil))))) gss_nil)))
    (gss_one (gs_ret (ge_tup (ga_cons (ge_ct cg_tuple (by rfl) T.n_tuple (by decide +kernel) (ga_cons (ge_lc (own := [("_law_rows", 7)]) rfl sc__law_due.nd (gi_seq (ge_var 3)) (blkOk_by (own := [("_law_rows", 7)]) (N := N__law_due) (sc := defScope s__law_due) (by decide +kernel)) (fun _ _ _ _ _ => (gg_name (i := 7) sc__law_due.nd rfl (.inl rfl))) (fun _ _ _ _ _ => gts_nil) (fun _ _ _ _ _ => (ge_call (GF.mono (g__law_rises T) (by decide)) hr hgd (by rfl) (ga_cons (ge_var 7) ga_nil)))) ga_nil)) (ga_cons ge_non ga_nil))))))))))
abbrev s__law_dealing : Stmt := topS 16
abbrev N__law_dealing : List Str := ["_law_box_here", "_law_layout", "_law_stock", "_law_far", "_law_turn", "_law_found", "_law_keys", "_law_at", "_law_name", "_law_columns", "_law_row_here", "_law_bag", "_law_mark"]
theorem sc__law_dealing : FnScope N__law_dealing ["_law_box_here", "_law_layout", "_law_stock", "_law_far"] (defScope s__law_dealing) := ⟨rfl, rfl, rfl, by decide +kernel, rfl, by decide +kernel, by decide +kernel⟩
noncomputable def b__law_dealing : M Fl := (mSeq (mPar2 5 6 (mLst mNil) (mLc [11] (gtName 11) (mSrc (mVar 2)) (pur true) (mBox (mLc [10] (gtName 10) (mSrc (mVar 11)) (pur true) (mBin gIx (mVar 10) (mC (.int 0))))))) (mSeq (mFor (gtName 4) (bnd (mCons (mCall 2 f__law_take (mCons (mVar 0) (mCons (mBin gAdd (mVar 3) (mC (.int 1))) mNil))) mNil) srcR1) (mSeq (mSet 7 (mCall 2 f__law_take (mCons (mVar 0) (mCons (bnd (mCons (mVar 1) mNil) (g1 gLen)) mNil)))) (mSeq (mAsg (gtTup 2 (gtCons (gtName 8) (gtCons (gtName 9) gtNil))) (mBin gIx (mVar 1) (mVar 7))) (mIfS (mAnd (bnd (mBin (gEq false) (mCall 2 f__law_take (mCons (mVar 0) (mCons (mC (.int 3)) mNil))) (mC (.int 0))) asB) (bnd (mBin (gEq true) (mBin gIx (mVar 6) (mVar 7)) (mLst mNil)) asB)) (mDrop (mMth "list" gAppend (mVar 5) (mCons (mTup (mCons (mC (.str "drop")) (mCons (mVar 8) (mCons (mMth "list" gPop (mBin gIx (mVar 6) (mVar 7)) (mCons (mCall 2 f__law_take (mCons (mVar 0) (mCons (bnd (mCons (mBin gIx (mVar 6) (mVar 7)) mNil) (g1 gLen)) mNil))) mNil)) mNil)))) mNil))) (mSeq (mSet 10 (mCall 2 f__law_row (mCons (mVar 0) (mCons (mVar 9) mNil)))) (mSeq (mSetI (mBox (mBin gAdd (mLc [12] (gtName 12) (mSrc (mBin gIx (mVar 6) (mVar 7))) (bnd (mBin (gEq true) (mVar 12) (mBin gIx (mVar 10) (mC (.int 0)))) asB) (mVar 12)) (mLst (mCons (mBin gIx (mVar 10) (mC (.int 0))) mNil)))) (mVar 6) (mVar 7)) (mDrop (mMth "list" gAppend (mVar 5) (mCons (mTup (mCons (mC (.str "put")) (mCons (mVar 8) (mCons (mVar 10) mNil)))) mNil))))))))) (mRet (bnd (mCons (mVar 5) mNil) (g1 gTuple)))))
noncomputable def f__law_dealing : Fn := runF 9 (b__law_dealing)
theorem g__law_dealing (T : Txt K w mg A) : GF P w K mg base 4 "_law_dealing" 4 (f__law_dealing) := GF.bodyOf (k := 3) T.d__law_dealing sc__law_dealing (fun f cdv A0 outer s H vs Q E hr hgd => (by
  exact (gss_cons (gs_par2 (i := 5) (j := 6) rfl sc__law_dealing.nd rfl rfl (by decide) rfl rfl (ge_lst ga_nil) (ge_lc (own := [("_law_bag", 11)]) rfl sc__law_dealing.nd (gi_seq (ge_var 2)) (blkOk_by (own := [("_law_bag", 11)]) (N := N__law_dealing) (sc := defScope s__law_dealing) (by decide +kernel)) (fun _ _ _ _ _ => (gg_name (i := 11) sc__law_dealing.nd rfl (.inl rfl))) (fun _ _ _ _ _ => gts_nil) (fun _ _ _ _ _ => (ge_box (ge_lc (own := [("_law_row_here", 10)]) rfl sc__law_dealing.nd (gi_seq (ge_var 11)) (blkOk_by (own := [("_law_row_here", 10)]) (N := N__law_dealing) (by kernel_rfl)) (fun _ _ _ _ _ => (gg_name (i := 10) sc__law_dealing.nd rfl (.inl rfl))) (fun _ _ _ _ _ => gts_nil) (fun _ _ _ _ _ => (ge_ix (hu_of hr) (ge_var 10) ge_int)))))) (by rfl))
    (gss_cons (gs_for (vs := [4]) PassesOwn.never rfl (gi_range1 (by rfl) T.n_range (ga_cons (ge_call (GF.mono (g__law_take T) (by decide)) hr hgd (by rfl) (ga_cons (ge_var 0) (ga_cons (ge_op gop_add (ge_var 3) ge_int) ga_nil))) ga_nil)) (gg_name (i := 4) sc__law_dealing.nd rfl (.inl rfl)) (gss_cons (gs_set (i := 7) sc__law_dealing.nd rfl (.inl rfl) (ge_call (GF.mono (g__law_take T) (by decide)) hr hgd (by rfl) (ga_cons (ge_var 0) (ga_cons (ge_cb cg_len (by rfl) T.n_len PySem.boot_len (ga_cons (ge_var 1) ga_nil)) ga_nil))))
    (gss_cons (gs_asg (vs := [8, 9]) (ge_ix (hu_of hr) (ge_var 1) (ge_var 7)) (gg_tup rfl (ggs_cons (gg_name (i := 8) sc__law_dealing.nd rfl (.inl rfl)) (ggs_cons (gg_name (i := 9) sc__law_dealing.nd rfl (.inl rfl)) ggs_nil))))
    (gss_one (gs_if (GW.gt (gw_and (gt_cmp (gop_eq hr.units) (ge_call (GF.mono (g__law_take T) (by decide)) hr hgd (by rfl) (ga_cons (ge_var 0) (ga_cons ge_int ga_nil))) ge_int) (gw_and1 (gt_cmp (gop_ne hr.units) (ge_ix (hu_of hr) (ge_var 6) (ge_var 7)) (ge_lst ga_nil))))) (gss_one (gs_expr (ge_m PySem.F.plainAttrs_list PySem.F.slot_list_append PySem.F.type_list_append mg_append (ge_var 5) (ga_cons (ge_tup (ga_cons ge_str (ga_cons (ge_var 8) (ga_cons (ge_m PySem.F.plainAttrs_list PySem.F.slot_list_pop PySem.F.type_list_pop mg_pop (ge_ix (hu_of hr) (ge_var 6) (ge_var 7)) (ga_cons (ge_call (GF.mono (g__law_take T) (by decide)) hr hgd (by rfl) (ga_cons (ge_var 0) (ga_cons (ge_cb cg_len (by rfl) T.n_len PySem.boot_len (ga_cons (ge_ix (hu_of hr) (ge_var 6) (ge_var 7)) ga_nil)) ga_nil))) ga_nil)) ga_nil)))) ga_nil)))) (gss_cons (gs_set (i := 10) sc__law_dealing.nd rfl (.inr rfl) (ge_call (GF.mono (g__law_row T) (by decide)) hr hgd (by rfl) (ga_cons (ge_var 0) (ga_cons (ge_var 9) ga_nil))))
    (gss_cons (gs_setI (ge_box (ge_op gop_add (ge_lc (own := [("_law_mark", 12)]) rfl sc__law_dealing.nd (gi_seq (ge_ix (hu_of hr) (ge_var 6) (ge_var 7))) (blkOk_by (own := [("_law_mark", 12)]) (N := N__law_dealing) (sc := defScope s__law_dealing) (by decide +kernel)) (fun _ _ _ _ _ => (gg_name (i := 12) sc__law_dealing.nd rfl (.inl rfl))) (fun _ _ _ _ _ => (gts_one (gt_cmp (gop_ne hr.units) (ge_var 12) (ge_ix (hu_of hr) (ge_var 10) ge_int)))) (fun _ _ _ _ _ => (ge_var 12))) (ge_lst (ga_cons (ge_ix (hu_of hr) (ge_var 10) ge_int) ga_nil)))) (ge_var 6) (ge_var 7) (ha := fun _ => rfl))
    (gss_one (gs_expr (ge_m PySem.F.plainAttrs_list PySem.F.slot_list_append PySem.F.type_list_append mg_append (ge_var 5) (ga_cons (ge_tup (ga_cons ge_str (ga_cons (ge_var 8) (ga_cons (ge_var 10) ga_nil)))) ga_nil)))))))))))
    (gss_one (gs_ret (ge_ct cg_tuple (by rfl) T.n_tuple (by decide +kernel) (ga_cons (ge_var 5) ga_nil))))))))
abbrev s__law_net : Stmt := topS 17
abbrev N__law_net : List Str := ["_law_one", "_law_two", "_law_found", "_law_bag", "_law_its", "_law_gone", "_law_row_here"]
theorem sc__law_net : FnScope N__law_net ["_law_one", "_law_two"] (defScope s__law_net) := ⟨rfl, rfl, rfl, by decide +kernel, rfl, by decide +kernel, by decide +kernel⟩
noncomputable def b__law_net : M Fl := (mSeq (mSet 2 (mLst mNil)) (mSeq (mFor (gtTup 2 (gtCons (gtName 3) (gtCons (gtName 4) gtNil))) (bnd (mCons (mVar 0) (mCons (mVar 1) mNil)) srcZip) (mSeq (mSet 5 (mCall 1 f__law_rises (mCons (mLc [6] (gtName 6) (mSrc (mVar 3)) (bnd (mBin (gIn true) (mVar 6) (mVar 4)) asB) (mVar 6)) mNil))) (mDrop (mMth "list" gAppend (mVar 2) (mCons (mTup (mCons (mVar 5) (mCons (mCall 1 f__law_rises (mCons (mLc [6] (gtName 6) (mSrc (mVar 4)) (bnd (mBin (gIn true) (mVar 6) (mVar 3)) asB) (mVar 6)) mNil)) mNil))) mNil))))) (mRet (bnd (mCons (mVar 2) mNil) (g1 gTuple)))))
noncomputable def f__law_net : Fn := runF 5 (b__law_net)
theorem g__law_net (T : Txt K w mg A) : GF P w K mg base 5 "_law_net" 2 (f__law_net) := GF.bodyOf (k := 4) T.d__law_net sc__law_net (fun f cdv A0 outer s H vs Q E hr hgd => (by
  exact (gss_cons (gs_set (i := 2) sc__law_net.nd rfl (.inl rfl) (ge_lst ga_nil))
    (gss_cons (gs_for (vs := [3, 4]) PassesOwn.never rfl (gi_zip (by rfl) T.n_zip (ga_cons (ge_var 0) (ga_cons (ge_var 1) ga_nil))) (gg_tup rfl (ggs_cons (gg_name (i := 3) sc__law_net.nd rfl (.inr rfl)) (ggs_cons (gg_name (i := 4) sc__law_net.nd rfl (.inr rfl)) ggs_nil))) (gss_cons (gs_set (i := 5) sc__law_net.nd rfl (.inl rfl) (ge_call (GF.mono (g__law_rises T) (by decide)) hr hgd (by rfl) (ga_cons (ge_lc (own := [("_law_row_here", 6)]) rfl sc__law_net.nd (gi_seq (ge_var 3)) (blkOk_by (own := [("_law_row_here", 6)]) (N := N__law_net) (sc := defScope s__law_net) (by decide +kernel)) (fun _ _ _ _ _ => (gg_name (i := 6) sc__law_net.nd rfl (.inl rfl))) (fun _ _ _ _ _ => (gts_one (gt_cmp (gop_notIn hr.units) (ge_var 6) (ge_var 4)))) (fun _ _ _ _ _ => (ge_var 6))) ga_nil)))
    (gss_one (gs_expr (ge_m PySem.F.plainAttrs_list PySem.F.slot_list_append PySem.F.type_list_append mg_append (ge_var 2) (ga_cons (ge_tup (ga_cons (ge_var 5) (ga_cons (ge_call (GF.mono (g__law_rises T) (by decide)) hr hgd (by rfl) (ga_cons (ge_lc (own := [("_law_row_here", 6)]) rfl sc__law_net.nd (gi_seq (ge_var 4)) (blkOk_by (own := [("_law_row_here", 6)]) (N := N__law_net) (sc := defScope s__law_net) (by decide +kernel)) (fun _ _ _ _ _ => (gg_name (i := 6) sc__law_net.nd rfl (.inl rfl))) (fun _ _ _ _ _ => (gts_one (gt_cmp (gop_notIn hr.units) (ge_var 6) (ge_var 3)))) (fun _ _ _ _ _ => (ge_var 6))) ga_nil)) ga_nil))) ga_nil))))))
    (gss_one (gs_ret (ge_ct cg_tuple (by rfl) T.n_tuple (by decide +kernel) (ga_cons (ge_var 2) ga_nil))))))))
abbrev s__law_known_right : Stmt := topS 18
abbrev N__law_known_right : List Str := ["_law_layout", "_law_due_here", "_law_one", "_law_two"]
theorem sc__law_known_right : FnScope N__law_known_right [] (defScope s__law_known_right) := ⟨rfl, rfl, rfl, by decide +kernel, rfl, by decide +kernel, by decide +kernel⟩
noncomputable def b__law_known_right : M Fl := (mSeq (mSet 0 (mTup (mCons (mTup (mCons (mC (.str "t")) (mCons (mTup (mCons (mTup (mCons (mC (.str "k")) (mCons (mC (.str "number")) mNil))) (mCons (mTup (mCons (mC (.str "s")) (mCons (mC (.str "name")) mNil))) mNil))) mNil))) (mCons (mTup (mCons (mC (.str "u")) (mCons (mTup (mCons (mTup (mCons (mC (.str "of")) (mCons (mC (.str "name")) mNil))) mNil)) mNil))) mNil)))) (mSeq (mAsg (gtTup 2 (gtCons (gtName 2) (gtCons (gtName 3) gtNil))) (mTup (mCons (mTup (mCons (mTup (mCons (mTup (mCons (mC (.int 1)) (mCons (mC (.str "a")) mNil))) (mCons (mTup (mCons (mC (.int 2)) (mCons (mC .non) mNil))) (mCons (mTup (mCons (mC (.int 3)) (mCons (mC (.str "c")) mNil))) mNil)))) (mCons (mTup mNil) mNil))) (mCons (mTup (mCons (mTup (mCons (mTup (mCons (mC (.int 1)) (mCons (mC (.str "b")) mNil))) (mCons (mTup (mCons (mC (.int 3)) (mCons (mC (.str "c")) mNil))) (mCons (mTup (mCons (mC (.int 4)) (mCons (mC (.str "d")) mNil))) mNil)))) (mCons (mTup (mCons (mTup (mCons (mC (.str "z")) mNil)) mNil)) mNil))) mNil)))) (mSeq (mSet 1 (mTup (mCons (mTup (mCons (mTup (mCons (mTup (mCons (mC (.int 1)) (mCons (mC (.str "a")) mNil))) (mCons (mTup (mCons (mC (.int 2)) (mCons (mC .non) mNil))) mNil))) (mCons (mTup (mCons (mTup (mCons (mC (.int 1)) (mCons (mC (.str "b")) mNil))) (mCons (mTup (mCons (mC (.int 4)) (mCons (mC (.str "d")) mNil))) mNil))) mNil))) (mCons (mTup (mCons (mTup mNil) (mCons (mTup (mCons (mTup (mCons (mC (.str "z")) mNil)) mNil)) mNil))) mNil)))) (mRet (mBin (gEq false) (bnd (mCons (mCall 3 f_net (mCons (mVar 0) (mCons (mVar 2) (mCons (mVar 3) mNil)))) mNil) (g1 gRepr)) (bnd (mCons (mVar 1) mNil) (g1 gRepr)))))))
noncomputable def f__law_known_right : Fn := runF 4 (b__law_known_right)
theorem g__law_known_right (T : Txt K w mg A) : GF P w K mg base 2 "_law_known_right" 0 (f__law_known_right) := GF.bodyOf (k := 1) T.d__law_known_right sc__law_known_right (fun f cdv A0 outer s H vs Q E hr hgd => (by
  exact (gss_cons (gs_set (i := 0) sc__law_known_right.nd rfl (.inl rfl) (ge_tup (ga_cons (ge_tup (ga_cons ge_str (ga_cons (ge_tup (ga_cons (ge_tup (ga_cons ge_str (ga_cons ge_str ga_nil))) (ga_cons (ge_tup (ga_cons ge_str (ga_cons ge_str ga_nil))) ga_nil))) ga_nil))) (ga_cons (ge_tup (ga_cons ge_str (ga_cons (ge_tup (ga_cons (ge_tup (ga_cons ge_str (ga_cons ge_str ga_nil))) ga_nil)) ga_nil))) ga_nil))))
    (gss_cons (gs_asg (vs := [2, 3]) (ge_tup (ga_cons (ge_tup (ga_cons (ge_tup (ga_cons (ge_tup (ga_cons ge_int (ga_cons ge_str ga_nil))) (ga_cons (ge_tup (ga_cons ge_int (ga_cons ge_non ga_nil))) (ga_cons (ge_tup (ga_cons ge_int (ga_cons ge_str ga_nil))) ga_nil)))) (ga_cons (ge_tup ga_nil) ga_nil))) (ga_cons (ge_tup (ga_cons (ge_tup (ga_cons (ge_tup (ga_cons ge_int (ga_cons ge_str ga_nil))) (ga_cons (ge_tup (ga_cons ge_int (ga_cons ge_str ga_nil))) (ga_cons (ge_tup (ga_cons ge_int (ga_cons ge_str ga_nil))) ga_nil)))) (ga_cons (ge_tup (ga_cons (ge_tup (ga_cons ge_str ga_nil)) ga_nil)) ga_nil))) ga_nil))) (gg_tup rfl (ggs_cons (gg_name (i := 2) sc__law_known_right.nd rfl (.inl rfl)) (ggs_cons (gg_name (i := 3) sc__law_known_right.nd rfl (.inl rfl)) ggs_nil))))
    (gss_cons (gs_set (i := 1) sc__law_known_right.nd rfl (.inl rfl) (ge_tup (ga_cons (ge_tup (ga_cons (ge_tup (ga_cons (ge_tup (ga_cons ge_int (ga_cons ge_str ga_nil))) (ga_cons (ge_tup (ga_cons ge_int (ga_cons ge_non ga_nil))) ga_nil))) (ga_cons (ge_tup (ga_cons (ge_tup (ga_cons ge_int (ga_cons ge_str ga_nil))) (ga_cons (ge_tup (ga_cons ge_int (ga_cons ge_str ga_nil))) ga_nil))) ga_nil))) (ga_cons (ge_tup (ga_cons (ge_tup ga_nil) (ga_cons (ge_tup (ga_cons (ge_tup (ga_cons ge_str ga_nil)) ga_nil)) ga_nil))) ga_nil))))
    (gss_one (gs_ret (ge_cmp (gop_eq hr.units) (ge_cb (cg_repr hgd hr.units) (by rfl) T.n_repr (by decide +kernel) (ga_cons (ge_call (GF.mono (g_net T) (by decide)) hr hgd (by rfl) (ga_cons (ge_var 0) (ga_cons (ge_var 2) (ga_cons (ge_var 3) ga_nil)))) ga_nil)) (ge_cb (cg_repr hgd hr.units) (by rfl) T.n_repr (by decide +kernel) (ga_cons (ge_var 1) ga_nil))))))))))
abbrev s_law : Stmt := topS 19
abbrev N_law : List Str := ["_law_script", "_law_k", "_law_box_here", "_law_layout", "_law_one", "_law_two", "_law_behind", "_law_refused", "_law_kept", "_law_due_here", "_law_gone", "_law_come"]
theorem sc_law : FnScope N_law ["_law_script"] (defScope s_law) := ⟨rfl, rfl, rfl, by decide +kernel, rfl, by decide +kernel, by decide +kernel⟩
noncomputable def b_law : M Fl := (mSeq (mFor (gtName 1) (bnd (mCons (bnd (mCons (mC (.int 1)) (mCons (bnd (mCons (mC (.int 2)) (mCons (bnd (mCons (mVar 0) mNil) (g1 gLen)) mNil)) (g2I min2)) mNil)) (g2I max2)) mNil) srcR1) (mSeq (mSet 2 (mCall 2 f__law_box (mCons (mVar 0) (mCons (mVar 1) mNil)))) (mSeq (mSet 3 (mCall 1 f__law_plan (mCons (mVar 2) mNil))) (mSeq (mSet 4 (mCall 3 f__law_store (mCons (mVar 2) (mCons (mVar 3) (mCons (mC (.int 8)) mNil))))) (mSeq (mAsg (gtTup 2 (gtCons (gtName 6) (gtCons (gtName 7) gtNil))) (mCall 3 f__law_due (mCons (mVar 3) (mCons (mVar 4) (mCons (mCall 4 f__law_dealing (mCons (mVar 2) (mCons (mVar 3) (mCons (mVar 4) (mCons (mC (.int 6)) mNil))))) mNil))))) (mFor (gtName 5) (mSrc (mTup (mCons (mCall 3 f__law_store (mCons (mVar 2) (mCons (mVar 3) (mCons (mC (.int 8)) mNil)))) (mCons (mVar 6) (mCons (mVar 4) mNil))))) (mSeq (mPar2 8 9 (bnd (mCons (mTup (mCons (mVar 3) (mCons (mVar 4) (mCons (mVar 5) mNil)))) mNil) (g1 gRepr)) (mCall 2 f__law_net (mCons (mVar 4) (mCons (mVar 5) mNil)))) (mSeq (mIfS (mOr (bnd (mBin (gEq true) (bnd (mCons (mCall 3 f_net (mCons (mVar 3) (mCons (mVar 4) (mCons (mVar 5) mNil)))) mNil) (g1 gRepr)) (bnd (mCons (mVar 9) mNil) (g1 gRepr))) asB) (bnd (mBin (gEq true) (bnd (mCons (mCall 3 f_net (mCons (mVar 3) (mCons (mVar 4) (mCons (mVar 5) mNil)))) mNil) (g1 gRepr)) (bnd (mCons (mVar 9) mNil) (g1 gRepr))) asB)) (mRet (mC (.bl false))) mSkip) (mSeq (mIfS (bnd (mBin (gEq true) (bnd (mCons (mCall 3 f_net (mCons (mVar 3) (mCons (mVar 5) (mCons (mVar 4) mNil)))) mNil) (g1 gRepr)) (bnd (mCons (bnd (mCons (mLc [10, 11] (gtTup 2 (gtCons (gtName 10) (gtCons (gtName 11) gtNil))) (mSrc (mVar 9)) (pur true) (mTup (mCons (mVar 11) (mCons (mVar 10) mNil)))) mNil) (g1 gTuple)) mNil) (g1 gRepr))) asB) (mRet (mC (.bl false))) mSkip) (mIfS (bnd (mBin (gEq true) (bnd (mCons (mTup (mCons (mVar 3) (mCons (mVar 4) (mCons (mVar 5) mNil)))) mNil) (g1 gRepr)) (mVar 8)) asB) (mRet (mC (.bl false))) mSkip)))))))))) (mRet (mCall 0 f__law_known_right mNil)))
noncomputable def f_law : Fn := runF 11 (b_law)
theorem ok_law (T : Txt K w mg A) {f : Addr} {fd : FuncData} (F : Fun K "law" "law" (topS 19) f fd) : FnG P w K mg base 6 f fd ["_law_script"] (spG K 1 (f_law)) := fn_ok (k := 5) F sc_law (fun cdv A0 outer s H vs Q E hr hgd => (by
  exact (gss_cons (gs_for (vs := [1]) PassesOwn.never rfl (gi_range1 (by rfl) T.n_range (ga_cons (ge_cb (cg_max2 rfl) (by rfl) T.n_max (by decide +kernel) (ga_cons ge_int (ga_cons (ge_cb (cg_min2 rfl) (by rfl) T.n_min (by decide +kernel) (ga_cons ge_int (ga_cons (ge_cb cg_len (by rfl) T.n_len PySem.boot_len (ga_cons (ge_var 0) ga_nil)) ga_nil))) ga_nil))) ga_nil)) (gg_name (i := 1) sc_law.nd rfl (.inl rfl)) (gss_cons (gs_set (i := 2) sc_law.nd rfl (.inl rfl) (ge_call (GF.mono (g__law_box T) (by decide)) hr hgd (by rfl) (ga_cons (ge_var 0) (ga_cons (ge_var 1) ga_nil))))
    (gss_cons (gs_set (i := 3) sc_law.nd rfl (.inl rfl) (ge_call (GF.mono (g__law_plan T) (by decide)) hr hgd (by rfl) (ga_cons (ge_var 2) ga_nil)))
    (gss_cons (gs_set (i := 4) sc_law.nd rfl (.inl rfl) (ge_call (GF.mono (g__law_store T) (by decide)) hr hgd (by rfl) (ga_cons (ge_var 2) (ga_cons (ge_var 3) (ga_cons ge_int ga_nil)))))
    (gss_cons (gs_asg (vs := [6, 7]) (ge_call (GF.mono (g__law_due T) (by decide)) hr hgd (by rfl) (ga_cons (ge_var 3) (ga_cons (ge_var 4) (ga_cons (ge_call (GF.mono (g__law_dealing T) (by decide)) hr hgd (by rfl) (ga_cons (ge_var 2) (ga_cons (ge_var 3) (ga_cons (ge_var 4) (ga_cons ge_int ga_nil))))) ga_nil)))) (gg_tup rfl (ggs_cons (gg_name (i := 6) sc_law.nd rfl (.inl rfl)) (ggs_cons (gg_name (i := 7) sc_law.nd rfl (.inl rfl)) ggs_nil))))
    (gss_one (gs_for (vs := [5]) PassesOwn.never rfl (gi_seq (ge_tup (ga_cons (ge_call (GF.mono (g__law_store T) (by decide)) hr hgd (by rfl) (ga_cons (ge_var 2) (ga_cons (ge_var 3) (ga_cons ge_int ga_nil)))) (ga_cons (ge_var 6) (ga_cons (ge_var 4) ga_nil))))) (gg_name (i := 5) sc_law.nd rfl (.inl rfl)) (gss_cons (gs_par2 (i := 8) (j := 9) rfl sc_law.nd rfl rfl (by decide) rfl rfl (ge_cb (cg_repr hgd hr.units) (by rfl) T.n_repr (by decide +kernel) (ga_cons (ge_tup (ga_cons (ge_var 3) (ga_cons (ge_var 4) (ga_cons (ge_var 5) ga_nil)))) ga_nil)) (ge_call (GF.mono (g__law_net T) (by decide)) hr hgd (by rfl) (ga_cons (ge_var 4) (ga_cons (ge_var 5) ga_nil))) (by rfl))
    (gss_cons (gs_if (GW.gt (gw_or (gt_cmp (gop_ne hr.units) (ge_cb (cg_repr hgd hr.units) (by rfl) T.n_repr (by decide +kernel) (ga_cons (ge_call (GF.mono (g_net T) (by decide)) hr hgd (by rfl) (ga_cons (ge_var 3) (ga_cons (ge_var 4) (ga_cons (ge_var 5) ga_nil)))) ga_nil)) (ge_cb (cg_repr hgd hr.units) (by rfl) T.n_repr (by decide +kernel) (ga_cons (ge_var 9) ga_nil))) (gw_or1 (gt_cmp (gop_ne hr.units) (ge_cb (cg_repr hgd hr.units) (by rfl) T.n_repr (by decide +kernel) (ga_cons (ge_call (GF.mono (g_net T) (by decide)) hr hgd (by rfl) (ga_cons (ge_var 3) (ga_cons (ge_var 4) (ga_cons (ge_var 5) ga_nil)))) ga_nil)) (ge_cb (cg_repr hgd hr.units) (by rfl) T.n_repr (by decide +kernel) (ga_cons (ge_var 9) ga_nil)))))) (gss_one (gs_ret ge_bl)) gss_nil)
    (gss_cons (gs_if (gt_cmp (gop_ne hr.units) (ge_cb (cg_repr hgd hr.units) (by rfl) T.n_repr (by decide +kernel) (ga_cons (ge_call (GF.mono (g_net T) (by decide)) hr hgd (by rfl) (ga_cons (ge_var 3) (ga_cons (ge_var 5) (ga_cons (ge_var 4) ga_nil)))) ga_nil)) (ge_cb (cg_repr hgd hr.units) (by rfl) T.n_repr (by decide +kernel) (ga_cons (ge_ct cg_tuple (by rfl) T.n_tuple (by decide +kernel) (ga_cons (ge_lc (own := [("_law_gone", 10), ("_law_come", 11)]) rfl sc_law.nd (gi_seq (ge_var 9)) (blkOk_by (own := [("_law_gone", 10), ("_law_come", 11)]) (N := N_law) (sc := defScope s_law) (by decide +kernel)) (fun _ _ _ _ _ => (gg_tup rfl (ggs_cons (gg_name (i := 10) sc_law.nd rfl (.inl rfl)) (ggs_cons (gg_name (i := 11) sc_law.nd rfl (.inl rfl)) ggs_nil)))) (fun _ _ _ _ _ => gts_nil) (fun _ _ _ _ _ => (ge_tup (ga_cons (ge_var 11) (ga_cons (ge_var 10) ga_nil))))) ga_nil)) ga_nil))) (gss_one (gs_ret ge_bl)) gss_nil)
    (gss_one (gs_if (gt_cmp (gop_ne hr.units) (ge_cb (cg_repr hgd hr.units) (by rfl) T.n_repr (by decide +kernel) (ga_cons (ge_tup (ga_cons (ge_var 3) (ga_cons (ge_var 4) (ga_cons (ge_var 5) ga_nil)))) ga_nil)) (ge_var 8)) (gss_one (gs_ret ge_bl)) gss_nil))))))))))))
    (gss_one (gs_ret (ge_call0 (GF.mono (g__law_known_right T) (by decide)) hr hgd (by rfl)))))))
end
theorem txt_mk {K : PySem.W.Frag} {w : World} {h : Heap} {mg : Str → Option Value} (X : K.In h) (G : h.Ns mainGlobals mg) (hwld : w = Wld.w)
    {f0 : Addr} {od0 an0 : Option Addr} {sl0 : Array (Option Value)} {oc0 kV0 dc0 pm0 cd0 ct0 : Value}
    {f1 : Addr} {od1 an1 : Option Addr} {sl1 : Array (Option Value)} {oc1 kV1 dc1 pm1 cd1 ct1 : Value}
    {f2 : Addr} {od2 an2 : Option Addr} {sl2 : Array (Option Value)} {oc2 kV2 dc2 pm2 cd2 ct2 : Value}
    {f3 : Addr} {od3 an3 : Option Addr} {sl3 : Array (Option Value)} {oc3 kV3 dc3 pm3 cd3 ct3 : Value}
    {f4 : Addr} {od4 an4 : Option Addr} {sl4 : Array (Option Value)} {oc4 kV4 dc4 pm4 cd4 ct4 : Value}
    {f5 : Addr} {od5 an5 : Option Addr} {sl5 : Array (Option Value)} {oc5 kV5 dc5 pm5 cd5 ct5 : Value}
    {f6 : Addr} {od6 an6 : Option Addr} {sl6 : Array (Option Value)} {oc6 kV6 dc6 pm6 cd6 ct6 : Value}
    {f7 : Addr} {od7 an7 : Option Addr} {sl7 : Array (Option Value)} {oc7 kV7 dc7 pm7 cd7 ct7 : Value}
    {f8 : Addr} {od8 an8 : Option Addr} {sl8 : Array (Option Value)} {oc8 kV8 dc8 pm8 cd8 ct8 : Value}
    {f9 : Addr} {od9 an9 : Option Addr} {sl9 : Array (Option Value)} {oc9 kV9 dc9 pm9 cd9 ct9 : Value}
    {f10 : Addr} {od10 an10 : Option Addr} {sl10 : Array (Option Value)} {oc10 kV10 dc10 pm10 cd10 ct10 : Value}
    {f11 : Addr} {od11 an11 : Option Addr} {sl11 : Array (Option Value)} {oc11 kV11 dc11 pm11 cd11 ct11 : Value}
    {f12 : Addr} {od12 an12 : Option Addr} {sl12 : Array (Option Value)} {oc12 kV12 dc12 pm12 cd12 ct12 : Value}
    {f13 : Addr} {od13 an13 : Option Addr} {sl13 : Array (Option Value)} {oc13 kV13 dc13 pm13 cd13 ct13 : Value}
    {f14 : Addr} {od14 an14 : Option Addr} {sl14 : Array (Option Value)} {oc14 kV14 dc14 pm14 cd14 ct14 : Value}
    {f15 : Addr} {od15 an15 : Option Addr} {sl15 : Array (Option Value)} {oc15 kV15 dc15 pm15 cd15 ct15 : Value}
    {f16 : Addr} {od16 an16 : Option Addr} {sl16 : Array (Option Value)} {oc16 kV16 dc16 pm16 cd16 ct16 : Value}
    {f17 : Addr} {od17 an17 : Option Addr} {sl17 : Array (Option Value)} {oc17 kV17 dc17 pm17 cd17 ct17 : Value}
    (a0 : PySem.W.nsIn K mainGlobals "net" = some (some (.ref f0))) (l0 : K.lookup f0 = some ⟨oc0, od0, .func (PySem.W.fnOf "net" "net" (defArgs (topS 1)) (defBody (topS 1)) (defScope (topS 1)) .none kV0 dc0 pm0 an0 cd0 ct0), sl0⟩) (c0 : PySem.W.codeIn K cd0 "net" = true) (k0 : PySem.W.keepIn K (.ref f0) = true)
    (a1 : PySem.W.nsIn K mainGlobals "_law_box" = some (some (.ref f1))) (l1 : K.lookup f1 = some ⟨oc1, od1, .func (PySem.W.fnOf "_law_box" "_law_box" (defArgs (topS 3)) (defBody (topS 3)) (defScope (topS 3)) .none kV1 dc1 pm1 an1 cd1 ct1), sl1⟩) (c1 : PySem.W.codeIn K cd1 "_law_box" = true) (k1 : PySem.W.keepIn K (.ref f1) = true)
    (a2 : PySem.W.nsIn K mainGlobals "_law_take" = some (some (.ref f2))) (l2 : K.lookup f2 = some ⟨oc2, od2, .func (PySem.W.fnOf "_law_take" "_law_take" (defArgs (topS 4)) (defBody (topS 4)) (defScope (topS 4)) .none kV2 dc2 pm2 an2 cd2 ct2), sl2⟩) (c2 : PySem.W.codeIn K cd2 "_law_take" = true) (k2 : PySem.W.keepIn K (.ref f2) = true)
    (a3 : PySem.W.nsIn K mainGlobals "_law_rank" = some (some (.ref f3))) (l3 : K.lookup f3 = some ⟨oc3, od3, .func (PySem.W.fnOf "_law_rank" "_law_rank" (defArgs (topS 5)) (defBody (topS 5)) (defScope (topS 5)) .none kV3 dc3 pm3 an3 cd3 ct3), sl3⟩) (c3 : PySem.W.codeIn K cd3 "_law_rank" = true) (k3 : PySem.W.keepIn K (.ref f3) = true)
    (a4 : PySem.W.nsIn K mainGlobals "_law_rises" = some (some (.ref f4))) (l4 : K.lookup f4 = some ⟨oc4, od4, .func (PySem.W.fnOf "_law_rises" "_law_rises" (defArgs (topS 6)) (defBody (topS 6)) (defScope (topS 6)) .none kV4 dc4 pm4 an4 cd4 ct4), sl4⟩) (c4 : PySem.W.codeIn K cd4 "_law_rises" = true) (k4 : PySem.W.keepIn K (.ref f4) = true)
    (a5 : PySem.W.nsIn K mainGlobals "_law_some_names" = some (some (.ref f5))) (l5 : K.lookup f5 = some ⟨oc5, od5, .func (PySem.W.fnOf "_law_some_names" "_law_some_names" (defArgs (topS 7)) (defBody (topS 7)) (defScope (topS 7)) .none kV5 dc5 pm5 an5 cd5 ct5), sl5⟩) (c5 : PySem.W.codeIn K cd5 "_law_some_names" = true) (k5 : PySem.W.keepIn K (.ref f5) = true)
    (a6 : PySem.W.nsIn K mainGlobals "_law_plan" = some (some (.ref f6))) (l6 : K.lookup f6 = some ⟨oc6, od6, .func (PySem.W.fnOf "_law_plan" "_law_plan" (defArgs (topS 8)) (defBody (topS 8)) (defScope (topS 8)) .none kV6 dc6 pm6 an6 cd6 ct6), sl6⟩) (c6 : PySem.W.codeIn K cd6 "_law_plan" = true) (k6 : PySem.W.keepIn K (.ref f6) = true)
    (a7 : PySem.W.nsIn K mainGlobals "_law_worth" = some (some (.ref f7))) (l7 : K.lookup f7 = some ⟨oc7, od7, .func (PySem.W.fnOf "_law_worth" "_law_worth" (defArgs (topS 9)) (defBody (topS 9)) (defScope (topS 9)) .none kV7 dc7 pm7 an7 cd7 ct7), sl7⟩) (c7 : PySem.W.codeIn K cd7 "_law_worth" = true) (k7 : PySem.W.keepIn K (.ref f7) = true)
    (a8 : PySem.W.nsIn K mainGlobals "_law_row" = some (some (.ref f8))) (l8 : K.lookup f8 = some ⟨oc8, od8, .func (PySem.W.fnOf "_law_row" "_law_row" (defArgs (topS 10)) (defBody (topS 10)) (defScope (topS 10)) .none kV8 dc8 pm8 an8 cd8 ct8), sl8⟩) (c8 : PySem.W.codeIn K cd8 "_law_row" = true) (k8 : PySem.W.keepIn K (.ref f8) = true)
    (a9 : PySem.W.nsIn K mainGlobals "_law_store" = some (some (.ref f9))) (l9 : K.lookup f9 = some ⟨oc9, od9, .func (PySem.W.fnOf "_law_store" "_law_store" (defArgs (topS 11)) (defBody (topS 11)) (defScope (topS 11)) .none kV9 dc9 pm9 an9 cd9 ct9), sl9⟩) (c9 : PySem.W.codeIn K cd9 "_law_store" = true) (k9 : PySem.W.keepIn K (.ref f9) = true)
    (a10 : PySem.W.nsIn K mainGlobals "_law_table" = some (some (.ref f10))) (l10 : K.lookup f10 = some ⟨oc10, od10, .func (PySem.W.fnOf "_law_table" "_law_table" (defArgs (topS 12)) (defBody (topS 12)) (defScope (topS 12)) .none kV10 dc10 pm10 an10 cd10 ct10), sl10⟩) (c10 : PySem.W.codeIn K cd10 "_law_table" = true) (k10 : PySem.W.keepIn K (.ref f10) = true)
    (a11 : PySem.W.nsIn K mainGlobals "_law_fits" = some (some (.ref f11))) (l11 : K.lookup f11 = some ⟨oc11, od11, .func (PySem.W.fnOf "_law_fits" "_law_fits" (defArgs (topS 13)) (defBody (topS 13)) (defScope (topS 13)) .none kV11 dc11 pm11 an11 cd11 ct11), sl11⟩) (c11 : PySem.W.codeIn K cd11 "_law_fits" = true) (k11 : PySem.W.keepIn K (.ref f11) = true)
    (a12 : PySem.W.nsIn K mainGlobals "_law_change_done" = some (some (.ref f12))) (l12 : K.lookup f12 = some ⟨oc12, od12, .func (PySem.W.fnOf "_law_change_done" "_law_change_done" (defArgs (topS 14)) (defBody (topS 14)) (defScope (topS 14)) .none kV12 dc12 pm12 an12 cd12 ct12), sl12⟩) (c12 : PySem.W.codeIn K cd12 "_law_change_done" = true) (k12 : PySem.W.keepIn K (.ref f12) = true)
    (a13 : PySem.W.nsIn K mainGlobals "_law_due" = some (some (.ref f13))) (l13 : K.lookup f13 = some ⟨oc13, od13, .func (PySem.W.fnOf "_law_due" "_law_due" (defArgs (topS 15)) (defBody (topS 15)) (defScope (topS 15)) .none kV13 dc13 pm13 an13 cd13 ct13), sl13⟩) (c13 : PySem.W.codeIn K cd13 "_law_due" = true) (k13 : PySem.W.keepIn K (.ref f13) = true)
    (a14 : PySem.W.nsIn K mainGlobals "_law_dealing" = some (some (.ref f14))) (l14 : K.lookup f14 = some ⟨oc14, od14, .func (PySem.W.fnOf "_law_dealing" "_law_dealing" (defArgs (topS 16)) (defBody (topS 16)) (defScope (topS 16)) .none kV14 dc14 pm14 an14 cd14 ct14), sl14⟩) (c14 : PySem.W.codeIn K cd14 "_law_dealing" = true) (k14 : PySem.W.keepIn K (.ref f14) = true)
    (a15 : PySem.W.nsIn K mainGlobals "_law_net" = some (some (.ref f15))) (l15 : K.lookup f15 = some ⟨oc15, od15, .func (PySem.W.fnOf "_law_net" "_law_net" (defArgs (topS 17)) (defBody (topS 17)) (defScope (topS 17)) .none kV15 dc15 pm15 an15 cd15 ct15), sl15⟩) (c15 : PySem.W.codeIn K cd15 "_law_net" = true) (k15 : PySem.W.keepIn K (.ref f15) = true)
    (a16 : PySem.W.nsIn K mainGlobals "_law_known_right" = some (some (.ref f16))) (l16 : K.lookup f16 = some ⟨oc16, od16, .func (PySem.W.fnOf "_law_known_right" "_law_known_right" (defArgs (topS 18)) (defBody (topS 18)) (defScope (topS 18)) .none kV16 dc16 pm16 an16 cd16 ct16), sl16⟩) (c16 : PySem.W.codeIn K cd16 "_law_known_right" = true) (k16 : PySem.W.keepIn K (.ref f16) = true)
    (a17 : PySem.W.nsIn K mainGlobals "law" = some (some (.ref f17))) (l17 : K.lookup f17 = some ⟨oc17, od17, .func (PySem.W.fnOf "law" "law" (defArgs (topS 19)) (defBody (topS 19)) (defScope (topS 19)) .none kV17 dc17 pm17 an17 cd17 ct17), sl17⟩) (c17 : PySem.W.codeIn K cd17 "law" = true) (k17 : PySem.W.keepIn K (.ref f17) = true)
    (z_abs : PySem.W.nsIn K mainGlobals "abs" = some none)
    (z_all : PySem.W.nsIn K mainGlobals "all" = some none)
    (z_bool : PySem.W.nsIn K mainGlobals "bool" = some none)
    (z_enumerate : PySem.W.nsIn K mainGlobals "enumerate" = some none)
    (z_int : PySem.W.nsIn K mainGlobals "int" = some none)
    (z_isinstance : PySem.W.nsIn K mainGlobals "isinstance" = some none)
    (z_len : PySem.W.nsIn K mainGlobals "len" = some none)
    (z_list : PySem.W.nsIn K mainGlobals "list" = some none)
    (z_max : PySem.W.nsIn K mainGlobals "max" = some none)
    (z_min : PySem.W.nsIn K mainGlobals "min" = some none)
    (z_range : PySem.W.nsIn K mainGlobals "range" = some none)
    (z_repr : PySem.W.nsIn K mainGlobals "repr" = some none)
    (z_sorted : PySem.W.nsIn K mainGlobals "sorted" = some none)
    (z_str : PySem.W.nsIn K mainGlobals "str" = some none)
    (z_tuple : PySem.W.nsIn K mainGlobals "tuple" = some none)
    (z_zip : PySem.W.nsIn K mainGlobals "zip" = some none)
    : Txt K w mg ⟨()⟩ := {
    wld := hwld,
    d_net := DF.mk' X G (fun_mk (st := topS 1) l0 c0 k0) a0 (fun F => F.binds (ps := ["plan", "store", "other"]) fun _ _ _ _ _ _ us hl => (match us, hl with | [_, _, _], _ => rfl)),
    d__law_box := DF.mk' X G (fun_mk (st := topS 3) l1 c1 k1) a1 (fun F => F.binds (ps := ["_law_script", "_law_k"]) fun _ _ _ _ _ _ us hl => (match us, hl with | [_, _], _ => rfl)),
    d__law_take := DF.mk' X G (fun_mk (st := topS 4) l2 c2 k2) a2 (fun F => F.binds (ps := ["_law_box_here", "_law_many"]) fun _ _ _ _ _ _ us hl => (match us, hl with | [_, _], _ => rfl)),
    d__law_rank := DF.mk' X G (fun_mk (st := topS 5) l3 c3 k3) a3 (fun F => F.binds (ps := ["_law_row_here"]) fun _ _ _ _ _ _ us hl => (match us, hl with | [_], _ => rfl)),
    d__law_rises := DF.mk' X G (fun_mk (st := topS 6) l4 c4 k4) a4 (fun F => F.binds (ps := ["_law_rows"]) fun _ _ _ _ _ _ us hl => (match us, hl with | [_], _ => rfl)),
    d__law_some_names := DF.mk' X G (fun_mk (st := topS 7) l5 c5 k5) a5 (fun F => F.binds (ps := ["_law_box_here", "_law_pool", "_law_many"]) fun _ _ _ _ _ _ us hl => (match us, hl with | [_, _, _], _ => rfl)),
    d__law_plan := DF.mk' X G (fun_mk (st := topS 8) l6 c6 k6) a6 (fun F => F.binds (ps := ["_law_box_here"]) fun _ _ _ _ _ _ us hl => (match us, hl with | [_], _ => rfl)),
    d__law_worth := DF.mk' X G (fun_mk (st := topS 9) l7 c7 k7) a7 (fun F => F.binds (ps := ["_law_box_here", "_law_kind", "_law_bare"]) fun _ _ _ _ _ _ us hl => (match us, hl with | [_, _, _], _ => rfl)),
    d__law_row := DF.mk' X G (fun_mk (st := topS 10) l8 c8 k8) a8 (fun F => F.binds (ps := ["_law_box_here", "_law_columns"]) fun _ _ _ _ _ _ us hl => (match us, hl with | [_, _], _ => rfl)),
    d__law_store := DF.mk' X G (fun_mk (st := topS 11) l9 c9 k9) a9 (fun F => F.binds (ps := ["_law_box_here", "_law_layout", "_law_far"]) fun _ _ _ _ _ _ us hl => (match us, hl with | [_, _, _], _ => rfl)),
    d__law_table := DF.mk' X G (fun_mk (st := topS 12) l10 c10 k10) a10 (fun F => F.binds (ps := ["_law_layout", "_law_name"]) fun _ _ _ _ _ _ us hl => (match us, hl with | [_, _], _ => rfl)),
    d__law_fits := DF.mk' X G (fun_mk (st := topS 13) l11 c11 k11) a11 (fun F => F.binds (ps := ["_law_kind", "_law_worth_here"]) fun _ _ _ _ _ _ us hl => (match us, hl with | [_, _], _ => rfl)),
    d__law_change_done := DF.mk' X G (fun_mk (st := topS 14) l12 c12 k12) a12 (fun F => F.binds (ps := ["_law_layout", "_law_tables", "_law_thing"]) fun _ _ _ _ _ _ us hl => (match us, hl with | [_, _, _], _ => rfl)),
    d__law_due := DF.mk' X G (fun_mk (st := topS 15) l13 c13 k13) a13 (fun F => F.binds (ps := ["_law_layout", "_law_stock", "_law_deeds"]) fun _ _ _ _ _ _ us hl => (match us, hl with | [_, _, _], _ => rfl)),
    d__law_dealing := DF.mk' X G (fun_mk (st := topS 16) l14 c14 k14) a14 (fun F => F.binds (ps := ["_law_box_here", "_law_layout", "_law_stock", "_law_far"]) fun _ _ _ _ _ _ us hl => (match us, hl with | [_, _, _, _], _ => rfl)),
    d__law_net := DF.mk' X G (fun_mk (st := topS 17) l15 c15 k15) a15 (fun F => F.binds (ps := ["_law_one", "_law_two"]) fun _ _ _ _ _ _ us hl => (match us, hl with | [_, _], _ => rfl)),
    d__law_known_right := DF.mk' X G (fun_mk (st := topS 18) l16 c16 k16) a16 (fun F => F.binds (ps := []) fun _ _ _ _ _ _ us hl => (match us, hl with | [], _ => rfl)),
    d_law := DF.mk' X G (fun_mk (st := topS 19) l17 c17 k17) a17 (fun F => F.binds (ps := ["_law_script"]) fun _ _ _ _ _ _ us hl => (match us, hl with | [_], _ => rfl)),
    n_abs := PySem.W.mg_none_of X G z_abs,
    n_all := PySem.W.mg_none_of X G z_all,
    n_bool := PySem.W.mg_none_of X G z_bool,
    n_enumerate := PySem.W.mg_none_of X G z_enumerate,
    n_int := PySem.W.mg_none_of X G z_int,
    n_isinstance := PySem.W.mg_none_of X G z_isinstance,
    n_len := PySem.W.mg_none_of X G z_len,
    n_list := PySem.W.mg_none_of X G z_list,
    n_max := PySem.W.mg_none_of X G z_max,
    n_min := PySem.W.mg_none_of X G z_min,
    n_range := PySem.W.mg_none_of X G z_range,
    n_repr := PySem.W.mg_none_of X G z_repr,
    n_sorted := PySem.W.mg_none_of X G z_sorted,
    n_str := PySem.W.mg_none_of X G z_str,
    n_tuple := PySem.W.mg_none_of X G z_tuple,
    n_zip := PySem.W.mg_none_of X G z_zip }
theorem law_of {l : PySem.W.OpenLaw} {w : World} {K : PySem.W.Frag} {mg : Str → Option Value} {A : FA} {fa : Addr} (T : Txt K w mg A) (hfa : mg "law" = some (.ref fa)) {Y : Fn → Prop} (ht : Y (f_law)) :
    ∃ (f : Fn) (fd : FuncData), (∀ (s : Shared) (v : Value), BindsTo s fd ⟨[v], []⟩ [("_law_script", v)]) ∧ (∀ base : Heap, K.In base → base.Ns mainGlobals mg → FnG l.prog w K mg base 6 fa fd ["_law_script"] (spG K 1 f)) ∧ Y f := by
  obtain ⟨f, fd, F, hm, hb⟩ := T.d_law.ex
  cases hfa.symm.trans hm
  refine ⟨_, fd, ?_, fun base _ _ => ok_law T F, ht⟩
  obtain ⟨oc, od, kV, doc, pm, an, cdv, ct, osl, rfl, _, _⟩ := F.ex
  exact fun s v => .of_eq rfl
abbrev lawLevel : Nat := 6
end G

set_option Elab.async false
set_option linter.all false
set_option maxRecDepth 1000000
set_option maxHeartbeats 4000000
/- ev9 -/
namespace G
variable [Wld]
open PySem PySem.Spec PyProof.Rows L2
/-! ### the pot -/
theorem small_of {i : Int} (h1 : -(2 ^ 64) < i) (h2 : i < 2 ^ 64) : small i = true := by unfold small; simp only [decide_eq_true h1, decide_eq_true h2]; rfl
theorem dMulR {i j : Int} (h : small j = true) : dMul (.int i) (.int j) = some (.int (i * j)) := dMul_int (by rw [h, Bool.or_true])
theorem dMulL {i j : Int} (h : small i = true) : dMul (.int i) (.int j) = some (.int (i * j)) := dMul_int (by rw [h, Bool.true_or])
def Pt (n k : Nat) (S : Sto) : Prop := ∃ a m c : Int, S[n]? = some (.lst [.int a, .int m, .int c]) ∧ 0 ≤ a ∧ 0 ≤ m ∧ m < 2305843009213693951 ∧ 0 ≤ c ∧ c ≤ k
/-- S' is S but at n -/
structure Dr (n k : Nat) (S S' : Sto) : Prop where
  len : S'.length = S.length
  at_ : ∀ j, j ≠ n → S'[j]? = S[j]?
  pt : Pt n k S'
theorem Pt.mono {n k j : Nat} {S : Sto} (h : Pt n k S) (hj : k ≤ j) : Pt n j S := let ⟨a, m, c, h1, h2, h3, h4, h5, h6⟩ := h; ⟨a, m, c, h1, h2, h3, h4, h5, by omega⟩
theorem Pt.lt {n k : Nat} {S : Sto} (h : Pt n k S) : n < S.length := let ⟨_, _, _, h1, _⟩ := h; (List.getElem?_eq_some_iff.mp h1).1
theorem Dr.refl {n k : Nat} {S : Sto} (h : Pt n k S) : Dr n k S S := ⟨rfl, fun _ _ => rfl, h⟩
theorem Dr.trans {n k j : Nat} {S S1 S2 : Sto} (a : Dr n k S S1) (b : Dr n j S1 S2) : Dr n j S S2 := ⟨b.len.trans a.len, fun i hi => (b.at_ i hi).trans (a.at_ i hi), b.pt⟩
theorem Dr.mono {n k j : Nat} {S S' : Sto} (h : Dr n k S S') (hj : k ≤ j) : Dr n j S S' := ⟨h.len, h.at_, h.pt.mono hj⟩
theorem box_ok {S : Sto} (ns : List Int) (j : Nat) (h1 : j ≤ 63) : Fp f__law_box [.d (.lst (ns.map D.int)), .d (.int (j : Int))] S fun r S' => r = .d (.ref S.length) ∧ ∃ o, S' = S ++ [o] ∧ Pt S.length 0 S' := by
  generalize hk : (j : Int) = k
  have h0 : 0 ≤ k := by omega
  have h2 : k ≤ 63 := by omega
  have sk : small k = true := small_of (by omega) (by omega)
  have s1 : small 7919 = true := by rfl
  have s2 : small 48271 = true := by rfl
  have fin : ∀ a c : Int, 0 ≤ a → ∃ o, S ++ [O.lst [.int a, .int ((c % 2305843009213693951 + 7919 * k * k + 3) * 48271 % 2305843009213693921), .int 0]] = S ++ [o] ∧ Pt S.length 0 (S ++ [O.lst [.int a, .int ((c % 2305843009213693951 + 7919 * k * k + 3) * 48271 % 2305843009213693921), .int 0]]) := fun a c ha => by
    have u := Int.emod_lt_of_pos ((c % 2305843009213693951 + 7919 * k * k + 3) * 48271) (show (0 : Int) < 2305843009213693921 by omega)
    have v := Int.emod_nonneg ((c % 2305843009213693951 + 7919 * k * k + 3) * 48271) (show (2305843009213693921 : Int) ≠ 0 by omega)
    generalize (c % 2305843009213693951 + 7919 * k * k + 3) * 48271 % 2305843009213693921 = m at u v ⊢
    exact ⟨_, rfl, a, m, 0, by simp, ha, v, by omega, by omega, by omega⟩
  unfold f__law_box
  rw [fp_runF]
  simp only [ev0, ev1, ev2, ev3, ev4, ev5, ev6, ev7, ev8, ev9, wp_ix_refC, wp_setItE, List.map_cons, List.map_nil, List.replicate, List.cons_append, List.nil_append, List.length_cons, List.length_nil, List.set_cons_succ, List.set_cons_zero, List.getElem?_cons_zero, List.getElem?_cons_succ, Option.map_some, Option.bind_some, List.all_cons, List.all_nil, List.isEmpty_nil, List.isEmpty_cons, eq_self, if_true, if_false, ite_true, ite_false, Option.some.injEq, exists_eq_left', exists_eq_left, Nat.reduceAdd, Nat.reduceLT, Nat.reduceLeDiff, Int.reduceLE, Int.reduceLT, Int.reduceNeg, Int.reducePow, Int.reduceToNat, b__law_box]
  have tail : ∀ c : Int, Wp (mSeq (mSet 3 (mBin (gP dMod) (mBin (gP dMul) (mBin gAdd (mBin gAdd (mBin (gP dMod) (mVar 2) (mC (.int 2305843009213693951))) (mBin (gP dMul) (mBin (gP dMul) (mC (.int 7919)) (mVar 1)) (mVar 1))) (mC (.int 3))) (mC (.int 48271))) (mC (.int 2305843009213693921)))) (mRet (mBox (mLst (mCons (mIf (bnd (mBin (gP fun x y => dLe y x) (bnd (mCons (mVar 2) mNil) (g1 gAbs)) (mBin (gP dPow) (mC (.int 10)) (mC (.int 18)))) asB) (bnd (mCons (mVar 2) mNil) (g1 gAbs)) (mC (.int 0))) (mCons (mVar 3) (mCons (mC (.int 0)) mNil)))))))
      [some (.d (.lst (ns.map D.int))), some (.d (.int k)), some (.d (.int c)), none] S (flQ fun r S' => r = .d (.ref S.length) ∧ ∃ o, S' = S ++ [o] ∧ Pt S.length 0 S') := fun c => by
    simp only [ev0, ev1, ev2, ev3, ev4, ev5, ev6, ev7, ev8, ev9, wp_ix_refC, wp_setItE, List.map_cons, List.map_nil, List.replicate, List.cons_append, List.nil_append, List.length_cons, List.length_nil, List.set_cons_succ, List.set_cons_zero, List.getElem?_cons_zero, List.getElem?_cons_succ, Option.map_some, Option.bind_some, List.all_cons, List.all_nil, List.isEmpty_nil, List.isEmpty_cons, eq_self, if_true, if_false, ite_true, ite_false, Option.some.injEq, exists_eq_left', exists_eq_left, Nat.reduceAdd, Nat.reduceLT, Nat.reduceLeDiff, Int.reduceLE, Int.reduceLT, Int.reduceNeg, Int.reducePow, Int.reduceToNat, dMod_int (show (0 : Int) < 2305843009213693951 by omega), dMod_int (show (0 : Int) < 2305843009213693921 by omega), dMulL s1, dMulR sk, dMulR s2, dPow_int (show (0 : Int) ≤ 18 ∧ (18 : Int) ≤ 1000 ∧ (10 : Int).natAbs < 1000 by omega)]
    have ha : 0 ≤ (if c < 0 then -c else c) := by split <;> omega
    generalize (if c < 0 then -c else c) = a at ha
    by_cases hc : (1000000000000000000 : Int) ≤ a
    · rw [if_pos (decide_eq_true hc)]
      exact fin a c ha
    · rw [if_neg (by simpa using hc)]
      exact fin 0 c (Int.le_refl _)
  split
  · rename_i hl
    subst hk
    have hl' : j < ns.length := by simpa using hl
    refine ⟨.int ns[j], by rw [atD_ofNat]; simp [hl'], ?_⟩
    have := tail ns[j]
    simp only [ev0, ev1, ev2, ev3, ev4, ev5, ev6, ev7, ev8, ev9, wp_ix_refC, wp_setItE, List.map_cons, List.map_nil, List.replicate, List.cons_append, List.nil_append, List.length_cons, List.length_nil, List.set_cons_succ, List.set_cons_zero, List.getElem?_cons_zero, List.getElem?_cons_succ, Option.map_some, Option.bind_some, List.all_cons, List.all_nil, List.isEmpty_nil, List.isEmpty_cons, eq_self, if_true, if_false, ite_true, ite_false, Option.some.injEq, exists_eq_left', exists_eq_left, Nat.reduceAdd, Nat.reduceLT, Nat.reduceLeDiff, Int.reduceLE, Int.reduceLT, Int.reduceNeg, Int.reducePow, Int.reduceToNat] at this
    exact this
  · have := tail 0
    simp only [ev0, ev1, ev2, ev3, ev4, ev5, ev6, ev7, ev8, ev9, wp_ix_refC, wp_setItE, List.map_cons, List.map_nil, List.replicate, List.cons_append, List.nil_append, List.length_cons, List.length_nil, List.set_cons_succ, List.set_cons_zero, List.getElem?_cons_zero, List.getElem?_cons_succ, Option.map_some, Option.bind_some, List.all_cons, List.all_nil, List.isEmpty_nil, List.isEmpty_cons, eq_self, if_true, if_false, ite_true, ite_false, Option.some.injEq, exists_eq_left', exists_eq_left, Nat.reduceAdd, Nat.reduceLT, Nat.reduceLeDiff, Int.reduceLE, Int.reduceLT, Int.reduceNeg, Int.reducePow, Int.reduceToNat] at this
    exact this
theorem set_dr {n k : Nat} {S : Sto} {a m c : Int} (hn : n < S.length) (h1 : 0 ≤ a) (h2 : 0 ≤ m) (h3 : m < 2305843009213693951) (h4 : 0 ≤ c) (h5 : c ≤ k) : Dr n k S (S.set n (.lst [.int a, .int m, .int c])) :=
  ⟨by simp, fun j hj => by rw [List.getElem?_set_ne (Ne.symm hj)], ⟨a, m, c, by simp [hn], h1, h2, h3, h4, h5⟩⟩
theorem take_ok {n k : Nat} {S : Sto} {m : Int} (hS : Pt n k S) (hk : k ≤ 1000000000) (h1 : 1 ≤ m) (h2 : m < 1073741824) : Fp f__law_take [.d (.ref n), .d (.int m)] S fun r S' => ∃ i : Nat, r = .d (.int i) ∧ (i : Int) < m ∧ Dr n (k + 1) S S' := by
  have hn := hS.lt
  obtain ⟨a, x, c, hc, a0, x0, x1, c0, c1⟩ := hS
  have hm : (0 : Int) < m := by omega
  have nat : ∀ z : Int, 0 ≤ z → ∃ i : Nat, z = i := fun z h => ⟨z.toNat, by omega⟩
  unfold f__law_take
  rw [fp_runF]
  have i0 : ixN 3 0 = some 0 := by rfl
  have i2 : ixN 3 2 = some 2 := by rfl
  have sc : small (c + 1) = true := small_of (by omega) (by omega)
  have s1 : small 65537 = true := by rfl
  have s2 : small 48271 = true := by rfl
  have s3 : small 99991 = true := by rfl
  have at1 : ∀ u : Int, atD [D.int u, D.int x, D.int (c + 1)] 1 = some (D.int x) := fun u => rfl
  have at2 : ∀ u : Int, atD [D.int u, D.int x, D.int (c + 1)] 2 = some (D.int (c + 1)) := fun u => rfl
  have sx : ∀ y : Int, small (y % 2305843009213693921) = true := fun y => by
    have u := Int.emod_lt_of_pos y (show (0 : Int) < 2305843009213693921 by omega)
    have v := Int.emod_nonneg y (show (2305843009213693921 : Int) ≠ 0 by omega)
    exact small_of (by omega) (by omega)
  simp only [ev0, ev1, ev2, ev3, ev4, ev5, ev6, ev7, ev8, ev9, wp_ix_refC, wp_setItE, List.map_cons, List.map_nil, List.replicate, List.cons_append, List.nil_append, List.length_cons, List.length_nil, List.set_cons_succ, List.set_cons_zero, List.getElem?_cons_zero, List.getElem?_cons_succ, Option.map_some, Option.bind_some, List.all_cons, List.all_nil, List.isEmpty_nil, List.isEmpty_cons, eq_self, if_true, if_false, ite_true, ite_false, Option.some.injEq, exists_eq_left', exists_eq_left, Nat.reduceAdd, Nat.reduceLT, Nat.reduceLeDiff, Int.reduceLE, Int.reduceLT, Int.reduceNeg, Int.reducePow, Int.reduceToNat, b__law_take, hc, i0, i2, List.getElem?_set_self hn, dMod_int hm, dDiv_int (⟨hm, h2⟩ : 0 < m ∧ m < 1073741824), ixO_lst, at1, at2, dMulL s1, dMulR sc, dMulR s2, dMulL s3, dMod_int (show (0 : Int) < 2305843009213693921 by omega), dMod_int (show (0 : Int) < 2305843009213693907 by omega), dMod_int (show (0 : Int) < 1000003 by omega), dMulL (sx _), dDiv_int (show (0 : Int) < 97 ∧ (97 : Int) < 1073741824 by omega), dDiv_int (show (0 : Int) < 1000033 ∧ (1000033 : Int) < 1073741824 by omega)]
  by_cases ha : 0 < a
  · rw [if_pos (decide_eq_true ha)]
    obtain ⟨i, hi⟩ := nat (a % m) (Int.emod_nonneg _ (by omega))
    have := Int.emod_lt_of_pos a hm
    refine ⟨i, by rw [hi], by omega, set_dr hn ?_ x0 x1 c0 (by omega)⟩
    exact Int.ediv_nonneg a0 (by omega)
  · rw [if_neg (by simpa using ha)]
    generalize ((x + 65537 * (c + 1) * (c + 1) + 11) * 48271 % 2305843009213693921 * ((x + 65537 * (c + 1) * (c + 1) + 11) * 48271 % 2305843009213693921 % 1000003 + 99991 * (c + 1)) % 2305843009213693907 / 97 + (x + 65537 * (c + 1) * (c + 1) + 11) * 48271 % 2305843009213693921 * ((x + 65537 * (c + 1) * (c + 1) + 11) * 48271 % 2305843009213693921 % 1000003 + 99991 * (c + 1)) % 2305843009213693907 / 1000033) = y
    obtain ⟨i, hi⟩ := nat (y % m) (Int.emod_nonneg _ (by omega))
    have := Int.emod_lt_of_pos y hm
    exact ⟨i, by rw [hi], by omega, set_dr hn a0 x0 x1 (by omega) (by omega)⟩
end G

set_option Elab.async false
set_option linter.all false
set_option maxRecDepth 1000000
set_option maxHeartbeats 4000000
/- ev9 -/
namespace G
variable [Wld]
open PySem PySem.Spec PyProof.Rows L2
/-! ### names drawn -/
theorem map_eraseI {α β : Type} (f : α → β) (l : List α) (i : Nat) : (l.map f).eraseIdx i = (l.eraseIdx i).map f := by simp [List.eraseIdx_eq_take_drop_succ]
theorem perm_erase {α : Type} (l : List α) (i : Nat) (h : i < l.length) : l.Perm (l[i] :: l.eraseIdx i) := by
  rw [List.eraseIdx_eq_take_drop_succ]
  conv => lhs; rw [← List.take_append_drop i l, List.drop_eq_getElem_cons h]
  exact List.perm_middle
theorem seq_nat {i n : Nat} (h : i < n) : seqIndex? (i : Int) n = some i := by
  have h0 : ¬ ((i : Int) < 0) := by omega
  simp only [seqIndex?, h0, if_false]
  simp
  omega
theorem rngD_len (n : Nat) : (rngD 0 n).length = n := by simp [rngD]
theorem some_names_ok {n k : Nat} {S : Sto} (pool : List Str) (many : Nat) (h1 : many ≤ pool.length) (h2 : pool.length ≤ 1000) (nd : pool.Nodup) (hS : Pt n k S) (hk : k ≤ 900000000) :
    Fp f__law_some_names [.d (.ref n), .brw (.lst (pool.map D.str)), .d (.int (many : Int))] S fun r S' => ∃ xs : List Str, r = .new (.lst (xs.map D.str)) ∧ xs.length = many ∧ xs.Nodup ∧ (∀ x ∈ xs, x ∈ pool) ∧ Dr n (k + many) S S' := by
  unfold f__law_some_names
  rw [fp_runF]
  simp only [ev0, ev1, ev2, ev3, ev4, ev5, ev6, ev7, ev8, ev9, wp_ix_refC, wp_setItE, List.map_cons, List.map_nil, List.replicate, List.cons_append, List.nil_append, List.length_cons, List.length_nil, List.set_cons_succ, List.set_cons_zero, List.getElem?_cons_zero, List.getElem?_cons_succ, Option.map_some, Option.bind_some, List.all_cons, List.all_nil, List.isEmpty_nil, List.isEmpty_cons, eq_self, if_true, if_false, ite_true, ite_false, Option.some.injEq, exists_eq_left', exists_eq_left, Nat.reduceAdd, Nat.reduceLT, Nat.reduceLeDiff, Int.reduceLE, Int.reduceLT, Int.reduceNeg, Int.reducePow, Int.reduceToNat, b__law_some_names]
  refine ⟨⟨by omega, by omega⟩, ?_⟩
  refine wp_compLE (fun pre post acc e S1 => ∃ left xs : List Str, e = [some (.d (.ref n)), some (.brw (.lst (pool.map D.str))), some (.d (.int (many : Int))), some (.own (.lst (left.map D.str))), none] ∧ acc = xs.map D.str ∧ xs.length = pre.length ∧ (xs ++ left).Perm pool ∧ Dr n (k + pre.length) S S1) (fun _ _ _ _ _ _ => wat_nil _ _)
    ⟨pool, [], rfl, rfl, rfl, .refl _, .refl (by simpa using hS)⟩ ?_ ?_
  · rintro pre d post acc e S1 hp ⟨left, xs, rfl, rfl, hx, pm, dr⟩
    have hlen : pre.length + post.length + 1 = many := by
      have := congrArg List.length hp
      rw [rngD_len] at this
      simp at this; omega
    have hl : left.length + xs.length = pool.length := by have := pm.length_eq; simp at this; omega
    refine ⟨_, gt_name.mpr ⟨by simp, rfl⟩, ?_⟩
    simp only [ev0, ev1, ev2, ev3, ev4, ev5, ev6, ev7, ev8, ev9, wp_ix_refC, wp_setItE, List.map_cons, List.map_nil, List.replicate, List.cons_append, List.nil_append, List.length_cons, List.length_nil, List.set_cons_succ, List.set_cons_zero, List.getElem?_cons_zero, List.getElem?_cons_succ, Option.map_some, Option.bind_some, List.all_cons, List.all_nil, List.isEmpty_nil, List.isEmpty_cons, eq_self, if_true, if_false, ite_true, ite_false, Option.some.injEq, exists_eq_left', exists_eq_left, Nat.reduceAdd, Nat.reduceLT, Nat.reduceLeDiff, Int.reduceLE, Int.reduceLT, Int.reduceNeg, Int.reducePow, Int.reduceToNat]
    have hll : (List.map D.str left).length = left.length := by simp
    rw [hll]
    refine (take_ok dr.pt (by omega) (by omega) (by omega)).mono ?_
    rintro r S2 ⟨i, rfl, hi, dr2⟩
    have hi' : i < left.length := by omega
    have hs : seqIndex? (i : Int) left.length = some i := seq_nat hi'
    simp only [ev0, ev1, ev2, ev3, ev4, ev5, ev6, ev7, ev8, ev9, wp_ix_refC, wp_setItE, List.map_cons, List.map_nil, List.replicate, List.cons_append, List.nil_append, List.length_cons, List.length_nil, List.set_cons_succ, List.set_cons_zero, List.getElem?_cons_zero, List.getElem?_cons_succ, Option.map_some, Option.bind_some, List.all_cons, List.all_nil, List.isEmpty_nil, List.isEmpty_cons, eq_self, if_true, if_false, ite_true, ite_false, Option.some.injEq, exists_eq_left', exists_eq_left, Nat.reduceAdd, Nat.reduceLT, Nat.reduceLeDiff, Int.reduceLE, Int.reduceLT, Int.reduceNeg, Int.reducePow, Int.reduceToNat, wp_popI]
    have hd : (List.map D.str left)[i]? = some (.str left[i]) := by simp [hi']
    refine ⟨by omega, by omega, i, by rw [hll]; exact hs, _, hd, left.eraseIdx i, xs ++ [left[i]], ?_, by simp, by simp; omega, ?_, ?_⟩
    · rw [map_eraseI]
    · have p1 : left.Perm (left[i] :: left.eraseIdx i) := perm_erase left i hi'
      rw [List.append_assoc]
      exact (List.Perm.append_left xs p1.symm).trans pm
    · have := dr.trans dr2
      rw [List.length_append]
      exact this
  · rintro acc e S1 ⟨left, xs, rfl, rfl, hx, pm, dr⟩
    rw [rngD_len] at hx dr
    refine ⟨xs, rfl, by simpa using hx, ?_, fun x hx => pm.subset (List.mem_append_left _ hx), by simpa using dr⟩
    exact ((pm.nodup_iff.mpr nd).sublist (List.sublist_append_left _ _))
/-! ### plans drawn -/
abbrev Lay := List (Str × List (Str × Bool))
def kindS (b : Bool) : Str := if b then "number" else "name"
def colD (c : Str × Bool) : D := .tup [.str c.1, .str (kindS c.2)]
def tabD (t : Str × List (Str × Bool)) : D := .tup [.str t.1, .tup (t.2.map colD)]
def layD (ts : Lay) : D := .tup (ts.map tabD)
def pool7 : List Str := ["a", "b", "all", "many", "t", "zz", "abcdefgh"]
def pool8 : List Str := ["a", "k", "n", "of", "is", "value", "zzzzzzzz", "b"]
theorem pool7_nd : pool7.Nodup := by decide +kernel
theorem pool7_asc : ∀ x ∈ pool7, ascB x = true ∧ x.length ≤ 8 := by decide +kernel
theorem pool8_asc : ∀ x ∈ pool8, ascB x = true ∧ x.length ≤ 8 := by decide +kernel
theorem pool8_nd : pool8.Nodup := by decide +kernel
structure GoodLay (ts : Lay) : Prop where
  len : 1 ≤ ts.length ∧ ts.length ≤ 3
  nd : (ts.map (·.1)).Nodup
  nm : ∀ t ∈ ts, ascB t.1 = true ∧ t.1.length ≤ 8
  cl : ∀ t ∈ ts, 1 ≤ t.2.length ∧ t.2.length ≤ 4
  cn : ∀ t ∈ ts, ∀ c ∈ t.2, ascB c.1 = true ∧ c.1.length ≤ 8
theorem srtS_perm (xs : List Str) : (srtS xs).Perm xs := List.mergeSort_perm xs leS
theorem strsOf_map : ∀ xs : List Str, strsOf (xs.map D.str) = some xs
  | [] => rfl
  | x :: xs => by rw [List.map_cons]; unfold strsOf; rw [strsOf_map xs]; rfl
theorem lstOf_new {ds : List D} {e : En} {S : Sto} : lstOf (.new (.lst ds)) e S = some ds := rfl
theorem plan_ok {n k : Nat} {S : Sto} (hS : Pt n k S) (hk : k ≤ 800000000) : Fp f__law_plan [.d (.ref n)] S fun r S' => ∃ ts : Lay, r = .d (layD ts) ∧ GoodLay ts ∧ Dr n (k + 31) S S' := by
  have e7 : ([.str "a", .str "b", .str "all", .str "many", .str "t", .str "zz", .str "abcdefgh"] : List D) = pool7.map D.str := rfl
  have e8 : ([.str "a", .str "k", .str "n", .str "of", .str "is", .str "value", .str "zzzzzzzz", .str "b"] : List D) = pool8.map D.str := rfl
  unfold f__law_plan
  rw [fp_runF]
  simp only [ev0, ev1, ev2, ev3, ev4, ev5, ev6, ev7, ev8, ev9, wp_ix_refC, wp_setItE, List.map_cons, List.map_nil, List.replicate, List.cons_append, List.nil_append, List.length_cons, List.length_nil, List.set_cons_succ, List.set_cons_zero, List.getElem?_cons_zero, List.getElem?_cons_succ, Option.map_some, Option.bind_some, List.all_cons, List.all_nil, List.isEmpty_nil, List.isEmpty_cons, eq_self, if_true, if_false, ite_true, ite_false, Option.some.injEq, exists_eq_left', exists_eq_left, Nat.reduceAdd, Nat.reduceLT, Nat.reduceLeDiff, Int.reduceLE, Int.reduceLT, Int.reduceNeg, Int.reducePow, Int.reduceToNat, b__law_plan]
  refine (take_ok hS (by omega) (by omega) (by omega)).mono ?_
  rintro r S1 ⟨i, rfl, hi, dr1⟩
  have hc : (1 : Int) + (i : Int) = ((1 + i : Nat) : Int) := by omega
  simp only [ev0, ev1, ev2, ev3, ev4, ev5, ev6, ev7, ev8, ev9, wp_ix_refC, wp_setItE, List.map_cons, List.map_nil, List.replicate, List.cons_append, List.nil_append, List.length_cons, List.length_nil, List.set_cons_succ, List.set_cons_zero, List.getElem?_cons_zero, List.getElem?_cons_succ, Option.map_some, Option.bind_some, List.all_cons, List.all_nil, List.isEmpty_nil, List.isEmpty_cons, eq_self, if_true, if_false, ite_true, ite_false, Option.some.injEq, exists_eq_left', exists_eq_left, Nat.reduceAdd, Nat.reduceLT, Nat.reduceLeDiff, Int.reduceLE, Int.reduceLT, Int.reduceNeg, Int.reducePow, Int.reduceToNat]
  rw [hc, e7]
  refine (some_names_ok pool7 (1 + i) (by show 1 + i ≤ 7; omega) (by decide) pool7_nd dr1.pt (by omega)).mono ?_
  rintro r S2 ⟨xs, rfl, hx, nd, sub, dr2⟩
  simp only [ev0, ev1, ev2, ev3, ev4, ev5, ev6, ev7, ev8, ev9, wp_ix_refC, wp_setItE, List.map_cons, List.map_nil, List.replicate, List.cons_append, List.nil_append, List.length_cons, List.length_nil, List.set_cons_succ, List.set_cons_zero, List.getElem?_cons_zero, List.getElem?_cons_succ, Option.map_some, Option.bind_some, List.all_cons, List.all_nil, List.isEmpty_nil, List.isEmpty_cons, eq_self, if_true, if_false, ite_true, ite_false, Option.some.injEq, exists_eq_left', exists_eq_left, Nat.reduceAdd, Nat.reduceLT, Nat.reduceLeDiff, Int.reduceLE, Int.reduceLT, Int.reduceNeg, Int.reducePow, Int.reduceToNat, strsOf_map]
  refine ⟨by omega, ?_⟩
  have px := srtS_perm xs
  refine wp_forL' (fun pre post e S3 => ∃ ts : Lay, ∃ x y, e = [some (.d (.ref n)), some (.own (.lst (ts.map tabD))), x, y, none] ∧ pre = ts.map (fun t => D.str t.1) ∧ (∀ t ∈ ts, 1 ≤ t.2.length ∧ t.2.length ≤ 4) ∧ (∀ t ∈ ts, ∀ c ∈ t.2, c.1 ∈ pool8) ∧ Dr n (k + 4 + 9 * ts.length) S S3)
    ⟨[], none, none, rfl, rfl, by simp, by simp, (dr1.trans dr2).mono (by simp; omega)⟩ ?_ ?_
  · rintro pre d post e S3 hp ⟨ts, x, y, rfl, rfl, g1, g2, dr⟩
    have hlen : ts.length + post.length + 1 = 1 + i := by
      have := congrArg List.length hp
      rw [List.length_map, px.length_eq, hx] at this
      simp at this; omega
    have hd : d ∈ (srtS xs).map D.str := by rw [hp]; simp
    obtain ⟨nm, hnm, rfl⟩ := List.mem_map.mp hd
    refine ⟨_, gt_name.mpr ⟨by simp, rfl⟩, ?_⟩
    simp only [ev0, ev1, ev2, ev3, ev4, ev5, ev6, ev7, ev8, ev9, wp_ix_refC, wp_setItE, List.map_cons, List.map_nil, List.replicate, List.cons_append, List.nil_append, List.length_cons, List.length_nil, List.set_cons_succ, List.set_cons_zero, List.getElem?_cons_zero, List.getElem?_cons_succ, Option.map_some, Option.bind_some, List.all_cons, List.all_nil, List.isEmpty_nil, List.isEmpty_cons, eq_self, if_true, if_false, ite_true, ite_false, Option.some.injEq, exists_eq_left', exists_eq_left, Nat.reduceAdd, Nat.reduceLT, Nat.reduceLeDiff, Int.reduceLE, Int.reduceLT, Int.reduceNeg, Int.reducePow, Int.reduceToNat]
    refine (take_ok dr.pt (by omega) (by omega) (by omega)).mono ?_
    rintro r S4 ⟨j, rfl, hj, dr3⟩
    have hc2 : (1 : Int) + (j : Int) = ((1 + j : Nat) : Int) := by omega
    simp only [ev0, ev1, ev2, ev3, ev4, ev5, ev6, ev7, ev8, ev9, wp_ix_refC, wp_setItE, List.map_cons, List.map_nil, List.replicate, List.cons_append, List.nil_append, List.length_cons, List.length_nil, List.set_cons_succ, List.set_cons_zero, List.getElem?_cons_zero, List.getElem?_cons_succ, Option.map_some, Option.bind_some, List.all_cons, List.all_nil, List.isEmpty_nil, List.isEmpty_cons, eq_self, if_true, if_false, ite_true, ite_false, Option.some.injEq, exists_eq_left', exists_eq_left, Nat.reduceAdd, Nat.reduceLT, Nat.reduceLeDiff, Int.reduceLE, Int.reduceLT, Int.reduceNeg, Int.reducePow, Int.reduceToNat]
    rw [hc2, e8]
    refine (some_names_ok pool8 (1 + j) (by show 1 + j ≤ 8; omega) (by decide) pool8_nd dr3.pt (by omega)).mono ?_
    rintro r S5 ⟨cs, rfl, hcs, ndc, subc, dr4⟩
    simp only [ev0, ev1, ev2, ev3, ev4, ev5, ev6, ev7, ev8, ev9, wp_ix_refC, wp_setItE, List.map_cons, List.map_nil, List.replicate, List.cons_append, List.nil_append, List.length_cons, List.length_nil, List.set_cons_succ, List.set_cons_zero, List.getElem?_cons_zero, List.getElem?_cons_succ, Option.map_some, Option.bind_some, List.all_cons, List.all_nil, List.isEmpty_nil, List.isEmpty_cons, eq_self, if_true, if_false, ite_true, ite_false, Option.some.injEq, exists_eq_left', exists_eq_left, Nat.reduceAdd, Nat.reduceLT, Nat.reduceLeDiff, Int.reduceLE, Int.reduceLT, Int.reduceNeg, Int.reducePow, Int.reduceToNat]
    refine wp_compL (fun pre post acc S6 => ∃ cols : List (Str × Bool), pre = cols.map (fun c => D.str c.1) ∧ acc = cols.map colD ∧ Dr n (k + 4 + 9 * ts.length + 1 + (1 + j) + cols.length) S S6) (fun S => wat_one rfl) ⟨[], rfl, rfl, (dr.trans dr3).trans dr4⟩ ?_ ?_
    · rintro pre d post acc S6 hp2 ⟨cols, rfl, rfl, dr5⟩
      have hlen2 : cols.length + post.length + 1 = 1 + j := by
        have := congrArg List.length hp2
        rw [List.length_map, hcs] at this
        simp at this; omega
      have hd2 : d ∈ cs.map D.str := by rw [hp2]; simp
      obtain ⟨c, hc3, rfl⟩ := List.mem_map.mp hd2
      refine ⟨_, gt_name.mpr ⟨by simp, rfl⟩, ?_⟩
      simp only [ev0, ev1, ev2, ev3, ev4, ev5, ev6, ev7, ev8, ev9, wp_ix_refC, wp_setItE, List.map_cons, List.map_nil, List.replicate, List.cons_append, List.nil_append, List.length_cons, List.length_nil, List.set_cons_succ, List.set_cons_zero, List.getElem?_cons_zero, List.getElem?_cons_succ, Option.map_some, Option.bind_some, List.all_cons, List.all_nil, List.isEmpty_nil, List.isEmpty_cons, eq_self, if_true, if_false, ite_true, ite_false, Option.some.injEq, exists_eq_left', exists_eq_left, Nat.reduceAdd, Nat.reduceLT, Nat.reduceLeDiff, Int.reduceLE, Int.reduceLT, Int.reduceNeg, Int.reducePow, Int.reduceToNat]
      refine (take_ok dr5.pt (by omega) (by omega) (by omega)).mono ?_
      rintro r S7 ⟨q, rfl, hq, dr6⟩
      simp only [ev0, ev1, ev2, ev3, ev4, ev5, ev6, ev7, ev8, ev9, wp_ix_refC, wp_setItE, List.map_cons, List.map_nil, List.replicate, List.cons_append, List.nil_append, List.length_cons, List.length_nil, List.set_cons_succ, List.set_cons_zero, List.getElem?_cons_zero, List.getElem?_cons_succ, Option.map_some, Option.bind_some, List.all_cons, List.all_nil, List.isEmpty_nil, List.isEmpty_cons, eq_self, if_true, if_false, ite_true, ite_false, Option.some.injEq, exists_eq_left', exists_eq_left, Nat.reduceAdd, Nat.reduceLT, Nat.reduceLeDiff, Int.reduceLE, Int.reduceLT, Int.reduceNeg, Int.reducePow, Int.reduceToNat]
      have fin : ∀ b : Bool, ∃ cols2 : List (Str × Bool), cols.map (fun c => D.str c.1) ++ [D.str c] = cols2.map (fun c => D.str c.1) ∧ cols.map colD ++ [D.tup [.str c, .str (kindS b)]] = cols2.map colD ∧ Dr n (k + 4 + 9 * ts.length + 1 + (1 + j) + cols2.length) S S7 := fun b =>
        ⟨cols ++ [(c, b)], by simp, by simp [colD], by rw [List.length_append]; exact dr5.trans dr6⟩
      have hq2 : q = 0 ∨ q = 1 := by omega
      rcases hq2 with rfl | rfl
      · exact ⟨.str "number", rfl, fin true⟩
      · exact ⟨.str "name", rfl, fin false⟩
    · rintro acc S6 ⟨cols, hpre, rfl, dr5⟩
      have hcl : cols.length = 1 + j := by
        have := congrArg List.length hpre
        simpa [hcs] using this.symm
      have hcn : cols.map (·.1) = cs := by
        have h2 : (cols.map (·.1)).map D.str = cs.map D.str := by rw [List.map_map, hpre]; rfl
        have h3 := strsOf_map (cols.map (·.1))
        rw [h2, strsOf_map] at h3
        exact (Option.some.inj h3).symm
      simp only [ev0, ev1, ev2, ev3, ev4, ev5, ev6, ev7, ev8, ev9, wp_ix_refC, wp_setItE, List.map_cons, List.map_nil, List.replicate, List.cons_append, List.nil_append, List.length_cons, List.length_nil, List.set_cons_succ, List.set_cons_zero, List.getElem?_cons_zero, List.getElem?_cons_succ, Option.map_some, Option.bind_some, List.all_cons, List.all_nil, List.isEmpty_nil, List.isEmpty_cons, eq_self, if_true, if_false, ite_true, ite_false, Option.some.injEq, exists_eq_left', exists_eq_left, Nat.reduceAdd, Nat.reduceLT, Nat.reduceLeDiff, Int.reduceLE, Int.reduceLT, Int.reduceNeg, Int.reducePow, Int.reduceToNat]
      refine ⟨by rw [List.length_map]; omega, ts ++ [(nm, cols)], _, _, by rw [List.map_append]; rfl, by simp, ?_, ?_, ?_⟩
      · intro t ht
        rcases List.mem_append.mp ht with ht | ht
        · exact g1 t ht
        · cases List.mem_singleton.mp ht; exact ⟨by show 1 ≤ cols.length; omega, by show cols.length ≤ 4; omega⟩
      · intro t ht
        rcases List.mem_append.mp ht with ht | ht
        · exact g2 t ht
        · cases List.mem_singleton.mp ht
          intro c hc
          exact subc _ (by rw [← hcn]; exact List.mem_map_of_mem hc)
      · rw [List.length_append]
        exact dr5.mono (by simp; omega)
  · rintro e S3 ⟨ts, x, y, rfl, he, g1, g2, dr⟩
    simp only [ev0, ev1, ev2, ev3, ev4, ev5, ev6, ev7, ev8, ev9, wp_ix_refC, wp_setItE, List.map_cons, List.map_nil, List.replicate, List.cons_append, List.nil_append, List.length_cons, List.length_nil, List.set_cons_succ, List.set_cons_zero, List.getElem?_cons_zero, List.getElem?_cons_succ, Option.map_some, Option.bind_some, List.all_cons, List.all_nil, List.isEmpty_nil, List.isEmpty_cons, eq_self, if_true, if_false, ite_true, ite_false, Option.some.injEq, exists_eq_left', exists_eq_left, Nat.reduceAdd, Nat.reduceLT, Nat.reduceLeDiff, Int.reduceLE, Int.reduceLT, Int.reduceNeg, Int.reducePow, Int.reduceToNat]
    have hl : ts.length = 1 + i := by
      have := congrArg List.length he
      rw [List.length_map, px.length_eq, hx, List.length_map] at this
      exact this.symm
    have hn : ts.map (·.1) = srtS xs := by
      have h2 : (ts.map (·.1)).map D.str = (srtS xs).map D.str := by rw [List.map_map, he]; rfl
      have h3 := strsOf_map (ts.map (·.1))
      rw [h2, strsOf_map] at h3
      exact (Option.some.inj h3).symm
    exact ⟨ts, rfl, ⟨⟨by omega, by omega⟩, by rw [hn]; exact px.nodup_iff.mpr nd, fun t ht => pool7_asc _ (sub _ (px.subset (by rw [← hn]; exact List.mem_map_of_mem ht))), g1, fun t ht c hc => pool8_asc _ (g2 t ht c hc)⟩, dr.mono (by omega)⟩
end G

set_option Elab.async false
set_option linter.all false
set_option maxRecDepth 1000000
set_option maxHeartbeats 4000000
/- ev9 -/
namespace G
variable [Wld]
open PySem PySem.Spec PyProof.Rows L2
/-! ### rows drawn -/
def pool6 : List Str := ["a", "b", "ab", "zz", "abcdefgh", "z"]
def nums8 : List Int := [0, 1, 2, -1, 3, 1000000000, -1000000000, 7]
def letB (x : Str) : Bool := x.cps.toList.all fun c => decide (97 ≤ c ∧ c ≤ 122)
def namS (x : Str) : Bool := decide (1 ≤ x.length) && (decide (x.length ≤ 8) && letB x)
theorem pool6_nam : ∀ x ∈ pool6, namS x = true := by decide +kernel
/-- a worth that is there -/
def KeyW (b : Bool) (d : D) : Prop := (b = true ∧ ∃ i : Int, d = .int i ∧ -1000000000 ≤ i ∧ i ≤ 1000000000) ∨ (b = false ∧ ∃ x : Str, d = .str x ∧ namS x = true)
def FitW (b : Bool) (d : D) : Prop := d = .non ∨ KeyW b d
structure RowOk (cs : List (Str × Bool)) (r : List D) : Prop where
  fit : Paired (fun (c : Str × Bool) d => FitW c.2 d) cs r
  key : ∃ d r' , r = d :: r' ∧ d ≠ .non
theorem worth_ok {n k : Nat} {S : Sto} (b bare : Bool) (hS : Pt n k S) (hk : k ≤ 800000000) : Fp f__law_worth [.d (.ref n), .d (.str (kindS b)), .d (.bl bare)] S fun r S' => ∃ d, r = .d d ∧ FitW b d ∧ (bare = false → d ≠ .non) ∧ Dr n (k + 2) S S' := by
  have tail : ∀ {j : Nat} {S1 : Sto}, Dr n j S S1 → j ≤ k + 1 → Wp (mSeq (mIfS (bnd (mBin (gEq false) (mVar 1) (mC (.str "name"))) asB) (mRet (mBin gIx (mLst (mCons (mC (.str "a")) (mCons (mC (.str "b")) (mCons (mC (.str "ab")) (mCons (mC (.str "zz")) (mCons (mC (.str "abcdefgh")) (mCons (mC (.str "z")) mNil))))))) (mCall 2 f__law_take (mCons (mVar 0) (mCons (mC (.int 6)) mNil))))) mSkip) (mRet (mBin gIx (mLst (mCons (mC (.int 0)) (mCons (mC (.int 1)) (mCons (mC (.int 2)) (mCons (mUn gNeg (mC (.int 1))) (mCons (mC (.int 3)) (mCons (mBin (gP dPow) (mC (.int 10)) (mC (.int 9))) (mCons (mUn gNeg (mBin (gP dPow) (mC (.int 10)) (mC (.int 9)))) (mCons (mC (.int 7)) mNil))))))))) (mCall 2 f__law_take (mCons (mVar 0) (mCons (mC (.int 8)) mNil))))))
      [some (.d (.ref n)), some (.d (.str (kindS b))), some (.d (.bl bare))] S1 (flQ fun r S' => ∃ d, r = .d d ∧ FitW b d ∧ (bare = false → d ≠ .non) ∧ Dr n (k + 2) S S') := fun {j S1} dr hj => by
    cases b with
    | false =>
      have e : kindS false = "name" := rfl
      rw [e]
      simp only [ev0, ev1, ev2, ev3, ev4, ev5, ev6, ev7, ev8, ev9, wp_ix_refC, wp_setItE, List.map_cons, List.map_nil, List.replicate, List.cons_append, List.nil_append, List.length_cons, List.length_nil, List.set_cons_succ, List.set_cons_zero, List.getElem?_cons_zero, List.getElem?_cons_succ, Option.map_some, Option.bind_some, List.all_cons, List.all_nil, List.isEmpty_nil, List.isEmpty_cons, eq_self, if_true, if_false, ite_true, ite_false, Option.some.injEq, exists_eq_left', exists_eq_left, Nat.reduceAdd, Nat.reduceLT, Nat.reduceLeDiff, Int.reduceLE, Int.reduceLT, Int.reduceNeg, Int.reducePow, Int.reduceToNat]
      refine (take_ok dr.pt (by omega) (by omega) (by omega)).mono ?_
      rintro r S2 ⟨i, rfl, hi, dr2⟩
      simp only [ev0, ev1, ev2, ev3, ev4, ev5, ev6, ev7, ev8, ev9, wp_ix_refC, wp_setItE, List.map_cons, List.map_nil, List.replicate, List.cons_append, List.nil_append, List.length_cons, List.length_nil, List.set_cons_succ, List.set_cons_zero, List.getElem?_cons_zero, List.getElem?_cons_succ, Option.map_some, Option.bind_some, List.all_cons, List.all_nil, List.isEmpty_nil, List.isEmpty_cons, eq_self, if_true, if_false, ite_true, ite_false, Option.some.injEq, exists_eq_left', exists_eq_left, Nat.reduceAdd, Nat.reduceLT, Nat.reduceLeDiff, Int.reduceLE, Int.reduceLT, Int.reduceNeg, Int.reducePow, Int.reduceToNat]
      have hl : i < pool6.length := by show i < 6; omega
      have hx : atD (pool6.map D.str) (i : Int) = some (.str pool6[i]) := by rw [atD_ofNat, List.getElem?_map, List.getElem?_eq_getElem hl]; rfl
      exact ⟨_, hx, _, rfl, .inr (.inr ⟨rfl, _, rfl, pool6_nam _ (List.getElem_mem _)⟩), (fun _ h => nomatch h), (dr.trans dr2).mono (by omega)⟩
    | true =>
      have e : kindS true = "number" := rfl
      rw [e]
      simp only [ev0, ev1, ev2, ev3, ev4, ev5, ev6, ev7, ev8, ev9, wp_ix_refC, wp_setItE, List.map_cons, List.map_nil, List.replicate, List.cons_append, List.nil_append, List.length_cons, List.length_nil, List.set_cons_succ, List.set_cons_zero, List.getElem?_cons_zero, List.getElem?_cons_succ, Option.map_some, Option.bind_some, List.all_cons, List.all_nil, List.isEmpty_nil, List.isEmpty_cons, eq_self, if_true, if_false, ite_true, ite_false, Option.some.injEq, exists_eq_left', exists_eq_left, Nat.reduceAdd, Nat.reduceLT, Nat.reduceLeDiff, Int.reduceLE, Int.reduceLT, Int.reduceNeg, Int.reducePow, Int.reduceToNat, dPow_int (show (0 : Int) ≤ 9 ∧ (9 : Int) ≤ 1000 ∧ (10 : Int).natAbs < 1000 by omega)]
      rw [if_neg (by decide +kernel)]
      refine (take_ok dr.pt (by omega) (by omega) (by omega)).mono ?_
      rintro r S2 ⟨i, rfl, hi, dr2⟩
      simp only [ev0, ev1, ev2, ev3, ev4, ev5, ev6, ev7, ev8, ev9, wp_ix_refC, wp_setItE, List.map_cons, List.map_nil, List.replicate, List.cons_append, List.nil_append, List.length_cons, List.length_nil, List.set_cons_succ, List.set_cons_zero, List.getElem?_cons_zero, List.getElem?_cons_succ, Option.map_some, Option.bind_some, List.all_cons, List.all_nil, List.isEmpty_nil, List.isEmpty_cons, eq_self, if_true, if_false, ite_true, ite_false, Option.some.injEq, exists_eq_left', exists_eq_left, Nat.reduceAdd, Nat.reduceLT, Nat.reduceLeDiff, Int.reduceLE, Int.reduceLT, Int.reduceNeg, Int.reducePow, Int.reduceToNat]
      have hl : i < nums8.length := by show i < 8; omega
      have hx : atD (nums8.map D.int) (i : Int) = some (.int nums8[i]) := by rw [atD_ofNat, List.getElem?_map, List.getElem?_eq_getElem hl]; rfl
      have hb : ∀ z ∈ nums8, -1000000000 ≤ z ∧ z ≤ 1000000000 := by decide
      exact ⟨_, hx, _, rfl, .inr (.inl ⟨rfl, _, rfl, hb _ (List.getElem_mem _)⟩), (fun _ h => nomatch h), (dr.trans dr2).mono (by omega)⟩
  unfold f__law_worth
  rw [fp_runF]
  simp only [ev0, ev1, ev2, ev3, ev4, ev5, ev6, ev7, ev8, ev9, wp_ix_refC, wp_setItE, List.map_cons, List.map_nil, List.replicate, List.cons_append, List.nil_append, List.length_cons, List.length_nil, List.set_cons_succ, List.set_cons_zero, List.getElem?_cons_zero, List.getElem?_cons_succ, Option.map_some, Option.bind_some, List.all_cons, List.all_nil, List.isEmpty_nil, List.isEmpty_cons, eq_self, if_true, if_false, ite_true, ite_false, Option.some.injEq, exists_eq_left', exists_eq_left, Nat.reduceAdd, Nat.reduceLT, Nat.reduceLeDiff, Int.reduceLE, Int.reduceLT, Int.reduceNeg, Int.reducePow, Int.reduceToNat, b__law_worth]
  cases bare with
  | false =>
    simp only [ev0, ev1, ev2, ev3, ev4, ev5, ev6, ev7, ev8, ev9, wp_ix_refC, wp_setItE, List.map_cons, List.map_nil, List.replicate, List.cons_append, List.nil_append, List.length_cons, List.length_nil, List.set_cons_succ, List.set_cons_zero, List.getElem?_cons_zero, List.getElem?_cons_succ, Option.map_some, Option.bind_some, List.all_cons, List.all_nil, List.isEmpty_nil, List.isEmpty_cons, eq_self, if_true, if_false, ite_true, ite_false, Option.some.injEq, exists_eq_left', exists_eq_left, Nat.reduceAdd, Nat.reduceLT, Nat.reduceLeDiff, Int.reduceLE, Int.reduceLT, Int.reduceNeg, Int.reducePow, Int.reduceToNat]
    have := tail (.refl hS) (by omega)
    simp only [ev0, ev1, ev2, ev3, ev4, ev5, ev6, ev7, ev8, ev9, wp_ix_refC, wp_setItE, List.map_cons, List.map_nil, List.replicate, List.cons_append, List.nil_append, List.length_cons, List.length_nil, List.set_cons_succ, List.set_cons_zero, List.getElem?_cons_zero, List.getElem?_cons_succ, Option.map_some, Option.bind_some, List.all_cons, List.all_nil, List.isEmpty_nil, List.isEmpty_cons, eq_self, if_true, if_false, ite_true, ite_false, Option.some.injEq, exists_eq_left', exists_eq_left, Nat.reduceAdd, Nat.reduceLT, Nat.reduceLeDiff, Int.reduceLE, Int.reduceLT, Int.reduceNeg, Int.reducePow, Int.reduceToNat] at this
    exact this
  | true =>
    simp only [ev0, ev1, ev2, ev3, ev4, ev5, ev6, ev7, ev8, ev9, wp_ix_refC, wp_setItE, List.map_cons, List.map_nil, List.replicate, List.cons_append, List.nil_append, List.length_cons, List.length_nil, List.set_cons_succ, List.set_cons_zero, List.getElem?_cons_zero, List.getElem?_cons_succ, Option.map_some, Option.bind_some, List.all_cons, List.all_nil, List.isEmpty_nil, List.isEmpty_cons, eq_self, if_true, if_false, ite_true, ite_false, Option.some.injEq, exists_eq_left', exists_eq_left, Nat.reduceAdd, Nat.reduceLT, Nat.reduceLeDiff, Int.reduceLE, Int.reduceLT, Int.reduceNeg, Int.reducePow, Int.reduceToNat]
    refine (take_ok hS (by omega) (by omega) (by omega)).mono ?_
    rintro r S2 ⟨i, rfl, hi, dr2⟩
    have := tail dr2 (by omega)
    simp only [ev0, ev1, ev2, ev3, ev4, ev5, ev6, ev7, ev8, ev9, wp_ix_refC, wp_setItE, List.map_cons, List.map_nil, List.replicate, List.cons_append, List.nil_append, List.length_cons, List.length_nil, List.set_cons_succ, List.set_cons_zero, List.getElem?_cons_zero, List.getElem?_cons_succ, Option.map_some, Option.bind_some, List.all_cons, List.all_nil, List.isEmpty_nil, List.isEmpty_cons, eq_self, if_true, if_false, ite_true, ite_false, Option.some.injEq, exists_eq_left', exists_eq_left, Nat.reduceAdd, Nat.reduceLT, Nat.reduceLeDiff, Int.reduceLE, Int.reduceLT, Int.reduceNeg, Int.reducePow, Int.reduceToNat] at this
    simp only [ev0, ev1, ev2, ev3, ev4, ev5, ev6, ev7, ev8, ev9, wp_ix_refC, wp_setItE, List.map_cons, List.map_nil, List.replicate, List.cons_append, List.nil_append, List.length_cons, List.length_nil, List.set_cons_succ, List.set_cons_zero, List.getElem?_cons_zero, List.getElem?_cons_succ, Option.map_some, Option.bind_some, List.all_cons, List.all_nil, List.isEmpty_nil, List.isEmpty_cons, eq_self, if_true, if_false, ite_true, ite_false, Option.some.injEq, exists_eq_left', exists_eq_left, Nat.reduceAdd, Nat.reduceLT, Nat.reduceLeDiff, Int.reduceLE, Int.reduceLT, Int.reduceNeg, Int.reducePow, Int.reduceToNat]
    by_cases hz : ((i : Int) == 0) = true
    · simp only [hz, if_true]
      exact ⟨_, rfl, .inl rfl, (fun h => nomatch h), dr2.mono (by omega)⟩
    · simp only [hz, if_false, Bool.false_eq_true]
      exact this
theorem at_mid {α : Type} {all pre post : List α} {d : α} (h : all = pre ++ d :: post) : all[pre.length]? = some d := by rw [h]; simp
theorem enum_at {α : Type} {f : α → D} {cs : List α} {pre post : List D} {d : D} (h : enumD (cs.map f) = pre ++ d :: post) : ∃ c, cs[pre.length]? = some c ∧ d = .tup [.int (pre.length : Nat), f c] ∧ pre.length < cs.length := by
  obtain ⟨x, hx, rfl⟩ := enum_get (at_mid h)
  rw [List.getElem?_map] at hx
  obtain ⟨c, hc, rfl⟩ := Option.map_eq_some_iff.mp hx
  exact ⟨c, hc, rfl, (List.getElem?_eq_some_iff.mp hc).1⟩
theorem row_ok {n k : Nat} {S : Sto} (cs : List (Str × Bool)) (h0 : 1 ≤ cs.length) (h4 : cs.length ≤ 4) (hS : Pt n k S) (hk : k ≤ 700000000) : Fp f__law_row [.d (.ref n), .d (.tup (cs.map colD))] S fun r S' => ∃ ds, r = .d (.tup ds) ∧ RowOk cs ds ∧ Dr n (k + 8) S S' := by
  unfold f__law_row
  rw [fp_runF]
  simp only [ev0, ev1, ev2, ev3, ev4, ev5, ev6, ev7, ev8, ev9, wp_ix_refC, wp_setItE, List.map_cons, List.map_nil, List.replicate, List.cons_append, List.nil_append, List.length_cons, List.length_nil, List.set_cons_succ, List.set_cons_zero, List.getElem?_cons_zero, List.getElem?_cons_succ, Option.map_some, Option.bind_some, List.all_cons, List.all_nil, List.isEmpty_nil, List.isEmpty_cons, eq_self, if_true, if_false, ite_true, ite_false, Option.some.injEq, exists_eq_left', exists_eq_left, Nat.reduceAdd, Nat.reduceLT, Nat.reduceLeDiff, Int.reduceLE, Int.reduceLT, Int.reduceNeg, Int.reducePow, Int.reduceToNat, b__law_row]
  refine wp_compL (fun pre post acc S1 => Paired (fun (c : Str × Bool) d => FitW c.2 d) (cs.take pre.length) acc ∧ (∀ d, acc[0]? = some d → d ≠ .non) ∧ Dr n (k + 2 * pre.length) S S1) (fun _ => wat_nil _ _)
    ⟨by simpa using .nil, by simp, .refl hS⟩ ?_ ?_
  · rintro pre d post acc S1 hp ⟨pr, h1, dr⟩
    obtain ⟨c, hc, rfl, hlt⟩ := enum_at hp
    obtain ⟨cn, b⟩ := c
    refine ⟨[some (.d (.ref n)), some (.d (.tup (cs.map colD))), some (.d (.int (pre.length : Nat))), some (.d (.str cn)), some (.d (.str (kindS b)))], rfl, ?_⟩
    simp only [ev0, ev1, ev2, ev3, ev4, ev5, ev6, ev7, ev8, ev9, wp_ix_refC, wp_setItE, List.map_cons, List.map_nil, List.replicate, List.cons_append, List.nil_append, List.length_cons, List.length_nil, List.set_cons_succ, List.set_cons_zero, List.getElem?_cons_zero, List.getElem?_cons_succ, Option.map_some, Option.bind_some, List.all_cons, List.all_nil, List.isEmpty_nil, List.isEmpty_cons, eq_self, if_true, if_false, ite_true, ite_false, Option.some.injEq, exists_eq_left', exists_eq_left, Nat.reduceAdd, Nat.reduceLT, Nat.reduceLeDiff, Int.reduceLE, Int.reduceLT, Int.reduceNeg, Int.reducePow, Int.reduceToNat]
    refine (worth_ok b (decide ((0 : Int) < (pre.length : Nat))) dr.pt (by omega)).mono ?_
    rintro r S2 ⟨y, rfl, fy, ny, dr2⟩
    refine ⟨y, rfl, ?_, ?_, ?_⟩
    · rw [List.length_append, show pre.length + [D.tup [.int (pre.length : Nat), colD (cn, b)]].length = pre.length + 1 from rfl, List.take_add_one, hc]
      exact paired_snoc pr fy
    · intro d hd
      cases acc with
      | nil =>
        have l0 : pre.length = 0 := by
          have := Paired.length pr
          rw [List.length_take, List.length_nil, Nat.min_eq_left (Nat.le_of_lt hlt)] at this
          exact this
        obtain rfl : y = d := by simpa using hd
        exact ny (by rw [l0]; rfl)
      | cons a acc => exact h1 d (by simpa using hd)
    · rw [List.length_append]
      exact (dr.trans dr2).mono (by simp; omega)
  · rintro acc S1 ⟨pr, h1, dr⟩
    rw [enum_len, List.length_map] at pr dr
    rw [List.take_length] at pr
    refine ⟨acc, rfl, ⟨pr, ?_⟩, dr.mono (by omega)⟩
    cases acc with
    | nil => have := Paired.length pr; rw [List.length_nil] at this; omega
    | cons a acc => exact ⟨a, acc, rfl, h1 a rfl⟩
end G

set_option Elab.async false
set_option linter.all false
set_option maxRecDepth 1000000
set_option maxHeartbeats 4000000
/- ev9 -/
namespace G
variable [Wld]
open PySem PySem.Spec PyProof.Rows L2
open PySem.W (keyToks keyToksAll dataLe AllAlike Sortable alike alikeAll)
/-! ### how rows rise -/
def WorthD (d : D) : Prop := d = .non ∨ (∃ i, d = .int i) ∨ ∃ x, d = .str x
def RowD (d : D) : Prop := ∃ r, d = .tup r ∧ r ≠ [] ∧ ∀ w ∈ r, WorthD w
def wsD : D → List D
  | .str x => [.int 2, .int 0, .str x]
  | .int i => [.int 1, .int i, .str ""]
  | _ => [.int 0, .int 0, .str ""]
def wsP : D → List PyData
  | .str x => [.int 2, .int 0, .str x]
  | .int i => [.int 1, .int i, .str ""]
  | _ => [.int 0, .int 0, .str ""]
def keyR : D → PyData
  | .tup r => .list (r.map fun d => .list (wsP d))
  | _ => .none
noncomputable def srtR (ds : List D) : List D := ds.mergeSort (dataLe false keyR)
theorem kyr_wsD (d : D) : kyrs (wsD d) = some (wsP d) := by cases d <;> rfl
theorem kyrs_tup : ∀ r : List D, kyrs (r.map fun d => D.tup (wsD d)) = some (r.map fun d => .tuple (wsP d))
  | [] => rfl
  | d :: r => by
    rw [List.map_cons]
    unfold kyrs
    rw [kyrs_tup r]
    unfold kyr
    rw [kyr_wsD]; rfl
theorem kyrs_lst : ∀ r : List D, kyrs (r.map fun d => D.lst (wsD d)) = some (r.map fun d => .list (wsP d))
  | [] => rfl
  | d :: r => by
    rw [List.map_cons]
    unfold kyrs
    rw [kyrs_lst r]
    unfold kyr
    rw [kyr_wsD]; rfl
theorem fp_some {f : Fn} {sls : List Sl} {S : Sto} {r : Rt} {S' : Sto} (h : Fp f sls S fun a b => a = r ∧ b = S') : f sls S = some (r, S') := by
  obtain ⟨a, b, h1, rfl, rfl⟩ := h
  exact h1
theorem rank_eq {r : List D} {S : Sto} (h : ∀ w ∈ r, WorthD w) (hl : r.length ≤ 1000) : f__law_rank [.d (.tup r)] S = some (.new (.lst (r.map fun d => .lst (wsD d))), S) := by
  refine fp_some ?_
  unfold f__law_rank
  rw [fp_runF]
  simp only [ev0, ev1, ev2, ev3, ev4, ev5, ev6, ev7, ev8, ev9, wp_ix_refC, wp_setItE, List.map_cons, List.map_nil, List.replicate, List.cons_append, List.nil_append, List.length_cons, List.length_nil, List.set_cons_succ, List.set_cons_zero, List.getElem?_cons_zero, List.getElem?_cons_succ, Option.map_some, Option.bind_some, List.all_cons, List.all_nil, List.isEmpty_nil, List.isEmpty_cons, eq_self, if_true, if_false, ite_true, ite_false, Option.some.injEq, exists_eq_left', exists_eq_left, Nat.reduceAdd, Nat.reduceLT, Nat.reduceLeDiff, Int.reduceLE, Int.reduceLT, Int.reduceNeg, Int.reducePow, Int.reduceToNat, b__law_rank]
  refine wp_forL' (fun pre post e S1 => S1 = S ∧ ∃ x, e = [some (.d (.tup r)), some (.own (.lst (pre.map fun d => .lst (wsD d)))), x]) ⟨rfl, none, rfl⟩ ?_ ?_
  · rintro pre d post e S1 hp ⟨rfl, x, rfl⟩
    have hw := h d (by rw [hp]; simp)
    have hlen : pre.length < 1000000 := by
      have := congrArg List.length hp
      simp at this; omega
    refine ⟨_, gt_name.mpr ⟨by simp, rfl⟩, ?_⟩
    rcases hw with rfl | ⟨i, rfl⟩ | ⟨z, rfl⟩ <;> simp only [ev0, ev1, ev2, ev3, ev4, ev5, ev6, ev7, ev8, ev9, wp_ix_refC, wp_setItE, List.map_cons, List.map_nil, List.replicate, List.cons_append, List.nil_append, List.length_cons, List.length_nil, List.set_cons_succ, List.set_cons_zero, List.getElem?_cons_zero, List.getElem?_cons_succ, Option.map_some, Option.bind_some, List.all_cons, List.all_nil, List.isEmpty_nil, List.isEmpty_cons, eq_self, if_true, if_false, ite_true, ite_false, Option.some.injEq, exists_eq_left', exists_eq_left, Nat.reduceAdd, Nat.reduceLT, Nat.reduceLeDiff, Int.reduceLE, Int.reduceLT, Int.reduceNeg, Int.reducePow, Int.reduceToNat] <;> simp [wsD, isNon, kd, isK, hlen]
  · rintro e S1 ⟨rfl, x, rfl⟩
    simp only [ev0, ev1, ev2, ev3, ev4, ev5, ev6, ev7, ev8, ev9, wp_ix_refC, wp_setItE, List.map_cons, List.map_nil, List.replicate, List.cons_append, List.nil_append, List.length_cons, List.length_nil, List.set_cons_succ, List.set_cons_zero, List.getElem?_cons_zero, List.getElem?_cons_succ, Option.map_some, Option.bind_some, List.all_cons, List.all_nil, List.isEmpty_nil, List.isEmpty_cons, eq_self, if_true, if_false, ite_true, ite_false, Option.some.injEq, exists_eq_left', exists_eq_left, Nat.reduceAdd, Nat.reduceLT, Nat.reduceLeDiff, Int.reduceLE, Int.reduceLT, Int.reduceNeg, Int.reducePow, Int.reduceToNat]
/-! ### the two sorts are one -/
theorem ky_rank {r : List D} {S : Sto} (h : ∀ w ∈ r, WorthD w) (hl : r.length ≤ 1000) : kyOf f__law_rank S (.tup r) = some (.list (r.map fun d => .list (wsP d))) :=
  kyOf_of (rank_eq h hl) (by show (kyrs _).map PyData.list = _; rw [kyrs_lst]; rfl)
theorem toks_eq : ∀ r : List D, keyToksAll (r.map fun d => .tuple (wsP d)) = keyToksAll (r.map fun d => .list (wsP d))
  | [] => rfl
  | d :: r => by
    rw [List.map_cons, List.map_cons]
    unfold keyToksAll
    rw [toks_eq r]
    unfold keyToks
    rfl
theorem alike3 (l : Bool) (a b : D) : alikeAll (wsP a) (wsP b) = true := by cases a <;> cases b <;> rfl
theorem alike_rt : ∀ r q : List D, alikeAll (r.map fun d => .tuple (wsP d)) (q.map fun d => .tuple (wsP d)) = true
  | [], _ => by unfold alikeAll; rfl
  | _ :: _, [] => by unfold alikeAll; rfl
  | a :: r, b :: q => by
    rw [List.map_cons, List.map_cons]
    unfold alikeAll
    rw [alike_rt r q]
    unfold alike
    rw [alike3 true a b]; rfl
theorem alike_rl : ∀ r q : List D, alikeAll (r.map fun d => .list (wsP d)) (q.map fun d => .list (wsP d)) = true
  | [], _ => by unfold alikeAll; rfl
  | _ :: _, [] => by unfold alikeAll; rfl
  | a :: r, b :: q => by
    rw [List.map_cons, List.map_cons]
    unfold alikeAll
    rw [alike_rl r q]
    unfold alike
    rw [alike3 true a b]; rfl
theorem dep3 (a : D) : PyData.depthAll (wsP a) = 0 := by cases a <;> rfl
theorem dep_t : ∀ r : List D, PyData.depthAll (r.map fun d => .tuple (wsP d)) ≤ 1
  | [] => by simp [PyData.depthAll]
  | a :: r => by
    rw [List.map_cons]
    unfold PyData.depthAll
    have := dep_t r
    unfold PyData.depth
    rw [dep3]; omega
theorem dep_l : ∀ r : List D, PyData.depthAll (r.map fun d => .list (wsP d)) ≤ 1
  | [] => by simp [PyData.depthAll]
  | a :: r => by
    rw [List.map_cons]
    unfold PyData.depthAll
    have := dep_l r
    unfold PyData.depth
    rw [dep3]; omega
def Rows (ds : List D) : Prop := ∀ d ∈ ds, ∃ r, d = .tup r ∧ r ≠ [] ∧ r.length ≤ 1000 ∧ ∀ w ∈ r, WorthD w
theorem keys_rank {ds : List D} {S : Sto} (h : Rows ds) : KeysOk f__law_rank S ds where
  ok := fun d hd => by obtain ⟨r, rfl, _, hl, hw⟩ := h d hd; exact ⟨_, ky_rank hw hl⟩
  al := fun x hx y hy => by
    obtain ⟨d, hd, rfl⟩ := List.mem_map.mp hx
    obtain ⟨d', hd', rfl⟩ := List.mem_map.mp hy
    obtain ⟨r, rfl, _, hl, hw⟩ := h d hd
    obtain ⟨r', rfl, _, hl', hw'⟩ := h d' hd'
    unfold kyG
    rw [ky_rank hw hl, ky_rank hw' hl']
    show alike (.list _) (.list _) = true
    unfold alike
    exact alike_rl r r'
  so := .inr fun x hx => by
    obtain ⟨d, hd, rfl⟩ := List.mem_map.mp hx
    obtain ⟨r, rfl, hn, hl, hw⟩ := h d hd
    unfold kyG
    rw [ky_rank hw hl]
    exact ⟨(fun z => nomatch z), fun _ z => nomatch z⟩
  dp := fun d hd => by
    obtain ⟨r, rfl, _, hl, hw⟩ := h d hd
    unfold kyG
    rw [ky_rank hw hl]
    show PyData.depth (.list _) ≤ 60
    unfold PyData.depth
    have := dep_l r
    omega
theorem srt_rank {ds : List D} {S : Sto} (h : Rows ds) : ds.mergeSort (dataLe false (kyG f__law_rank S)) = srtR ds := by
  refine PySem.W.sort_congr fun a ha b hb => ?_
  obtain ⟨r, rfl, _, hl, hw⟩ := h a ha
  obtain ⟨q, rfl, _, hl2, hq⟩ := h b hb
  have e : ∀ {r : List D}, (∀ w ∈ r, WorthD w) → r.length ≤ 1000 → kyG f__law_rank S (.tup r) = keyR (.tup r) := fun {r} hw hl => by
    unfold kyG
    rw [ky_rank hw hl]
    rfl
  show (!_) = (!_)
  dsimp only
  rw [e hw hl, e hq hl2]
/-! ### one order alone -/
theorem toks_wsP (d : D) : ∃ a b : Int, ∃ x : Str, wsP d = [.int a, .int b, .str x] := by cases d <;> exact ⟨_, _, _, rfl⟩
theorem toks3 (a b : Int) (x : Str) (r : List (Int ⊕ List Nat)) : keyToks (.list [.int a, .int b, .str x]) ++ r = [.inl 1, .inl a, .inl 1, .inl b, .inl 1, .inr x.cps.toList, .inl 0] ++ r := by
  simp [keyToks, keyToksAll]
theorem ws_inj {a b : D} (ha : WorthD a) (hb : WorthD b) (h : wsP a = wsP b) : a = b := by
  rcases ha with rfl | ⟨i, rfl⟩ | ⟨x, rfl⟩ <;> rcases hb with rfl | ⟨j, rfl⟩ | ⟨y, rfl⟩ <;> first | rfl | (simp [wsP] at h; try subst h; try rfl)
theorem toks_inj : ∀ {r q : List D}, (∀ w ∈ r, WorthD w) → (∀ w ∈ q, WorthD w) → keyToksAll (r.map fun d => .list (wsP d)) = keyToksAll (q.map fun d => .list (wsP d)) → r = q
  | [], [], _, _, _ => rfl
  | [], b :: q, _, _, h => by
    rw [List.map_cons] at h
    unfold keyToksAll at h
    simp at h
  | a :: r, [], _, _, h => by
    rw [List.map_cons] at h
    unfold keyToksAll at h
    simp at h
  | a :: r, b :: q, ha, hb, h => by
    rw [List.map_cons, List.map_cons] at h
    unfold keyToksAll at h
    obtain ⟨a1, a2, a3, ea⟩ := toks_wsP a
    obtain ⟨b1, b2, b3, eb⟩ := toks_wsP b
    rw [ea, eb, toks3, toks3] at h
    simp only [List.cons_append, List.nil_append, List.cons.injEq, Sum.inl.injEq, Sum.inr.injEq, true_and] at h
    obtain ⟨rfl, rfl, hx, ht⟩ := h
    have hx' := PySem.W.str_of_cps hx
    subst hx'
    rw [ws_inj (ha a (by simp)) (hb b (by simp)) (ea.trans eb.symm), toks_inj (fun w hw => ha w (by simp [hw])) (fun w hw => hb w (by simp [hw])) ht]
theorem srtR_perm (ds : List D) : (srtR ds).Perm ds := List.mergeSort_perm ds _
theorem srtR_uniq {xs ys : List D} (h : Rows xs) (p : xs.Perm ys) : srtR xs = srtR ys := by
  have hy : Rows ys := fun d hd => h d (p.mem_iff.mpr hd)
  refine List.Perm.eq_of_pairwise (le := fun a b => dataLe false keyR a b = true) (fun a b ha hb h1 h2 => ?_) (PySem.W.sort_pairwise (PySem.W.sortLe_total _ _ _) xs) (PySem.W.sort_pairwise (PySem.W.sortLe_total _ _ _) ys) (((srtR_perm xs).trans p).trans (srtR_perm ys).symm)
  obtain ⟨r, rfl, _, _, hw⟩ := h a ((srtR_perm xs).mem_iff.mp ha)
  obtain ⟨q, rfl, _, _, hq⟩ := hy b ((srtR_perm ys).mem_iff.mp hb)
  have h1' : (listOrd itemOrd).blt (keyToks (keyR (.tup q))) (keyToks (keyR (.tup r))) = false := by simpa [dataLe, PySem.W.sortLe] using h1
  have h2' : (listOrd itemOrd).blt (keyToks (keyR (.tup r))) (keyToks (keyR (.tup q))) = false := by simpa [dataLe, PySem.W.sortLe] using h2
  have e := (listOrd itemOrd).total _ _ h2' h1'
  have e' : keyToksAll (r.map fun d => .list (wsP d)) = keyToksAll (q.map fun d => .list (wsP d)) := by
    have e2 : keyToks (.list (r.map fun d => .list (wsP d))) = keyToks (.list (q.map fun d => .list (wsP d))) := e
    unfold keyToks at e2
    exact e2
  rw [toks_inj hw hq e']
theorem rises_ok {sl : Sl} {ds : List D} {S : Sto} (h : Rows ds) (hs : sl = .d (.lst ds) ∨ sl = .brw (.lst ds)) : Fp f__law_rises [sl] S fun r S' => r = .d (.tup (srtR ds)) ∧ S' = S := by
  unfold f__law_rises
  rw [fp_runF]
  rcases hs with rfl | rfl <;> (simp only [ev0, ev1, ev2, ev3, ev4, ev5, ev6, ev7, ev8, ev9, wp_ix_refC, wp_setItE, List.map_cons, List.map_nil, List.replicate, List.cons_append, List.nil_append, List.length_cons, List.length_nil, List.set_cons_succ, List.set_cons_zero, List.getElem?_cons_zero, List.getElem?_cons_succ, Option.map_some, Option.bind_some, List.all_cons, List.all_nil, List.isEmpty_nil, List.isEmpty_cons, eq_self, if_true, if_false, ite_true, ite_false, Option.some.injEq, exists_eq_left', exists_eq_left, Nat.reduceAdd, Nat.reduceLT, Nat.reduceLeDiff, Int.reduceLE, Int.reduceLT, Int.reduceNeg, Int.reducePow, Int.reduceToNat, b__law_rises]; exact ⟨keys_rank h, by rw [srt_rank h]⟩)
end G

set_option Elab.async false
set_option linter.all false
set_option maxRecDepth 1000000
set_option maxHeartbeats 4000000
/- ev9 -/
namespace G
variable [Wld]
open PySem PySem.Spec PyProof.Rows L2
open PySem.W (keyToks keyToksAll dataLe AllAlike Sortable alike alikeAll)
/-! ### things -/
def kdD : D → Option Kd
  | .non => some .non
  | .bl _ => some .bl
  | .int _ => some .int
  | .str _ => some .str
  | .tup _ => some .tup
  | .lst _ => some .lst
  | .dic _ _ => some .dct
  | .ref _ => none
  | .fn _ => none
theorem kd_D {d : D} {k : Kd} {e : En} {S : Sto} (h : kdD d = some k) : kd (.d d) e S = some k := by
  cases d <;> simp [kdD] at h <;> subst h <;> rfl
/-- a thing that may stand as a worth -/
structure Pl (d : D) : Prop where
  k : ∃ k, kdD d = some k
  s : ∀ x, d = .str x → x.length ≤ 1000000
def namB : D → Bool
  | .str x => namS x
  | _ => false
theorem blsOf_map {α : Type} (f : α → Bool) (l : List α) : blsOf (l.map fun x => D.bl (f x)) = some (l.map f) := by
  induction l with
  | nil => rfl
  | cons x l ih => simp [blsOf, ih]
theorem letters_mem : ∀ c : Nat, (c ∈ (Str.ofString "abcdefghijklmnopqrstuvwxyz").cps.toList) ↔ (97 ≤ c ∧ c ≤ 122) := by
  have h : (Str.ofString "abcdefghijklmnopqrstuvwxyz").cps.toList = [97, 98, 99, 100, 101, 102, 103, 104, 105, 106, 107, 108, 109, 110, 111, 112, 113, 114, 115, 116, 117, 118, 119, 120, 121, 122] := by decide +kernel
  intro c
  rw [h]
  simp
  omega
theorem wp_in_sign {neg : Bool} {c : Nat} {z : Str} {e : En} {S : Sto} {Q : R → En → Sto → Prop} : Wp (gIn neg (.d (.str ⟨#[c]⟩)) (.d (.str z))) e S Q ↔ Q (.d (.bl (decide (c ∈ z.cps.toList) != neg))) e S := wp_some rfl
def oneB (d : D) : D := match d with
  | .str x => .bl (x.cps.toList.all fun c => decide (97 ≤ c ∧ c ≤ 122))
  | d => d
theorem oneB_map (x : Str) : (x.cps.toList.map fun c => D.str ⟨#[c]⟩).map oneB = x.cps.toList.map fun c => D.bl (decide (97 ≤ c ∧ c ≤ 122)) := by
  rw [List.map_map]
  refine List.map_congr_left fun c _ => ?_
  simp [oneB]
def isI : D → Bool
  | .int _ => true
  | _ => false
def numB : D → Bool
  | .int i => decide (-1000000000 ≤ i) && decide (i ≤ 1000000000)
  | _ => false
/-! ### fits -/
def fitB (k : Str) (d : D) : Bool := match d with
  | .non => true
  | d => if k == "number" then numB d else namB d
theorem lfits_ok {S : Sto} {b : Bool} {d : D} (h : Pl d) : Fp f__law_fits [.d (.str (kindS b)), .d d] S fun r S' => r = .d (.bl (fitB (kindS b) d)) ∧ S' = S := by
  unfold f__law_fits
  rw [fp_runF]
  simp only [ev0, ev1, ev2, ev3, ev4, ev5, ev6, ev7, ev8, ev9, wp_ix_refC, wp_setItE, List.map_cons, List.map_nil, List.replicate, List.cons_append, List.nil_append, List.length_cons, List.length_nil, List.set_cons_succ, List.set_cons_zero, List.getElem?_cons_zero, List.getElem?_cons_succ, Option.map_some, Option.bind_some, List.all_cons, List.all_nil, List.isEmpty_nil, List.isEmpty_cons, eq_self, if_true, if_false, ite_true, ite_false, Option.some.injEq, exists_eq_left', exists_eq_left, Nat.reduceAdd, Nat.reduceLT, Nat.reduceLeDiff, Int.reduceLE, Int.reduceLT, Int.reduceNeg, Int.reducePow, Int.reduceToNat, b__law_fits]
  by_cases hn : isNon d = true
  · rw [if_pos hn]
    cases d <;> simp [isNon] at hn
    rfl
  · rw [if_neg hn]
    have hf : fitB (kindS b) d = if kindS b == "number" then numB d else namB d := by
      cases d <;> first | rfl | (simp [isNon] at hn)
    obtain ⟨⟨k, hk⟩, hs⟩ := h
    rw [hf]
    cases b with
    | true =>
      rw [if_pos (show (kindS true == "number") = true by decide +kernel), if_pos (show (kindS true == Str.ofString "number") = true by decide +kernel)]
      simp only [ev0, ev1, ev2, ev3, ev4, ev5, ev6, ev7, ev8, ev9, wp_ix_refC, wp_setItE, List.map_cons, List.map_nil, List.replicate, List.cons_append, List.nil_append, List.length_cons, List.length_nil, List.set_cons_succ, List.set_cons_zero, List.getElem?_cons_zero, List.getElem?_cons_succ, Option.map_some, Option.bind_some, List.all_cons, List.all_nil, List.isEmpty_nil, List.isEmpty_cons, eq_self, if_true, if_false, ite_true, ite_false, Option.some.injEq, exists_eq_left', exists_eq_left, Nat.reduceAdd, Nat.reduceLT, Nat.reduceLeDiff, Int.reduceLE, Int.reduceLT, Int.reduceNeg, Int.reducePow, Int.reduceToNat, kd_D hk]
      cases d with
      | int i =>
        cases hk
        simp only [ev0, ev1, ev2, ev3, ev4, ev5, ev6, ev7, ev8, ev9, wp_ix_refC, wp_setItE, List.map_cons, List.map_nil, List.replicate, List.cons_append, List.nil_append, List.length_cons, List.length_nil, List.set_cons_succ, List.set_cons_zero, List.getElem?_cons_zero, List.getElem?_cons_succ, Option.map_some, Option.bind_some, List.all_cons, List.all_nil, List.isEmpty_nil, List.isEmpty_cons, eq_self, if_true, if_false, ite_true, ite_false, Option.some.injEq, exists_eq_left', exists_eq_left, Nat.reduceAdd, Nat.reduceLT, Nat.reduceLeDiff, Int.reduceLE, Int.reduceLT, Int.reduceNeg, Int.reducePow, Int.reduceToNat, isK, mChain, wp_ite, dLe_int, dPow_int (show (0 : Int) ≤ 9 ∧ (9 : Int) ≤ 1000 ∧ (10 : Int).natAbs < 1000 by omega)]
        by_cases h1 : -1000000000 ≤ i <;> simp [h1, numB]
      | _ => cases hk <;> simp [isK, numB]
    | false =>
      rw [if_neg (show ¬ (kindS false == "number") = true by decide +kernel), if_neg (show ¬ (kindS false == Str.ofString "number") = true by decide +kernel)]
      simp only [ev0, ev1, ev2, ev3, ev4, ev5, ev6, ev7, ev8, ev9, wp_ix_refC, wp_setItE, List.map_cons, List.map_nil, List.replicate, List.cons_append, List.nil_append, List.length_cons, List.length_nil, List.set_cons_succ, List.set_cons_zero, List.getElem?_cons_zero, List.getElem?_cons_succ, Option.map_some, Option.bind_some, List.all_cons, List.all_nil, List.isEmpty_nil, List.isEmpty_cons, eq_self, if_true, if_false, ite_true, ite_false, Option.some.injEq, exists_eq_left', exists_eq_left, Nat.reduceAdd, Nat.reduceLT, Nat.reduceLeDiff, Int.reduceLE, Int.reduceLT, Int.reduceNeg, Int.reducePow, Int.reduceToNat, kd_D hk]
      cases d with
      | str x =>
        cases hk
        have hl := hs x rfl
        simp only [ev0, ev1, ev2, ev3, ev4, ev5, ev6, ev7, ev8, ev9, wp_ix_refC, wp_setItE, List.map_cons, List.map_nil, List.replicate, List.cons_append, List.nil_append, List.length_cons, List.length_nil, List.set_cons_succ, List.set_cons_zero, List.getElem?_cons_zero, List.getElem?_cons_succ, Option.map_some, Option.bind_some, List.all_cons, List.all_nil, List.isEmpty_nil, List.isEmpty_cons, eq_self, if_true, if_false, ite_true, ite_false, Option.some.injEq, exists_eq_left', exists_eq_left, Nat.reduceAdd, Nat.reduceLT, Nat.reduceLeDiff, Int.reduceLE, Int.reduceLT, Int.reduceNeg, Int.reducePow, Int.reduceToNat, isK, mChain]
        refine ⟨hl, ?_⟩
        simp only [ev0, ev1, ev2, ev3, ev4, ev5, ev6, ev7, ev8, ev9, wp_ix_refC, wp_setItE, List.map_cons, List.map_nil, List.replicate, List.cons_append, List.nil_append, List.length_cons, List.length_nil, List.set_cons_succ, List.set_cons_zero, List.getElem?_cons_zero, List.getElem?_cons_succ, Option.map_some, Option.bind_some, List.all_cons, List.all_nil, List.isEmpty_nil, List.isEmpty_cons, eq_self, if_true, if_false, ite_true, ite_false, Option.some.injEq, exists_eq_left', exists_eq_left, Nat.reduceAdd, Nat.reduceLT, Nat.reduceLeDiff, Int.reduceLE, Int.reduceLT, Int.reduceNeg, Int.reducePow, Int.reduceToNat, wp_ite, dLt_int]
        have hq : ∀ b : Bool, b = namS x → Rt.d (D.bl b) = Rt.d (D.bl (namB (.str x))) := fun b hb => by rw [hb]; rfl
        split
        · rename_i g1
          have g1 := of_decide_eq_true g1
          split
          · rename_i g2
            have g2 := of_decide_eq_true g2
            refine ⟨hl, ?_⟩
            refine wp_compL_fm (fun _ => true) oneB (fun _ => wat_nil _ _) ?_ ?_
            · intro d hd
              obtain ⟨c, hc, rfl⟩ := List.mem_map.mp hd
              refine ⟨_, gt_name.mpr ⟨by simp, rfl⟩, ?_⟩
              have hm : decide (c ∈ (Str.ofString "abcdefghijklmnopqrstuvwxyz").cps.toList) = decide (97 ≤ c ∧ c ≤ 122) := decide_eq_decide.mpr (letters_mem c)
              simp only [ev0, ev1, ev2, ev3, ev4, ev5, ev6, ev7, ev8, ev9, wp_ix_refC, wp_setItE, List.map_cons, List.map_nil, List.replicate, List.cons_append, List.nil_append, List.length_cons, List.length_nil, List.set_cons_succ, List.set_cons_zero, List.getElem?_cons_zero, List.getElem?_cons_succ, Option.map_some, Option.bind_some, List.all_cons, List.all_nil, List.isEmpty_nil, List.isEmpty_cons, eq_self, if_true, if_false, ite_true, ite_false, Option.some.injEq, exists_eq_left', exists_eq_left, Nat.reduceAdd, Nat.reduceLT, Nat.reduceLeDiff, Int.reduceLE, Int.reduceLT, Int.reduceNeg, Int.reducePow, Int.reduceToNat, wp_in_sign, hm]
              simp [oneB]
            · rw [List.filter_eq_self.mpr (fun _ _ => rfl), oneB_map]
              refine ⟨_, blsOf_map (fun c => decide (97 ≤ c ∧ c ≤ 122)) x.cps.toList, hq _ ?_, rfl⟩
              have h1 : 1 ≤ x.length := by omega
              have h2 : x.length ≤ 8 := by omega
              simp [namS, letB, h1, h2, List.all_map, Function.comp_def]
          · rename_i g2
            have h2 : ¬ x.length ≤ 8 := by simp at g2; omega
            exact hq _ (by simp [namS, h2])
        · rename_i g1
          have h1 : ¬ 1 ≤ x.length := by simp at g1; omega
          exact hq _ (by simp [namS, h1])
      | _ => cases hk <;> simp [isK, namB]
/-! ### worths drawn fit -/
theorem namS_len {x : Str} (h : namS x = true) : x.length ≤ 8 := by
  simp only [namS, Bool.and_eq_true, decide_eq_true_eq] at h
  exact h.2.1
theorem FitW.ok {b : Bool} {d : D} (h : FitW b d) : fitB (kindS b) d = true ∧ Pl d := by
  rcases h with rfl | ⟨rfl, i, rfl, h1, h2⟩ | ⟨rfl, x, rfl, hx⟩
  · exact ⟨rfl, ⟨⟨_, rfl⟩, fun _ h => nomatch h⟩⟩
  · refine ⟨?_, ⟨⟨_, rfl⟩, fun _ h => nomatch h⟩⟩
    show (if (kindS true == "number") = true then numB (.int i) else namB (.int i)) = true
    rw [if_pos (by decide +kernel)]
    simp [numB, h1, h2]
  · refine ⟨?_, ⟨⟨_, rfl⟩, fun y h => by cases h; have := namS_len hx; omega⟩⟩
    show (if (kindS false == "number") = true then numB (.str x) else namB (.str x)) = true
    rw [if_neg (by decide +kernel)]
    exact hx
theorem FitW.worth {b : Bool} {d : D} (h : FitW b d) : WorthD d := by
  rcases h with rfl | ⟨rfl, i, rfl, h1, h2⟩ | ⟨rfl, x, rfl, hx⟩
  · exact .inl rfl
  · exact .inr (.inl ⟨i, rfl⟩)
  · exact .inr (.inr ⟨x, rfl⟩)
end G

set_option Elab.async false
set_option linter.all false
set_option maxRecDepth 1000000
set_option maxHeartbeats 4000000
/- ev9 -/
namespace G
variable [Wld]
open PySem PySem.Spec PyProof.Rows L2
/-! ### tables, deeds -/
theorem strBeq {x y : Str} : (x == y) = decide (x = y) := by
  by_cases h : x = y
  · subst h; simp
  · simp [h]
theorem nd_at {ts : Lay} (h : (ts.map (·.1)).Nodup) {i j : Nat} {t u : Str × List (Str × Bool)} (h1 : ts[i]? = some t) (h2 : ts[j]? = some u) (e : t.1 = u.1) : i = j := by
  have g1 : (ts.map (·.1))[i]? = some t.1 := by rw [List.getElem?_map, h1]; rfl
  have g2 : (ts.map (·.1))[j]? = some t.1 := by rw [List.getElem?_map, h2, e]; rfl
  exact nodup_at h g1 g2
theorem table_ok {ts : Lay} (hts : (ts.map (·.1)).Nodup) {i : Nat} {nm : Str} {cs : List (Str × Bool)} (hi : ts[i]? = some (nm, cs)) {S : Sto} : Fp f__law_table [.d (layD ts), .d (.str nm)] S fun r S' => r = .d (.int i) ∧ S' = S := by
  unfold f__law_table
  rw [fp_runF]
  simp only [ev0, ev1, ev2, ev3, ev4, ev5, ev6, ev7, ev8, ev9, wp_ix_refC, wp_setItE, List.map_cons, List.map_nil, List.replicate, List.cons_append, List.nil_append, List.length_cons, List.length_nil, List.set_cons_succ, List.set_cons_zero, List.getElem?_cons_zero, List.getElem?_cons_succ, Option.map_some, Option.bind_some, List.all_cons, List.all_nil, List.isEmpty_nil, List.isEmpty_cons, eq_self, if_true, if_false, ite_true, ite_false, Option.some.injEq, exists_eq_left', exists_eq_left, Nat.reduceAdd, Nat.reduceLT, Nat.reduceLeDiff, Int.reduceLE, Int.reduceLT, Int.reduceNeg, Int.reducePow, Int.reduceToNat, b__law_table]
  unfold layD
  simp only [ev0, ev1, ev2, ev3, ev4, ev5, ev6, ev7, ev8, ev9, wp_ix_refC, wp_setItE, List.map_cons, List.map_nil, List.replicate, List.cons_append, List.nil_append, List.length_cons, List.length_nil, List.set_cons_succ, List.set_cons_zero, List.getElem?_cons_zero, List.getElem?_cons_succ, Option.map_some, Option.bind_some, List.all_cons, List.all_nil, List.isEmpty_nil, List.isEmpty_cons, eq_self, if_true, if_false, ite_true, ite_false, Option.some.injEq, exists_eq_left', exists_eq_left, Nat.reduceAdd, Nat.reduceLT, Nat.reduceLeDiff, Int.reduceLE, Int.reduceLT, Int.reduceNeg, Int.reducePow, Int.reduceToNat]
  refine wp_forL' (fun pre post e S1 => S1 = S ∧ ∃ a b c, e = [some (.d (.tup (ts.map tabD))), some (.d (.str nm)), some (.d (.int (if i < pre.length then (i : Int) else -1))), a, b, c]) ⟨rfl, none, none, none, rfl⟩ ?_ ?_
  · rintro pre d post e S1 hp ⟨rfl, a, b, c, rfl⟩
    obtain ⟨t, ht, rfl, hlt⟩ := enum_at hp
    obtain ⟨tn, tc⟩ := t
    refine ⟨[some (.d (.tup (ts.map tabD))), some (.d (.str nm)), some (.d (.int (if i < pre.length then (i : Int) else -1))), some (.d (.int (pre.length : Nat))), some (.d (.str tn)), some (.d (.tup (tc.map colD)))], rfl, ?_⟩
    simp only [ev0, ev1, ev2, ev3, ev4, ev5, ev6, ev7, ev8, ev9, wp_ix_refC, wp_setItE, List.map_cons, List.map_nil, List.replicate, List.cons_append, List.nil_append, List.length_cons, List.length_nil, List.set_cons_succ, List.set_cons_zero, List.getElem?_cons_zero, List.getElem?_cons_succ, Option.map_some, Option.bind_some, List.all_cons, List.all_nil, List.isEmpty_nil, List.isEmpty_cons, eq_self, if_true, if_false, ite_true, ite_false, Option.some.injEq, exists_eq_left', exists_eq_left, Nat.reduceAdd, Nat.reduceLT, Nat.reduceLeDiff, Int.reduceLE, Int.reduceLT, Int.reduceNeg, Int.reducePow, Int.reduceToNat, kd, isK]
    rw [List.length_append, List.length_singleton]
    by_cases hn : nm = tn
    · rw [if_pos (by rw [strBeq]; exact decide_eq_true hn)]
      have hij : i = pre.length := nd_at hts hi ht hn
      rw [if_pos (by omega : i < pre.length + 1), hij]
      exact ⟨_, _, _, rfl⟩
    · rw [if_neg (by rw [strBeq]; simpa using hn)]
      have hij : i ≠ pre.length := fun z => by
        subst z
        rw [hi] at ht; cases ht; exact hn rfl
      have e : (i < pre.length + 1) ↔ (i < pre.length) := by omega
      simp only [e]
      exact ⟨_, _, _, rfl⟩
  · rintro e S1 ⟨rfl, a, b, c, rfl⟩
    simp only [ev0, ev1, ev2, ev3, ev4, ev5, ev6, ev7, ev8, ev9, wp_ix_refC, wp_setItE, List.map_cons, List.map_nil, List.replicate, List.cons_append, List.nil_append, List.length_cons, List.length_nil, List.set_cons_succ, List.set_cons_zero, List.getElem?_cons_zero, List.getElem?_cons_succ, Option.map_some, Option.bind_some, List.all_cons, List.all_nil, List.isEmpty_nil, List.isEmpty_cons, eq_self, if_true, if_false, ite_true, ite_false, Option.some.injEq, exists_eq_left', exists_eq_left, Nat.reduceAdd, Nat.reduceLT, Nat.reduceLeDiff, Int.reduceLE, Int.reduceLT, Int.reduceNeg, Int.reducePow, Int.reduceToNat]
    rw [enum_len, List.length_map, if_pos (List.getElem?_eq_some_iff.mp hi).1]
/-! the tables of a law's own lists -/
def key0 : D → D
  | .tup (k :: _) => k
  | _ => .non
def KeyD (k : D) : Prop := (∃ i, k = .int i) ∨ ∃ x, k = .str x
theorem KeyD.flat {k : D} (h : KeyD k) : flat k = true := by rcases h with ⟨i, rfl⟩ | ⟨x, rfl⟩ <;> rfl
theorem KeyD.datB {k : D} (h : KeyD k) : datB k = true := by rcases h with ⟨i, rfl⟩ | ⟨x, rfl⟩ <;> rfl
theorem eqS_key {a b : D} (ha : KeyD a) (hb : KeyD b) : eqS a b = true ↔ a = b := by
  rcases ha with ⟨i, rfl⟩ | ⟨x, rfl⟩ <;> rcases hb with ⟨j, rfl⟩ | ⟨y, rfl⟩ <;> simp [eqS]
def putT (rows : List D) (row : List D) : List D := (rows.filter fun r => !eqS (key0 r) (key0 (.tup row))) ++ [.tup row]
def dropT (rows : List D) (k : D) : List D := rows.filter fun r => !eqS (key0 r) k
structure TabOk (cs : List (Str × Bool)) (rows : List D) : Prop where
  ok : ∀ r ∈ rows, ∃ l, r = .tup l ∧ RowOk cs l
  nd : (rows.map key0).Nodup
theorem RowOk.keyD {cs : List (Str × Bool)} {l : List D} (h : RowOk cs l) : ∃ k l', l = k :: l' ∧ KeyD k := by
  obtain ⟨d, r', rfl, hd⟩ := h.key
  cases h.fit with
  | cons h1 _ =>
    refine ⟨d, r', rfl, ?_⟩
    rcases h1 with rfl | ⟨_, i, rfl, _⟩ | ⟨_, x, rfl, _⟩
    · exact (hd rfl).elim
    · exact .inl ⟨i, rfl⟩
    · exact .inr ⟨x, rfl⟩
theorem fits_len {cs : List (Str × Bool)} {l : List D} (h : RowOk cs l) : l.length = cs.length := (Paired.length h.fit).symm
theorem ixN_nat {n i : Nat} (h : i < n) : ixN n (i : Int) = some i := by
  unfold ixN
  rw [if_pos (Int.natCast_nonneg i), if_pos (Int.ofNat_lt.mpr h)]
  rfl
theorem zip_fit : ∀ {cs : List (Str × Bool)} {l : List D} {d : D}, Paired (fun (c : Str × Bool) d => FitW c.2 d) cs l → d ∈ zipD (cs.map colD) l → ∃ c w, d = .tup [colD c, w] ∧ FitW c.2 w
  | _, _, _, .nil, h => by simp [zipD] at h
  | c :: cs, w :: l, d, .cons h1 h2, h => by
    have h' : d = .tup [colD c, w] ∨ d ∈ zipD (cs.map colD) l := by simpa [zipD] using h
    rcases h' with rfl | h'
    · exact ⟨c, w, rfl, h1⟩
    · exact zip_fit h2 h'
theorem put_done {ts : Lay} (hts : (ts.map (·.1)).Nodup) {i m : Nat} {nm : Str} {cs : List (Str × Bool)} (hi : ts[i]? = some (nm, cs)) {row : List D} (hr : RowOk cs row) {T : List (List D)} (hT : T[i]? = some rows) (hk : TabOk cs rows) (hz : rows.length ≤ 900000) (hl : cs.length ≤ 900) {S : Sto} (hS : S[m]? = some (.lst (T.map D.lst))) :
    Fp f__law_change_done [.d (layD ts), .d (.ref m), .d (.tup [.str "put", .str nm, .tup row])] S fun r S' => r = .d (.bl true) ∧ S' = S.set m (.lst ((T.set i (putT rows row)).map D.lst)) := by
  obtain ⟨k, l', rfl, hkd⟩ := hr.keyD
  unfold f__law_change_done
  rw [fp_runF]
  simp only [ev0, ev1, ev2, ev3, ev4, ev5, ev6, ev7, ev8, ev9, wp_ix_refC, wp_setItE, List.map_cons, List.map_nil, List.replicate, List.cons_append, List.nil_append, List.length_cons, List.length_nil, List.set_cons_succ, List.set_cons_zero, List.getElem?_cons_zero, List.getElem?_cons_succ, Option.map_some, Option.bind_some, List.all_cons, List.all_nil, List.isEmpty_nil, List.isEmpty_cons, eq_self, if_true, if_false, ite_true, ite_false, Option.some.injEq, exists_eq_left', exists_eq_left, Nat.reduceAdd, Nat.reduceLT, Nat.reduceLeDiff, Int.reduceLE, Int.reduceLT, Int.reduceNeg, Int.reducePow, Int.reduceToNat, b__law_change_done, kd, isK]
  rw [if_neg (by decide)]
  refine (table_ok hts hi).mono ?_
  rintro r S1 ⟨rfl, rfl⟩
  have hlt : ¬ ((i : Int) < 0) := by omega
  have hat : atD (ts.map tabD) (i : Int) = some (tabD (nm, cs)) := by rw [atD_ofNat, List.getElem?_map, hi]; rfl
  have hin : inF (.str "put") [.str "put", .str "drop"] = some true := by decide +kernel
  have hlen : (k :: l').length = cs.length := fits_len hr
  have hcs : (cs.map colD).length = cs.length := by simp
  unfold layD tabD at *
  simp only [ev0, ev1, ev2, ev3, ev4, ev5, ev6, ev7, ev8, ev9, wp_ix_refC, wp_setItE, List.map_cons, List.map_nil, List.replicate, List.cons_append, List.nil_append, List.length_cons, List.length_nil, List.set_cons_succ, List.set_cons_zero, List.getElem?_cons_zero, List.getElem?_cons_succ, Option.map_some, Option.bind_some, List.all_cons, List.all_nil, List.isEmpty_nil, List.isEmpty_cons, eq_self, if_true, if_false, ite_true, ite_false, Option.some.injEq, exists_eq_left', exists_eq_left, Nat.reduceAdd, Nat.reduceLT, Nat.reduceLeDiff, Int.reduceLE, Int.reduceLT, Int.reduceNeg, Int.reducePow, Int.reduceToNat, kd, isK, hlt, hin, hat]
  have hput : inD (D.str (Str.ofString "put")) [D.str (Str.ofString "put"), D.str (Str.ofString "drop")] = true := by decide +kernel
  have hl2 : ((l'.length + 1 : Nat) : Int) = ((cs.map colD).length : Nat) := by rw [hcs, ← hlen]; rfl
  rw [if_neg (by simp), if_neg (by rw [hput]; simp), if_pos (by decide +kernel), if_neg (by rw [hl2]; simp)]
  have hcut : cutD (k :: l') none (some 1) = [k] := by
    have := cutD_to (ds := k :: l') (n := 1)
    simpa using this
  rw [hcut]
  have hne : deq 60 (.tup [k]) (.tup [.non]) = some false := by
    rcases hkd with ⟨j, rfl⟩ | ⟨x, rfl⟩ <;> rfl
  refine wp_eqG.mpr ⟨_, rfl, _, rfl, ?_, ?_, ?_, false, hne, ?_⟩
  · rcases hkd with ⟨j, rfl⟩ | ⟨x, rfl⟩ <;> rfl
  · rfl
  · rcases hkd with ⟨j, rfl⟩ | ⟨x, rfl⟩ <;> rfl
  simp only [ev0, ev1, ev2, ev3, ev4, ev5, ev6, ev7, ev8, ev9, wp_ix_refC, wp_setItE, List.map_cons, List.map_nil, List.replicate, List.cons_append, List.nil_append, List.length_cons, List.length_nil, List.set_cons_succ, List.set_cons_zero, List.getElem?_cons_zero, List.getElem?_cons_succ, Option.map_some, Option.bind_some, List.all_cons, List.all_nil, List.isEmpty_nil, List.isEmpty_cons, eq_self, if_true, if_false, ite_true, ite_false, Option.some.injEq, exists_eq_left', exists_eq_left, Nat.reduceAdd, Nat.reduceLT, Nat.reduceLeDiff, Int.reduceLE, Int.reduceLT, Int.reduceNeg, Int.reducePow, Int.reduceToNat]
  refine wp_zipC ⟨_, _, rfl, rfl, rfl, ?_⟩
  simp only [ev0, ev1, ev2, ev3, ev4, ev5, ev6, ev7, ev8, ev9, wp_ix_refC, wp_setItE, List.map_cons, List.map_nil, List.replicate, List.cons_append, List.nil_append, List.length_cons, List.length_nil, List.set_cons_succ, List.set_cons_zero, List.getElem?_cons_zero, List.getElem?_cons_succ, Option.map_some, Option.bind_some, List.all_cons, List.all_nil, List.isEmpty_nil, List.isEmpty_cons, eq_self, if_true, if_false, ite_true, ite_false, Option.some.injEq, exists_eq_left', exists_eq_left, Nat.reduceAdd, Nat.reduceLT, Nat.reduceLeDiff, Int.reduceLE, Int.reduceLT, Int.reduceNeg, Int.reducePow, Int.reduceToNat]
  refine wp_compL_fm (fun _ => true) (fun _ => .bl true) (fun _ => wat_nil _ _) (fun d hd => ?_) ?_
  · obtain ⟨c, w, rfl, hw⟩ := zip_fit hr.fit hd
    obtain ⟨cn, b⟩ := c
    refine ⟨[some (.d (.tup (ts.map fun t => .tup [.str t.1, .tup (t.2.map colD)]))), some (.d (.ref m)), some (.d (.tup [.str "put", .str nm, .tup (k :: l')])), some (.d (.int i)), none, some (.d (.tup (k :: l'))), some (.d (.tup (cs.map colD))), none, some (.d w), some (.d (.str cn)), some (.d (.str (kindS b)))], rfl, ?_⟩
    simp only [ev0, ev1, ev2, ev3, ev4, ev5, ev6, ev7, ev8, ev9, wp_ix_refC, wp_setItE, List.map_cons, List.map_nil, List.replicate, List.cons_append, List.nil_append, List.length_cons, List.length_nil, List.set_cons_succ, List.set_cons_zero, List.getElem?_cons_zero, List.getElem?_cons_succ, Option.map_some, Option.bind_some, List.all_cons, List.all_nil, List.isEmpty_nil, List.isEmpty_cons, eq_self, if_true, if_false, ite_true, ite_false, Option.some.injEq, exists_eq_left', exists_eq_left, Nat.reduceAdd, Nat.reduceLT, Nat.reduceLeDiff, Int.reduceLE, Int.reduceLT, Int.reduceNeg, Int.reducePow, Int.reduceToNat]
    obtain ⟨f1, f2⟩ := FitW.ok hw
    refine (lfits_ok f2).mono ?_
    rintro r S2 ⟨rfl, rfl⟩
    rw [f1]
    first | rfl | exact ⟨rfl, rfl⟩
  · rw [List.filter_eq_self.mpr fun _ _ => rfl]
    refine ⟨_, blsOf_map (fun _ => true) _, ?_⟩
    rw [if_neg (by simp)]
    have hat2 : atD (T.map D.lst) (i : Int) = some (.lst rows) := by rw [atD_ofNat, List.getElem?_map, hT]; rfl
    simp only [ev0, ev1, ev2, ev3, ev4, ev5, ev6, ev7, ev8, ev9, wp_ix_refC, wp_setItE, List.map_cons, List.map_nil, List.replicate, List.cons_append, List.nil_append, List.length_cons, List.length_nil, List.set_cons_succ, List.set_cons_zero, List.getElem?_cons_zero, List.getElem?_cons_succ, Option.map_some, Option.bind_some, List.all_cons, List.all_nil, List.isEmpty_nil, List.isEmpty_cons, eq_self, if_true, if_false, ite_true, ite_false, Option.some.injEq, exists_eq_left', exists_eq_left, Nat.reduceAdd, Nat.reduceLT, Nat.reduceLeDiff, Int.reduceLE, Int.reduceLT, Int.reduceNeg, Int.reducePow, Int.reduceToNat, hS, ixO_lst, hat2]
    refine wp_compL_fm (fun r => !eqS (key0 r) k) id (fun _ => wat_nil _ _) (fun d hd => ?_) ?_
    · obtain ⟨l2, rfl, hr2⟩ := hk.ok d hd
      obtain ⟨k2, l3, rfl, hk2⟩ := hr2.keyD
      refine ⟨_, gt_name.mpr ⟨by simp, rfl⟩, ?_⟩
      simp only [ev0, ev1, ev2, ev3, ev4, ev5, ev6, ev7, ev8, ev9, wp_ix_refC, wp_setItE, List.map_cons, List.map_nil, List.replicate, List.cons_append, List.nil_append, List.length_cons, List.length_nil, List.set_cons_succ, List.set_cons_zero, List.getElem?_cons_zero, List.getElem?_cons_succ, Option.map_some, Option.bind_some, List.all_cons, List.all_nil, List.isEmpty_nil, List.isEmpty_cons, eq_self, if_true, if_false, ite_true, ite_false, Option.some.injEq, exists_eq_left', exists_eq_left, Nat.reduceAdd, Nat.reduceLT, Nat.reduceLeDiff, Int.reduceLE, Int.reduceLT, Int.reduceNeg, Int.reducePow, Int.reduceToNat, wp_eq hk2.flat hkd.flat]
      refine ⟨rfl, ?_⟩
      split
      · rfl
      · trivial
    · simp only [ev0, ev1, ev2, ev3, ev4, ev5, ev6, ev7, ev8, ev9, wp_ix_refC, wp_setItE, List.map_cons, List.map_nil, List.replicate, List.cons_append, List.nil_append, List.length_cons, List.length_nil, List.set_cons_succ, List.set_cons_zero, List.getElem?_cons_zero, List.getElem?_cons_succ, Option.map_some, Option.bind_some, List.all_cons, List.all_nil, List.isEmpty_nil, List.isEmpty_cons, eq_self, if_true, if_false, ite_true, ite_false, Option.some.injEq, exists_eq_left', exists_eq_left, Nat.reduceAdd, Nat.reduceLT, Nat.reduceLeDiff, Int.reduceLE, Int.reduceLT, Int.reduceNeg, Int.reducePow, Int.reduceToNat]
      have hfl : (rows.filter fun r => !eqS (key0 r) k).length ≤ rows.length := List.length_filter_le _ _
      refine ⟨by rw [List.map_id]; omega, _, hS, i, ixN_nat (by rw [List.length_map]; exact (List.getElem?_eq_some_iff.mp hT).1), ?_⟩
      rw [List.map_id, List.map_set]
      rfl
end G

set_option Elab.async false
set_option linter.all false
set_option maxRecDepth 1000000
set_option maxHeartbeats 4000000
/- ev9 -/
namespace G
variable [Wld]
open PySem PySem.Spec PyProof.Rows L2
/-! ### a row dropped -/
theorem WorthD.flat {d : D} (h : WorthD d) : flat d = true := by rcases h with rfl | ⟨i, rfl⟩ | ⟨x, rfl⟩ <;> rfl
theorem WorthD.datB {d : D} (h : WorthD d) : datB d = true := by rcases h with rfl | ⟨i, rfl⟩ | ⟨x, rfl⟩ <;> rfl
theorem WorthD.same {d : D} (h : WorthD d) : eqS d d = true := by rcases h with rfl | ⟨i, rfl⟩ | ⟨x, rfl⟩ <;> simp [eqS]
theorem zf_some {n : Nat} : ∀ {xs ys : List D}, (∀ x ∈ xs, WorthD x) → ∃ b, zipF (deq n) xs ys = some b
  | [], _, _ => ⟨true, by unfold zipF; rfl⟩
  | _ :: _, [], _ => ⟨true, by unfold zipF; rfl⟩
  | x :: xs, y :: ys, h => by
    obtain ⟨b, hb⟩ := zf_some (n := n) (xs := xs) (ys := ys) fun z hz => h z (by simp [hz])
    refine ⟨eqS x y && b, ?_⟩
    unfold zipF
    rw [deq_flat (h x (by simp)).flat, hb]
theorem zf_same {n : Nat} : ∀ {xs : List D}, (∀ x ∈ xs, WorthD x) → zipF (deq n) xs xs = some true
  | [], _ => by unfold zipF; rfl
  | x :: xs, h => by
    unfold zipF
    rw [deq_flat (h x (by simp)).flat, zf_same fun z hz => h z (by simp [hz]), (h x (by simp)).same]; rfl
theorem deq_same' {n : Nat} {l : List D} (h : ∀ x ∈ l, WorthD x) : deq (n + 1) (.tup l) (.tup l) = some true := by
  unfold deq
  rw [zf_same h]
  simp
theorem deq_key {n : Nat} {k k2 : D} {l l2 : List D} (hk : KeyD k) (hk2 : KeyD k2) (h : ∀ x ∈ l, WorthD x) (hne : k ≠ k2) : deq (n + 1) (.tup (k :: l)) (.tup (k2 :: l2)) = some false := by
  obtain ⟨b, hb⟩ := zf_some (n := n) (xs := l) (ys := l2) h
  have e : eqS k k2 = false := by
    cases he : eqS k k2 with
    | false => rfl
    | true => exact (hne ((eqS_key hk hk2).mp he)).elim
  unfold deq zipF
  rw [deq_flat hk.flat, hb, e]
  simp
theorem RowOk.worth {cs : List (Str × Bool)} {l : List D} (h : RowOk cs l) : ∀ x ∈ l, WorthD x := by
  have go : ∀ {cs : List (Str × Bool)} {l : List D}, Paired (fun (c : Str × Bool) d => FitW c.2 d) cs l → ∀ x ∈ l, WorthD x := by
    intro cs l hp
    induction hp with
    | nil => intro x hx; cases hx
    | cons h1 _ ih =>
      intro x hx
      rcases List.mem_cons.mp hx with rfl | hx
      · exact h1.worth
      · exact ih x hx
  exact go h.fit
theorem filter_one {α β : Type} (f : α → β) (p : α → Bool) (k : β) : ∀ {l : List α}, (∀ x ∈ l, p x = true ↔ f x = k) → (l.map f).Nodup → k ∈ l.map f → ∃ x ∈ l, f x = k ∧ l.filter p = [x]
  | [], _, _, h => by simp at h
  | x :: l, hp, nd, h => by
    rw [List.map_cons, List.nodup_cons] at nd
    by_cases hx : f x = k
    · refine ⟨x, by simp, hx, ?_⟩
      rw [List.filter_cons_of_pos ((hp x (by simp)).mpr hx)]
      congr 1
      rw [List.filter_eq_nil_iff]
      intro y hy hpy
      exact nd.1 (by rw [hx, ← (hp y (by simp [hy])).mp hpy]; exact List.mem_map_of_mem hy)
    · have h' : k ∈ l.map f := by
        rw [List.map_cons] at h
        rcases List.mem_cons.mp h with h | h
        · exact (hx h.symm).elim
        · exact h
      obtain ⟨y, hy, h1, h2⟩ := filter_one f p k (fun z hz => hp z (by simp [hz])) nd.2 h'
      exact ⟨y, by simp [hy], h1, by rw [List.filter_cons_of_neg (fun z => hx ((hp x (by simp)).mp z)), h2]⟩
theorem key_at {cs : List (Str × Bool)} {rows : List D} (hk : TabOk cs rows) {k : D} (hkd : KeyD k) : ∀ r ∈ rows, eqS (key0 r) k = true ↔ key0 r = k := fun r hr => by
  obtain ⟨l, rfl, hrk⟩ := hk.ok r hr
  obtain ⟨k2, l', rfl, hk2⟩ := hrk.keyD
  exact eqS_key hk2 hkd
theorem nd_key {α β : Type} {f : α → β} : ∀ {l : List α}, (l.map f).Nodup → ∀ {a b : α}, a ∈ l → b ∈ l → f a = f b → a = b
  | [], _, _, _, h, _, _ => by cases h
  | x :: l, nd, a, b, ha, hb, e => by
    rw [List.map_cons, List.nodup_cons] at nd
    rcases List.mem_cons.mp ha with h1 | h1 <;> rcases List.mem_cons.mp hb with h2 | h2
    · rw [h1, h2]
    · exact (nd.1 (by rw [← h1, e]; exact List.mem_map_of_mem h2)).elim
    · exact (nd.1 (by rw [← h2, ← e]; exact List.mem_map_of_mem h1)).elim
    · exact nd_key nd.2 h1 h2 e
theorem datsB_of : ∀ {ds : List D}, (∀ x ∈ ds, datB x = true) → datsB ds = true
  | [], _ => rfl
  | d :: ds, h => by rw [datsB_cons, h d (by simp), datsB_of fun x hx => h x (by simp [hx])]; rfl
theorem RowOk.datB {cs : List (Str × Bool)} {l : List D} (h : RowOk cs l) : G.datB (.tup l) = true := by
  rw [datB_tup]
  exact datsB_of fun x hx => (h.worth x hx).datB
theorem drop_done {rows : List D} {ts : Lay} (hts : (ts.map (·.1)).Nodup) {i m : Nat} {nm : Str} {cs : List (Str × Bool)} (hi : ts[i]? = some (nm, cs)) {k : D} (hkd : KeyD k) (hmem : k ∈ rows.map key0) {T : List (List D)} (hT : T[i]? = some rows) (hk : TabOk cs rows) (hz : rows.length ≤ 900000) (hl : cs.length ≤ 900) {S : Sto} (hS : S[m]? = some (.lst (T.map D.lst))) :
    Fp f__law_change_done [.d (layD ts), .d (.ref m), .d (.tup [.str "drop", .str nm, k])] S fun r S' => r = .d (.bl true) ∧ S' = S.set m (.lst ((T.set i (dropT rows k)).map D.lst)) := by
  obtain ⟨r0, hr0, e0, hf2⟩ := filter_one key0 (fun r => eqS (key0 r) k) k (key_at hk hkd) hk.nd hmem
  obtain ⟨l0, rfl, hrow0⟩ := hk.ok _ hr0
  unfold f__law_change_done
  rw [fp_runF]
  simp only [ev0, ev1, ev2, ev3, ev4, ev5, ev6, ev7, ev8, ev9, wp_ix_refC, wp_setItE, List.map_cons, List.map_nil, List.replicate, List.cons_append, List.nil_append, List.length_cons, List.length_nil, List.set_cons_succ, List.set_cons_zero, List.getElem?_cons_zero, List.getElem?_cons_succ, Option.map_some, Option.bind_some, List.all_cons, List.all_nil, List.isEmpty_nil, List.isEmpty_cons, eq_self, if_true, if_false, ite_true, ite_false, Option.some.injEq, exists_eq_left', exists_eq_left, Nat.reduceAdd, Nat.reduceLT, Nat.reduceLeDiff, Int.reduceLE, Int.reduceLT, Int.reduceNeg, Int.reducePow, Int.reduceToNat, b__law_change_done, kd, isK]
  rw [if_neg (by decide)]
  refine (table_ok hts hi).mono ?_
  rintro r S1 ⟨rfl, rfl⟩
  have hlt : ¬ ((i : Int) < 0) := by omega
  have hat : atD (ts.map tabD) (i : Int) = some (tabD (nm, cs)) := by rw [atD_ofNat, List.getElem?_map, hi]; rfl
  have hin : inD (D.str (Str.ofString "drop")) [D.str (Str.ofString "put"), D.str (Str.ofString "drop")] = true := by decide +kernel
  have hat2 : atD (T.map D.lst) (i : Int) = some (.lst rows) := by rw [atD_ofNat, List.getElem?_map, hT]; rfl
  unfold layD tabD at *
  simp only [ev0, ev1, ev2, ev3, ev4, ev5, ev6, ev7, ev8, ev9, wp_ix_refC, wp_setItE, List.map_cons, List.map_nil, List.replicate, List.cons_append, List.nil_append, List.length_cons, List.length_nil, List.set_cons_succ, List.set_cons_zero, List.getElem?_cons_zero, List.getElem?_cons_succ, Option.map_some, Option.bind_some, List.all_cons, List.all_nil, List.isEmpty_nil, List.isEmpty_cons, eq_self, if_true, if_false, ite_true, ite_false, Option.some.injEq, exists_eq_left', exists_eq_left, Nat.reduceAdd, Nat.reduceLT, Nat.reduceLeDiff, Int.reduceLE, Int.reduceLT, Int.reduceNeg, Int.reducePow, Int.reduceToNat, kd, isK, hlt, hat]
  rw [if_neg (by simp), if_neg (by rw [hin]; simp), if_neg (by decide +kernel)]
  simp only [ev0, ev1, ev2, ev3, ev4, ev5, ev6, ev7, ev8, ev9, wp_ix_refC, wp_setItE, List.map_cons, List.map_nil, List.replicate, List.cons_append, List.nil_append, List.length_cons, List.length_nil, List.set_cons_succ, List.set_cons_zero, List.getElem?_cons_zero, List.getElem?_cons_succ, Option.map_some, Option.bind_some, List.all_cons, List.all_nil, List.isEmpty_nil, List.isEmpty_cons, eq_self, if_true, if_false, ite_true, ite_false, Option.some.injEq, exists_eq_left', exists_eq_left, Nat.reduceAdd, Nat.reduceLT, Nat.reduceLeDiff, Int.reduceLE, Int.reduceLT, Int.reduceNeg, Int.reducePow, Int.reduceToNat, hS, ixO_lst, hat2]
  refine wp_compL_fm (fun r => eqS (key0 r) k) id (fun _ => wat_nil _ _) (fun d hd => ?_) ?_
  · obtain ⟨l2, rfl, hr2⟩ := hk.ok d hd
    obtain ⟨k2, l3, rfl, hk2⟩ := hr2.keyD
    refine ⟨_, gt_name.mpr ⟨by simp, rfl⟩, ?_⟩
    rcases hkd with ⟨j, rfl⟩ | ⟨z, rfl⟩
    · simp only [ev0, ev1, ev2, ev3, ev4, ev5, ev6, ev7, ev8, ev9, wp_ix_refC, wp_setItE, List.map_cons, List.map_nil, List.replicate, List.cons_append, List.nil_append, List.length_cons, List.length_nil, List.set_cons_succ, List.set_cons_zero, List.getElem?_cons_zero, List.getElem?_cons_succ, Option.map_some, Option.bind_some, List.all_cons, List.all_nil, List.isEmpty_nil, List.isEmpty_cons, eq_self, if_true, if_false, ite_true, ite_false, Option.some.injEq, exists_eq_left', exists_eq_left, Nat.reduceAdd, Nat.reduceLT, Nat.reduceLeDiff, Int.reduceLE, Int.reduceLT, Int.reduceNeg, Int.reducePow, Int.reduceToNat, kd, isK, wp_eq hk2.flat (show flat (.int j) = true from rfl)]
      refine ⟨rfl, ?_⟩
      split
      · rfl
      · trivial
    · simp only [ev0, ev1, ev2, ev3, ev4, ev5, ev6, ev7, ev8, ev9, wp_ix_refC, wp_setItE, List.map_cons, List.map_nil, List.replicate, List.cons_append, List.nil_append, List.length_cons, List.length_nil, List.set_cons_succ, List.set_cons_zero, List.getElem?_cons_zero, List.getElem?_cons_succ, Option.map_some, Option.bind_some, List.all_cons, List.all_nil, List.isEmpty_nil, List.isEmpty_cons, eq_self, if_true, if_false, ite_true, ite_false, Option.some.injEq, exists_eq_left', exists_eq_left, Nat.reduceAdd, Nat.reduceLT, Nat.reduceLeDiff, Int.reduceLE, Int.reduceLT, Int.reduceNeg, Int.reducePow, Int.reduceToNat, kd, isK, wp_eq hk2.flat (show flat (.str z) = true from rfl)]
      refine ⟨rfl, ?_⟩
      split
      · rfl
      · trivial
  · rw [hf2]
    simp only [ev0, ev1, ev2, ev3, ev4, ev5, ev6, ev7, ev8, ev9, wp_ix_refC, wp_setItE, List.map_cons, List.map_nil, List.replicate, List.cons_append, List.nil_append, List.length_cons, List.length_nil, List.set_cons_succ, List.set_cons_zero, List.getElem?_cons_zero, List.getElem?_cons_succ, Option.map_some, Option.bind_some, List.all_cons, List.all_nil, List.isEmpty_nil, List.isEmpty_cons, eq_self, if_true, if_false, ite_true, ite_false, Option.some.injEq, exists_eq_left', exists_eq_left, Nat.reduceAdd, Nat.reduceLT, Nat.reduceLeDiff, Int.reduceLE, Int.reduceLT, Int.reduceNeg, Int.reducePow, Int.reduceToNat, hS, ixO_lst, hat2]
    refine wp_compL_fm (fun r => !eqS (key0 r) k) id (fun _ => wat_nil _ _) (fun d hd => ?_) ?_
    · have hd0 := hd
      obtain ⟨l2, rfl, hr2⟩ := hk.ok d hd
      obtain ⟨k2, l3, rfl, hk2⟩ := hr2.keyD
      obtain ⟨k0, l0', rfl, hk0⟩ := hrow0.keyD
      obtain rfl : k0 = k := e0
      have hb : inF (.tup (k2 :: l3)) [.tup (k0 :: l0')] = some (eqS k2 k0) := by
        unfold inF inF
        by_cases h : k2 = k0
        · have e : D.tup (k2 :: l3) = D.tup (k0 :: l0') := nd_key hk.nd hd0 hr0 h
          rw [e, deq_same' hrow0.worth, (eqS_key hk2 hk0).mpr h]
          rfl
        · rw [deq_key hk0 hk2 (fun x hx => hrow0.worth x (by simp [hx])) (fun z => h z.symm)]
          have e : eqS k2 k0 = false := by
            cases he : eqS k2 k0 with
            | false => rfl
            | true => exact (h ((eqS_key hk2 hk0).mp he)).elim
          rw [e]; rfl
      refine ⟨_, gt_name.mpr ⟨by simp, rfl⟩, ?_⟩
      simp only [ev0, ev1, ev2, ev3, ev4, ev5, ev6, ev7, ev8, ev9, wp_ix_refC, wp_setItE, List.map_cons, List.map_nil, List.replicate, List.cons_append, List.nil_append, List.length_cons, List.length_nil, List.set_cons_succ, List.set_cons_zero, List.getElem?_cons_zero, List.getElem?_cons_succ, Option.map_some, Option.bind_some, List.all_cons, List.all_nil, List.isEmpty_nil, List.isEmpty_cons, eq_self, if_true, if_false, ite_true, ite_false, Option.some.injEq, exists_eq_left', exists_eq_left, Nat.reduceAdd, Nat.reduceLT, Nat.reduceLeDiff, Int.reduceLE, Int.reduceLT, Int.reduceNeg, Int.reducePow, Int.reduceToNat, hr2.datB]
      refine ⟨by rw [id, hrow0.datB]; rfl, _, hb, rfl, ?_⟩
      split
      · rfl
      · trivial
    · simp only [ev0, ev1, ev2, ev3, ev4, ev5, ev6, ev7, ev8, ev9, wp_ix_refC, wp_setItE, List.map_cons, List.map_nil, List.replicate, List.cons_append, List.nil_append, List.length_cons, List.length_nil, List.set_cons_succ, List.set_cons_zero, List.getElem?_cons_zero, List.getElem?_cons_succ, Option.map_some, Option.bind_some, List.all_cons, List.all_nil, List.isEmpty_nil, List.isEmpty_cons, eq_self, if_true, if_false, ite_true, ite_false, Option.some.injEq, exists_eq_left', exists_eq_left, Nat.reduceAdd, Nat.reduceLT, Nat.reduceLeDiff, Int.reduceLE, Int.reduceLT, Int.reduceNeg, Int.reducePow, Int.reduceToNat, hS, ixO_lst, hat2]
      refine ⟨i, ixN_nat (by rw [List.length_map]; exact (List.getElem?_eq_some_iff.mp hT).1), ?_⟩
      refine wp_eqG.mpr ⟨.lst [.tup l0], rfl, _, rfl, ?_, rfl, rfl, false, ?_, ?_⟩
      · rw [datB_lst, datsB_cons, hrow0.datB]; rfl
      · unfold deq; rfl
      · simp only [ev0, ev1, ev2, ev3, ev4, ev5, ev6, ev7, ev8, ev9, wp_ix_refC, wp_setItE, List.map_cons, List.map_nil, List.replicate, List.cons_append, List.nil_append, List.length_cons, List.length_nil, List.set_cons_succ, List.set_cons_zero, List.getElem?_cons_zero, List.getElem?_cons_succ, Option.map_some, Option.bind_some, List.all_cons, List.all_nil, List.isEmpty_nil, List.isEmpty_cons, eq_self, if_true, if_false, ite_true, ite_false, Option.some.injEq, exists_eq_left', exists_eq_left, Nat.reduceAdd, Nat.reduceLT, Nat.reduceLeDiff, Int.reduceLE, Int.reduceLT, Int.reduceNeg, Int.reducePow, Int.reduceToNat]
        rw [List.map_id, List.map_set]
        rfl
end G

set_option Elab.async false
set_option linter.all false
set_option maxRecDepth 1000000
set_option maxHeartbeats 4000000
/- ev9 -/
namespace G
variable [Wld]
open PySem PySem.Spec PyProof.Rows L2
/-! ### dealings, as the law's own lists do them -/
abbrev Deed := Nat × (List D ⊕ D)
def nmOf (ts : Lay) (i : Nat) : Str := (ts.map (·.1)).getD i ""
def deedD (ts : Lay) : Deed → D
  | (i, .inl row) => .tup [.str "put", .str (nmOf ts i), .tup row]
  | (i, .inr k) => .tup [.str "drop", .str (nmOf ts i), k]
def stepT (T : List (List D)) : Deed → List (List D)
  | (i, .inl row) => T.set i (putT (T.getD i []) row)
  | (i, .inr k) => T.set i (dropT (T.getD i []) k)
def DeedOk (ts : Lay) (T : List (List D)) : Deed → Prop
  | (i, .inl row) => ∃ t, ts[i]? = some t ∧ RowOk t.2 row
  | (i, .inr k) => i < ts.length ∧ KeyD k ∧ k ∈ (T.getD i []).map key0
def DeedsOk (ts : Lay) : List (List D) → List Deed → Prop
  | _, [] => True
  | T, p :: ps => DeedOk ts T p ∧ DeedsOk ts (stepT T p) ps
structure TabsOk (ts : Lay) (B : Nat) (T : List (List D)) : Prop where
  len : T.length = ts.length
  ok : ∀ (i : Nat) (t : Str × List (Str × Bool)) (rows : List D), ts[i]? = some t → T[i]? = some rows → TabOk t.2 rows ∧ rows.length ≤ B
theorem filter_nd {α β : Type} {f : α → β} {p : α → Bool} : ∀ {l : List α}, (l.map f).Nodup → ((l.filter p).map f).Nodup := fun {l} h => h.sublist ((List.filter_sublist (l := l)).map f)
theorem putT_ok {cs : List (Str × Bool)} {rows : List D} (h : TabOk cs rows) {row : List D} (hr : RowOk cs row) : TabOk cs (putT rows row) := by
  obtain ⟨k, l', rfl, hk⟩ := hr.keyD
  refine ⟨fun r hm => ?_, ?_⟩
  · rcases List.mem_append.mp hm with hm | hm
    · exact h.ok r ((List.mem_filter.mp hm).1)
    · cases List.mem_singleton.mp hm; exact ⟨_, rfl, hr⟩
  · unfold putT
    rw [List.map_append, List.nodup_append]
    refine ⟨filter_nd h.nd, by simp, ?_⟩
    rintro a ha b hb rfl
    obtain ⟨r, hr2, rfl⟩ := List.mem_map.mp ha
    obtain ⟨h1, h2⟩ := List.mem_filter.mp hr2
    have hb' : key0 r = k := by simpa [key0] using hb
    have := (key_at h hk r h1).mpr hb'
    have h2' : (!eqS (key0 r) k) = true := h2
    rw [this] at h2'
    cases h2'
theorem dropT_ok {cs : List (Str × Bool)} {rows : List D} (h : TabOk cs rows) (k : D) : TabOk cs (dropT rows k) :=
  ⟨fun r hm => h.ok r ((List.mem_filter.mp hm).1), filter_nd h.nd⟩
theorem putT_len (rows : List D) (row : List D) : (putT rows row).length ≤ rows.length + 1 := by
  unfold putT
  rw [List.length_append]
  have := List.length_filter_le (fun r => !eqS (key0 r) (key0 (.tup row))) rows
  simp; omega
theorem dropT_len (rows : List D) (k : D) : (dropT rows k).length ≤ rows.length := List.length_filter_le _ _
theorem step_ok {ts : Lay} {B : Nat} {T : List (List D)} {p : Deed} (h : TabsOk ts B T) (hp : DeedOk ts T p) : TabsOk ts (B + 1) (stepT T p) := by
  obtain ⟨i, row | k⟩ := p
  · obtain ⟨t, ht, hr⟩ := hp
    refine ⟨by show (T.set _ _).length = _; simp [h.len], fun j u rows hu hj => ?_⟩
    have hj' : (T.set i (putT (T.getD i []) row))[j]? = some rows := hj
    rw [List.getElem?_set] at hj'
    split at hj'
    · rename_i e
      subst e
      split at hj'
      · cases hj'
        rename_i hlt
        rw [hu] at ht; cases ht
        have hg : T[i]? = some (T.getD i []) := by simp [hlt]
        obtain ⟨h1, h2⟩ := h.ok i _ _ hu hg
        exact ⟨putT_ok h1 hr, Nat.le_trans (putT_len _ _) (by omega)⟩
      · cases hj'
    · obtain ⟨h1, h2⟩ := h.ok j u rows hu hj'
      exact ⟨h1, by omega⟩
  · refine ⟨by show (T.set _ _).length = _; simp [h.len], fun j u rows hu hj => ?_⟩
    have hj' : (T.set i (dropT (T.getD i []) k))[j]? = some rows := hj
    rw [List.getElem?_set] at hj'
    split at hj'
    · rename_i e
      subst e
      split at hj'
      · cases hj'
        rename_i hlt
        have hg : T[i]? = some (T.getD i []) := by simp [hlt]
        obtain ⟨h1, h2⟩ := h.ok i _ _ hu hg
        exact ⟨dropT_ok h1 k, Nat.le_trans (dropT_len _ _) (by omega)⟩
      · cases hj'
    · obtain ⟨h1, h2⟩ := h.ok j u rows hu hj'
      exact ⟨h1, by omega⟩
theorem change_ok {ts : Lay} (g : GoodLay ts) {B : Nat} {T : List (List D)} {p : Deed} (h : TabsOk ts B T) (hB : B ≤ 900000) (hp : DeedOk ts T p) {m : Nat} {S : Sto} (hS : S[m]? = some (.lst (T.map D.lst))) :
    Fp f__law_change_done [.d (layD ts), .d (.ref m), .d (deedD ts p)] S fun r S' => r = .d (.bl true) ∧ S' = S.set m (.lst ((stepT T p).map D.lst)) := by
  have nm : ∀ {i : Nat} {t : Str × List (Str × Bool)}, ts[i]? = some t → nmOf ts i = t.1 := fun {i t} ht => by
    unfold nmOf
    rw [List.getD_eq_getElem?_getD, List.getElem?_map, ht]; rfl
  obtain ⟨i, row | k⟩ := p
  · obtain ⟨t, ht, hr⟩ := hp
    obtain ⟨tn, cs⟩ := t
    have hlt : i < T.length := by rw [h.len]; exact (List.getElem?_eq_some_iff.mp ht).1
    have hg : T[i]? = some (T.getD i []) := by simp [hlt]
    obtain ⟨h1, h2⟩ := h.ok i _ _ ht hg
    show Fp f__law_change_done [.d (layD ts), .d (.ref m), .d (.tup [.str "put", .str (nmOf ts i), .tup row])] S _
    rw [nm ht]
    exact put_done g.nd ht hr hg h1 (by omega) (by have := (g.cl _ (List.mem_of_getElem? ht)).2; show cs.length ≤ 900; exact Nat.le_trans this (by omega)) hS
  · obtain ⟨hi, hk, hm⟩ := hp
    have ht : ts[i]? = some ts[i] := by simp [hi]
    have hlt : i < T.length := by rw [h.len]; exact hi
    have hg : T[i]? = some (T.getD i []) := by simp [hlt]
    obtain ⟨h1, h2⟩ := h.ok i _ _ ht hg
    show Fp f__law_change_done [.d (layD ts), .d (.ref m), .d (.tup [.str "drop", .str (nmOf ts i), k])] S _
    rw [nm ht]
    exact drop_done (cs := ts[i].2) g.nd ht hk hm hg h1 (by omega) (by have := (g.cl _ (List.mem_of_getElem? ht)).2; exact Nat.le_trans this (by omega)) hS
theorem wp_compL_fS {e : En} {S : Sto} {vs : List Nat} {t : Tgt} {c : M Bool} {elt : M R} {ws : List (R × List D)} {all : List D} {q : List D → En → Sto → Prop} (p : D → Bool) (f : D → D) (hw : wat ws e S = true)
    (hs : ∀ d ∈ all, ∃ e1, t d e = some e1 ∧ Wp c e1 S fun b e2 S2 => b = p d ∧ if p d = true then Wp elt e2 S2 fun r e3 S3 => r = .d (f d) ∧ wipeE e3 vs = e ∧ S3 = S else wipeE e2 vs = e ∧ S2 = S)
    (hd : q ((all.filter p).map f) e S) : Wp (compL vs t c elt ws all) e S q := by
  refine wp_compLE (fun pre post acc e' S' => e' = e ∧ S' = S ∧ acc = (pre.filter p).map f) (fun _ _ _ _ _ h => by obtain ⟨rfl, rfl, _⟩ := h; exact hw) ⟨rfl, rfl, rfl⟩ ?_ ?_
  · rintro pre d post acc e' S' hp ⟨rfl, rfl, rfl⟩
    obtain ⟨e1, h1, h⟩ := hs d (by simp [hp])
    refine ⟨e1, h1, h.mono ?_⟩
    rintro b e2 S2 ⟨rfl, h2⟩
    by_cases hb : p d = true
    · rw [if_pos hb] at h2 ⊢
      refine h2.mono ?_
      rintro r e3 S3 ⟨rfl, h3, rfl⟩
      exact ⟨_, rfl, h3, rfl, by rw [List.filter_append, List.map_append, List.filter_cons_of_pos hb]; rfl⟩
    · rw [if_neg hb] at h2 ⊢
      exact ⟨h2.1, h2.2, by rw [List.filter_append, List.filter_cons_of_neg hb]; simp⟩
  · rintro acc e' S' ⟨rfl, rfl, rfl⟩
    exact hd
theorem rows_of {cs : List (Str × Bool)} {rows : List D} (h : TabOk cs rows) (hl : cs.length ≤ 1000) : Rows rows := fun d hd => by
  obtain ⟨l, rfl, hr⟩ := h.ok d hd
  obtain ⟨k, l', rfl, hk⟩ := hr.keyD
  exact ⟨_, rfl, by simp, by rw [fits_len hr]; exact hl, hr.worth⟩
theorem TabsOk.rows {ts : Lay} (g : GoodLay ts) {B : Nat} {T : List (List D)} (h : TabsOk ts B T) {rows : List D} (hr : rows ∈ T) : Rows rows := by
  obtain ⟨i, hi⟩ := List.getElem?_of_mem hr
  have hlt : i < ts.length := by rw [← h.len]; exact (List.getElem?_eq_some_iff.mp hi).1
  have ht : ts[i]? = some ts[i] := by simp [hlt]
  exact rows_of (h.ok i _ _ ht hi).1 (Nat.le_trans (g.cl _ (List.mem_of_getElem? ht)).2 (by omega))
def storeD (T : List (List D)) : D := .tup (T.map D.tup)
theorem due_ok {ts : Lay} (g : GoodLay ts) {B : Nat} {T : List (List D)} (h : TabsOk ts B T) {ps : List Deed} (hB : B + ps.length ≤ 900000) (hd : DeedsOk ts T ps) {S : Sto} :
    Fp f__law_due [.d (layD ts), .d (storeD T), .d (.tup (ps.map (deedD ts)))] S fun r S' => r = .d (.tup [storeD ((ps.foldl stepT T).map srtR), .non]) ∧ ∃ o, S' = S ++ [o] := by
  unfold f__law_due
  rw [fp_runF]
  simp only [ev0, ev1, ev2, ev3, ev4, ev5, ev6, ev7, ev8, ev9, wp_ix_refC, wp_setItE, List.map_cons, List.map_nil, List.replicate, List.cons_append, List.nil_append, List.length_cons, List.length_nil, List.set_cons_succ, List.set_cons_zero, List.getElem?_cons_zero, List.getElem?_cons_succ, Option.map_some, Option.bind_some, List.all_cons, List.all_nil, List.isEmpty_nil, List.isEmpty_cons, eq_self, if_true, if_false, ite_true, ite_false, Option.some.injEq, exists_eq_left', exists_eq_left, Nat.reduceAdd, Nat.reduceLT, Nat.reduceLeDiff, Int.reduceLE, Int.reduceLT, Int.reduceNeg, Int.reducePow, Int.reduceToNat, b__law_due, kd, isK]
  unfold storeD
  simp only [ev0, ev1, ev2, ev3, ev4, ev5, ev6, ev7, ev8, ev9, wp_ix_refC, wp_setItE, List.map_cons, List.map_nil, List.replicate, List.cons_append, List.nil_append, List.length_cons, List.length_nil, List.set_cons_succ, List.set_cons_zero, List.getElem?_cons_zero, List.getElem?_cons_succ, Option.map_some, Option.bind_some, List.all_cons, List.all_nil, List.isEmpty_nil, List.isEmpty_cons, eq_self, if_true, if_false, ite_true, ite_false, Option.some.injEq, exists_eq_left', exists_eq_left, Nat.reduceAdd, Nat.reduceLT, Nat.reduceLeDiff, Int.reduceLE, Int.reduceLT, Int.reduceNeg, Int.reducePow, Int.reduceToNat]
  refine wp_compL_fm (fun _ => true) (fun d => match d with | .tup rows => .lst rows | d => d) (fun _ => wat_nil _ _) (fun d hd => ?_) ?_
  · obtain ⟨rows, hr, rfl⟩ := List.mem_map.mp hd
    refine ⟨_, gt_name.mpr ⟨by simp, rfl⟩, ?_⟩
    simp only [ev0, ev1, ev2, ev3, ev4, ev5, ev6, ev7, ev8, ev9, wp_ix_refC, wp_setItE, List.map_cons, List.map_nil, List.replicate, List.cons_append, List.nil_append, List.length_cons, List.length_nil, List.set_cons_succ, List.set_cons_zero, List.getElem?_cons_zero, List.getElem?_cons_succ, Option.map_some, Option.bind_some, List.all_cons, List.all_nil, List.isEmpty_nil, List.isEmpty_cons, eq_self, if_true, if_false, ite_true, ite_false, Option.some.injEq, exists_eq_left', exists_eq_left, Nat.reduceAdd, Nat.reduceLT, Nat.reduceLeDiff, Int.reduceLE, Int.reduceLT, Int.reduceNeg, Int.reducePow, Int.reduceToNat]
  · rw [List.filter_eq_self.mpr fun _ _ => rfl]
    simp only [ev0, ev1, ev2, ev3, ev4, ev5, ev6, ev7, ev8, ev9, wp_ix_refC, wp_setItE, List.map_cons, List.map_nil, List.replicate, List.cons_append, List.nil_append, List.length_cons, List.length_nil, List.set_cons_succ, List.set_cons_zero, List.getElem?_cons_zero, List.getElem?_cons_succ, Option.map_some, Option.bind_some, List.all_cons, List.all_nil, List.isEmpty_nil, List.isEmpty_cons, eq_self, if_true, if_false, ite_true, ite_false, Option.some.injEq, exists_eq_left', exists_eq_left, Nat.reduceAdd, Nat.reduceLT, Nat.reduceLeDiff, Int.reduceLE, Int.reduceLT, Int.reduceNeg, Int.reducePow, Int.reduceToNat]
    rw [List.map_map, show ((fun d => match d with | D.tup rows => D.lst rows | d => d) ∘ D.tup) = D.lst from rfl]
    have hat : ∀ o : O, (S ++ [o])[S.length]? = some o := fun o => by simp
    have hset : ∀ o o' : O, (S ++ [o]).set S.length o' = S ++ [o'] := fun o o' => by simp
    refine wp_forL' (fun pre post e S1 => ∃ qpre qs, ps = qpre ++ qs ∧ pre.length = qpre.length ∧ TabsOk ts (B + qpre.length) (qpre.foldl stepT T) ∧ DeedsOk ts (qpre.foldl stepT T) qs ∧ S1 = S ++ [.lst ((qpre.foldl stepT T).map D.lst)] ∧ ∃ a b, e = [some (.d (layD ts)), some (.d (.tup (T.map D.tup))), some (.d (.tup (ps.map (deedD ts)))), some (.d (.ref S.length)), a, b, none, none])
      ⟨[], ps, rfl, rfl, h, hd, rfl, none, none, rfl⟩ ?_ ?_
    · rintro pre d post e S1 hp ⟨qpre, qs, hq, hlq, hT, hD, rfl, a, b, rfl⟩
      obtain ⟨q, hq2, rfl, hlt⟩ := enum_at hp
      cases qs with
      | nil => rw [hq, List.append_nil] at hlt; omega
      | cons p qs =>
        have hpq : p = q := by
          rw [hq, hlq] at hq2
          simpa using hq2
        subst hpq
        obtain ⟨hd1, hd2⟩ := hD
        have hB2 : qpre.length + 1 ≤ ps.length := by rw [hq]; simp
        refine ⟨[some (.d (layD ts)), some (.d (.tup (T.map D.tup))), some (.d (.tup (ps.map (deedD ts)))), some (.d (.ref S.length)), some (.d (.int (pre.length : Nat))), some (.d (deedD ts p)), none, none], rfl, ?_⟩
        simp only [ev0, ev1, ev2, ev3, ev4, ev5, ev6, ev7, ev8, ev9, wp_ix_refC, wp_setItE, List.map_cons, List.map_nil, List.replicate, List.cons_append, List.nil_append, List.length_cons, List.length_nil, List.set_cons_succ, List.set_cons_zero, List.getElem?_cons_zero, List.getElem?_cons_succ, Option.map_some, Option.bind_some, List.all_cons, List.all_nil, List.isEmpty_nil, List.isEmpty_cons, eq_self, if_true, if_false, ite_true, ite_false, Option.some.injEq, exists_eq_left', exists_eq_left, Nat.reduceAdd, Nat.reduceLT, Nat.reduceLeDiff, Int.reduceLE, Int.reduceLT, Int.reduceNeg, Int.reducePow, Int.reduceToNat]
        refine (change_ok g hT (by omega) hd1 (hat _)).mono ?_
        rintro r S2 ⟨rfl, rfl⟩
        rw [hset]
        simp only [ev0, ev1, ev2, ev3, ev4, ev5, ev6, ev7, ev8, ev9, wp_ix_refC, wp_setItE, List.map_cons, List.map_nil, List.replicate, List.cons_append, List.nil_append, List.length_cons, List.length_nil, List.set_cons_succ, List.set_cons_zero, List.getElem?_cons_zero, List.getElem?_cons_succ, Option.map_some, Option.bind_some, List.all_cons, List.all_nil, List.isEmpty_nil, List.isEmpty_cons, eq_self, if_true, if_false, ite_true, ite_false, Option.some.injEq, exists_eq_left', exists_eq_left, Nat.reduceAdd, Nat.reduceLT, Nat.reduceLeDiff, Int.reduceLE, Int.reduceLT, Int.reduceNeg, Int.reducePow, Int.reduceToNat]
        have ef : (qpre ++ [p]).foldl stepT T = stepT (qpre.foldl stepT T) p := by rw [List.foldl_append]; rfl
        refine ⟨qpre ++ [p], qs, by rw [hq]; simp, by simp [hlq], ?_, ?_, ?_, _, _, rfl⟩
        · rw [ef, List.length_append]; exact step_ok hT hd1
        · rw [ef]; exact hd2
        · rw [ef]
    · rintro e S1 ⟨qpre, qs, hq, hlq, hT, hD, rfl, a, b, rfl⟩
      rw [enum_len, List.length_map] at hlq
      have hqs : qs = [] := by
        have := congrArg List.length hq
        rw [List.length_append] at this
        exact List.length_eq_zero_iff.mp (by omega)
      subst hqs
      rw [List.append_nil] at hq
      subst hq
      simp only [ev0, ev1, ev2, ev3, ev4, ev5, ev6, ev7, ev8, ev9, wp_ix_refC, wp_setItE, List.map_cons, List.map_nil, List.replicate, List.cons_append, List.nil_append, List.length_cons, List.length_nil, List.set_cons_succ, List.set_cons_zero, List.getElem?_cons_zero, List.getElem?_cons_succ, Option.map_some, Option.bind_some, List.all_cons, List.all_nil, List.isEmpty_nil, List.isEmpty_cons, eq_self, if_true, if_false, ite_true, ite_false, Option.some.injEq, exists_eq_left', exists_eq_left, Nat.reduceAdd, Nat.reduceLT, Nat.reduceLeDiff, Int.reduceLE, Int.reduceLT, Int.reduceNeg, Int.reducePow, Int.reduceToNat, hat, seqL_lst]
      refine wp_compL_fS (fun _ => true) (fun d => match d with | .lst rows => .tup (srtR rows) | d => d) (wat_one (hat _)) (fun d hdm => ?_) ?_
      · obtain ⟨rows, hr, rfl⟩ := List.mem_map.mp hdm
        refine ⟨_, gt_name.mpr ⟨by simp, rfl⟩, ?_⟩
        simp only [ev0, ev1, ev2, ev3, ev4, ev5, ev6, ev7, ev8, ev9, wp_ix_refC, wp_setItE, List.map_cons, List.map_nil, List.replicate, List.cons_append, List.nil_append, List.length_cons, List.length_nil, List.set_cons_succ, List.set_cons_zero, List.getElem?_cons_zero, List.getElem?_cons_succ, Option.map_some, Option.bind_some, List.all_cons, List.all_nil, List.isEmpty_nil, List.isEmpty_cons, eq_self, if_true, if_false, ite_true, ite_false, Option.some.injEq, exists_eq_left', exists_eq_left, Nat.reduceAdd, Nat.reduceLT, Nat.reduceLeDiff, Int.reduceLE, Int.reduceLT, Int.reduceNeg, Int.reducePow, Int.reduceToNat]
        refine (rises_ok (hT.rows g hr) (.inl rfl)).mono ?_
        rintro r S2 ⟨rfl, rfl⟩
        first | rfl | exact ⟨rfl, rfl⟩ | exact ⟨rfl, rfl, rfl⟩
      · rw [List.filter_eq_self.mpr fun _ _ => rfl, List.map_map, List.map_map]
        exact ⟨rfl, _, rfl⟩
end G

set_option Elab.async false
set_option linter.all false
set_option maxRecDepth 1000000
set_option maxHeartbeats 4000000
/- ev9 -/
namespace G
variable [Wld]
open PySem PySem.Spec PyProof.Rows L2
/-! ### the program's side: tables by their names, rows that fit -/
theorem inD_mem {x : Str} {xs : List Str} : inD (.str x) (xs.map D.str) = decide (x ∈ xs) := by
  unfold inD
  induction xs with
  | nil => simp
  | cons y xs ih =>
    rw [List.map_cons, List.any_cons, ih]
    show (y == x || _) = _
    by_cases h : y = x
    · subst h; simp
    · have h2 : ¬ x = y := fun z => h z.symm
      simp [h, h2]
theorem idx_at : ∀ {xs : List Str} {i : Nat} {x : Str}, xs.Nodup → xs[i]? = some x → idxD (.str x) (xs.map D.str) = some i
  | [], _, _, _, h => by simp at h
  | y :: xs, 0, x, _, h => by
    have e : y = x := by simpa using h
    subst e
    rw [List.map_cons]
    unfold idxD
    rw [List.findIdx?_cons, show eqS (D.str y) (D.str y) = (y == y) from rfl]
    simp
  | y :: xs, i + 1, x, nd, h => by
    rw [List.nodup_cons] at nd
    have h' : xs[i]? = some x := by simpa using h
    have hne : y ≠ x := fun z => nd.1 (z ▸ List.mem_of_getElem? h')
    have := idx_at nd.2 h'
    unfold idxD at this
    rw [List.map_cons]
    unfold idxD
    rw [List.findIdx?_cons, show eqS (D.str y) (D.str x) = (y == x) from rfl, this]
    simp [hne]
/-! ### the program's dicts -/
def kk (r : D) : Key := (keyOf (key0 r)).getD (.inl 0)
def prD (rs : List D) : List (Key × D) := rs.map fun r => (kk r, r)
theorem KeyD.some {k : D} (h : KeyD k) : ∃ x, keyOf k = some x := by rcases h with ⟨i, rfl⟩ | ⟨x, rfl⟩ <;> exact ⟨_, rfl⟩
theorem keyOf_inj {a b : D} (ha : KeyD a) (hb : KeyD b) {x : Key} (h1 : keyOf a = some x) (h2 : keyOf b = some x) : a = b := by
  rcases ha with ⟨i, rfl⟩ | ⟨z, rfl⟩ <;> rcases hb with ⟨j, rfl⟩ | ⟨y, rfl⟩ <;> cases h1 <;> cases h2 <;> rfl
theorem kk_of {cs : List (Str × Bool)} {rows : List D} (h : TabOk cs rows) {r : D} (hr : r ∈ rows) : keyOf (key0 r) = some (kk r) ∧ KeyD (key0 r) := by
  obtain ⟨l, rfl, hrow⟩ := h.ok r hr
  obtain ⟨k, l', rfl, hk⟩ := hrow.keyD
  obtain ⟨x, hx⟩ := hk.some
  refine ⟨?_, hk⟩
  have hx' : keyOf (key0 (.tup (k :: l'))) = some x := hx
  unfold kk
  rw [hx']; rfl
theorem any_prD (rs : List D) (x : Key) : ((prD rs).any fun kv => decide (kv.1 = x)) = rs.any fun r => decide (kk r = x) := by
  unfold prD
  rw [List.any_map]; rfl
/-- a row put in rows without its key, or in its place -/
def putR (rs : List D) (row : D) : List D := if (rs.any fun r => decide (kk r = kk row)) = true then rs.map (fun r => if kk r = kk row then row else r) else rs ++ [row]
theorem putD_prD (rs : List D) (row : D) : putD (prD rs) (kk row) row = prD (putR rs row) := by
  unfold putD putR
  rw [any_prD]
  split
  · unfold prD
    rw [List.map_map, List.map_map]
    refine List.map_congr_left fun r _ => ?_
    show (if kk r = kk row then (kk r, row) else (kk r, r)) = (kk (if kk r = kk row then row else r), if kk r = kk row then row else r)
    split
    · rename_i h; rw [h]
    · rfl
  · unfold prD; rw [List.map_append]; rfl
theorem putR_perm : ∀ {rs : List D} {row : D}, (rs.map kk).Nodup → (putR rs row).Perm ((rs.filter fun r => decide (kk r ≠ kk row)) ++ [row])
  | [], row, _ => by simp [putR]
  | r :: rs, row, nd => by
    rw [List.map_cons, List.nodup_cons] at nd
    have ih := putR_perm (rs := rs) (row := row) nd.2
    by_cases h : kk r = kk row
    · have hno : ∀ q ∈ rs, kk q ≠ kk row := fun q hq z => nd.1 (by rw [h, ← z]; exact List.mem_map_of_mem hq)
      have e1 : rs.map (fun r => if kk r = kk row then row else r) = rs := by
        conv => rhs; rw [← List.map_id rs]
        exact List.map_congr_left fun q hq => by rw [if_neg (hno q hq)]; rfl
      have e2 : rs.filter (fun r => decide (kk r ≠ kk row)) = rs := List.filter_eq_self.mpr fun q hq => decide_eq_true (hno q hq)
      unfold putR
      rw [if_pos (by simp [h]), List.map_cons, if_pos h, e1, List.filter_cons_of_neg (by simp [h]), e2]
      exact (List.perm_append_singleton row rs).symm
    · rw [List.filter_cons_of_pos (by simp [h])]
      have e : putR (r :: rs) row = r :: putR rs row := by
        unfold putR
        rw [List.any_cons, decide_eq_false h, Bool.false_or]
        split
        · rw [List.map_cons, if_neg h]
        · rfl
      rw [e, List.cons_append]
      exact List.Perm.cons _ ih
theorem dropD_prD (rs : List D) (x : Key) : dropD (prD rs) x = prD (rs.filter fun r => decide (kk r ≠ x)) := by
  unfold dropD prD
  rw [List.filter_map]; rfl
theorem valD_prD : ∀ {rs : List D} {r : D}, (rs.map kk).Nodup → r ∈ rs → valD (prD rs) (kk r) = some r
  | q :: rs, r, nd, h => by
    rw [List.map_cons, List.nodup_cons] at nd
    unfold valD prD
    rw [List.map_cons, List.find?_cons]
    by_cases e : kk q = kk r
    · have : r = q := by
        rcases List.mem_cons.mp h with h | h
        · exact h
        · exact (nd.1 (by rw [e]; exact List.mem_map_of_mem h)).elim
      subst this
      simp
    · have h' : r ∈ rs := by
        rcases List.mem_cons.mp h with h | h
        · exact (e (by rw [h])).elim
        · exact h
      have := valD_prD nd.2 h'
      unfold valD prD at this
      simp only [decide_eq_false e]
      exact this
end G

set_option Elab.async false
set_option linter.all false
set_option maxRecDepth 1000000
set_option maxHeartbeats 4000000
/- ev9 -/
namespace G
variable [Wld]
open PySem PySem.Spec PyProof.Rows L2
/-! ### the program's dealings -/
def bx (rs : List D) : O := .dct (prD rs)
def kx (k : D) : Key := (keyOf k).getD (.inl 0)
def stepR (Rs : List (List D)) : Deed → List (List D)
  | (i, .inl row) => Rs.set i (putR (Rs.getD i []) (.tup row))
  | (i, .inr k) => Rs.set i ((Rs.getD i []).filter fun r => decide (kk r ≠ kx k))
structure PermT (Rs T : List (List D)) : Prop where
  len : Rs.length = T.length
  pm : ∀ (i : Nat) (rs rows : List D), Rs[i]? = some rs → T[i]? = some rows → rs.Perm rows
theorem TabOk.perm {cs : List (Str × Bool)} {rows rs : List D} (h : TabOk cs rows) (p : rs.Perm rows) : TabOk cs rs := ⟨fun r hr => h.ok r (p.mem_iff.mp hr), (p.map key0).nodup_iff.mpr h.nd⟩
theorem TabOk.kks {cs : List (Str × Bool)} {rows : List D} (h : TabOk cs rows) : (rows.map kk).Nodup := by
  have h1 := h.nd
  unfold List.Nodup at h1 ⊢
  rw [List.pairwise_map] at h1 ⊢
  refine h1.imp_of_mem fun {a b} ha hb hne z => hne ?_
  obtain ⟨e1, k1⟩ := kk_of h ha
  obtain ⟨e2, k2⟩ := kk_of h hb
  rw [z] at e1
  exact keyOf_inj k1 k2 e1 e2
def refsD (b n : Nat) : List D := (List.range n).map fun j => D.ref (b + j)
theorem refs_at {b n i : Nat} (h : i < n) : atD (refsD b n) (i : Int) = some (.ref (b + i)) := by
  rw [atD_ofNat]
  unfold refsD
  simp [h]
theorem set_app {S0 : Sto} {L : List O} {i : Nat} {o : O} : (S0 ++ L).set (S0.length + i) o = S0 ++ L.set i o := by
  rw [List.set_append_right _ _ (by omega)]
  simp
theorem get_app {S0 : Sto} {L : List O} {i : Nat} : (S0 ++ L)[S0.length + i]? = L[i]? := by
  rw [List.getElem?_append_right (by omega)]
  simp
theorem pred_eq {cs : List (Str × Bool)} {rows : List D} (h : TabOk cs rows) {k : D} (hk : KeyD k) {r : D} (hr : r ∈ rows) : decide (kk r ≠ kx k) = !eqS (key0 r) k := by
  obtain ⟨e1, k1⟩ := kk_of h hr
  obtain ⟨x, hx⟩ := hk.some
  have hkx : kx k = x := by unfold kx; rw [hx]; rfl
  rw [hkx]
  by_cases hh : key0 r = k
  · have : kk r = x := by rw [hh, hx] at e1; exact (Option.some.inj e1).symm
    rw [(eqS_key k1 hk).mpr hh]
    simp [this]
  · have : kk r ≠ x := fun z => hh (keyOf_inj k1 hk (z ▸ e1) hx)
    have e2 : eqS (key0 r) k = false := by
      cases he : eqS (key0 r) k with
      | false => rfl
      | true => exact (hh ((eqS_key k1 hk).mp he)).elim
    rw [e2]
    simp [this]
theorem step_perm {ts : Lay} {B : Nat} {T Rs : List (List D)} {p : Deed} (h : TabsOk ts B T) (hP : PermT Rs T) (hp : DeedOk ts T p) : PermT (stepR Rs p) (stepT T p) := by
  obtain ⟨i, row | k⟩ := p
  · obtain ⟨t, ht, hr⟩ := hp
    have hlt : i < ts.length := (List.getElem?_eq_some_iff.mp ht).1
    have hT : T[i]? = some (T.getD i []) := by simp [h.len, hlt]
    have hR : Rs[i]? = some (Rs.getD i []) := by simp [hP.len, h.len, hlt]
    have pm := hP.pm i _ _ hR hT
    have tk := (h.ok i t _ ht hT).1
    have tk2 := tk.perm pm
    refine ⟨by show (Rs.set _ _).length = (T.set _ _).length; simp [hP.len], fun j rs rows hj1 hj2 => ?_⟩
    have hj1' : (Rs.set i (putR (Rs.getD i []) (.tup row)))[j]? = some rs := hj1
    have hj2' : (T.set i (putT (T.getD i []) row))[j]? = some rows := hj2
    by_cases e : i = j
    · subst e
      rw [List.getElem?_set_self (by rw [hP.len, h.len]; exact hlt)] at hj1'
      rw [List.getElem?_set_self (by rw [h.len]; exact hlt)] at hj2'
      cases hj1'
      cases hj2'
      obtain ⟨k, l', rfl, hkd⟩ := hr.keyD
      have hkx : kk (.tup (k :: l')) = kx k := rfl
      refine (putR_perm tk2.kks).trans ?_
      unfold putT
      refine List.Perm.append_right _ ?_
      have ef : (T.getD i []).filter (fun r => !eqS (key0 r) (key0 (.tup (k :: l')))) = (T.getD i []).filter fun r => decide (kk r ≠ kk (.tup (k :: l'))) := List.filter_congr fun r hr2 => by rw [hkx]; exact (pred_eq tk hkd hr2).symm
      rw [ef]
      exact pm.filter _
    · rw [List.getElem?_set_ne e] at hj1' hj2'
      exact hP.pm j _ _ hj1' hj2'
  · obtain ⟨hlt, hkd, hm⟩ := hp
    have hT : T[i]? = some (T.getD i []) := by simp [h.len, hlt]
    have hR : Rs[i]? = some (Rs.getD i []) := by simp [hP.len, h.len, hlt]
    have ht : ts[i]? = some ts[i] := by simp [hlt]
    have pm := hP.pm i _ _ hR hT
    have tk := (h.ok i _ _ ht hT).1
    refine ⟨by show (Rs.set _ _).length = (T.set _ _).length; simp [hP.len], fun j rs rows hj1 hj2 => ?_⟩
    have hj1' : (Rs.set i ((Rs.getD i []).filter fun r => decide (kk r ≠ kx k)))[j]? = some rs := hj1
    have hj2' : (T.set i (dropT (T.getD i []) k))[j]? = some rows := hj2
    by_cases e : i = j
    · subst e
      rw [List.getElem?_set_self (by rw [hP.len, h.len]; exact hlt)] at hj1'
      rw [List.getElem?_set_self (by rw [h.len]; exact hlt)] at hj2'
      cases hj1'
      cases hj2'
      unfold dropT
      have ef : (T.getD i []).filter (fun r => !eqS (key0 r) k) = (T.getD i []).filter fun r => decide (kk r ≠ kx k) := List.filter_congr fun r hr2 => (pred_eq tk hkd hr2).symm
      rw [ef]
      exact pm.filter _
    · rw [List.getElem?_set_ne e] at hj1' hj2'
      exact hP.pm j _ _ hj1' hj2'
end G

set_option Elab.async false
set_option linter.all false
set_option maxRecDepth 1000000
set_option maxHeartbeats 4000000
/- ev9 -/
namespace G
variable [Wld]
open PySem PySem.Spec PyProof.Rows L2
/-! ### dealt -/
theorem prs_rows : ∀ {rs : List D}, (∀ r ∈ rs, keyOf (key0 r) = some (kk r)) → prsOf (rs.map fun r => D.tup [key0 r, r]) = some (prD rs)
  | [], _ => rfl
  | r :: rs, h => by
    rw [List.map_cons]
    unfold prsOf
    rw [h r (by simp), prs_rows fun q hq => h q (by simp [hq])]
    rfl
theorem merge_rows (rs : List D) : (rs.map kk).Nodup → mergeD [] (prD rs) = prD rs := by
  suffices h : ∀ n, n ≤ rs.length → (rs.map kk).Nodup → mergeD [] (prD (rs.take n)) = prD (rs.take n) by
    intro nd
    have := h rs.length (Nat.le_refl _) nd
    rwa [List.take_length] at this
  intro n
  induction n with
  | zero => intro _ _; simp [prD, mergeD]
  | succ n ih =>
    intro hn nd
    have hlt : n < rs.length := by omega
    have e : rs.take (n + 1) = rs.take n ++ [rs[n]] := by rw [List.take_add_one]; simp [hlt]
    have e2 : prD (rs.take (n + 1)) = prD (rs.take n) ++ [(kk rs[n], rs[n])] := by rw [e]; unfold prD; rw [List.map_append]; rfl
    rw [e2, mergeD_snoc, ih (by omega) nd]
    show putD (prD (rs.take n)) (kk rs[n]) rs[n] = _
    rw [putD_prD, ← e2]
    have hno : ((rs.take n).any fun r => decide (kk r = kk rs[n])) = false := by
      rw [List.any_eq_false]
      intro r hr hk
      have hk' := of_decide_eq_true hk
      obtain ⟨j, hj⟩ := List.getElem?_of_mem hr
      have hjn : j < n := by
        have := (List.getElem?_eq_some_iff.mp hj).1
        rw [List.length_take] at this
        omega
      rw [List.getElem?_take_of_lt hjn] at hj
      have h1 : (rs.map kk)[j]? = some (kk rs[n]) := by rw [List.getElem?_map, hj, ← hk']; rfl
      have h2 : (rs.map kk)[n]? = some (kk rs[n]) := by rw [List.getElem?_map]; simp [hlt]
      have := nodup_at nd h1 h2
      omega
    have e3 : putR (rs.take n) rs[n] = rs.take (n + 1) := by
      unfold putR
      rw [hno, e]
      rfl
    rw [e3]
noncomputable def bagOf (S : Sto) (d : D) : D := match d with
  | .ref n => (match S[n]? with
    | some (.dct kvs) => .tup (srtR (kvs.map (·.2)))
    | _ => d)
  | d => d
theorem snd_prD (rs : List D) : (prD rs).map (·.2) = rs := by
  unfold prD
  rw [List.map_map]
  conv => rhs; rw [← List.map_id rs]
  rfl
theorem bagOf_at {S : Sto} {Rs : List (List D)} {j : Nat} {rs : List D} (h : Rs[j]? = some rs) : bagOf (S ++ Rs.map bx) (.ref (S.length + j)) = .tup (srtR rs) := by
  unfold bagOf
  have hg : (S ++ Rs.map bx)[S.length + j]? = some (bx rs) := by rw [get_app, List.getElem?_map, h]; rfl
  simp only [hg, bx, snd_prD]
end G

set_option Elab.async false
set_option linter.all false
set_option maxRecDepth 1000000
set_option maxHeartbeats 4000000
/- ev9 -/
namespace G
variable [Wld]
open PySem PySem.Spec PyProof.Rows L2
/-! ### dealings drawn -/
theorem deq_nilL {n : Nat} {ds : List D} : deq (n + 1) (.lst ds) (.lst []) = some ds.isEmpty := by
  unfold deq
  cases ds with
  | nil => rfl
  | cons d ds => rfl
theorem wp_ne_nil {e : En} {S : Sto} {Q : R → En → Sto → Prop} {n : Nat} {ds : List D} (h : S[n]? = some (.lst ds)) (hb : datsB ds = true) : Wp (gEq true (.d (.ref n)) (.new (.lst []))) e S Q ↔ Q (.d (.bl (!ds.isEmpty))) e S := by
  refine wp_some ?_
  simp only [gEq, dat, h, look, deq_nilL (n := 59), datB_lst, hb, datsB_nil]
  cases ds <;> rfl
/-- what the keys' boxes hold -/
structure KSt (n b : Nat) (S0 : Sto) (T : List (List D)) (idx : List Nat) (k : Nat) (S : Sto) : Prop where
  len : idx.length = T.length
  nd : idx.Nodup
  ge : ∀ j ∈ idx, b ≤ j ∧ j < S.length
  at_ : ∀ (i j : Nat) (rows : List D), idx[i]? = some j → T[i]? = some rows → S[j]? = some (.lst (rows.map key0))
  fr : ∀ j, j < b → j ≠ n → S[j]? = S0[j]?
  bl : b ≤ S.length
  nb : n < b
  pt : Pt n k S
theorem KSt.dr {n b : Nat} {S0 : Sto} {T : List (List D)} {idx : List Nat} {k k' : Nat} {S S' : Sto} (h : KSt n b S0 T idx k S) (d : Dr n k' S S') : KSt n b S0 T idx k' S' := by
  have hne : ∀ j ∈ idx, j ≠ n := fun j hj => by have := (h.ge j hj).1; have := h.nb; omega
  exact ⟨h.len, h.nd, fun j hj => by rw [d.len]; exact h.ge j hj, fun i j rows h1 h2 => by rw [d.at_ j (hne j (List.mem_of_getElem? h1))]; exact h.at_ i j rows h1 h2, fun j h1 h2 => (d.at_ j h2).trans (h.fr j h1 h2), by rw [d.len]; exact h.bl, h.nb, d.pt⟩
theorem KSt.pop {n b : Nat} {S0 : Sto} {T : List (List D)} {idx : List Nat} {k : Nat} {S : Sto} (h : KSt n b S0 T idx k S) {i j : Nat} {rows' : List D} (hi : idx[i]? = some j) : KSt n b S0 (T.set i rows') idx k (S.set j (.lst (rows'.map key0))) := by
  have hj := h.ge j (List.mem_of_getElem? hi)
  have hjn : j ≠ n := by have := h.nb; omega
  refine ⟨by rw [List.length_set]; exact h.len, h.nd, fun q hq => by rw [List.length_set]; exact h.ge q hq, fun i' j' rows h1 h2 => ?_, fun q h1 h2 => ?_, by rw [List.length_set]; exact h.bl, h.nb, ?_⟩
  · by_cases e : i = i'
    · subst e
      rw [hi] at h1; cases h1
      have hlt : i < T.length := by rw [← h.len]; exact (List.getElem?_eq_some_iff.mp hi).1
      rw [List.getElem?_set_self hlt] at h2
      cases h2
      rw [List.getElem?_set_self hj.2]
    · have hjj : j ≠ j' := fun z => e (nodup_at h.nd hi (z ▸ h1))
      rw [List.getElem?_set_ne e] at h2
      rw [List.getElem?_set_ne hjj]
      exact h.at_ i' j' rows h1 h2
  · rw [List.getElem?_set_ne (by omega)]
    exact h.fr q h1 h2
  · obtain ⟨a, x, c, e1, r⟩ := h.pt
    exact ⟨a, x, c, by rw [List.getElem?_set_ne hjn]; exact e1, r⟩
theorem KSt.new {n b : Nat} {S0 : Sto} {T : List (List D)} {idx : List Nat} {k : Nat} {S : Sto} (h : KSt n b S0 T idx k S) {i : Nat} {rows' : List D} (hi : i < T.length) : KSt n b S0 (T.set i rows') (idx.set i S.length) k (S ++ [.lst (rows'.map key0)]) := by
  have hb := h.bl
  have hn := h.nb
  refine ⟨by rw [List.length_set, List.length_set]; exact h.len, ?_, fun q hq => ?_, fun i' j' rows h1 h2 => ?_, fun q h1 h2 => ?_, by rw [List.length_append]; omega, hn, ?_⟩
  · have fresh : S.length ∉ idx := fun z => by have := (h.ge _ z).2; omega
    have hil : i < idx.length := by rw [h.len]; exact hi
    rw [List.set_eq_take_append_cons_drop, if_pos hil]
    have nd := h.nd
    rw [← List.take_append_drop i idx, List.drop_eq_getElem_cons hil] at nd
    have nd2 := List.nodup_append.mp nd
    rw [List.nodup_append]
    refine ⟨nd2.1, ?_, ?_⟩
    · rw [List.nodup_cons]
      exact ⟨fun z => fresh (List.mem_of_mem_drop z), (List.nodup_cons.mp nd2.2.1).2⟩
    · intro a ha c hc
      rcases List.mem_cons.mp hc with rfl | hc
      · intro z; subst z; exact fresh (List.mem_of_mem_take ha)
      · exact nd2.2.2 a ha c (List.mem_cons_of_mem _ hc)
  · rw [List.length_append]
    rcases List.mem_or_eq_of_mem_set hq with hq | rfl
    · have := h.ge q hq; simp; omega
    · simp; omega
  · by_cases e : i = i'
    · subst e
      rw [List.getElem?_set_self (by rw [h.len]; exact hi)] at h1
      rw [List.getElem?_set_self hi] at h2
      cases h1; cases h2
      simp
    · rw [List.getElem?_set_ne e] at h1 h2
      have := (h.ge j' (List.mem_of_getElem? h1)).2
      rw [List.getElem?_append_left this]
      exact h.at_ i' j' rows h1 h2
  · rw [List.getElem?_append_left (by omega)]
    exact h.fr q h1 h2
  · obtain ⟨a, x, c, e1, r⟩ := h.pt
    exact ⟨a, x, c, by rw [List.getElem?_append_left (by omega)]; exact e1, r⟩
theorem datsB_keys {cs : List (Str × Bool)} {rows : List D} (h : TabOk cs rows) : datsB (rows.map key0) = true := datsB_of fun x hx => by
  obtain ⟨r, hr, rfl⟩ := List.mem_map.mp hx
  exact (kk_of h hr).2.datB
theorem deeds_snoc {ts : Lay} : ∀ {ps : List Deed} {T : List (List D)} {p : Deed}, DeedsOk ts T ps → DeedOk ts (ps.foldl stepT T) p → DeedsOk ts T (ps ++ [p])
  | [], _, _, _, h => ⟨h, trivial⟩
  | _ :: _, _, _, h1, h => ⟨h1.1, deeds_snoc h1.2 h⟩
theorem erase_filter {α : Type} {p : α → Bool} : ∀ {l : List α} {q : Nat} (hq : q < l.length), l.Nodup → (∀ x ∈ l, p x = false ↔ x = l[q]) → l.eraseIdx q = l.filter p
  | [], _, hq, _, _ => by simp at hq
  | x :: xs, 0, _, nd, h => by
    rw [List.nodup_cons] at nd
    have hx : p x = false := (h x (by simp)).mpr rfl
    rw [List.filter_cons_of_neg (by rw [hx]; simp)]
    show xs = _
    refine (List.filter_eq_self.mpr fun y hy => ?_).symm
    cases hp : p y with
    | true => rfl
    | false =>
      have := (h y (by simp [hy])).mp hp
      have e : y = x := this
      exact (nd.1 (e ▸ hy)).elim
  | x :: xs, q + 1, hq, nd, h => by
    rw [List.nodup_cons] at nd
    have hq' : q < xs.length := by simpa using hq
    have hx : p x = true := by
      cases hp : p x with
      | true => rfl
      | false =>
        have := (h x (by simp)).mp hp
        have e : x = xs[q] := this
        exact (nd.1 (e ▸ List.getElem_mem hq')).elim
    rw [List.filter_cons_of_pos hx]
    show x :: xs.eraseIdx q = _
    rw [erase_filter hq' nd.2 fun y hy => h y (by simp [hy])]
/-- behind one turn of the drawing -/
def PQ (far : Nat) (ts : Lay) (T : List (List D)) (B n b : Nat) (S : Sto) (k L : Nat) (fl : Fl) (e' : En) (S' : Sto) : Prop := fl = .nx ∧ ∃ ps idx, ps.length = L + 1 ∧ DeedsOk ts T ps ∧ TabsOk ts (B + ps.length) (ps.foldl stepT T) ∧ KSt n b S (ps.foldl stepT T) idx (k + 1 + 10 * ps.length) S' ∧ ∃ x4 x7 x8 x9 x10, e' = [some (.d (.ref n)), some (.d (layD ts)), some (.d (.tup (T.map D.tup))), some (.d (.int (far : Nat))), x4, some (.own (.lst (ps.map (deedD ts)))), some (.own (.lst (idx.map D.ref))), x7, x8, x9, x10, none, none]
theorem dealing_ok {ts : Lay} (g : GoodLay ts) {B : Nat} {T : List (List D)} (h : TabsOk ts B T) (hB : B ≤ 800000) {n k : Nat} {S : Sto} (hS : Pt n k S) (hk : k ≤ 500000000) {far : Nat} (hfar : far ≤ 9) :
    Fp f__law_dealing [.d (.ref n), .d (layD ts), .d (storeD T), .d (.int (far : Nat))] S fun r S' => ∃ ps : List Deed, r = .d (.tup (ps.map (deedD ts))) ∧ DeedsOk ts T ps ∧ ps.length ≤ 9 ∧ Pt n (k + 100) S' := by
  unfold f__law_dealing
  rw [fp_runF]
  simp only [ev0, ev1, ev2, ev3, ev4, ev5, ev6, ev7, ev8, ev9, wp_ix_refC, wp_setItE, List.map_cons, List.map_nil, List.replicate, List.cons_append, List.nil_append, List.length_cons, List.length_nil, List.set_cons_succ, List.set_cons_zero, List.getElem?_cons_zero, List.getElem?_cons_succ, Option.map_some, Option.bind_some, List.all_cons, List.all_nil, List.isEmpty_nil, List.isEmpty_cons, eq_self, if_true, if_false, ite_true, ite_false, Option.some.injEq, exists_eq_left', exists_eq_left, Nat.reduceAdd, Nat.reduceLT, Nat.reduceLeDiff, Int.reduceLE, Int.reduceLT, Int.reduceNeg, Int.reducePow, Int.reduceToNat, b__law_dealing]
  unfold storeD
  simp only [ev0, ev1, ev2, ev3, ev4, ev5, ev6, ev7, ev8, ev9, wp_ix_refC, wp_setItE, List.map_cons, List.map_nil, List.replicate, List.cons_append, List.nil_append, List.length_cons, List.length_nil, List.set_cons_succ, List.set_cons_zero, List.getElem?_cons_zero, List.getElem?_cons_succ, Option.map_some, Option.bind_some, List.all_cons, List.all_nil, List.isEmpty_nil, List.isEmpty_cons, eq_self, if_true, if_false, ite_true, ite_false, Option.some.injEq, exists_eq_left', exists_eq_left, Nat.reduceAdd, Nat.reduceLT, Nat.reduceLeDiff, Int.reduceLE, Int.reduceLT, Int.reduceNeg, Int.reducePow, Int.reduceToNat]
  have hb := hS.lt
  refine wp_compL (fun pre post acc S' => acc = refsD S.length pre.length ∧ S' = S ++ (T.take pre.length).map fun rows => O.lst (rows.map key0)) (fun _ => wat_nil _ _) ⟨rfl, by simp⟩ ?_ ?_
  · rintro pre d post acc S' hp ⟨rfl, rfl⟩
    have hat := at_mid hp
    rw [List.getElem?_map] at hat
    obtain ⟨rows, hrows, rfl⟩ := Option.map_eq_some_iff.mp hat
    have hlt : pre.length < ts.length := by rw [← h.len]; exact (List.getElem?_eq_some_iff.mp hrows).1
    have ht : ts[pre.length]? = some ts[pre.length] := by simp [hlt]
    have tk := (h.ok _ _ _ ht hrows).1
    refine ⟨_, gt_name.mpr ⟨by simp, rfl⟩, ?_⟩
    simp only [ev0, ev1, ev2, ev3, ev4, ev5, ev6, ev7, ev8, ev9, wp_ix_refC, wp_setItE, List.map_cons, List.map_nil, List.replicate, List.cons_append, List.nil_append, List.length_cons, List.length_nil, List.set_cons_succ, List.set_cons_zero, List.getElem?_cons_zero, List.getElem?_cons_succ, Option.map_some, Option.bind_some, List.all_cons, List.all_nil, List.isEmpty_nil, List.isEmpty_cons, eq_self, if_true, if_false, ite_true, ite_false, Option.some.injEq, exists_eq_left', exists_eq_left, Nat.reduceAdd, Nat.reduceLT, Nat.reduceLeDiff, Int.reduceLE, Int.reduceLT, Int.reduceNeg, Int.reducePow, Int.reduceToNat]
    refine wp_compL_fS (fun _ => true) key0 (wat_nil _ _) (fun d hdm => ?_) ?_
    · obtain ⟨l, rfl, hrow⟩ := tk.ok d hdm
      obtain ⟨kq, l', rfl, hkq⟩ := hrow.keyD
      refine ⟨_, gt_name.mpr ⟨by simp, rfl⟩, ?_⟩
      simp only [ev0, ev1, ev2, ev3, ev4, ev5, ev6, ev7, ev8, ev9, wp_ix_refC, wp_setItE, List.map_cons, List.map_nil, List.replicate, List.cons_append, List.nil_append, List.length_cons, List.length_nil, List.set_cons_succ, List.set_cons_zero, List.getElem?_cons_zero, List.getElem?_cons_succ, Option.map_some, Option.bind_some, List.all_cons, List.all_nil, List.isEmpty_nil, List.isEmpty_cons, eq_self, if_true, if_false, ite_true, ite_false, Option.some.injEq, exists_eq_left', exists_eq_left, Nat.reduceAdd, Nat.reduceLT, Nat.reduceLeDiff, Int.reduceLE, Int.reduceLT, Int.reduceNeg, Int.reducePow, Int.reduceToNat]
      rfl
    · rw [List.filter_eq_self.mpr fun _ _ => rfl]
      simp only [ev0, ev1, ev2, ev3, ev4, ev5, ev6, ev7, ev8, ev9, wp_ix_refC, wp_setItE, List.map_cons, List.map_nil, List.replicate, List.cons_append, List.nil_append, List.length_cons, List.length_nil, List.set_cons_succ, List.set_cons_zero, List.getElem?_cons_zero, List.getElem?_cons_succ, Option.map_some, Option.bind_some, List.all_cons, List.all_nil, List.isEmpty_nil, List.isEmpty_cons, eq_self, if_true, if_false, ite_true, ite_false, Option.some.injEq, exists_eq_left', exists_eq_left, Nat.reduceAdd, Nat.reduceLT, Nat.reduceLeDiff, Int.reduceLE, Int.reduceLT, Int.reduceNeg, Int.reducePow, Int.reduceToNat]
      have hl : (S ++ (T.take pre.length).map fun rows => O.lst (rows.map key0)).length = S.length + pre.length := by
        have := (List.getElem?_eq_some_iff.mp hrows).1
        rw [List.length_append, List.length_map, List.length_take, Nat.min_eq_left (by omega)]
      refine ⟨?_, ?_⟩
      · rw [hl, List.length_append, List.length_singleton]
        unfold refsD
        rw [List.range_succ, List.map_append]; rfl
      · rw [List.length_append, List.length_singleton, List.take_add_one, hrows]
        simp
  · rintro acc S' ⟨rfl, rfl⟩
    rw [List.length_map, List.take_length]
    simp only [ev0, ev1, ev2, ev3, ev4, ev5, ev6, ev7, ev8, ev9, wp_ix_refC, wp_setItE, List.map_cons, List.map_nil, List.replicate, List.cons_append, List.nil_append, List.length_cons, List.length_nil, List.set_cons_succ, List.set_cons_zero, List.getElem?_cons_zero, List.getElem?_cons_succ, Option.map_some, Option.bind_some, List.all_cons, List.all_nil, List.isEmpty_nil, List.isEmpty_cons, eq_self, if_true, if_false, ite_true, ite_false, Option.some.injEq, exists_eq_left', exists_eq_left, Nat.reduceAdd, Nat.reduceLT, Nat.reduceLeDiff, Int.reduceLE, Int.reduceLT, Int.reduceNeg, Int.reducePow, Int.reduceToNat]
    have k0 : KSt n S.length S T ((List.range T.length).map fun j => S.length + j) k (S ++ T.map fun rows => O.lst (rows.map key0)) := by
      refine ⟨by simp, ?_, fun j hj => ?_, fun i j rows h1 h2 => ?_, fun j h1 h2 => by rw [List.getElem?_append_left h1], by simp, hb, ?_⟩
      · unfold List.Nodup
        rw [List.pairwise_map]
        exact (List.nodup_range (n := T.length)).imp fun {a b} hne => by omega
      · obtain ⟨q, hq, rfl⟩ := List.mem_map.mp hj
        have := List.mem_range.mp hq
        simp; omega
      · rw [List.getElem?_map] at h1
        obtain ⟨q, hq, rfl⟩ := Option.map_eq_some_iff.mp h1
        have hq2 : i = q := by
          have := List.getElem?_eq_some_iff.mp hq
          obtain ⟨h3, h4⟩ := this
          simpa using h4
        subst hq2
        rw [get_app, List.getElem?_map, h2]; rfl
      · obtain ⟨a, x, c, e1, r⟩ := hS
        exact ⟨a, x, c, by rw [List.getElem?_append_left hb]; exact e1, r⟩
    have er : refsD S.length T.length = ((List.range T.length).map fun j => S.length + j).map D.ref := by unfold refsD; rw [List.map_map]; rfl
    rw [er]
    refine (take_ok k0.pt (by omega) (by omega) (by omega)).mono ?_
    rintro r S1 ⟨m, rfl, hm, dr⟩
    have k1 := k0.dr dr
    simp only [ev0, ev1, ev2, ev3, ev4, ev5, ev6, ev7, ev8, ev9, wp_ix_refC, wp_setItE, List.map_cons, List.map_nil, List.replicate, List.cons_append, List.nil_append, List.length_cons, List.length_nil, List.set_cons_succ, List.set_cons_zero, List.getElem?_cons_zero, List.getElem?_cons_succ, Option.map_some, Option.bind_some, List.all_cons, List.all_nil, List.isEmpty_nil, List.isEmpty_cons, eq_self, if_true, if_false, ite_true, ite_false, Option.some.injEq, exists_eq_left', exists_eq_left, Nat.reduceAdd, Nat.reduceLT, Nat.reduceLeDiff, Int.reduceLE, Int.reduceLT, Int.reduceNeg, Int.reducePow, Int.reduceToNat]
    refine ⟨⟨by omega, by omega⟩, ?_⟩
    refine wp_forL' (fun pre post e S1 => ∃ ps idx, ps.length = pre.length ∧ DeedsOk ts T ps ∧ TabsOk ts (B + ps.length) (ps.foldl stepT T) ∧ KSt n S.length S (ps.foldl stepT T) idx (k + 1 + 10 * ps.length) S1 ∧ ∃ x4 x7 x8 x9 x10, e = [some (.d (.ref n)), some (.d (layD ts)), some (.d (.tup (T.map D.tup))), some (.d (.int (far : Nat))), x4, some (.own (.lst (ps.map (deedD ts)))), some (.own (.lst (idx.map D.ref))), x7, x8, x9, x10, none, none])
      ⟨[], _, rfl, trivial, h, k1, _, _, _, _, _, rfl⟩ ?_ ?_
    · rintro pre d post e S2 hp ⟨ps, idx, hpl, hD, hT, ks, x4, x7, x8, x9, x10, rfl⟩
      have hpm : ps.length < m := by
        have := congrArg List.length hp
        rw [rngD_len] at this
        simp at this; omega
      refine ⟨_, gt_name.mpr ⟨by simp, rfl⟩, ?_⟩
      refine Wp.mono (Q := PQ far ts T B n S.length S k ps.length) ?_ ?_
      case refine_2 =>
        rintro fl e' S' ⟨rfl, ps', idx', q1, q2, q3, q4, x4, x7, x8, x9, x10, rfl⟩
        exact ⟨ps', idx', by rw [q1, hpl, List.length_append]; rfl, q2, q3, q4, x4, x7, x8, x9, x10, rfl⟩
      have h1 := g.len
      have lay : layD ts = .tup (ts.map tabD) := rfl
      rw [lay]
      simp only [ev0, ev1, ev2, ev3, ev4, ev5, ev6, ev7, ev8, ev9, wp_ix_refC, wp_setItE, List.map_cons, List.map_nil, List.replicate, List.cons_append, List.nil_append, List.length_cons, List.length_nil, List.set_cons_succ, List.set_cons_zero, List.getElem?_cons_zero, List.getElem?_cons_succ, Option.map_some, Option.bind_some, List.all_cons, List.all_nil, List.isEmpty_nil, List.isEmpty_cons, eq_self, if_true, if_false, ite_true, ite_false, Option.some.injEq, exists_eq_left', exists_eq_left, Nat.reduceAdd, Nat.reduceLT, Nat.reduceLeDiff, Int.reduceLE, Int.reduceLT, Int.reduceNeg, Int.reducePow, Int.reduceToNat]
      refine (take_ok ks.pt (by omega) (by rw [List.length_map]; omega) (by rw [List.length_map]; omega)).mono ?_
      rintro r S3 ⟨i, rfl, hi, dr3⟩
      have ks3 := ks.dr dr3
      rw [List.length_map] at hi
      have hi' : i < ts.length := by omega
      obtain ⟨⟨tn, cs⟩, ht⟩ : ∃ t, ts[i]? = some t := ⟨_, List.getElem?_eq_getElem hi'⟩
      have hat : atD (ts.map tabD) (i : Int) = some (.tup [.str tn, .tup (cs.map colD)]) := by rw [atD_ofNat, List.getElem?_map, ht]; rfl
      have hil : i < idx.length := by rw [ks.len, hT.len]; exact hi'
      obtain ⟨j, hj⟩ : ∃ j, idx[i]? = some j := ⟨_, List.getElem?_eq_getElem hil⟩
      have hjat : atD (idx.map D.ref) (i : Int) = some (.ref j) := by rw [atD_ofNat, List.getElem?_map, hj]; rfl
      obtain ⟨rows, hrows⟩ : ∃ rows, (ps.foldl stepT T)[i]? = some rows := ⟨_, List.getElem?_eq_getElem (by rw [hT.len]; exact hi')⟩
      have hgd : (ps.foldl stepT T).getD i [] = rows := by rw [List.getD_eq_getElem?_getD, hrows]; rfl
      obtain ⟨tk, hrl⟩ := hT.ok i _ rows ht hrows
      have hnm : nmOf ts i = tn := by unfold nmOf; rw [List.getD_eq_getElem?_getD, List.getElem?_map, ht]; rfl
      have hcl := g.cl _ (List.mem_of_getElem? ht)
      simp only [ev0, ev1, ev2, ev3, ev4, ev5, ev6, ev7, ev8, ev9, wp_ix_refC, wp_setItE, List.map_cons, List.map_nil, List.replicate, List.cons_append, List.nil_append, List.length_cons, List.length_nil, List.set_cons_succ, List.set_cons_zero, List.getElem?_cons_zero, List.getElem?_cons_succ, Option.map_some, Option.bind_some, List.all_cons, List.all_nil, List.isEmpty_nil, List.isEmpty_cons, eq_self, if_true, if_false, ite_true, ite_false, Option.some.injEq, exists_eq_left', exists_eq_left, Nat.reduceAdd, Nat.reduceLT, Nat.reduceLeDiff, Int.reduceLE, Int.reduceLT, Int.reduceNeg, Int.reducePow, Int.reduceToNat, hat]
      refine (take_ok ks3.pt (by omega) (by omega) (by omega)).mono ?_
      rintro r S4 ⟨q, rfl, hq, dr4⟩
      have ks4 := ks3.dr dr4
      have hjS : S4[j]? = some (.lst (rows.map key0)) := ks4.at_ i j rows hj hrows
      have put : ∀ {S4 : Sto} {k4 : Nat}, KSt n S.length S (ps.foldl stepT T) idx k4 S4 → k4 ≤ k + 1 + 10 * ps.length + 2 → Wp (mSeq (mSet 10 (mCall 2 f__law_row (mCons (mVar 0) (mCons (mVar 9) mNil)))) (mSeq (mSetI (mBox (mBin gAdd (mLc [12] (gtName 12) (mSrc (mBin gIx (mVar 6) (mVar 7))) (bnd (mBin (gEq true) (mVar 12) (mBin gIx (mVar 10) (mC (.int 0)))) asB) (mVar 12)) (mLst (mCons (mBin gIx (mVar 10) (mC (.int 0))) mNil)))) (mVar 6) (mVar 7)) (mDrop (mMth "list" gAppend (mVar 5) (mCons (mTup (mCons (mC (.str "put")) (mCons (mVar 8) (mCons (mVar 10) mNil)))) mNil)))))
          [some (.d (.ref n)), some (.d (.tup (ts.map tabD))), some (.d (.tup (T.map D.tup))), some (.d (.int (far : Nat))), some (.d d), some (.own (.lst (ps.map (deedD ts)))), some (.own (.lst (idx.map D.ref))), some (.d (.int i)), some (.d (.str tn)), some (.d (.tup (cs.map colD))), x10, none, none] S4
          (PQ far ts T B n S.length S k ps.length) := fun {S4 k4} ks4 hk4 => by
        have hjS : S4[j]? = some (.lst (rows.map key0)) := ks4.at_ i j rows hj hrows
        simp only [ev0, ev1, ev2, ev3, ev4, ev5, ev6, ev7, ev8, ev9, wp_ix_refC, wp_setItE, List.map_cons, List.map_nil, List.replicate, List.cons_append, List.nil_append, List.length_cons, List.length_nil, List.set_cons_succ, List.set_cons_zero, List.getElem?_cons_zero, List.getElem?_cons_succ, Option.map_some, Option.bind_some, List.all_cons, List.all_nil, List.isEmpty_nil, List.isEmpty_cons, eq_self, if_true, if_false, ite_true, ite_false, Option.some.injEq, exists_eq_left', exists_eq_left, Nat.reduceAdd, Nat.reduceLT, Nat.reduceLeDiff, Int.reduceLE, Int.reduceLT, Int.reduceNeg, Int.reducePow, Int.reduceToNat]
        refine (row_ok cs hcl.1 hcl.2 ks4.pt (by omega)).mono ?_
        rintro r S5 ⟨row, rfl, hrow, dr5⟩
        have ks5 := ks4.dr dr5
        have hjS5 : S5[j]? = some (.lst (rows.map key0)) := ks5.at_ i j rows hj hrows
        obtain ⟨kq, l', rfl, hkq⟩ := hrow.keyD
        simp only [ev0, ev1, ev2, ev3, ev4, ev5, ev6, ev7, ev8, ev9, wp_ix_refC, wp_setItE, List.map_cons, List.map_nil, List.replicate, List.cons_append, List.nil_append, List.length_cons, List.length_nil, List.set_cons_succ, List.set_cons_zero, List.getElem?_cons_zero, List.getElem?_cons_succ, Option.map_some, Option.bind_some, List.all_cons, List.all_nil, List.isEmpty_nil, List.isEmpty_cons, eq_self, if_true, if_false, ite_true, ite_false, Option.some.injEq, exists_eq_left', exists_eq_left, Nat.reduceAdd, Nat.reduceLT, Nat.reduceLeDiff, Int.reduceLE, Int.reduceLT, Int.reduceNeg, Int.reducePow, Int.reduceToNat, hjat, hjS5, seqL_lst]
        refine wp_compL_fS (fun x => !eqS x kq) id (wat_one hjS5) (fun x hx => ?_) ?_
        · obtain ⟨rx, hrx, rfl⟩ := List.mem_map.mp hx
          refine ⟨_, gt_name.mpr ⟨by simp, rfl⟩, ?_⟩
          simp only [ev0, ev1, ev2, ev3, ev4, ev5, ev6, ev7, ev8, ev9, wp_ix_refC, wp_setItE, List.map_cons, List.map_nil, List.replicate, List.cons_append, List.nil_append, List.length_cons, List.length_nil, List.set_cons_succ, List.set_cons_zero, List.getElem?_cons_zero, List.getElem?_cons_succ, Option.map_some, Option.bind_some, List.all_cons, List.all_nil, List.isEmpty_nil, List.isEmpty_cons, eq_self, if_true, if_false, ite_true, ite_false, Option.some.injEq, exists_eq_left', exists_eq_left, Nat.reduceAdd, Nat.reduceLT, Nat.reduceLeDiff, Int.reduceLE, Int.reduceLT, Int.reduceNeg, Int.reducePow, Int.reduceToNat, wp_eq (kk_of tk hrx).2.flat hkq.flat]
          split <;> trivial
        · have hkl : ((rows.map key0).filter fun x => !eqS x kq).length ≤ rows.length := by
            refine Nat.le_trans (List.length_filter_le _ _) ?_
            rw [List.length_map]; exact Nat.le_refl _
          have hkeys : (List.map id ((rows.map key0).filter fun x => !eqS x kq)) ++ [kq] = (putT rows (kq :: l')).map key0 := by
            rw [List.map_id]
            unfold putT
            rw [List.map_append, List.filter_map]; rfl
          simp only [ev0, ev1, ev2, ev3, ev4, ev5, ev6, ev7, ev8, ev9, wp_ix_refC, wp_setItE, List.map_cons, List.map_nil, List.replicate, List.cons_append, List.nil_append, List.length_cons, List.length_nil, List.set_cons_succ, List.set_cons_zero, List.getElem?_cons_zero, List.getElem?_cons_succ, Option.map_some, Option.bind_some, List.all_cons, List.all_nil, List.isEmpty_nil, List.isEmpty_cons, eq_self, if_true, if_false, ite_true, ite_false, Option.some.injEq, exists_eq_left', exists_eq_left, Nat.reduceAdd, Nat.reduceLT, Nat.reduceLeDiff, Int.reduceLE, Int.reduceLT, Int.reduceNeg, Int.reducePow, Int.reduceToNat]
          refine ⟨by rw [List.length_map]; omega, i, ixN_nat (by rw [List.length_map]; exact hil), ?_⟩
          have hpl2 : (ps.map (deedD ts)).length < 1000000 := by rw [List.length_map]; omega
          have hdd : deedD ts (i, .inl (kq :: l')) = .tup [.str "put", .str tn, .tup (kq :: l')] := by
            show D.tup [.str "put", .str (nmOf ts i), .tup (kq :: l')] = _
            rw [hnm]
          have ef : (ps ++ [(i, Sum.inl (kq :: l'))]).foldl stepT T = (ps.foldl stepT T).set i (putT rows (kq :: l')) := by
            rw [List.foldl_append]
            show (ps.foldl stepT T).set i (putT ((ps.foldl stepT T).getD i []) (kq :: l')) = _
            rw [hgd]
          have hdo : DeedOk ts (ps.foldl stepT T) (i, .inl (kq :: l')) := ⟨_, ht, hrow⟩
          refine ⟨hpl2, rfl, ps ++ [(i, .inl (kq :: l'))], idx.set i S5.length, by simp, deeds_snoc hD hdo, ?_, ?_, ?_⟩
          · rw [List.foldl_append, List.length_append]
            exact step_ok hT hdo
          · rw [ef, hkeys, List.length_append]
            have kn := ks5.new (i := i) (rows' := putT rows (kq :: l')) (by rw [hT.len]; exact hi')
            obtain ⟨q1, q2, q3, q4, q5, q6, q7, q8⟩ := kn
            exact ⟨q1, q2, q3, q4, q5, q6, q7, q8.mono (by simp; omega)⟩
          · rw [List.map_append, ← List.map_set]
            show ∃ x4 x7 x8 x9 x10, _ = [_, _, _, _, x4, some (Sl.own (O.lst (ps.map (deedD ts) ++ [deedD ts (i, .inl (kq :: l'))]))), _, x7, x8, x9, x10, none, none]
            rw [hdd]
            exact ⟨_, _, _, _, _, rfl⟩
      have P := put ks4 (by omega)
      simp only [ev0, ev1, ev2, ev3, ev4, ev5, ev6, ev7, ev8, ev9, wp_ix_refC, wp_setItE, List.map_cons, List.map_nil, List.replicate, List.cons_append, List.nil_append, List.length_cons, List.length_nil, List.set_cons_succ, List.set_cons_zero, List.getElem?_cons_zero, List.getElem?_cons_succ, Option.map_some, Option.bind_some, List.all_cons, List.all_nil, List.isEmpty_nil, List.isEmpty_cons, eq_self, if_true, if_false, ite_true, ite_false, Option.some.injEq, exists_eq_left', exists_eq_left, Nat.reduceAdd, Nat.reduceLT, Nat.reduceLeDiff, Int.reduceLE, Int.reduceLT, Int.reduceNeg, Int.reducePow, Int.reduceToNat] at P
      by_cases hz : ((q : Int) == 0) = true
      · simp only [ev0, ev1, ev2, ev3, ev4, ev5, ev6, ev7, ev8, ev9, wp_ix_refC, wp_setItE, List.map_cons, List.map_nil, List.replicate, List.cons_append, List.nil_append, List.length_cons, List.length_nil, List.set_cons_succ, List.set_cons_zero, List.getElem?_cons_zero, List.getElem?_cons_succ, Option.map_some, Option.bind_some, List.all_cons, List.all_nil, List.isEmpty_nil, List.isEmpty_cons, eq_self, if_true, if_false, ite_true, ite_false, Option.some.injEq, exists_eq_left', exists_eq_left, Nat.reduceAdd, Nat.reduceLT, Nat.reduceLeDiff, Int.reduceLE, Int.reduceLT, Int.reduceNeg, Int.reducePow, Int.reduceToNat, hjat]
        rw [if_pos hz, wp_ne_nil hjS (datsB_keys tk)]
        by_cases he : (rows.map key0).isEmpty = true
        · simp only [ev0, ev1, ev2, ev3, ev4, ev5, ev6, ev7, ev8, ev9, wp_ix_refC, wp_setItE, List.map_cons, List.map_nil, List.replicate, List.cons_append, List.nil_append, List.length_cons, List.length_nil, List.set_cons_succ, List.set_cons_zero, List.getElem?_cons_zero, List.getElem?_cons_succ, Option.map_some, Option.bind_some, List.all_cons, List.all_nil, List.isEmpty_nil, List.isEmpty_cons, eq_self, if_true, if_false, ite_true, ite_false, Option.some.injEq, exists_eq_left', exists_eq_left, Nat.reduceAdd, Nat.reduceLT, Nat.reduceLeDiff, Int.reduceLE, Int.reduceLT, Int.reduceNeg, Int.reducePow, Int.reduceToNat, he]
          exact P
        · have hpos : 0 < rows.length := by
            cases hrw : rows with
            | nil => rw [hrw] at he; exact (he rfl).elim
            | cons _ _ => simp
          have hkl : (rows.map key0).length = rows.length := List.length_map ..
          simp only [ev0, ev1, ev2, ev3, ev4, ev5, ev6, ev7, ev8, ev9, wp_ix_refC, wp_setItE, List.map_cons, List.map_nil, List.replicate, List.cons_append, List.nil_append, List.length_cons, List.length_nil, List.set_cons_succ, List.set_cons_zero, List.getElem?_cons_zero, List.getElem?_cons_succ, Option.map_some, Option.bind_some, List.all_cons, List.all_nil, List.isEmpty_nil, List.isEmpty_cons, eq_self, if_true, if_false, ite_true, ite_false, Option.some.injEq, exists_eq_left', exists_eq_left, Nat.reduceAdd, Nat.reduceLT, Nat.reduceLeDiff, Int.reduceLE, Int.reduceLT, Int.reduceNeg, Int.reducePow, Int.reduceToNat, he, hjat, look, hjS, isL_lst]
          rw [hkl]
          refine (take_ok ks4.pt (by omega) (by omega) (by omega)).mono ?_
          rintro r S5 ⟨q2, rfl, hq2, dr5⟩
          have ks5 := ks4.dr dr5
          have hjS5 : S5[j]? = some (.lst (rows.map key0)) := ks5.at_ i j rows hj hrows
          have hq3 : q2 < rows.length := by omega
          simp only [ev0, ev1, ev2, ev3, ev4, ev5, ev6, ev7, ev8, ev9, wp_ix_refC, wp_setItE, List.map_cons, List.map_nil, List.replicate, List.cons_append, List.nil_append, List.length_cons, List.length_nil, List.set_cons_succ, List.set_cons_zero, List.getElem?_cons_zero, List.getElem?_cons_succ, Option.map_some, Option.bind_some, List.all_cons, List.all_nil, List.isEmpty_nil, List.isEmpty_cons, eq_self, if_true, if_false, ite_true, ite_false, Option.some.injEq, exists_eq_left', exists_eq_left, Nat.reduceAdd, Nat.reduceLT, Nat.reduceLeDiff, Int.reduceLE, Int.reduceLT, Int.reduceNeg, Int.reducePow, Int.reduceToNat, wp_popI, look, hjS5]
          have hkd := (kk_of tk (List.getElem_mem hq3)).2
          have hds : (rows.map key0)[q2]? = some (key0 rows[q2]) := by rw [List.getElem?_map, List.getElem?_eq_getElem hq3]; rfl
          have hdo : DeedOk ts (ps.foldl stepT T) (i, .inr (key0 rows[q2])) := ⟨hi', hkd, by rw [hgd]; exact List.mem_map_of_mem (List.getElem_mem hq3)⟩
          have hdd : deedD ts (i, .inr (key0 rows[q2])) = .tup [.str "drop", .str tn, key0 rows[q2]] := by
            show D.tup [.str "drop", .str (nmOf ts i), key0 rows[q2]] = _
            rw [hnm]
          have ef : (ps ++ [(i, Sum.inr (key0 rows[q2]))]).foldl stepT T = (ps.foldl stepT T).set i (dropT rows (key0 rows[q2])) := by
            rw [List.foldl_append]
            show (ps.foldl stepT T).set i (dropT ((ps.foldl stepT T).getD i []) (key0 rows[q2])) = _
            rw [hgd]
          have her : (rows.map key0).eraseIdx q2 = (dropT rows (key0 rows[q2])).map key0 := by
            have e1 : (dropT rows (key0 rows[q2])).map key0 = (rows.map key0).filter fun x => !eqS x (key0 rows[q2]) := by
              unfold dropT
              rw [List.filter_map]; rfl
            rw [e1]
            refine erase_filter (by rw [hkl]; exact hq3) tk.nd fun x hx => ?_
            obtain ⟨rx, hrx, rfl⟩ := List.mem_map.mp hx
            have := eqS_key (kk_of tk hrx).2 hkd
            rw [List.getElem_map]
            cases hb2 : eqS (key0 rx) (key0 rows[q2]) with
            | true => simp [this.mp hb2]
            | false =>
              have hne : key0 rx ≠ key0 rows[q2] := fun z => by rw [this.mpr z] at hb2; cases hb2
              simp [hne]
          refine ⟨by omega, by omega, q2, by rw [hkl]; exact seq_nat hq3, _, hds, by rw [List.length_map]; omega, rfl, ps ++ [(i, .inr (key0 rows[q2]))], idx, by simp, deeds_snoc hD hdo, ?_, ?_, ?_⟩
          · rw [List.foldl_append, List.length_append]
            exact step_ok hT hdo
          · rw [ef, her, List.length_append]
            have kn := ks5.pop (rows' := dropT rows (key0 rows[q2])) hj
            obtain ⟨q1, q2', q3, q4, q5, q6, q7, q8⟩ := kn
            exact ⟨q1, q2', q3, q4, q5, q6, q7, q8.mono (by simp; omega)⟩
          · rw [List.map_append]
            show ∃ x4 x7 x8 x9 x10, _ = [_, _, _, _, x4, some (Sl.own (O.lst (ps.map (deedD ts) ++ [deedD ts (i, .inr (key0 rows[q2]))]))), _, x7, x8, x9, x10, none, none]
            rw [hdd]
            exact ⟨_, _, _, _, _, rfl⟩
      · simp only [ev0, ev1, ev2, ev3, ev4, ev5, ev6, ev7, ev8, ev9, wp_ix_refC, wp_setItE, List.map_cons, List.map_nil, List.replicate, List.cons_append, List.nil_append, List.length_cons, List.length_nil, List.set_cons_succ, List.set_cons_zero, List.getElem?_cons_zero, List.getElem?_cons_succ, Option.map_some, Option.bind_some, List.all_cons, List.all_nil, List.isEmpty_nil, List.isEmpty_cons, eq_self, if_true, if_false, ite_true, ite_false, Option.some.injEq, exists_eq_left', exists_eq_left, Nat.reduceAdd, Nat.reduceLT, Nat.reduceLeDiff, Int.reduceLE, Int.reduceLT, Int.reduceNeg, Int.reducePow, Int.reduceToNat, hjat]
        rw [if_neg hz]
        exact P
    · rintro e S2 ⟨ps, idx, hpl, hD, hT, ks, x4, x7, x8, x9, x10, rfl⟩
      rw [rngD_len] at hpl
      simp only [ev0, ev1, ev2, ev3, ev4, ev5, ev6, ev7, ev8, ev9, wp_ix_refC, wp_setItE, List.map_cons, List.map_nil, List.replicate, List.cons_append, List.nil_append, List.length_cons, List.length_nil, List.set_cons_succ, List.set_cons_zero, List.getElem?_cons_zero, List.getElem?_cons_succ, Option.map_some, Option.bind_some, List.all_cons, List.all_nil, List.isEmpty_nil, List.isEmpty_cons, eq_self, if_true, if_false, ite_true, ite_false, Option.some.injEq, exists_eq_left', exists_eq_left, Nat.reduceAdd, Nat.reduceLT, Nat.reduceLeDiff, Int.reduceLE, Int.reduceLT, Int.reduceNeg, Int.reducePow, Int.reduceToNat]
      exact ⟨ps, rfl, hD, by omega, ks.pt.mono (by omega)⟩
end G

set_option Elab.async false
set_option linter.all false
set_option maxRecDepth 1000000
set_option maxHeartbeats 4000000
/- ev9 -/
namespace G
variable [Wld]
open PySem PySem.Spec PyProof.Rows L2
/-! ### how great all is -/
theorem wts_le {w : Nat} : ∀ {ds : List D}, (∀ d ∈ ds, wt d ≤ w) → wts ds ≤ ds.length * (w + 1)
  | [], _ => by simp [wts]
  | d :: ds, h => by
    have h1 := h d (by simp)
    have h2 := wts_le fun x hx => h x (List.mem_cons_of_mem d hx)
    unfold wts
    rw [List.length_cons, Nat.add_mul]
    omega
theorem dtT {N L W k w n : Nat} {ds : List D} (hn : ds.length ≤ n) (hL : n ≤ L) (h : ∀ d ∈ ds, Dt N L w k d) (hW : n * (w + 1) ≤ W) (hw : w ≤ W) : Dt N L W (k + 1) (.tup ds) := by
  refine dt_tup.mpr ⟨Nat.le_trans hn hL, fun d hd => (h d hd).mono (Nat.le_refl _) (Nat.le_refl _) hw (Nat.le_refl _), ?_⟩
  exact Nat.le_trans (wts_le fun d hd => (h d hd).w) (Nat.le_trans (Nat.mul_le_mul_right _ hn) hW)
theorem namS_asc {x : Str} (h : namS x = true) : Asc x := by
  simp only [namS, Bool.and_eq_true, decide_eq_true_eq, letB, List.all_eq_true] at h
  intro c hc
  have := h.2.2 c hc
  omega
theorem worth_dt {b : Bool} {d : D} (h : FitW b d) : Dt 1000000000 100 70 0 d := by
  rcases h with rfl | ⟨rfl, i, rfl, h1, h2⟩ | ⟨rfl, x, rfl, hx⟩
  · exact dt_non
  · exact dt_int.mpr ⟨by omega, by omega⟩
  · have := namS_len hx
    exact dt_str.mpr ⟨namS_asc hx, by omega⟩
theorem fit_dt {cs : List (Str × Bool)} {l : List D} (h : Paired (fun (c : Str × Bool) d => FitW c.2 d) cs l) : ∀ d ∈ l, Dt 1000000000 100 70 0 d := by
  induction h with
  | nil => intro d hd; cases hd
  | cons h1 _ ih =>
    intro d hd
    rcases List.mem_cons.mp hd with rfl | hd
    · exact worth_dt h1
    · exact ih d hd
theorem row_dt {cs : List (Str × Bool)} {l : List D} (h : RowOk cs l) (hl : cs.length ≤ 4) : Dt 1000000000 100 284 1 (.tup l) := dtT (n := 4) (by rw [fits_len h]; exact hl) (by omega) (fit_dt h.fit) (by omega) (by omega)
theorem bag_dt {cs : List (Str × Bool)} {rows : List D} (h : TabOk cs rows) (hl : cs.length ≤ 4) (hr : rows.length ≤ 60) : Dt 1000000000 100 17100 2 (.tup rows) := dtT (n := 60) hr (by omega) (fun d hd => by obtain ⟨l, rfl, hrow⟩ := h.ok d hd; exact row_dt hrow hl) (by omega) (by omega)
theorem store_dt {ts : Lay} (g : GoodLay ts) {B : Nat} {T : List (List D)} (h : TabsOk ts B T) (hB : B ≤ 60) : Dt 1000000000 100 51303 3 (storeD T) := by
  refine dtT (n := 3) (w := 17100) (by rw [List.length_map, h.len]; exact g.len.2) (by omega) (fun d hd => ?_) (by omega) (by omega)
  obtain ⟨rows, hr, rfl⟩ := List.mem_map.mp hd
  obtain ⟨i, hi⟩ := List.getElem?_of_mem hr
  have hlt : i < ts.length := by rw [← h.len]; exact (List.getElem?_eq_some_iff.mp hi).1
  have ht : ts[i]? = some ts[i] := by simp [hlt]
  obtain ⟨h1, h2⟩ := h.ok i _ _ ht hi
  exact bag_dt h1 (g.cl _ (List.mem_of_getElem? ht)).2 (by omega)
theorem kind_dt (b : Bool) : Asc (kindS b) ∧ (kindS b).length ≤ 6 := by
  cases b <;> exact ⟨ascB_iff.mp (by decide +kernel), by decide +kernel⟩
theorem col_dt {c : Str × Bool} (h : ascB c.1 = true ∧ c.1.length ≤ 8) : Dt 1000000000 100 20 1 (colD c) := by
  refine dtT (n := 2) (w := 8) (by simp) (by omega) (fun d hd => ?_) (by omega) (by omega)
  simp only [List.mem_cons, List.not_mem_nil, or_false] at hd
  rcases hd with rfl | rfl
  · exact dt_str.mpr ⟨ascB_iff.mp h.1, h.2⟩
  · exact dt_str.mpr ⟨(kind_dt c.2).1, by have := (kind_dt c.2).2; omega⟩
theorem lay_dt {ts : Lay} (g : GoodLay ts) : Dt 1000000000 100 600 4 (layD ts) := by
  refine dtT (n := 3) (w := 180) (by rw [List.length_map]; exact g.len.2) (by omega) (fun d hd => ?_) (by omega) (by omega)
  obtain ⟨t, ht, rfl⟩ := List.mem_map.mp hd
  refine dtT (n := 2) (w := 88) (by simp) (by omega) (fun d hd => ?_) (by omega) (by omega)
  simp only [List.mem_cons, List.not_mem_nil, or_false] at hd
  rcases hd with rfl | rfl
  · exact (dt_str (k := 2)).mpr ⟨ascB_iff.mp (g.nm t ht).1, by have := (g.nm t ht).2; omega⟩
  · refine dtT (n := 4) (w := 20) (by rw [List.length_map]; exact (g.cl t ht).2) (by omega) (fun d hd => ?_) (by omega) (by omega)
    obtain ⟨c, hc, rfl⟩ := List.mem_map.mp hd
    exact col_dt (g.cn t ht c hc)
theorem deeds_dt {ts : Lay} (g : GoodLay ts) : ∀ {ps : List Deed} {B : Nat} {T : List (List D)}, TabsOk ts B T → DeedsOk ts T ps → ∀ d ∈ ps.map (deedD ts), Dt 1000000000 100 900 2 d
  | [], _, _, _, _, d, hd => by cases hd
  | p :: ps, B, T, h, hD, d, hd => by
    rw [List.map_cons] at hd
    rcases List.mem_cons.mp hd with rfl | hd
    · obtain ⟨hp, _⟩ := hD
      have nm : ∀ i, i < ts.length → Dt 1000000000 100 284 1 (.str (nmOf ts i)) := fun i hi => by
        have ht : ts[i]? = some ts[i] := by simp [hi]
        have e : nmOf ts i = ts[i].1 := by unfold nmOf; rw [List.getD_eq_getElem?_getD, List.getElem?_map, ht]; rfl
        obtain ⟨h1, h2⟩ := g.nm _ (List.mem_of_getElem? ht)
        rw [e]
        exact dt_str.mpr ⟨ascB_iff.mp h1, by omega⟩
      obtain ⟨i, row | k⟩ := p
      · obtain ⟨t, ht, hr⟩ := hp
        refine dtT (n := 3) (w := 284) (by simp) (by omega) (fun d hd => ?_) (by omega) (by omega)
        simp only [List.mem_cons, List.not_mem_nil, or_false] at hd
        rcases hd with rfl | rfl | rfl
        · exact dt_str.mpr ⟨ascB_iff.mp (by decide +kernel), by decide +kernel⟩
        · exact nm i (List.getElem?_eq_some_iff.mp ht).1
        · exact row_dt hr (g.cl _ (List.mem_of_getElem? ht)).2
      · obtain ⟨hi, hk, hm⟩ := hp
        have ht : ts[i]? = some ts[i] := by simp [hi]
        have hT : T[i]? = some (T.getD i []) := by simp [h.len, hi]
        obtain ⟨tk, _⟩ := h.ok i _ _ ht hT
        refine dtT (n := 3) (w := 284) (by simp) (by omega) (fun d hd => ?_) (by omega) (by omega)
        simp only [List.mem_cons, List.not_mem_nil, or_false] at hd
        rcases hd with rfl | rfl | rfl
        · exact dt_str.mpr ⟨ascB_iff.mp (by decide +kernel), by decide +kernel⟩
        · exact nm i hi
        · obtain ⟨r, hr, e⟩ := List.mem_map.mp hm
          obtain ⟨l, rfl, hrow⟩ := tk.ok r hr
          obtain ⟨k2, l', rfl, _⟩ := hrow.keyD
          have e' : k2 = d := e
          subst e'
          exact (fit_dt hrow.fit k2 (by simp)).mono (by omega) (by omega) (by omega) (by omega)
    · exact deeds_dt g (step_ok h hD.1) hD.2 d hd
theorem all_dt {ts : Lay} (g : GoodLay ts) {B : Nat} {T : List (List D)} (h : TabsOk ts B T) (hB : B ≤ 60) {ps : List Deed} (hD : DeedsOk ts T ps) (hl : ps.length ≤ 9) : Dt 1000000000 100 160000 5 (.tup [layD ts, storeD T, .tup (ps.map (deedD ts))]) := by
  refine dtT (n := 3) (w := 51303) (by simp) (by omega) (fun d hd => ?_) (by omega) (by omega)
  simp only [List.mem_cons, List.not_mem_nil, or_false] at hd
  rcases hd with rfl | rfl | rfl
  · exact (lay_dt g).mono (by omega) (by omega) (by omega) (by omega)
  · exact (store_dt g h hB).mono (by omega) (by omega) (by omega) (by omega)
  · exact (dtT (n := 9) (W := 8200) (by rw [List.length_map]; exact hl) (by omega) (deeds_dt g h hD) (by omega) (by omega)).mono (by omega) (by omega) (by omega) (by omega)
theorem sorted_tabs {ts : Lay} {B : Nat} {T : List (List D)} (h : TabsOk ts B T) : TabsOk ts B (T.map srtR) := by
  refine ⟨by rw [List.length_map]; exact h.len, fun i t rows h1 h2 => ?_⟩
  rw [List.getElem?_map] at h2
  obtain ⟨rs, hr, rfl⟩ := Option.map_eq_some_iff.mp h2
  obtain ⟨k1, k2⟩ := h.ok i t rs h1 hr
  exact ⟨k1.perm (srtR_perm rs), by rw [(srtR_perm rs).length_eq]; exact k2⟩
theorem fold_tabs {ts : Lay} : ∀ {ps : List Deed} {B : Nat} {T : List (List D)}, TabsOk ts B T → DeedsOk ts T ps → TabsOk ts (B + ps.length) (ps.foldl stepT T)
  | [], _, _, h, _ => h
  | p :: ps, B, T, h, hD => by
    have := fold_tabs (step_ok h hD.1) hD.2
    rw [List.length_cons, show B + (ps.length + 1) = B + 1 + ps.length from by omega]
    exact this
theorem TabsOk.mono {ts : Lay} {B C : Nat} {T : List (List D)} (h : TabsOk ts B T) (hC : B ≤ C) : TabsOk ts C T := ⟨h.len, fun i t rows h1 h2 => ⟨(h.ok i t rows h1 h2).1, Nat.le_trans (h.ok i t rows h1 h2).2 hC⟩⟩
theorem empty_tabs (ts : Lay) : TabsOk ts 0 (ts.map fun _ => []) := by
  refine ⟨by simp, fun i t rows h1 h2 => ?_⟩
  rw [List.getElem?_map, h1] at h2
  cases h2
  exact ⟨⟨fun r hr => (by cases hr), by simp⟩, Nat.le_refl _⟩
end G

set_option Elab.async false
set_option linter.all false
set_option maxRecDepth 1000000
set_option maxHeartbeats 4000000
/- ev9 -/
namespace G
variable [Wld]
open PySem PySem.Spec PyProof.Rows L2
open PySem.W (dataLe)
/-! ### rows among rows -/
theorem eqS_worth {a b : D} (ha : WorthD a) (hb : WorthD b) : eqS a b = true ↔ a = b := by
  rcases ha with rfl | ⟨i, rfl⟩ | ⟨x, rfl⟩ <;> rcases hb with rfl | ⟨j, rfl⟩ | ⟨y, rfl⟩ <;> simp [eqS]
theorem zf_rows {n : Nat} : ∀ {xs ys : List D}, (∀ x ∈ xs, WorthD x) → (∀ y ∈ ys, WorthD y) → ∃ b, zipF (deq n) xs ys = some b ∧ ((b && xs.length == ys.length) = true ↔ xs = ys)
  | [], [], _, _ => ⟨true, by unfold zipF; rfl, by simp⟩
  | [], _ :: _, _, _ => ⟨true, by unfold zipF; rfl, by simp⟩
  | _ :: _, [], _, _ => ⟨true, by unfold zipF; rfl, by simp⟩
  | x :: xs, y :: ys, h, h' => by
    obtain ⟨b, hb, hq⟩ := zf_rows (n := n) (xs := xs) (ys := ys) (fun z hz => h z (by simp [hz])) fun z hz => h' z (by simp [hz])
    refine ⟨eqS x y && b, ?_, ?_⟩
    · unfold zipF
      rw [deq_flat (h x (by simp)).flat, hb]
    · have e := eqS_worth (h x (by simp)) (h' y (by simp))
      rw [List.cons.injEq, ← hq, ← e]
      simp only [Bool.and_eq_true, List.length_cons, beq_iff_eq, Nat.add_right_cancel_iff, and_assoc]
theorem deq_rows {n : Nat} {l l2 : List D} (h : ∀ x ∈ l, WorthD x) (h2 : ∀ x ∈ l2, WorthD x) : ∃ b, deq (n + 1) (.tup l) (.tup l2) = some b ∧ (b = true ↔ l = l2) := by
  obtain ⟨b, hb, hq⟩ := zf_rows (n := n) h h2
  refine ⟨_, ?_, hq⟩
  unfold deq
  rw [hb]; rfl
theorem inF_rows {l : List D} (hl : ∀ w ∈ l, WorthD w) : ∀ {ds : List D}, Rows ds → ∃ b, inF (.tup l) ds = some b ∧ (b = true ↔ .tup l ∈ ds)
  | [], _ => ⟨false, rfl, by simp⟩
  | d :: ds, h => by
    obtain ⟨b, hb, hq⟩ := inF_rows hl (ds := ds) fun x hx => h x (by simp [hx])
    obtain ⟨r, rfl, _, _, hw⟩ := h d (by simp)
    obtain ⟨c, hc, hr⟩ := deq_rows (n := 58) hw hl
    refine ⟨c || b, ?_, ?_⟩
    · unfold inF
      rw [hc, hb]
    · rw [Bool.or_eq_true, hr, hq, List.mem_cons]
      constructor
      · rintro (rfl | h)
        · exact .inl rfl
        · exact .inr h
      · rintro (h | h)
        · exact .inl (by cases h; rfl)
        · exact .inr h
def memB (d : D) (ds : List D) : Bool := (inF d ds).getD false
theorem memB_iff {d : D} {ds : List D} (hd : ∃ l, d = .tup l ∧ ∀ w ∈ l, WorthD w) (h : Rows ds) : inF d ds = some (memB d ds) ∧ (memB d ds = true ↔ d ∈ ds) := by
  obtain ⟨l, rfl, hl⟩ := hd
  obtain ⟨b, hb, hq⟩ := inF_rows hl h
  unfold memB
  rw [hb]
  exact ⟨rfl, hq⟩
theorem nk_worth {d : D} (h : WorthD d) : ∃ k, nk d = some k ∧ k.depth = 0 := by
  rcases h with rfl | ⟨i, rfl⟩ | ⟨x, rfl⟩ <;> exact ⟨_, rfl, rfl⟩
theorem nks_worth : ∀ {l : List D}, (∀ w ∈ l, WorthD w) → ∃ ks, nks l = some ks ∧ NestedKey.depthAll ks = 0
  | [], _ => ⟨[], rfl, rfl⟩
  | d :: l, h => by
    obtain ⟨ks, h1, h2⟩ := nks_worth (l := l) fun w hw => h w (by simp [hw])
    obtain ⟨k, h3, h4⟩ := nk_worth (h d (by simp))
    refine ⟨k :: ks, ?_, ?_⟩
    · unfold nks
      rw [h3, h1]
    · show max k.depth (NestedKey.depthAll ks) = 0
      rw [h4, h2]; rfl
theorem rk_row {d : D} (hd : ∃ l, d = .tup l ∧ ∀ w ∈ l, WorthD w) : ∃ k, rk d = some k := by
  obtain ⟨l, rfl, hl⟩ := hd
  obtain ⟨ks, h1, h2⟩ := nks_worth hl
  refine ⟨.tup ks, ?_⟩
  show (nk (.tup l)).bind _ = _
  rw [show nk (.tup l) = some (.tup ks) from by show (nks l).map NestedKey.tup = _; rw [h1]; rfl]
  show (if (NestedKey.tup ks).depth ≤ 8 then _ else _) = _
  rw [if_pos (by show NestedKey.depthAll ks + 1 ≤ 8; omega)]
theorem Rows.row {ds : List D} (h : Rows ds) {d : D} (hd : d ∈ ds) : ∃ l, d = .tup l ∧ ∀ w ∈ l, WorthD w := by
  obtain ⟨r, rfl, _, _, hw⟩ := h d hd
  exact ⟨r, rfl, hw⟩
theorem Rows.datsB {ds : List D} (h : Rows ds) : datsB ds = true := datsB_of fun x hx => by
  obtain ⟨l, rfl, hw⟩ := h.row hx
  show G.datsB l = true
  exact datsB_of fun w hw' => (hw w hw').datB
/-- the rows of the one that aren't in the other -/
def lessR (a b : List D) : List D := a.filter fun d => !memB d b
theorem Rows.sub {a b : List D} (h : Rows a) : Rows (lessR a b) := fun d hd => h d (List.mem_filter.mp hd).1
theorem srtR_fix {ds : List D} (h : ds.Pairwise fun a b => dataLe false keyR a b = true) : srtR ds = ds := List.mergeSort_of_pairwise h
theorem srtR_pw (ds : List D) : (srtR ds).Pairwise fun a b => dataLe false keyR a b = true := PySem.W.sort_pairwise (PySem.W.sortLe_total _ _ _) ds
theorem srt_less (a b : List D) : srtR (lessR (srtR a) b) = lessR (srtR a) b := srtR_fix ((srtR_pw a).sublist List.filter_sublist)
def pairN (a b : List D) : D := .tup [.tup (lessR a b), .tup (lessR b a)]
def netD (T U : List (List D)) : D := .tup ((T.zip U).map fun p => pairN p.1 p.2)
theorem zip_at {α β : Type} {f : α → D} {g : β → D} {xs : List α} {ys : List β} {pre post : List D} {d : D} (h : zipD (xs.map f) (ys.map g) = pre ++ d :: post) : ∃ x y, xs[pre.length]? = some x ∧ ys[pre.length]? = some y ∧ d = .tup [f x, g y] := by
  have h1 := at_mid h
  obtain ⟨x, y, h2, h3, h4⟩ := zip_get h1
  rw [List.getElem?_map] at h2 h3
  obtain ⟨x', hx, rfl⟩ := Option.map_eq_some_iff.mp h2
  obtain ⟨y', hy, rfl⟩ := Option.map_eq_some_iff.mp h3
  exact ⟨x', y', hx, hy, h4⟩
theorem take_snoc {α : Type} {l : List α} {i : Nat} {a : α} (h : l[i]? = some a) : l.take (i + 1) = l.take i ++ [a] := by
  rw [List.take_add_one, h]; rfl
def pairsN (T U : List (List D)) (i : Nat) : List D := ((T.zip U).take i).map fun p => pairN p.1 p.2
theorem pairsN_snoc {T U : List (List D)} {i : Nat} {a b : List D} (h1 : T[i]? = some a) (h2 : U[i]? = some b) : pairsN T U (i + 1) = pairsN T U i ++ [pairN a b] := by
  have : (T.zip U)[i]? = some (a, b) := by rw [List.getElem?_zip_eq_some]; exact ⟨h1, h2⟩
  unfold pairsN
  rw [take_snoc this, List.map_append]; rfl
/-- the law's own loops -/
theorem lnet_ok {T U : List (List D)} (hT : ∀ a ∈ T, Rows a ∧ srtR a = a) (hU : ∀ a ∈ U, Rows a ∧ srtR a = a) (hl : T.length ≤ 1000) {S : Sto} : Fp f__law_net [.d (storeD T), .d (storeD U)] S fun r S' => r = .d (netD T U) ∧ S' = S := by
  unfold f__law_net storeD
  rw [fp_runF]
  simp only [ev0, ev1, ev2, ev3, ev4, ev5, ev6, ev7, ev8, ev9, wp_ix_refC, wp_setItE, List.map_cons, List.map_nil, List.replicate, List.cons_append, List.nil_append, List.length_cons, List.length_nil, List.set_cons_succ, List.set_cons_zero, List.getElem?_cons_zero, List.getElem?_cons_succ, Option.map_some, Option.bind_some, List.all_cons, List.all_nil, List.isEmpty_nil, List.isEmpty_cons, eq_self, if_true, if_false, ite_true, ite_false, Option.some.injEq, exists_eq_left', exists_eq_left, Nat.reduceAdd, Nat.reduceLT, Nat.reduceLeDiff, Int.reduceLE, Int.reduceLT, Int.reduceNeg, Int.reducePow, Int.reduceToNat, b__law_net]
  refine wp_zipC ⟨_, _, rfl, rfl, rfl, rfl, ?_⟩
  refine wp_forL' (fun pre post e S1 => S1 = S ∧ pre.length ≤ T.length ∧ ∃ a b c, e = [some (.d (.tup (T.map D.tup))), some (.d (.tup (U.map D.tup))), some (.own (.lst (pairsN T U pre.length))), a, b, c, none]) ⟨rfl, Nat.zero_le _, none, none, none, rfl⟩ ?_ ?_
  · rintro pre d post e S1 hp ⟨rfl, _, a, b, c, rfl⟩
    obtain ⟨x, y, hx, hy, rfl⟩ := zip_at hp
    have rx := hT x (List.mem_of_getElem? hx)
    have ry := hU y (List.mem_of_getElem? hy)
    have hxl := (List.getElem?_eq_some_iff.mp hx).1
    refine ⟨_, rfl, ?_⟩
    simp only [ev0, ev1, ev2, ev3, ev4, ev5, ev6, ev7, ev8, ev9, wp_ix_refC, wp_setItE, List.map_cons, List.map_nil, List.replicate, List.cons_append, List.nil_append, List.length_cons, List.length_nil, List.set_cons_succ, List.set_cons_zero, List.getElem?_cons_zero, List.getElem?_cons_succ, Option.map_some, Option.bind_some, List.all_cons, List.all_nil, List.isEmpty_nil, List.isEmpty_cons, eq_self, if_true, if_false, ite_true, ite_false, Option.some.injEq, exists_eq_left', exists_eq_left, Nat.reduceAdd, Nat.reduceLT, Nat.reduceLeDiff, Int.reduceLE, Int.reduceLT, Int.reduceNeg, Int.reducePow, Int.reduceToNat]
    refine wp_compL_fm (fun d => !memB d y) id (fun _ => wat_nil _ _) (fun d hd => ?_) ?_
    · have hr := rx.1.row hd
      obtain ⟨m1, m2⟩ := memB_iff hr ry.1
      obtain ⟨l, rfl, hlw⟩ := hr
      refine ⟨_, gt_name.mpr ⟨by simp, rfl⟩, ?_⟩
      simp only [ev0, ev1, ev2, ev3, ev4, ev5, ev6, ev7, ev8, ev9, wp_ix_refC, wp_setItE, List.map_cons, List.map_nil, List.replicate, List.cons_append, List.nil_append, List.length_cons, List.length_nil, List.set_cons_succ, List.set_cons_zero, List.getElem?_cons_zero, List.getElem?_cons_succ, Option.map_some, Option.bind_some, List.all_cons, List.all_nil, List.isEmpty_nil, List.isEmpty_cons, eq_self, if_true, if_false, ite_true, ite_false, Option.some.injEq, exists_eq_left', exists_eq_left, Nat.reduceAdd, Nat.reduceLT, Nat.reduceLeDiff, Int.reduceLE, Int.reduceLT, Int.reduceNeg, Int.reducePow, Int.reduceToNat]
      refine ⟨datsB_of fun w hw' => (hlw w hw').datB, ry.1.datsB, _, m1, ?_⟩
      first | rfl | (cases memB (.tup l) y <;> first | rfl | simp)
    · rw [List.map_id]
      refine (rises_ok (rx.1.sub (b := y)) (.inr rfl)).mono ?_
      rintro r S2 ⟨rfl, rfl⟩
      simp only [ev0, ev1, ev2, ev3, ev4, ev5, ev6, ev7, ev8, ev9, wp_ix_refC, wp_setItE, List.map_cons, List.map_nil, List.replicate, List.cons_append, List.nil_append, List.length_cons, List.length_nil, List.set_cons_succ, List.set_cons_zero, List.getElem?_cons_zero, List.getElem?_cons_succ, Option.map_some, Option.bind_some, List.all_cons, List.all_nil, List.isEmpty_nil, List.isEmpty_cons, eq_self, if_true, if_false, ite_true, ite_false, Option.some.injEq, exists_eq_left', exists_eq_left, Nat.reduceAdd, Nat.reduceLT, Nat.reduceLeDiff, Int.reduceLE, Int.reduceLT, Int.reduceNeg, Int.reducePow, Int.reduceToNat]
      refine wp_compL_fm (fun d => !memB d x) id (fun _ => wat_nil _ _) (fun d hd => ?_) ?_
      · have hr := ry.1.row hd
        obtain ⟨m1, m2⟩ := memB_iff hr rx.1
        obtain ⟨l, rfl, hlw⟩ := hr
        refine ⟨_, gt_name.mpr ⟨by simp, rfl⟩, ?_⟩
        simp only [ev0, ev1, ev2, ev3, ev4, ev5, ev6, ev7, ev8, ev9, wp_ix_refC, wp_setItE, List.map_cons, List.map_nil, List.replicate, List.cons_append, List.nil_append, List.length_cons, List.length_nil, List.set_cons_succ, List.set_cons_zero, List.getElem?_cons_zero, List.getElem?_cons_succ, Option.map_some, Option.bind_some, List.all_cons, List.all_nil, List.isEmpty_nil, List.isEmpty_cons, eq_self, if_true, if_false, ite_true, ite_false, Option.some.injEq, exists_eq_left', exists_eq_left, Nat.reduceAdd, Nat.reduceLT, Nat.reduceLeDiff, Int.reduceLE, Int.reduceLT, Int.reduceNeg, Int.reducePow, Int.reduceToNat]
        refine ⟨datsB_of fun w hw' => (hlw w hw').datB, rx.1.datsB, _, m1, ?_⟩
        first | rfl | (cases memB (.tup l) x <;> first | rfl | simp)
      · rw [List.map_id]
        refine (rises_ok (ry.1.sub (b := x)) (.inr rfl)).mono ?_
        rintro r S2 ⟨rfl, rfl⟩
        have e1 : srtR (lessR x y) = lessR x y := by have := srt_less x y; rwa [rx.2] at this
        have e2 : srtR (lessR y x) = lessR y x := by have := srt_less y x; rwa [ry.2] at this
        have hpl : (pairsN T U pre.length).length < 1000000 := by
          unfold pairsN
          rw [List.length_map, List.length_take]; omega
        simp only [ev0, ev1, ev2, ev3, ev4, ev5, ev6, ev7, ev8, ev9, wp_ix_refC, wp_setItE, List.map_cons, List.map_nil, List.replicate, List.cons_append, List.nil_append, List.length_cons, List.length_nil, List.set_cons_succ, List.set_cons_zero, List.getElem?_cons_zero, List.getElem?_cons_succ, Option.map_some, Option.bind_some, List.all_cons, List.all_nil, List.isEmpty_nil, List.isEmpty_cons, eq_self, if_true, if_false, ite_true, ite_false, Option.some.injEq, exists_eq_left', exists_eq_left, Nat.reduceAdd, Nat.reduceLT, Nat.reduceLeDiff, Int.reduceLE, Int.reduceLT, Int.reduceNeg, Int.reducePow, Int.reduceToNat]
        refine ⟨hpl, ?_⟩
        rw [List.length_append, List.length_singleton, pairsN_snoc hx hy]
        rw [e1, e2]
        exact ⟨by omega, _, _, _, rfl⟩
  · rintro e S1 ⟨rfl, _, a, b, c, rfl⟩
    simp only [ev0, ev1, ev2, ev3, ev4, ev5, ev6, ev7, ev8, ev9, wp_ix_refC, wp_setItE, List.map_cons, List.map_nil, List.replicate, List.cons_append, List.nil_append, List.length_cons, List.length_nil, List.set_cons_succ, List.set_cons_zero, List.getElem?_cons_zero, List.getElem?_cons_succ, Option.map_some, Option.bind_some, List.all_cons, List.all_nil, List.isEmpty_nil, List.isEmpty_cons, eq_self, if_true, if_false, ite_true, ite_false, Option.some.injEq, exists_eq_left', exists_eq_left, Nat.reduceAdd, Nat.reduceLT, Nat.reduceLeDiff, Int.reduceLE, Int.reduceLT, Int.reduceNeg, Int.reducePow, Int.reduceToNat]
    unfold netD pairsN
    rw [zip_len, List.length_map, List.length_map, List.take_of_length_le (by rw [List.length_zip]; exact Nat.le_refl _)]
end G

set_option Elab.async false
set_option linter.all false
set_option maxRecDepth 1000000
set_option maxHeartbeats 4000000
/- ev9 -/
namespace G
variable [Wld]
open PySem PySem.Spec PyProof.Rows L2
open PySem.W (dataLe)
/-! ### the program's net -/
theorem comp_kd {e : En} {S : Sto} {vs : List Nat} {t : Tgt} {c : M Bool} {elt : M R} {ws : List (R × List D)} {ds : List D} {f : D → D} {q : List D → En → Sto → Prop} (hw : wat ws e S = true)
    (hs : ∀ d ∈ ds, ∃ e1, t d e = some e1 ∧ Wp c e1 S fun b e2 S2 => b = true ∧ Wp elt e2 S2 fun r e3 S3 => r = .d (.tup [d, f d]) ∧ wipeE e3 vs = e ∧ S3 = S) (h : q (ds.map fun d => .tup [d, f d]) e S) : Wp (compL vs t c elt ws ds) e S q := by
  refine wp_compL_fS (fun _ => true) (fun d => .tup [d, f d]) hw (fun d hd => ?_) (by rw [List.filter_eq_self.mpr fun _ _ => rfl]; exact h)
  obtain ⟨e1, h1, h2⟩ := hs d hd
  refine ⟨e1, h1, h2.mono ?_⟩
  rintro b e2 S2 ⟨rfl, h3⟩
  exact ⟨rfl, by rw [if_pos rfl]; exact h3⟩
theorem has_mem {f : D → D} {ds : List D} {ps : List Tr} (hds : Rows ds) (h : kdsOf (ds.map fun d => .tup [d, f d]) = some ps) (e : ps.map (·.1) = ds) {x : D} (hx : ∃ l, x = .tup l ∧ ∀ w ∈ l, WorthD w) {k : NestedKey} (hk : rk x = some k) : (valKd (mergeKd [] ps) k).isSome = memB x ds := by
  have h1 := hasKd_rows h e hk
  have h2 := (memB_iff hx hds).2
  rw [valKd_isSome]
  cases h3 : memB x ds with
  | true => exact h1.mpr (h2.mp h3)
  | false =>
    cases h4 : hasKd (mergeKd [] ps) k with
    | false => rfl
    | true => rw [h2.mpr (h1.mp h4)] at h3; cases h3
theorem net_ok {lay : D} {T U : List (List D)} (hT : ∀ a ∈ T, Rows a) (hU : ∀ a ∈ U, Rows a) (hl : T.length ≤ 1000) {S : Sto} : Fp f_net [.d lay, .d (storeD T), .d (storeD U)] S fun r S' => r = .d (netD T U) ∧ ∃ L, S' = S ++ L := by
  unfold f_net storeD
  rw [fp_runF]
  simp only [ev0, ev1, ev2, ev3, ev4, ev5, ev6, ev7, ev8, ev9, wp_ix_refC, wp_setItE, List.map_cons, List.map_nil, List.replicate, List.cons_append, List.nil_append, List.length_cons, List.length_nil, List.set_cons_succ, List.set_cons_zero, List.getElem?_cons_zero, List.getElem?_cons_succ, Option.map_some, Option.bind_some, List.all_cons, List.all_nil, List.isEmpty_nil, List.isEmpty_cons, eq_self, if_true, if_false, ite_true, ite_false, Option.some.injEq, exists_eq_left', exists_eq_left, Nat.reduceAdd, Nat.reduceLT, Nat.reduceLeDiff, Int.reduceLE, Int.reduceLT, Int.reduceNeg, Int.reducePow, Int.reduceToNat, b_net]
  refine wp_zipC ⟨_, _, rfl, rfl, rfl, rfl, ?_⟩
  refine wp_forL' (fun pre post e S1 => (∃ L, S1 = S ++ L) ∧ pre.length ≤ T.length ∧ ∃ a b c d f, e = [some (.d lay), some (.d (.tup (T.map D.tup))), some (.d (.tup (U.map D.tup))), some (.own (.lst (pairsN T U pre.length))), a, b, c, d, f, none]) ⟨⟨[], by simp⟩, Nat.zero_le _, none, none, none, none, none, rfl⟩ ?_ ?_
  · rintro pre d post e S1 hp ⟨⟨L, rfl⟩, _, a, b, c, d, f, rfl⟩
    obtain ⟨x, y, hx, hy, rfl⟩ := zip_at hp
    have rx := hT x (List.mem_of_getElem? hx)
    have ry := hU y (List.mem_of_getElem? hy)
    have hxl := (List.getElem?_eq_some_iff.mp hx).1
    obtain ⟨px, px1, px2⟩ := kdsOf_map (fun _ => D.bl true) fun d hd => rk_row (rx.row hd)
    obtain ⟨py, py1, py2⟩ := kdsOf_map (fun _ => D.bl true) fun d hd => rk_row (ry.row hd)
    refine ⟨_, rfl, ?_⟩
    simp only [ev0, ev1, ev2, ev3, ev4, ev5, ev6, ev7, ev8, ev9, wp_ix_refC, wp_setItE, List.map_cons, List.map_nil, List.replicate, List.cons_append, List.nil_append, List.length_cons, List.length_nil, List.set_cons_succ, List.set_cons_zero, List.getElem?_cons_zero, List.getElem?_cons_succ, Option.map_some, Option.bind_some, List.all_cons, List.all_nil, List.isEmpty_nil, List.isEmpty_cons, eq_self, if_true, if_false, ite_true, ite_false, Option.some.injEq, exists_eq_left', exists_eq_left, Nat.reduceAdd, Nat.reduceLT, Nat.reduceLeDiff, Int.reduceLE, Int.reduceLT, Int.reduceNeg, Int.reducePow, Int.reduceToNat, wp_mDcK]
    refine comp_kd (f := fun _ => D.bl true) (wat_nil _ _) (fun d hd => ?_) ?_
    · refine ⟨_, gt_name.mpr ⟨by simp, rfl⟩, ?_⟩
      simp only [ev0, ev1, ev2, ev3, ev4, ev5, ev6, ev7, ev8, ev9, wp_ix_refC, wp_setItE, List.map_cons, List.map_nil, List.replicate, List.cons_append, List.nil_append, List.length_cons, List.length_nil, List.set_cons_succ, List.set_cons_zero, List.getElem?_cons_zero, List.getElem?_cons_succ, Option.map_some, Option.bind_some, List.all_cons, List.all_nil, List.isEmpty_nil, List.isEmpty_cons, eq_self, if_true, if_false, ite_true, ite_false, Option.some.injEq, exists_eq_left', exists_eq_left, Nat.reduceAdd, Nat.reduceLT, Nat.reduceLeDiff, Int.reduceLE, Int.reduceLT, Int.reduceNeg, Int.reducePow, Int.reduceToNat]
    simp only [ev0, ev1, ev2, ev3, ev4, ev5, ev6, ev7, ev8, ev9, wp_ix_refC, wp_setItE, List.map_cons, List.map_nil, List.replicate, List.cons_append, List.nil_append, List.length_cons, List.length_nil, List.set_cons_succ, List.set_cons_zero, List.getElem?_cons_zero, List.getElem?_cons_succ, Option.map_some, Option.bind_some, List.all_cons, List.all_nil, List.isEmpty_nil, List.isEmpty_cons, eq_self, if_true, if_false, ite_true, ite_false, Option.some.injEq, exists_eq_left', exists_eq_left, Nat.reduceAdd, Nat.reduceLT, Nat.reduceLeDiff, Int.reduceLE, Int.reduceLT, Int.reduceNeg, Int.reducePow, Int.reduceToNat, px1]
    refine comp_kd (f := fun _ => D.bl true) (wat_nil _ _) (fun d hd => ?_) ?_
    · refine ⟨_, gt_name.mpr ⟨by simp, rfl⟩, ?_⟩
      simp only [ev0, ev1, ev2, ev3, ev4, ev5, ev6, ev7, ev8, ev9, wp_ix_refC, wp_setItE, List.map_cons, List.map_nil, List.replicate, List.cons_append, List.nil_append, List.length_cons, List.length_nil, List.set_cons_succ, List.set_cons_zero, List.getElem?_cons_zero, List.getElem?_cons_succ, Option.map_some, Option.bind_some, List.all_cons, List.all_nil, List.isEmpty_nil, List.isEmpty_cons, eq_self, if_true, if_false, ite_true, ite_false, Option.some.injEq, exists_eq_left', exists_eq_left, Nat.reduceAdd, Nat.reduceLT, Nat.reduceLeDiff, Int.reduceLE, Int.reduceLT, Int.reduceNeg, Int.reducePow, Int.reduceToNat]
    simp only [ev0, ev1, ev2, ev3, ev4, ev5, ev6, ev7, ev8, ev9, wp_ix_refC, wp_setItE, List.map_cons, List.map_nil, List.replicate, List.cons_append, List.nil_append, List.length_cons, List.length_nil, List.set_cons_succ, List.set_cons_zero, List.getElem?_cons_zero, List.getElem?_cons_succ, Option.map_some, Option.bind_some, List.all_cons, List.all_nil, List.isEmpty_nil, List.isEmpty_cons, eq_self, if_true, if_false, ite_true, ite_false, Option.some.injEq, exists_eq_left', exists_eq_left, Nat.reduceAdd, Nat.reduceLT, Nat.reduceLeDiff, Int.reduceLE, Int.reduceLT, Int.reduceNeg, Int.reducePow, Int.reduceToNat, py1]
    have hat1 : ∀ o1 o2 : O, (S ++ L ++ [o1] ++ [o2])[(S ++ L).length]? = some o1 := fun o1 o2 => by
      rw [List.getElem?_append_left (by simp)]; simp
    have hat2 : ∀ o1 o2 : O, (S ++ L ++ [o1] ++ [o2])[(S ++ L ++ [o1]).length]? = some o2 := fun o1 o2 => by simp
    refine wp_compL_fm (fun d => !memB d y) id (fun _ => wat_nil _ _) (fun d hd => ?_) ?_
    · have hr := rx.row hd
      obtain ⟨k, hk⟩ := rk_row hr
      refine ⟨_, gt_name.mpr ⟨by simp, rfl⟩, ?_⟩
      simp only [ev0, ev1, ev2, ev3, ev4, ev5, ev6, ev7, ev8, ev9, wp_ix_refC, wp_setItE, List.map_cons, List.map_nil, List.replicate, List.cons_append, List.nil_append, List.length_cons, List.length_nil, List.set_cons_succ, List.set_cons_zero, List.getElem?_cons_zero, List.getElem?_cons_succ, Option.map_some, Option.bind_some, List.all_cons, List.all_nil, List.isEmpty_nil, List.isEmpty_cons, eq_self, if_true, if_false, ite_true, ite_false, Option.some.injEq, exists_eq_left', exists_eq_left, Nat.reduceAdd, Nat.reduceLT, Nat.reduceLeDiff, Int.reduceLE, Int.reduceLT, Int.reduceNeg, Int.reducePow, Int.reduceToNat, wp_inK]
      refine ⟨_, hat2 _ _, k, hk, ?_⟩
      rw [has_mem ry py1 py2 hr hk]
      cases memB d y <;> simp <;> simp only [ev0, ev1, ev2, ev3, ev4, ev5, ev6, ev7, ev8, ev9, wp_ix_refC, wp_setItE, List.map_cons, List.map_nil, List.replicate, List.cons_append, List.nil_append, List.length_cons, List.length_nil, List.set_cons_succ, List.set_cons_zero, List.getElem?_cons_zero, List.getElem?_cons_succ, Option.map_some, Option.bind_some, List.all_cons, List.all_nil, List.isEmpty_nil, List.isEmpty_cons, eq_self, if_true, if_false, ite_true, ite_false, Option.some.injEq, exists_eq_left', exists_eq_left, Nat.reduceAdd, Nat.reduceLT, Nat.reduceLeDiff, Int.reduceLE, Int.reduceLT, Int.reduceNeg, Int.reducePow, Int.reduceToNat]
    · rw [List.map_id]
      have hpl : (pairsN T U pre.length).length < 1000000 := by
        unfold pairsN
        rw [List.length_map, List.length_take]; omega
      simp only [ev0, ev1, ev2, ev3, ev4, ev5, ev6, ev7, ev8, ev9, wp_ix_refC, wp_setItE, List.map_cons, List.map_nil, List.replicate, List.cons_append, List.nil_append, List.length_cons, List.length_nil, List.set_cons_succ, List.set_cons_zero, List.getElem?_cons_zero, List.getElem?_cons_succ, Option.map_some, Option.bind_some, List.all_cons, List.all_nil, List.isEmpty_nil, List.isEmpty_cons, eq_self, if_true, if_false, ite_true, ite_false, Option.some.injEq, exists_eq_left', exists_eq_left, Nat.reduceAdd, Nat.reduceLT, Nat.reduceLeDiff, Int.reduceLE, Int.reduceLT, Int.reduceNeg, Int.reducePow, Int.reduceToNat]
      refine wp_compL_fm (fun d => !memB d x) id (fun _ => wat_nil _ _) (fun d hd => ?_) ?_
      · have hr := ry.row hd
        obtain ⟨k, hk⟩ := rk_row hr
        refine ⟨_, gt_name.mpr ⟨by simp, rfl⟩, ?_⟩
        simp only [ev0, ev1, ev2, ev3, ev4, ev5, ev6, ev7, ev8, ev9, wp_ix_refC, wp_setItE, List.map_cons, List.map_nil, List.replicate, List.cons_append, List.nil_append, List.length_cons, List.length_nil, List.set_cons_succ, List.set_cons_zero, List.getElem?_cons_zero, List.getElem?_cons_succ, Option.map_some, Option.bind_some, List.all_cons, List.all_nil, List.isEmpty_nil, List.isEmpty_cons, eq_self, if_true, if_false, ite_true, ite_false, Option.some.injEq, exists_eq_left', exists_eq_left, Nat.reduceAdd, Nat.reduceLT, Nat.reduceLeDiff, Int.reduceLE, Int.reduceLT, Int.reduceNeg, Int.reducePow, Int.reduceToNat, wp_inK]
        refine ⟨_, hat1 _ _, k, hk, ?_⟩
        rw [has_mem rx px1 px2 hr hk]
        cases memB d x <;> simp <;> simp only [ev0, ev1, ev2, ev3, ev4, ev5, ev6, ev7, ev8, ev9, wp_ix_refC, wp_setItE, List.map_cons, List.map_nil, List.replicate, List.cons_append, List.nil_append, List.length_cons, List.length_nil, List.set_cons_succ, List.set_cons_zero, List.getElem?_cons_zero, List.getElem?_cons_succ, Option.map_some, Option.bind_some, List.all_cons, List.all_nil, List.isEmpty_nil, List.isEmpty_cons, eq_self, if_true, if_false, ite_true, ite_false, Option.some.injEq, exists_eq_left', exists_eq_left, Nat.reduceAdd, Nat.reduceLT, Nat.reduceLeDiff, Int.reduceLE, Int.reduceLT, Int.reduceNeg, Int.reducePow, Int.reduceToNat]
      · rw [List.map_id]
        simp only [ev0, ev1, ev2, ev3, ev4, ev5, ev6, ev7, ev8, ev9, wp_ix_refC, wp_setItE, List.map_cons, List.map_nil, List.replicate, List.cons_append, List.nil_append, List.length_cons, List.length_nil, List.set_cons_succ, List.set_cons_zero, List.getElem?_cons_zero, List.getElem?_cons_succ, Option.map_some, Option.bind_some, List.all_cons, List.all_nil, List.isEmpty_nil, List.isEmpty_cons, eq_self, if_true, if_false, ite_true, ite_false, Option.some.injEq, exists_eq_left', exists_eq_left, Nat.reduceAdd, Nat.reduceLT, Nat.reduceLeDiff, Int.reduceLE, Int.reduceLT, Int.reduceNeg, Int.reducePow, Int.reduceToNat]
        refine ⟨hpl, ?_⟩
        rw [List.length_append, List.length_singleton, pairsN_snoc hx hy]
        exact ⟨⟨L ++ [_] ++ [_], by simp only [List.append_assoc]; rfl⟩, by omega, _, _, _, _, _, rfl⟩
  · rintro e S1 ⟨hL, _, a, b, c, d, f, rfl⟩
    simp only [ev0, ev1, ev2, ev3, ev4, ev5, ev6, ev7, ev8, ev9, wp_ix_refC, wp_setItE, List.map_cons, List.map_nil, List.replicate, List.cons_append, List.nil_append, List.length_cons, List.length_nil, List.set_cons_succ, List.set_cons_zero, List.getElem?_cons_zero, List.getElem?_cons_succ, Option.map_some, Option.bind_some, List.all_cons, List.all_nil, List.isEmpty_nil, List.isEmpty_cons, eq_self, if_true, if_false, ite_true, ite_false, Option.some.injEq, exists_eq_left', exists_eq_left, Nat.reduceAdd, Nat.reduceLT, Nat.reduceLeDiff, Int.reduceLE, Int.reduceLT, Int.reduceNeg, Int.reducePow, Int.reduceToNat]
    unfold netD pairsN
    rw [zip_len, List.length_map, List.length_map, List.take_of_length_le (by rw [List.length_zip]; exact Nat.le_refl _)]
    exact ⟨rfl, hL⟩
end G

set_option Elab.async false
set_option linter.all false
set_option maxRecDepth 1000000
set_option maxHeartbeats 4000000
/- ev9 -/
namespace G
variable [Wld]
open PySem PySem.Spec PyProof.Rows L2
open PySem.W (dataLe)
/-! ### a store drawn -/
theorem putR_tab {cs : List (Str × Bool)} {rs : List D} (h : TabOk cs rs) {row : List D} (hr : RowOk cs row) : TabOk cs (putR rs (.tup row)) := by
  obtain ⟨k, l', rfl, hkd⟩ := hr.keyD
  have hkx : kk (.tup (k :: l')) = kx k := rfl
  have hp := putR_perm (row := .tup (k :: l')) h.kks
  refine (putT_ok h hr).perm (hp.trans ?_)
  unfold putT
  refine List.Perm.append_right _ ?_
  have ef : rs.filter (fun r => !eqS (key0 r) (key0 (.tup (k :: l')))) = rs.filter fun r => decide (kk r ≠ kk (.tup (k :: l'))) := List.filter_congr fun r hr2 => by rw [hkx]; exact (pred_eq h hkd hr2).symm
  rw [ef]
theorem putR_len (rs : List D) (row : D) : (putR rs row).length ≤ rs.length + 1 := by
  unfold putR
  split <;> simp
theorem store_ok {ts : Lay} (g : GoodLay ts) {n k : Nat} {S : Sto} (hS : Pt n k S) (hk : k ≤ 500000000) :
    Fp f__law_store [.d (.ref n), .d (layD ts), .d (.int 8)] S fun r S' => ∃ T, r = .d (storeD (T.map srtR)) ∧ TabsOk ts 8 T ∧ Dr n (k + 300) S S' := by
  unfold f__law_store layD
  rw [fp_runF]
  simp only [ev0, ev1, ev2, ev3, ev4, ev5, ev6, ev7, ev8, ev9, wp_ix_refC, wp_setItE, List.map_cons, List.map_nil, List.replicate, List.cons_append, List.nil_append, List.length_cons, List.length_nil, List.set_cons_succ, List.set_cons_zero, List.getElem?_cons_zero, List.getElem?_cons_succ, Option.map_some, Option.bind_some, List.all_cons, List.all_nil, List.isEmpty_nil, List.isEmpty_cons, eq_self, if_true, if_false, ite_true, ite_false, Option.some.injEq, exists_eq_left', exists_eq_left, Nat.reduceAdd, Nat.reduceLT, Nat.reduceLeDiff, Int.reduceLE, Int.reduceLT, Int.reduceNeg, Int.reducePow, Int.reduceToNat, b__law_store]
  refine wp_forL' (fun pre post e S1 => Dr n (k + 100 * pre.length) S S1 ∧ pre.length ≤ ts.length ∧ ∃ T : List (List D), T.length = pre.length ∧ (∀ (i : Nat) (t : Str × List (Str × Bool)) (rows : List D), ts[i]? = some t → T[i]? = some rows → TabOk t.2 rows ∧ rows.length ≤ 8) ∧
    ∃ a b c d f, e = [some (.d (.ref n)), some (.d (.tup (ts.map tabD))), some (.d (.int 8)), some (.own (.lst (T.map fun rs => D.tup (srtR rs)))), a, b, c, d, f]) ⟨Dr.refl hS, Nat.zero_le _, [], rfl, fun i t rows _ z => by simp at z, none, none, none, none, none, rfl⟩ ?_ ?_
  · rintro pre d post e S1 hp ⟨dr, _, T, hTl, hT, a, b, c, d0, f, rfl⟩
    have hat := at_mid hp
    rw [List.getElem?_map] at hat
    obtain ⟨t, ht, rfl⟩ := Option.map_eq_some_iff.mp hat
    have hcl := g.cl _ (List.mem_of_getElem? ht)
    have hlt := (List.getElem?_eq_some_iff.mp ht).1
    obtain ⟨nm, cs⟩ := t
    refine ⟨_, rfl, ?_⟩
    have h3 := g.len
    simp only [ev0, ev1, ev2, ev3, ev4, ev5, ev6, ev7, ev8, ev9, wp_ix_refC, wp_setItE, List.map_cons, List.map_nil, List.replicate, List.cons_append, List.nil_append, List.length_cons, List.length_nil, List.set_cons_succ, List.set_cons_zero, List.getElem?_cons_zero, List.getElem?_cons_succ, Option.map_some, Option.bind_some, List.all_cons, List.all_nil, List.isEmpty_nil, List.isEmpty_cons, eq_self, if_true, if_false, ite_true, ite_false, Option.some.injEq, exists_eq_left', exists_eq_left, Nat.reduceAdd, Nat.reduceLT, Nat.reduceLeDiff, Int.reduceLE, Int.reduceLT, Int.reduceNeg, Int.reducePow, Int.reduceToNat]
    refine (take_ok (m := 9) dr.pt (by omega) (by omega) (by omega)).mono ?_
    rintro r S2 ⟨m, rfl, hm, dr2⟩
    simp only [ev0, ev1, ev2, ev3, ev4, ev5, ev6, ev7, ev8, ev9, wp_ix_refC, wp_setItE, List.map_cons, List.map_nil, List.replicate, List.cons_append, List.nil_append, List.length_cons, List.length_nil, List.set_cons_succ, List.set_cons_zero, List.getElem?_cons_zero, List.getElem?_cons_succ, Option.map_some, Option.bind_some, List.all_cons, List.all_nil, List.isEmpty_nil, List.isEmpty_cons, eq_self, if_true, if_false, ite_true, ite_false, Option.some.injEq, exists_eq_left', exists_eq_left, Nat.reduceAdd, Nat.reduceLT, Nat.reduceLeDiff, Int.reduceLE, Int.reduceLT, Int.reduceNeg, Int.reducePow, Int.reduceToNat]
    refine ⟨⟨by omega, by omega⟩, ?_⟩
    refine wp_forL' (fun pre2 post2 e S3 => Dr n (k + 100 * pre.length + 1 + 8 * pre2.length) S S3 ∧ pre2.length ≤ m ∧ ∃ rs : List D, TabOk cs rs ∧ rs.length ≤ pre2.length ∧ 
      ∃ d f, e = [some (.d (.ref n)), some (.d (.tup (ts.map tabD))), some (.d (.int 8)), some (.own (.lst (T.map fun rs => D.tup (srtR rs)))), some (.d (.str nm)), some (.d (.tup (cs.map colD))), some (.own (.dct (prD rs))), d, f]) ⟨(dr.trans dr2).mono (by simp), Nat.zero_le _, [], ⟨fun r hr => by simp at hr, List.nodup_nil⟩, Nat.le_refl _, d0, f, rfl⟩ ?_ ?_
    · rintro pre2 d2 post2 e S3 hp2 ⟨dr3, _, rs, hrs, hrl, d1, f1, rfl⟩
      have hp2m : pre2.length < m := by
        have := congrArg List.length hp2
        rw [rngD_len] at this
        simp at this; omega
      refine ⟨_, gt_name.mpr ⟨by simp, rfl⟩, ?_⟩
      simp only [ev0, ev1, ev2, ev3, ev4, ev5, ev6, ev7, ev8, ev9, wp_ix_refC, wp_setItE, List.map_cons, List.map_nil, List.replicate, List.cons_append, List.nil_append, List.length_cons, List.length_nil, List.set_cons_succ, List.set_cons_zero, List.getElem?_cons_zero, List.getElem?_cons_succ, Option.map_some, Option.bind_some, List.all_cons, List.all_nil, List.isEmpty_nil, List.isEmpty_cons, eq_self, if_true, if_false, ite_true, ite_false, Option.some.injEq, exists_eq_left', exists_eq_left, Nat.reduceAdd, Nat.reduceLT, Nat.reduceLeDiff, Int.reduceLE, Int.reduceLT, Int.reduceNeg, Int.reducePow, Int.reduceToNat]
      refine (row_ok cs hcl.1 hcl.2 dr3.pt (by omega)).mono ?_
      rintro r S4 ⟨ds, rfl, hrow, dr4⟩
      obtain ⟨kq, l', rfl, hkd⟩ := hrow.keyD
      obtain ⟨kx0, hkx0⟩ := hkd.some
      simp only [ev0, ev1, ev2, ev3, ev4, ev5, ev6, ev7, ev8, ev9, wp_ix_refC, wp_setItE, List.map_cons, List.map_nil, List.replicate, List.cons_append, List.nil_append, List.length_cons, List.length_nil, List.set_cons_succ, List.set_cons_zero, List.getElem?_cons_zero, List.getElem?_cons_succ, Option.map_some, Option.bind_some, List.all_cons, List.all_nil, List.isEmpty_nil, List.isEmpty_cons, eq_self, if_true, if_false, ite_true, ite_false, Option.some.injEq, exists_eq_left', exists_eq_left, Nat.reduceAdd, Nat.reduceLT, Nat.reduceLeDiff, Int.reduceLE, Int.reduceLT, Int.reduceNeg, Int.reducePow, Int.reduceToNat]
      have hkk : kk (.tup (kq :: l')) = kx0 := by
        show (keyOf kq).getD _ = _
        rw [hkx0]; rfl
      refine ⟨by unfold prD; rw [List.length_map]; omega, kx0, hkx0, ?_⟩
      rw [← hkk, putD_prD, List.length_append, List.length_singleton]
      exact ⟨(dr3.trans dr4).mono (by omega), by omega, _, putR_tab hrs hrow, Nat.le_trans (putR_len _ _) (by omega), _, _, rfl⟩
    · rintro e S3 ⟨dr3, _, rs, hrs, hrl, d1, f1, rfl⟩
      rw [rngD_len] at hrl dr3
      simp only [ev0, ev1, ev2, ev3, ev4, ev5, ev6, ev7, ev8, ev9, wp_ix_refC, wp_setItE, List.map_cons, List.map_nil, List.replicate, List.cons_append, List.nil_append, List.length_cons, List.length_nil, List.set_cons_succ, List.set_cons_zero, List.getElem?_cons_zero, List.getElem?_cons_succ, Option.map_some, Option.bind_some, List.all_cons, List.all_nil, List.isEmpty_nil, List.isEmpty_cons, eq_self, if_true, if_false, ite_true, ite_false, Option.some.injEq, exists_eq_left', exists_eq_left, Nat.reduceAdd, Nat.reduceLT, Nat.reduceLeDiff, Int.reduceLE, Int.reduceLT, Int.reduceNeg, Int.reducePow, Int.reduceToNat]
      rw [snd_prD]
      refine (rises_ok (rows_of hrs (Nat.le_trans hcl.2 (by omega))) (.inr rfl)).mono ?_
      rintro r S2 ⟨rfl, rfl⟩
      simp only [ev0, ev1, ev2, ev3, ev4, ev5, ev6, ev7, ev8, ev9, wp_ix_refC, wp_setItE, List.map_cons, List.map_nil, List.replicate, List.cons_append, List.nil_append, List.length_cons, List.length_nil, List.set_cons_succ, List.set_cons_zero, List.getElem?_cons_zero, List.getElem?_cons_succ, Option.map_some, Option.bind_some, List.all_cons, List.all_nil, List.isEmpty_nil, List.isEmpty_cons, eq_self, if_true, if_false, ite_true, ite_false, Option.some.injEq, exists_eq_left', exists_eq_left, Nat.reduceAdd, Nat.reduceLT, Nat.reduceLeDiff, Int.reduceLE, Int.reduceLT, Int.reduceNeg, Int.reducePow, Int.reduceToNat]
      rw [List.length_map]
      refine ⟨by omega, ?_⟩
      rw [List.length_append, List.length_singleton]
      refine ⟨dr3.mono (by omega), by omega, T ++ [rs], by simp [hTl], fun i t rows h1 h2 => ?_, ?_⟩
      · by_cases hi : i < T.length
        · rw [List.getElem?_append_left hi] at h2
          exact hT i t rows h1 h2
        · rw [List.getElem?_append_right (by omega)] at h2
          have hi2 : i = pre.length := by
            have := (List.getElem?_eq_some_iff.mp h2).1
            simp at this; omega
          subst hi2
          rw [ht] at h1
          cases h1
          have e0 : pre.length - T.length = 0 := by omega
          rw [e0] at h2
          cases h2
          exact ⟨hrs, by omega⟩
      · rw [List.map_append]
        exact ⟨_, _, _, _, _, rfl⟩
  · rintro e S1 ⟨dr, _, T, hTl, hT, a, b, c, d, f, rfl⟩
    rw [List.length_map] at hTl dr
    simp only [ev0, ev1, ev2, ev3, ev4, ev5, ev6, ev7, ev8, ev9, wp_ix_refC, wp_setItE, List.map_cons, List.map_nil, List.replicate, List.cons_append, List.nil_append, List.length_cons, List.length_nil, List.set_cons_succ, List.set_cons_zero, List.getElem?_cons_zero, List.getElem?_cons_succ, Option.map_some, Option.bind_some, List.all_cons, List.all_nil, List.isEmpty_nil, List.isEmpty_cons, eq_self, if_true, if_false, ite_true, ite_false, Option.some.injEq, exists_eq_left', exists_eq_left, Nat.reduceAdd, Nat.reduceLT, Nat.reduceLeDiff, Int.reduceLE, Int.reduceLT, Int.reduceNeg, Int.reducePow, Int.reduceToNat]
    have h3 := g.len
    refine ⟨T, ?_, ⟨hTl, hT⟩, dr.mono (by omega)⟩
    unfold storeD
    rw [List.map_map]; rfl
end G

set_option Elab.async false
set_option linter.all false
set_option maxRecDepth 1000000
set_option maxHeartbeats 4000000
/- ev9 -/
namespace G
variable [Wld]
open PySem PySem.Spec PyProof.Rows L2
open PySem.W (dataLe)
/-! ### known by hand; the law -/
theorem Pt.app {n k : Nat} {S L : Sto} (h : Pt n k S) : Pt n k (S ++ L) := by
  have := h.lt
  obtain ⟨a, x, c, e1, r⟩ := h
  exact ⟨a, x, c, by rw [List.getElem?_append_left this]; exact e1, r⟩
theorem strBeq_self {x : Str} : (x == x) = true := by rw [strBeq]; exact decide_eq_true rfl
def oneK : List (List D) := [[.tup [.int 1, .str "a"], .tup [.int 2, .non], .tup [.int 3, .str "c"]], []]
def twoK : List (List D) := [[.tup [.int 1, .str "b"], .tup [.int 3, .str "c"], .tup [.int 4, .str "d"]], [.tup [.str "z"]]]
def dueK : D := .tup [.tup [.tup [.tup [.int 1, .str "a"], .tup [.int 2, .non]], .tup [.tup [.int 1, .str "b"], .tup [.int 4, .str "d"]]], .tup [.tup [], .tup [.tup [.str "z"]]]]
theorem netK : netD oneK twoK = dueK := by rfl
def worB : D → Bool
  | .non => true
  | .int _ => true
  | .str _ => true
  | _ => false
def rowB : D → Bool
  | .tup (w :: ws) => worB w && (ws.all worB && decide (ws.length < 100))
  | _ => false
theorem worB_ok {x : D} (h : worB x = true) : WorthD x := by
  cases x <;> first | exact .inl rfl | exact .inr (.inl ⟨_, rfl⟩) | exact .inr (.inr ⟨_, rfl⟩) | cases h
theorem rowsK {l : List D} (h : l.all rowB = true) : Rows l := fun d hd => by
  have := List.all_eq_true.mp h d hd
  unfold rowB at this
  split at this
  · rename_i w ws
    simp only [Bool.and_eq_true, decide_eq_true_eq, List.all_eq_true] at this
    refine ⟨_, rfl, by simp, by rw [List.length_cons]; omega, fun x hx => ?_⟩
    rcases List.mem_cons.mp hx with rfl | hx
    · exact worB_ok this.1
    · exact worB_ok (this.2.1 x hx)
  · cases this
theorem known_ok {S : Sto} : Fp f__law_known_right [] S fun r _ => r = .d (.bl true) := by
  unfold f__law_known_right
  rw [fp_runF]
  simp only [ev0, ev1, ev2, ev3, ev4, ev5, ev6, ev7, ev8, ev9, wp_ix_refC, wp_setItE, List.map_cons, List.map_nil, List.replicate, List.cons_append, List.nil_append, List.length_cons, List.length_nil, List.set_cons_succ, List.set_cons_zero, List.getElem?_cons_zero, List.getElem?_cons_succ, Option.map_some, Option.bind_some, List.all_cons, List.all_nil, List.isEmpty_nil, List.isEmpty_cons, eq_self, if_true, if_false, ite_true, ite_false, Option.some.injEq, exists_eq_left', exists_eq_left, Nat.reduceAdd, Nat.reduceLT, Nat.reduceLeDiff, Int.reduceLE, Int.reduceLT, Int.reduceNeg, Int.reducePow, Int.reduceToNat, b__law_known_right]
  have h1 : ∀ a ∈ oneK, Rows a := fun a ha => by
    unfold oneK at ha
    simp only [List.mem_cons, List.not_mem_nil, or_false] at ha
    rcases ha with rfl | rfl <;> exact rowsK (by decide)
  have h2 : ∀ a ∈ twoK, Rows a := fun a ha => by
    unfold twoK at ha
    simp only [List.mem_cons, List.not_mem_nil, or_false] at ha
    rcases ha with rfl | rfl <;> exact rowsK (by decide)
  have e1 : D.tup [.tup [.tup [.int 1, .str "a"], .tup [.int 2, .non], .tup [.int 3, .str "c"]], .tup []] = storeD oneK := rfl
  have e2 : D.tup [.tup [.tup [.int 1, .str "b"], .tup [.int 3, .str "c"], .tup [.int 4, .str "d"]], .tup [.tup [.str "z"]]] = storeD twoK := rfl
  rw [e1, e2]
  refine (net_ok h1 h2 (by decide)).mono ?_
  rintro r S2 ⟨rfl, L2, rfl⟩
  rw [netK]
  have hdt : Dt 1000000000 100 5000 10 dueK := ⟨by decide +kernel, by decide +kernel, by decide +kernel⟩
  obtain ⟨t, ht, _⟩ := hdt.shown (by omega) (by omega) (by omega)
  simp only [ev0, ev1, ev2, ev3, ev4, ev5, ev6, ev7, ev8, ev9, wp_ix_refC, wp_setItE, List.map_cons, List.map_nil, List.replicate, List.cons_append, List.nil_append, List.length_cons, List.length_nil, List.set_cons_succ, List.set_cons_zero, List.getElem?_cons_zero, List.getElem?_cons_succ, Option.map_some, Option.bind_some, List.all_cons, List.all_nil, List.isEmpty_nil, List.isEmpty_cons, eq_self, if_true, if_false, ite_true, ite_false, Option.some.injEq, exists_eq_left', exists_eq_left, Nat.reduceAdd, Nat.reduceLT, Nat.reduceLeDiff, Int.reduceLE, Int.reduceLT, Int.reduceNeg, Int.reducePow, Int.reduceToNat]
  refine ⟨_, dat_d hdt.dat, t, ht, ?_⟩
  have e3 : D.tup [.tup [.tup [.tup [.int 1, .str "a"], .tup [.int 2, .non]], .tup [.tup [.int 1, .str "b"], .tup [.int 4, .str "d"]]], .tup [.tup [], .tup [.tup [.str "z"]]]] = dueK := rfl
  rw [e3]
  refine ⟨_, dat_d hdt.dat, t, ht, ?_⟩
  rw [strBeq_self]
end G

set_option Elab.async false
set_option linter.all false
set_option maxRecDepth 1000000
set_option maxHeartbeats 4000000
/- ev9 -/
namespace G
variable [Wld]
open PySem PySem.Spec PyProof.Rows L2
open PySem.W (dataLe)
/-- stores as bags -/
structure Sto' (ts : Lay) (B : Nat) (T : List (List D)) : Prop where
  t : TabsOk ts B T
  s : ∀ a ∈ T, srtR a = a
theorem Sto'.of {ts : Lay} {B : Nat} {T : List (List D)} (h : TabsOk ts B T) : Sto' ts B (T.map srtR) := ⟨sorted_tabs h, fun a ha => by
  obtain ⟨x, _, rfl⟩ := List.mem_map.mp ha
  exact srtR_fix (srtR_pw x)⟩
theorem Sto'.mono {ts : Lay} {B C : Nat} {T : List (List D)} (h : Sto' ts B T) (hC : B ≤ C) : Sto' ts C T := ⟨h.t.mono hC, h.s⟩
theorem Sto'.rows {ts : Lay} (g : GoodLay ts) {B : Nat} {T : List (List D)} (h : Sto' ts B T) : ∀ a ∈ T, Rows a ∧ srtR a = a := fun a ha => ⟨h.t.rows g ha, h.s a ha⟩
theorem TabOk.less {cs : List (Str × Bool)} {a b : List D} (h : TabOk cs a) : TabOk cs (lessR a b) := ⟨fun r hr => h.ok r (List.mem_filter.mp hr).1, filter_nd h.nd⟩
theorem net_dt {ts : Lay} (g : GoodLay ts) {B : Nat} {T U : List (List D)} (hT : TabsOk ts B T) (hU : TabsOk ts B U) (hB : B ≤ 60) : Dt 1000000000 100 110000 4 (netD T U) := by
  have h3 := g.len
  refine dtT (n := 3) (w := 34300) (by rw [List.length_map, List.length_zip, hT.len, hU.len]; omega) (by omega) (fun d hd => ?_) (by omega) (by omega)
  obtain ⟨⟨a, b⟩, hp, rfl⟩ := List.mem_map.mp hd
  obtain ⟨i, hi⟩ := List.getElem?_of_mem hp
  rw [List.getElem?_zip_eq_some] at hi
  obtain ⟨h1, h2⟩ := hi
  have hlt : i < ts.length := by rw [← hT.len]; exact (List.getElem?_eq_some_iff.mp h1).1
  have ht : ts[i]? = some ts[i] := by simp [hlt]
  have hcl := (g.cl _ (List.mem_of_getElem? ht)).2
  obtain ⟨ka, la⟩ := hT.ok i _ _ ht h1
  obtain ⟨kb, lb⟩ := hU.ok i _ _ ht h2
  refine dtT (n := 2) (w := 17100) (by simp) (by omega) (fun d hd => ?_) (by omega) (by omega)
  simp only [List.mem_cons, List.not_mem_nil, or_false] at hd
  rcases hd with rfl | rfl
  · exact bag_dt ka.less hcl (Nat.le_trans (List.length_filter_le _ _) (Nat.le_trans la hB))
  · exact bag_dt kb.less hcl (Nat.le_trans (List.length_filter_le _ _) (Nat.le_trans lb hB))
theorem three_dt {ts : Lay} (g : GoodLay ts) {B : Nat} {T U : List (List D)} (hT : TabsOk ts B T) (hU : TabsOk ts B U) (hB : B ≤ 60) : Dt 1000000000 100 160000 5 (.tup [layD ts, storeD T, storeD U]) := by
  refine dtT (n := 3) (w := 51303) (by simp) (by omega) (fun d hd => ?_) (by omega) (by omega)
  simp only [List.mem_cons, List.not_mem_nil, or_false] at hd
  rcases hd with rfl | rfl | rfl
  · exact (lay_dt g).mono (by omega) (by omega) (by omega) (by omega)
  · exact (store_dt g hT hB).mono (by omega) (by omega) (by omega) (by omega)
  · exact (store_dt g hU hB).mono (by omega) (by omega) (by omega) (by omega)
def swapD (d : D) : D := match d with
  | .tup [a, b] => .tup [b, a]
  | d => d
theorem net_swap : ∀ T U : List (List D), ((T.zip U).map fun p => pairN p.1 p.2).map swapD = (U.zip T).map fun p => pairN p.1 p.2
  | [], [] => rfl
  | [], _ :: _ => rfl
  | _ :: _, [] => rfl
  | a :: T, b :: U => by
    rw [List.zip_cons_cons, List.zip_cons_cons, List.map_cons, List.map_cons, List.map_cons, net_swap T U]; rfl
theorem law_fp (ns : List Int) (hz : ns.length ≤ 63) : Fp f_law [.d (.lst (ns.map D.int))] [] fun r _ => r = .d (.bl true) := by
  unfold f_law
  rw [fp_runF]
  simp only [ev0, ev1, ev2, ev3, ev4, ev5, ev6, ev7, ev8, ev9, wp_ix_refC, wp_setItE, List.map_cons, List.map_nil, List.replicate, List.cons_append, List.nil_append, List.length_cons, List.length_nil, List.set_cons_succ, List.set_cons_zero, List.getElem?_cons_zero, List.getElem?_cons_succ, Option.map_some, Option.bind_some, List.all_cons, List.all_nil, List.isEmpty_nil, List.isEmpty_cons, eq_self, if_true, if_false, ite_true, ite_false, Option.some.injEq, exists_eq_left', exists_eq_left, Nat.reduceAdd, Nat.reduceLT, Nat.reduceLeDiff, Int.reduceLE, Int.reduceLT, Int.reduceNeg, Int.reducePow, Int.reduceToNat, b_law]
  have hkk : ∃ z : Nat, max2 1 (min2 2 ((List.map D.int ns).length : Nat)) = (z : Int) ∧ z ≤ 2 := by
    rw [List.length_map]
    unfold max2 min2
    by_cases h : ((ns.length : Nat) : Int) < 2
    · rw [if_pos h]
      by_cases h2 : ((ns.length : Nat) : Int) > 1
      · rw [if_pos h2]; exact ⟨ns.length, rfl, by omega⟩
      · rw [if_neg h2]; exact ⟨1, rfl, by omega⟩
    · rw [if_neg h]
      rw [if_pos (by omega)]
      exact ⟨2, rfl, by omega⟩
  obtain ⟨z, hzz, hz2⟩ := hkk
  rw [hzz]
  refine ⟨⟨by omega, by omega⟩, ?_⟩
  refine wp_forL' (fun pre post e S => pre.length ≤ z ∧ ∃ x1 x2 x3 x4 x5 x6 x7 x8 x9, e = [some (.d (.lst (ns.map D.int))), x1, x2, x3, x4, x5, x6, x7, x8, x9, none, none]) ⟨Nat.zero_le _, _, _, _, _, _, _, _, _, _, rfl⟩ ?_ ?_
  · rintro pre d post e S hp ⟨hpl, x1, x2, x3, x4, x5, x6, x7, x8, x9, rfl⟩
    have hr := hp
    have hlen := congrArg List.length hp
    rw [rngD_len] at hlen
    have hd : d = .int (pre.length : Nat) := by
      have := at_mid hp
      unfold rngD at this
      rw [List.getElem?_map, List.getElem?_range (by simp at hlen; omega)] at this
      simpa using this.symm
    subst hd
    refine ⟨_, gt_name.mpr ⟨by simp, rfl⟩, ?_⟩
    simp only [ev0, ev1, ev2, ev3, ev4, ev5, ev6, ev7, ev8, ev9, wp_ix_refC, wp_setItE, List.map_cons, List.map_nil, List.replicate, List.cons_append, List.nil_append, List.length_cons, List.length_nil, List.set_cons_succ, List.set_cons_zero, List.getElem?_cons_zero, List.getElem?_cons_succ, Option.map_some, Option.bind_some, List.all_cons, List.all_nil, List.isEmpty_nil, List.isEmpty_cons, eq_self, if_true, if_false, ite_true, ite_false, Option.some.injEq, exists_eq_left', exists_eq_left, Nat.reduceAdd, Nat.reduceLT, Nat.reduceLeDiff, Int.reduceLE, Int.reduceLT, Int.reduceNeg, Int.reducePow, Int.reduceToNat]
    refine (box_ok ns pre.length (by simp at hlen; omega)).mono ?_
    rintro r S1 ⟨rfl, o, rfl, pt⟩
    simp only [ev0, ev1, ev2, ev3, ev4, ev5, ev6, ev7, ev8, ev9, wp_ix_refC, wp_setItE, List.map_cons, List.map_nil, List.replicate, List.cons_append, List.nil_append, List.length_cons, List.length_nil, List.set_cons_succ, List.set_cons_zero, List.getElem?_cons_zero, List.getElem?_cons_succ, Option.map_some, Option.bind_some, List.all_cons, List.all_nil, List.isEmpty_nil, List.isEmpty_cons, eq_self, if_true, if_false, ite_true, ite_false, Option.some.injEq, exists_eq_left', exists_eq_left, Nat.reduceAdd, Nat.reduceLT, Nat.reduceLeDiff, Int.reduceLE, Int.reduceLT, Int.reduceNeg, Int.reducePow, Int.reduceToNat]
    refine (plan_ok pt (by omega)).mono ?_
    rintro r S2 ⟨ts, rfl, g, dr⟩
    have h3 := g.len
    simp only [ev0, ev1, ev2, ev3, ev4, ev5, ev6, ev7, ev8, ev9, wp_ix_refC, wp_setItE, List.map_cons, List.map_nil, List.replicate, List.cons_append, List.nil_append, List.length_cons, List.length_nil, List.set_cons_succ, List.set_cons_zero, List.getElem?_cons_zero, List.getElem?_cons_succ, Option.map_some, Option.bind_some, List.all_cons, List.all_nil, List.isEmpty_nil, List.isEmpty_cons, eq_self, if_true, if_false, ite_true, ite_false, Option.some.injEq, exists_eq_left', exists_eq_left, Nat.reduceAdd, Nat.reduceLT, Nat.reduceLeDiff, Int.reduceLE, Int.reduceLT, Int.reduceNeg, Int.reducePow, Int.reduceToNat]
    refine (store_ok g dr.pt (by omega)).mono ?_
    rintro r S3 ⟨T0, rfl, hT0, dr3⟩
    have hT := Sto'.of hT0
    simp only [ev0, ev1, ev2, ev3, ev4, ev5, ev6, ev7, ev8, ev9, wp_ix_refC, wp_setItE, List.map_cons, List.map_nil, List.replicate, List.cons_append, List.nil_append, List.length_cons, List.length_nil, List.set_cons_succ, List.set_cons_zero, List.getElem?_cons_zero, List.getElem?_cons_succ, Option.map_some, Option.bind_some, List.all_cons, List.all_nil, List.isEmpty_nil, List.isEmpty_cons, eq_self, if_true, if_false, ite_true, ite_false, Option.some.injEq, exists_eq_left', exists_eq_left, Nat.reduceAdd, Nat.reduceLT, Nat.reduceLeDiff, Int.reduceLE, Int.reduceLT, Int.reduceNeg, Int.reducePow, Int.reduceToNat]
    refine (dealing_ok g hT.t (by omega) dr3.pt (by omega) (far := 6) (by omega)).mono ?_
    rintro r S4 ⟨ps, rfl, hD, hl9, pt4⟩
    simp only [ev0, ev1, ev2, ev3, ev4, ev5, ev6, ev7, ev8, ev9, wp_ix_refC, wp_setItE, List.map_cons, List.map_nil, List.replicate, List.cons_append, List.nil_append, List.length_cons, List.length_nil, List.set_cons_succ, List.set_cons_zero, List.getElem?_cons_zero, List.getElem?_cons_succ, Option.map_some, Option.bind_some, List.all_cons, List.all_nil, List.isEmpty_nil, List.isEmpty_cons, eq_self, if_true, if_false, ite_true, ite_false, Option.some.injEq, exists_eq_left', exists_eq_left, Nat.reduceAdd, Nat.reduceLT, Nat.reduceLeDiff, Int.reduceLE, Int.reduceLT, Int.reduceNeg, Int.reducePow, Int.reduceToNat]
    refine (due_ok g hT.t (by omega) hD).mono ?_
    rintro r S5 ⟨rfl, o5, rfl⟩
    have hV := Sto'.of (fold_tabs hT.t hD)
    simp only [ev0, ev1, ev2, ev3, ev4, ev5, ev6, ev7, ev8, ev9, wp_ix_refC, wp_setItE, List.map_cons, List.map_nil, List.replicate, List.cons_append, List.nil_append, List.length_cons, List.length_nil, List.set_cons_succ, List.set_cons_zero, List.getElem?_cons_zero, List.getElem?_cons_succ, Option.map_some, Option.bind_some, List.all_cons, List.all_nil, List.isEmpty_nil, List.isEmpty_cons, eq_self, if_true, if_false, ite_true, ite_false, Option.some.injEq, exists_eq_left', exists_eq_left, Nat.reduceAdd, Nat.reduceLT, Nat.reduceLeDiff, Int.reduceLE, Int.reduceLT, Int.reduceNeg, Int.reducePow, Int.reduceToNat]
    refine (store_ok g (pt4.app) (by omega)).mono ?_
    rintro r S6 ⟨U0, rfl, hU0, dr6⟩
    have hU := Sto'.of hU0
    simp only [ev0, ev1, ev2, ev3, ev4, ev5, ev6, ev7, ev8, ev9, wp_ix_refC, wp_setItE, List.map_cons, List.map_nil, List.replicate, List.cons_append, List.nil_append, List.length_cons, List.length_nil, List.set_cons_succ, List.set_cons_zero, List.getElem?_cons_zero, List.getElem?_cons_succ, Option.map_some, Option.bind_some, List.all_cons, List.all_nil, List.isEmpty_nil, List.isEmpty_cons, eq_self, if_true, if_false, ite_true, ite_false, Option.some.injEq, exists_eq_left', exists_eq_left, Nat.reduceAdd, Nat.reduceLT, Nat.reduceLeDiff, Int.reduceLE, Int.reduceLT, Int.reduceNeg, Int.reducePow, Int.reduceToNat]
    generalize hT1 : T0.map srtR = T at hT hD hV ⊢
    have tr := hT.rows g
    have hl1 : T.length ≤ 1000 := by rw [hT.t.len]; omega
    refine wp_forL' (fun qre qost e S7 => (∀ d ∈ qost, ∃ U, d = storeD U ∧ Sto' ts 20 U) ∧ ∃ x5 x8 x9, e = [some (.d (.lst (ns.map D.int))), some (.d (.int (pre.length : Nat))), some (.d (.ref S.length)), some (.d (layD ts)), some (.d (storeD T)), x5, some (.d (storeD ((ps.foldl stepT T).map srtR))), some (.d .non), x8, x9, none, none]) ⟨fun d hd => ?_, _, _, _, rfl⟩ ?_ ?_
    · simp only [List.mem_cons, List.not_mem_nil, or_false] at hd
      rcases hd with rfl | rfl | rfl
      · exact ⟨_, rfl, hU.mono (by omega)⟩
      · exact ⟨_, rfl, hV.mono (by omega)⟩
      · exact ⟨_, rfl, hT.mono (by omega)⟩
    · rintro qre d qost e S7 hq ⟨hall, x5, x8, x9, rfl⟩
      obtain ⟨U, rfl, hW⟩ := hall d (by simp)
      have ur := hW.rows g
      have hl2 : U.length ≤ 1000 := by rw [hW.t.len]; omega
      have hT20 := (hT.mono (C := 20) (by omega)).t
      have d3 := three_dt g hT20 hW.t (by omega)
      obtain ⟨t3, ht3, _⟩ := d3.shown (by omega) (by omega) (by omega)
      have dn := net_dt g hT20 hW.t (by omega)
      obtain ⟨tn, htn, _⟩ := dn.shown (by omega) (by omega) (by omega)
      have dm := net_dt g hW.t hT20 (by omega)
      obtain ⟨tm, htm, _⟩ := dm.shown (by omega) (by omega) (by omega)
      refine ⟨_, gt_name.mpr ⟨by simp, rfl⟩, ?_⟩
      simp only [ev0, ev1, ev2, ev3, ev4, ev5, ev6, ev7, ev8, ev9, wp_ix_refC, wp_setItE, List.map_cons, List.map_nil, List.replicate, List.cons_append, List.nil_append, List.length_cons, List.length_nil, List.set_cons_succ, List.set_cons_zero, List.getElem?_cons_zero, List.getElem?_cons_succ, Option.map_some, Option.bind_some, List.all_cons, List.all_nil, List.isEmpty_nil, List.isEmpty_cons, eq_self, if_true, if_false, ite_true, ite_false, Option.some.injEq, exists_eq_left', exists_eq_left, Nat.reduceAdd, Nat.reduceLT, Nat.reduceLeDiff, Int.reduceLE, Int.reduceLT, Int.reduceNeg, Int.reducePow, Int.reduceToNat]
      refine ⟨_, dat_d d3.dat, t3, ht3, ?_⟩
      refine (lnet_ok tr ur hl1).mono ?_
      rintro r S8 ⟨rfl, rfl⟩
      simp only [ev0, ev1, ev2, ev3, ev4, ev5, ev6, ev7, ev8, ev9, wp_ix_refC, wp_setItE, List.map_cons, List.map_nil, List.replicate, List.cons_append, List.nil_append, List.length_cons, List.length_nil, List.set_cons_succ, List.set_cons_zero, List.getElem?_cons_zero, List.getElem?_cons_succ, Option.map_some, Option.bind_some, List.all_cons, List.all_nil, List.isEmpty_nil, List.isEmpty_cons, eq_self, if_true, if_false, ite_true, ite_false, Option.some.injEq, exists_eq_left', exists_eq_left, Nat.reduceAdd, Nat.reduceLT, Nat.reduceLeDiff, Int.reduceLE, Int.reduceLT, Int.reduceNeg, Int.reducePow, Int.reduceToNat]
      refine (net_ok (fun a ha => (tr a ha).1) (fun a ha => (ur a ha).1) hl1).mono ?_
      rintro r S9 ⟨rfl, L9, rfl⟩
      simp only [ev0, ev1, ev2, ev3, ev4, ev5, ev6, ev7, ev8, ev9, wp_ix_refC, wp_setItE, List.map_cons, List.map_nil, List.replicate, List.cons_append, List.nil_append, List.length_cons, List.length_nil, List.set_cons_succ, List.set_cons_zero, List.getElem?_cons_zero, List.getElem?_cons_succ, Option.map_some, Option.bind_some, List.all_cons, List.all_nil, List.isEmpty_nil, List.isEmpty_cons, eq_self, if_true, if_false, ite_true, ite_false, Option.some.injEq, exists_eq_left', exists_eq_left, Nat.reduceAdd, Nat.reduceLT, Nat.reduceLeDiff, Int.reduceLE, Int.reduceLT, Int.reduceNeg, Int.reducePow, Int.reduceToNat]
      refine ⟨_, dat_d dn.dat, tn, htn, _, dat_d dn.dat, tn, htn, ?_⟩
      rw [if_neg (by rw [strBeq_self]; simp)]
      refine (net_ok (fun a ha => (tr a ha).1) (fun a ha => (ur a ha).1) hl1).mono ?_
      rintro r S9 ⟨rfl, L10, rfl⟩
      simp only [ev0, ev1, ev2, ev3, ev4, ev5, ev6, ev7, ev8, ev9, wp_ix_refC, wp_setItE, List.map_cons, List.map_nil, List.replicate, List.cons_append, List.nil_append, List.length_cons, List.length_nil, List.set_cons_succ, List.set_cons_zero, List.getElem?_cons_zero, List.getElem?_cons_succ, Option.map_some, Option.bind_some, List.all_cons, List.all_nil, List.isEmpty_nil, List.isEmpty_cons, eq_self, if_true, if_false, ite_true, ite_false, Option.some.injEq, exists_eq_left', exists_eq_left, Nat.reduceAdd, Nat.reduceLT, Nat.reduceLeDiff, Int.reduceLE, Int.reduceLT, Int.reduceNeg, Int.reducePow, Int.reduceToNat]
      refine ⟨_, dat_d dn.dat, tn, htn, _, dat_d dn.dat, tn, htn, ?_⟩
      rw [if_neg (by rw [strBeq_self]; simp)]
      refine (net_ok (fun a ha => (ur a ha).1) (fun a ha => (tr a ha).1) hl2).mono ?_
      rintro r S9 ⟨rfl, L11, rfl⟩
      simp only [ev0, ev1, ev2, ev3, ev4, ev5, ev6, ev7, ev8, ev9, wp_ix_refC, wp_setItE, List.map_cons, List.map_nil, List.replicate, List.cons_append, List.nil_append, List.length_cons, List.length_nil, List.set_cons_succ, List.set_cons_zero, List.getElem?_cons_zero, List.getElem?_cons_succ, Option.map_some, Option.bind_some, List.all_cons, List.all_nil, List.isEmpty_nil, List.isEmpty_cons, eq_self, if_true, if_false, ite_true, ite_false, Option.some.injEq, exists_eq_left', exists_eq_left, Nat.reduceAdd, Nat.reduceLT, Nat.reduceLeDiff, Int.reduceLE, Int.reduceLT, Int.reduceNeg, Int.reducePow, Int.reduceToNat]
      refine ⟨_, dat_d dm.dat, tm, htm, ?_⟩
      unfold netD
      simp only [ev0, ev1, ev2, ev3, ev4, ev5, ev6, ev7, ev8, ev9, wp_ix_refC, wp_setItE, List.map_cons, List.map_nil, List.replicate, List.cons_append, List.nil_append, List.length_cons, List.length_nil, List.set_cons_succ, List.set_cons_zero, List.getElem?_cons_zero, List.getElem?_cons_succ, Option.map_some, Option.bind_some, List.all_cons, List.all_nil, List.isEmpty_nil, List.isEmpty_cons, eq_self, if_true, if_false, ite_true, ite_false, Option.some.injEq, exists_eq_left', exists_eq_left, Nat.reduceAdd, Nat.reduceLT, Nat.reduceLeDiff, Int.reduceLE, Int.reduceLT, Int.reduceNeg, Int.reducePow, Int.reduceToNat]
      refine wp_compL_fm (fun _ => true) swapD (fun _ => wat_nil _ _) (fun d hd => ?_) ?_
      · obtain ⟨p, _, rfl⟩ := List.mem_map.mp hd
        refine ⟨_, rfl, ?_⟩
        simp only [ev0, ev1, ev2, ev3, ev4, ev5, ev6, ev7, ev8, ev9, wp_ix_refC, wp_setItE, List.map_cons, List.map_nil, List.replicate, List.cons_append, List.nil_append, List.length_cons, List.length_nil, List.set_cons_succ, List.set_cons_zero, List.getElem?_cons_zero, List.getElem?_cons_succ, Option.map_some, Option.bind_some, List.all_cons, List.all_nil, List.isEmpty_nil, List.isEmpty_cons, eq_self, if_true, if_false, ite_true, ite_false, Option.some.injEq, exists_eq_left', exists_eq_left, Nat.reduceAdd, Nat.reduceLT, Nat.reduceLeDiff, Int.reduceLE, Int.reduceLT, Int.reduceNeg, Int.reducePow, Int.reduceToNat]
        rfl
      · rw [List.filter_eq_self.mpr fun _ _ => rfl, net_swap]
        refine ⟨_, dat_d dm.dat, tm, htm, ?_⟩
        rw [if_neg (by rw [strBeq_self]; simp)]
        simp only [ev0, ev1, ev2, ev3, ev4, ev5, ev6, ev7, ev8, ev9, wp_ix_refC, wp_setItE, List.map_cons, List.map_nil, List.replicate, List.cons_append, List.nil_append, List.length_cons, List.length_nil, List.set_cons_succ, List.set_cons_zero, List.getElem?_cons_zero, List.getElem?_cons_succ, Option.map_some, Option.bind_some, List.all_cons, List.all_nil, List.isEmpty_nil, List.isEmpty_cons, eq_self, if_true, if_false, ite_true, ite_false, Option.some.injEq, exists_eq_left', exists_eq_left, Nat.reduceAdd, Nat.reduceLT, Nat.reduceLeDiff, Int.reduceLE, Int.reduceLT, Int.reduceNeg, Int.reducePow, Int.reduceToNat]
        refine ⟨_, dat_d d3.dat, t3, ht3, ?_⟩
        rw [if_neg (by rw [strBeq_self]; simp)]
        exact ⟨fun d hd => hall d (by simp [hd]), _, _, _, rfl⟩
    · rintro e S7 ⟨_, x5, x8, x9, rfl⟩
      exact ⟨by rw [List.length_append]; simp at hlen; simp; omega, _, _, _, _, _, _, _, _, _, rfl⟩
  · rintro e S ⟨_, x1, x2, x3, x4, x5, x6, x7, x8, x9, rfl⟩
    simp only [ev0, ev1, ev2, ev3, ev4, ev5, ev6, ev7, ev8, ev9, wp_ix_refC, wp_setItE, List.map_cons, List.map_nil, List.replicate, List.cons_append, List.nil_append, List.length_cons, List.length_nil, List.set_cons_succ, List.set_cons_zero, List.getElem?_cons_zero, List.getElem?_cons_succ, Option.map_some, Option.bind_some, List.all_cons, List.all_nil, List.isEmpty_nil, List.isEmpty_cons, eq_self, if_true, if_false, ite_true, ite_false, Option.some.injEq, exists_eq_left', exists_eq_left, Nat.reduceAdd, Nat.reduceLT, Nat.reduceLeDiff, Int.reduceLE, Int.reduceLT, Int.reduceNeg, Int.reducePow, Int.reduceToNat]
    refine known_ok.mono ?_
    rintro r S2 rfl
    simp only [ev0, ev1, ev2, ev3, ev4, ev5, ev6, ev7, ev8, ev9, wp_ix_refC, wp_setItE, List.map_cons, List.map_nil, List.replicate, List.cons_append, List.nil_append, List.length_cons, List.length_nil, List.set_cons_succ, List.set_cons_zero, List.getElem?_cons_zero, List.getElem?_cons_succ, Option.map_some, Option.bind_some, List.all_cons, List.all_nil, List.isEmpty_nil, List.isEmpty_cons, eq_self, if_true, if_false, ite_true, ite_false, Option.some.injEq, exists_eq_left', exists_eq_left, Nat.reduceAdd, Nat.reduceLT, Nat.reduceLeDiff, Int.reduceLE, Int.reduceLT, Int.reduceNeg, Int.reducePow, Int.reduceToNat]
theorem law_true (ns : List Int) (h : ns.length ≤ 63) (_ : ∀ z ∈ ns, Builtin.Int.intBits z ≤ 1048576) : ∃ S', f_law [.d (.lst (ns.map D.int))] [] = some (.d (.bl true), S') := by
  obtain ⟨r, S', h1, rfl⟩ := law_fp ns h
  exact ⟨S', h1⟩
end G

open PySem PySem.W PyProof.Rows
set_option maxHeartbeats 0 in
theorem PySem.Challenge.cw_standviews_k10_net_of_two_stores_holds : PySem.Challenge.rw_standviews_k10_net_of_two_stores.Holds := by
  w_on; o_law; k_head; (case hw => w_witness2)
  k_fill
  refine G.walk_G3 (l := PySem.Challenge.rw_standviews_k10_net_of_two_stores) (n := 63) (k := 6) (x := "_law_script") rfl (by decide) rfl ⟨rfl, by decide, by decide⟩ (fun w h Y => PySem.W.kIn_of Y) ?F
  case F =>
    intro w mg fa h KX GN hmg
    obtain ⟨I0, hI0⟩ : ∃ i : G.Wld, w = i.w := ⟨⟨w⟩, rfl⟩
    refine ⟨I0, ?_⟩
    refine' G.law_of (G.txt_mk KX GN hI0 ?a0 ?l0 ?c0 ?k0 ?a1 ?l1 ?c1 ?k1 ?a2 ?l2 ?c2 ?k2 ?a3 ?l3 ?c3 ?k3 ?a4 ?l4 ?c4 ?k4 ?a5 ?l5 ?c5 ?k5 ?a6 ?l6 ?c6 ?k6 ?a7 ?l7 ?c7 ?k7 ?a8 ?l8 ?c8 ?k8 ?a9 ?l9 ?c9 ?k9 ?a10 ?l10 ?c10 ?k10 ?a11 ?l11 ?c11 ?k11 ?a12 ?l12 ?c12 ?k12 ?a13 ?l13 ?c13 ?k13 ?a14 ?l14 ?c14 ?k14 ?a15 ?l15 ?c15 ?k15 ?a16 ?l16 ?c16 ?k16 ?a17 ?l17 ?c17 ?k17 ?z_abs ?z_all ?z_bool ?z_enumerate ?z_int ?z_isinstance ?z_len ?z_list ?z_max ?z_min ?z_range ?z_repr ?z_sorted ?z_str ?z_tuple ?z_zip) hmg G.law_true
    (case a0 => k_is); (case l0 => k_is); (case c0 => k_is); (case k0 => k_is); (case a1 => k_is); (case l1 => k_is); (case c1 => k_is); (case k1 => k_is); (case a2 => k_is); (case l2 => k_is); (case c2 => k_is); (case k2 => k_is); (case a3 => k_is); (case l3 => k_is); (case c3 => k_is); (case k3 => k_is); (case a4 => k_is); (case l4 => k_is); (case c4 => k_is); (case k4 => k_is); (case a5 => k_is); (case l5 => k_is); (case c5 => k_is); (case k5 => k_is); (case a6 => k_is); (case l6 => k_is); (case c6 => k_is); (case k6 => k_is); (case a7 => k_is); (case l7 => k_is); (case c7 => k_is); (case k7 => k_is); (case a8 => k_is); (case l8 => k_is); (case c8 => k_is); (case k8 => k_is); (case a9 => k_is); (case l9 => k_is); (case c9 => k_is); (case k9 => k_is); (case a10 => k_is); (case l10 => k_is); (case c10 => k_is); (case k10 => k_is); (case a11 => k_is); (case l11 => k_is); (case c11 => k_is); (case k11 => k_is); (case a12 => k_is); (case l12 => k_is); (case c12 => k_is); (case k12 => k_is); (case a13 => k_is); (case l13 => k_is); (case c13 => k_is); (case k13 => k_is); (case a14 => k_is); (case l14 => k_is); (case c14 => k_is); (case k14 => k_is); (case a15 => k_is); (case l15 => k_is); (case c15 => k_is); (case k15 => k_is); (case a16 => k_is); (case l16 => k_is); (case c16 => k_is); (case k16 => k_is); (case a17 => k_is); (case l17 => k_is); (case c17 => k_is); (case k17 => k_is); (case z_abs => k_is); (case z_all => k_is); (case z_bool => k_is); (case z_enumerate => k_is); (case z_int => k_is); (case z_isinstance => k_is); (case z_len => k_is); (case z_list => k_is); (case z_max => k_is); (case z_min => k_is); (case z_range => k_is); (case z_repr => k_is); (case z_sorted => k_is); (case z_str => k_is); (case z_tuple => k_is); (case z_zip => k_is)

