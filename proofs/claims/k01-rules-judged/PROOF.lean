import PyProof.Rows.All
import Wide.All
import OpenK.AllK
import Wide.FinOn
import KE.KeyNested
import KE.KDictKeyed
import KE.KEqNest
import HandS.ForMost
import HandS.ForExc
import HandS.TryMany
import HandS.TryElse
import HandS.SuiteRaise
import HandS.Star
import HandS.Defaults
import HandS.Wide
import HandS.HeadHook2
import HandS.Flow
import HandS.Style
import HandS.Small
import HandS.Conv
import HandS.Deep
import HandS.SortOrd
import HandS.IsInst
import HandS.TupAny
import HandS.TupMul
import HandS.NoneIn
import HandS.CallSlots
import HandS.Zip
import KE.DataCmp
import KE.SortData
import KE.DatumIndex
import KE.KTupSum
import KE.IntBitsLaws
import HandS.Head0
import HandS.Head1
import HandS.Head2
import HandS.HeadEnd
import HandS.HeadHook1
import HandS.More
import HandS.Spec
import KE.KDictPairs
import HandS.TupLe
import KE.KDictDisplayH
import KE.KDictSum
import HandS.Property
import HandS.ExcIs
import HandS.ExcOwn
import KE.DataFind
import HandS.SetFor
import HandS.ClsMeth
import KE.KDictCopyH
import PySem.Challenge.RW_onlyflags_k01_rules_and_words_judged
set_option Elab.async false
set_option linter.all false
set_option maxRecDepth 100000
set_option maxHeartbeats 4000000
namespace DL
open PySem PySem.Spec PyProof.Rows L2

/-- a Python value, as data: tuples and frozen lists and dicts by what they hold; a mutable object by its place in the store -/
inductive D where
  | non | bl (b : Bool) | int (i : Int) | str (x : Str)
  | tup (ds : List D) | lst (ds : List D) | dct (es : List (D × D)) | ref (n : Nat) | cls (c : Str)

/-- what stands at a place of the store -/
inductive SO where
  | lst (ds : List D)
  | dct (es : List (D × D))
  | ins (c : Str) (fs : List (Str × D))
  | dead

abbrev Sto := List SO
abbrev En := List (Option D)
/-- an exception: its class by name, what it holds -/
structure Ex where
  cls : Str
  val : D

inductive Res (α : Type) where
  | ok (a : α) (st : Sto)
  | exc (e : Ex) (st : Sto)
  | bad
inductive ResS where
  | nx (env : En) (st : Sto)
  | ret (d : D) (st : Sto)
  | brk (env : En) (st : Sto)
  | cnt (env : En) (st : Sto)
  | exc (e : Ex) (env : En) (st : Sto)
  | bad

abbrev SemE := En → Sto → Res D
abbrev SemB := En → Sto → Res Bool
abbrev SemA := En → Sto → Res (List D)
abbrev SemS := En → Sto → ResS
abbrev SemF := List D → Sto → Res D

/-! ### keys -/
mutual
def keyOf : D → Option NestedKey
  | .non => some .none
  | .bl b => some (.num (if b = true then 1 else 0))
  | .int i => some (.num i)
  | .str x => some (.text x)
  | .tup ds => (keysOf ds).map .tup
  | _ => none
def keysOf : List D → Option (List NestedKey)
  | [] => some []
  | d :: ds => match keyOf d, keysOf ds with
    | some k, some ks => some (k :: ks)
    | _, _ => none
end

/-- what a dict's keys are: all tuples, or all ints and texts; none twice -/
def isT : D → Bool
  | .tup _ => true
  | _ => false
def isIS : D → Bool
  | .int _ => true
  | .str _ => true
  | _ => false
structure DOk (es : List (D × D)) : Prop where
  nd : (es.map fun e => keyOf e.1).Nodup
  k : es.all (fun e => isT e.1) = true ∨ es.all (fun e => isIS e.1) = true
/-! ### how data lie in the heap -/
def FrzL (K : PySem.W.Frag) (H : Hp) (a : Addr) (xs : List V) : Prop :=
  (∃ o, H a = some (.frz o (.lst xs))) ∨
    ∃ (o : Obj) (its : Array Value) (n : Nat), K.lookup a = some o ∧ o.cls = .type "list" ∧ o.dict = none ∧ o.data = .seq its n ∧ its.size ≤ sizeLine ∧ Vals xs its.toList
theorem FrzL.sq {K : PySem.W.Frag} {H : Hp} {a : Addr} {xs : List V} (h : FrzL K H a xs) : SqL K H a xs := by
  rcases h with h | h
  · exact .inl (.inr h)
  · exact .inr h
/-- a dict by its raw entries -/
def RawD (a : Addr) (l : List DictEntry) (h : Heap) : Prop := ∃ o ep, h.get? a = some o ∧ o.ExactDict ∧ o.data = .dict l.toArray ep

mutual
def Rep (K : PySem.W.Frag) (w : World) (H : Hp) (ρ : List Addr) : D → V → Prop
  | .non, v => v = .non
  | .bl b, v => v = .bl b
  | .int i, v => v = .int i
  | .str x, v => v = .str x
  | .tup ds, v => ∃ a vs, v = .ref a ∧ SqT K H a vs ∧ ds.length ≤ sizeLine ∧ Reps K w H ρ ds vs
  | .lst ds, v => ∃ a vs, v = .ref a ∧ FrzL K H a vs ∧ ds.length ≤ sizeLine ∧ Reps K w H ρ ds vs
  | .dct es, v => ∃ a l o, v = .ref a ∧ (a == sysModules) = false ∧ l.length ≤ sizeLine ∧ H a = some (.frz o (.ext (RawD a l))) ∧ RepEs K w H ρ es l ∧ DOk es
  | .ref n, v => ∃ a, ρ[n]? = some a ∧ v = .ref a
  | .cls c, v => v = .ref (He.ga K c)
def Reps (K : PySem.W.Frag) (w : World) (H : Hp) (ρ : List Addr) : List D → List V → Prop
  | [], vs => vs = []
  | d :: ds, vs => ∃ v r, vs = v :: r ∧ Rep K w H ρ d v ∧ Reps K w H ρ ds r
def RepEs (K : PySem.W.Frag) (w : World) (H : Hp) (ρ : List Addr) : List (D × D) → List DictEntry → Prop
  | [], l => l = []
  | (k, d) :: es, l => ∃ e r kv dv nk, l = e :: r ∧ keyOf k = some nk ∧ e.hash = nk.hash w ∧ nk.depth ≤ 8 ∧ RelV kv e.key ∧ Rep K w H ρ k kv ∧ RelV dv e.val ∧ Rep K w H ρ d dv ∧ RepEs K w H ρ es r
end

/-- tuples and frozen things stay -/
structure Stays (H H' : Hp) : Prop where
  tups : ∀ b xs, H b = some (.tup xs) → H' b = some (.tup xs)
  frzs : ∀ b o u, H b = some (.frz o u) → H' b = some (.frz o u)
theorem Stays.refl (H : Hp) : Stays H H := ⟨fun _ _ h => h, fun _ _ _ h => h⟩
theorem Stays.trans {H H1 H2 : Hp} (a : Stays H H1) (b : Stays H1 H2) : Stays H H2 := ⟨fun c xs h => b.tups c xs (a.tups c xs h), fun c o u h => b.frzs c o u (a.frzs c o u h)⟩
theorem Stays.new {H : Hp} {p : Addr} {o : HO} (h : H p = none) : Stays H (upd H p o) :=
  ⟨fun b xs e => by rw [upd_ne (ne_of_none e h)]; exact e, fun b o' u e => by rw [upd_ne (ne_of_none e h)]; exact e⟩
theorem Stays.mut {H : Hp} {p : Addr} {o : HO} (h : Mut (H p)) : Stays H (upd H p o) :=
  ⟨fun b xs e => by rw [upd_ne (fun z => by rw [z] at e; rw [e] at h; exact h)]; exact e, fun b o' u e => by rw [upd_ne (fun z => by rw [z] at e; rw [e] at h; exact h)]; exact e⟩
theorem Stays.rd {H H' : Hp} (s : Stays H H') {a : Addr} {xs : List V} (h : Rd H a (.tup xs)) : Rd H' a (.tup xs) := by
  rcases h with h | ⟨o, h⟩
  · exact .inl (s.tups _ _ h)
  · exact .inr ⟨o, s.frzs _ _ _ h⟩
theorem Stays.sqT {K : PySem.W.Frag} {H H' : Hp} (s : Stays H H') {a : Addr} {xs : List V} (h : SqT K H a xs) : SqT K H' a xs := by
  rcases h with h | h
  · exact .inl (s.rd h)
  · exact .inr h
theorem Stays.frzL {K : PySem.W.Frag} {H H' : Hp} (s : Stays H H') {a : Addr} {xs : List V} (h : FrzL K H a xs) : FrzL K H' a xs := by
  rcases h with ⟨o, h⟩ | h
  · exact .inl ⟨o, s.frzs _ _ _ h⟩
  · exact .inr h

section
variable {K : PySem.W.Frag} {w : World} {H H' : Hp} {ρ ρ' : List Addr}
theorem pre_get {α : Type} {l l' : List α} (h : l <+: l') {n : Nat} {a : α} (e : l[n]? = some a) : l'[n]? = some a := by
  obtain ⟨t, rfl⟩ := h
  rw [List.getElem?_append_left (List.getElem?_eq_some_iff.mp e).1]
  exact e
mutual
theorem Rep.stay (s : Stays H H') (p : ρ <+: ρ') : ∀ {d : D} {v : V}, Rep K w H ρ d v → Rep K w H' ρ' d v
  | .non, v, h => by unfold Rep at *; exact h
  | .bl b, v, h => by unfold Rep at *; exact h
  | .int i, v, h => by unfold Rep at *; exact h
  | .str x, v, h => by unfold Rep at *; exact h
  | .tup ds, v, h => by
    unfold Rep at *
    obtain ⟨a, vs, e, q, z, r⟩ := h
    exact ⟨a, vs, e, s.sqT q, z, Reps.stay s p r⟩
  | .lst ds, v, h => by
    unfold Rep at *
    obtain ⟨a, vs, e, q, z, r⟩ := h
    exact ⟨a, vs, e, s.frzL q, z, Reps.stay s p r⟩
  | .dct es, v, h => by
    unfold Rep at *
    obtain ⟨a, l, o, e, n, z, q, r⟩ := h
    exact ⟨a, l, o, e, n, z, s.frzs _ _ _ q, RepEs.stay s p r.1, r.2⟩
  | .ref n, v, h => by
    unfold Rep at *
    obtain ⟨a, e, q⟩ := h
    exact ⟨a, pre_get p e, q⟩
  | .cls c, v, h => by unfold Rep at *; exact h
theorem Reps.stay (s : Stays H H') (p : ρ <+: ρ') : ∀ {ds : List D} {vs : List V}, Reps K w H ρ ds vs → Reps K w H' ρ' ds vs
  | [], vs, h => by unfold Reps at *; exact h
  | d :: ds, vs, h => by
    unfold Reps at *
    obtain ⟨v, r, e, h1, h2⟩ := h
    exact ⟨v, r, e, Rep.stay s p h1, Reps.stay s p h2⟩
theorem RepEs.stay (s : Stays H H') (p : ρ <+: ρ') : ∀ {es : List (D × D)} {l : List DictEntry}, RepEs K w H ρ es l → RepEs K w H' ρ' es l
  | [], vs, h => by unfold RepEs at *; exact h
  | (k, d) :: es, l, h => by
    unfold RepEs at *
    obtain ⟨e, r, kv, dv, nk, e1, h1, h2, h3, h4, h5, h6, h7, h8⟩ := h
    exact ⟨e, r, kv, dv, nk, e1, h1, h2, h3, h4, Rep.stay s p h5, h6, Rep.stay s p h7, RepEs.stay s p h8⟩
end

theorem Reps.length : ∀ {ds : List D} {vs : List V}, Reps K w H ρ ds vs → vs.length = ds.length
  | [], vs, h => by unfold Reps at h; subst h; rfl
  | d :: ds, vs, h => by
    unfold Reps at h
    obtain ⟨v, r, rfl, h1, h2⟩ := h
    simp [Reps.length h2]
theorem Reps.nil : Reps K w H ρ [] [] := by unfold Reps; rfl
theorem Reps.cons {d : D} {ds : List D} {v : V} {vs : List V} (h : Rep K w H ρ d v) (r : Reps K w H ρ ds vs) : Reps K w H ρ (d :: ds) (v :: vs) := by unfold Reps; exact ⟨v, vs, rfl, h, r⟩
theorem Reps.get : ∀ {ds : List D} {vs : List V} {i : Nat} {d : D}, Reps K w H ρ ds vs → ds[i]? = some d → ∃ v, vs[i]? = some v ∧ Rep K w H ρ d v
  | [], _, _, _, _, e => by simp at e
  | d :: ds, vs, 0, d', h, e => by
    unfold Reps at h
    obtain ⟨v, r, rfl, h1, h2⟩ := h
    simp at e; subst e
    exact ⟨v, rfl, h1⟩
  | d :: ds, vs, i + 1, d', h, e => by
    unfold Reps at h
    obtain ⟨v, r, rfl, h1, h2⟩ := h
    obtain ⟨u, e1, e2⟩ := Reps.get (i := i) h2 (by simpa using e)
    exact ⟨u, by simpa using e1, e2⟩
theorem Reps.append : ∀ {ds ds' : List D} {vs vs' : List V}, Reps K w H ρ ds vs → Reps K w H ρ ds' vs' → Reps K w H ρ (ds ++ ds') (vs ++ vs')
  | [], _, vs, _, h, h' => by unfold Reps at h; subst h; exact h'
  | d :: ds, _, vs, _, h, h' => by
    unfold Reps at h
    obtain ⟨v, r, rfl, h1, h2⟩ := h
    exact Reps.cons h1 (Reps.append h2 h')
theorem Reps.take : ∀ {ds : List D} {vs : List V} (n : Nat), Reps K w H ρ ds vs → Reps K w H ρ (ds.take n) (vs.take n)
  | _, _, 0, _ => by simpa using Reps.nil
  | [], vs, n + 1, h => by unfold Reps at h; subst h; simpa using Reps.nil
  | d :: ds, vs, n + 1, h => by
    unfold Reps at h
    obtain ⟨v, r, rfl, h1, h2⟩ := h
    exact Reps.cons h1 (Reps.take n h2)
theorem Reps.drop : ∀ {ds : List D} {vs : List V} (n : Nat), Reps K w H ρ ds vs → Reps K w H ρ (ds.drop n) (vs.drop n)
  | _, _, 0, h => by simpa using h
  | [], vs, n + 1, h => by unfold Reps at h; subst h; simpa using Reps.nil
  | d :: ds, vs, n + 1, h => by
    unfold Reps at h
    obtain ⟨v, r, rfl, h1, h2⟩ := h
    exact Reps.drop n h2
theorem Reps.set : ∀ {ds : List D} {vs : List V} {d : D} {v : V} (i : Nat), Reps K w H ρ ds vs → Rep K w H ρ d v → Reps K w H ρ (ds.set i d) (vs.set i v)
  | [], vs, _, _, i, h, _ => by unfold Reps at h; subst h; simpa using Reps.nil
  | d :: ds, vs, _, _, 0, h, q => by
    unfold Reps at h
    obtain ⟨v, r, rfl, h1, h2⟩ := h
    exact Reps.cons q h2
  | d :: ds, vs, _, _, i + 1, h, q => by
    unfold Reps at h
    obtain ⟨v, r, rfl, h1, h2⟩ := h
    exact Reps.cons h1 (Reps.set i h2 q)
end

/-! ### the store -/
/-- the attributes of an instance -/
def RepFs (K : PySem.W.Frag) (w : World) (H : Hp) (ρ : List Addr) (fs : List (Str × D)) (vs : List (Str × V)) : Prop := Paired (fun p q => p.1 = q.1 ∧ Rep K w H ρ p.2 q.2) fs vs
/-- a class of the program's own whose instances are no values of the built-in types -/
structure Own (K : PySem.W.Frag) (C : Addr) : Prop where
  cl : Cls K C
  ha : PySem.W.findIn K (.ref C) "__class__" = some (some (.builtin "object.__class__"))
  hn : PySem.W.specialIn K (.builtin "object.__class__") "__get__" = some (some (.builtin "getset_descriptor.__get__"))
  htk : PySem.W.takesIn K (.builtin "object.__class__") = some true
  hm : PySem.W.mroIn K C (.type "object") = some true
  no : ∀ T ∈ (["bool", "int", "str", "tuple", "list", "dict"] : List String), PySem.W.mroIn K C (.type T) = some false
def RepO (K : PySem.W.Frag) (w : World) (H : Hp) (ρ : List Addr) (a : Addr) : SO → Prop
  | .lst ds => ∃ vs, H a = some (.lst vs) ∧ ds.length ≤ sizeLine ∧ Reps K w H ρ ds vs
  | .dct es => ∃ l, (a == sysModules) = false ∧ l.length ≤ sizeLine ∧ H a = some (.ext (RawD a l)) ∧ RepEs K w H ρ es l ∧ DOk es
  | .ins c fs => ∃ dx vs, H a = some (.ins (He.ga K c) dx vs) ∧ RepFs K w H ρ fs vs ∧ Own K (He.ga K c)
  | .dead => True
structure RelSt (K : PySem.W.Frag) (w : World) (H : Hp) (ρ : List Addr) (st : Sto) : Prop where
  len : ρ.length = st.length
  nd : ρ.Nodup
  here : ∀ a ∈ ρ, ∃ o, H a = some o
  obj : ∀ (n : Nat) (o : SO) (a : Addr), st[n]? = some o → ρ[n]? = some a → RepO K w H ρ a o
/-- the names -/
structure RelEn (K : PySem.W.Frag) (w : World) (H : Hp) (ρ : List Addr) (σ : L2.St) (env : En) : Prop where
  len : σ.length = env.length
  val : ∀ (i : Nat) (d : D), env[i]? = some (some d) → ∃ v, σ[i]? = some (some v) ∧ Rep K w H ρ d v
theorem RelEn.stay {K : PySem.W.Frag} {w : World} {H H' : Hp} {ρ ρ' : List Addr} {σ : L2.St} {env : En} (s : Stays H H') (p : ρ <+: ρ') (h : RelEn K w H ρ σ env) : RelEn K w H' ρ' σ env :=
  ⟨h.len, fun i d e => let ⟨v, e1, e2⟩ := h.val i d e; ⟨v, e1, e2.stay s p⟩⟩
/-- an exception -/
def RepX (K : PySem.W.Frag) (w : World) (H : Hp) (ρ : List Addr) (e : Ex) (cls : Value) (dd : Option Addr) : Prop :=
  cls = .ref (He.ga K e.cls) ∧ (match dd with
    | none => e.val = .non
    | some d => e.val ≠ .non ∧ ∃ v, H d = some (.xd [("reason", v)]) ∧ Rep K w H ρ e.val v)

/-- what holds behind: Stays; what is tracked and no object of the store is as it was; more objects, new ones -/
structure Aft (K : PySem.W.Frag) (w : World) (H : Hp) (ρ : List Addr) (st' : Sto) (H' : Hp) (ρ' : List Addr) : Prop where
  s : Stays H H'
  p : ρ <+: ρ'
  r : RelSt K w H' ρ' st'
  u : ∀ b o, H b = some o → b ∉ ρ → H' b = some o
  n : ∀ b ∈ ρ', b ∈ ρ ∨ H b = none
theorem Aft.refl {K : PySem.W.Frag} {w : World} {H : Hp} {ρ : List Addr} {st : Sto} (h : RelSt K w H ρ st) : Aft K w H ρ st H ρ := ⟨Stays.refl H, List.prefix_refl ρ, h, fun _ _ e _ => e, fun _ h => .inl h⟩
theorem Aft.trans {K : PySem.W.Frag} {w : World} {H H1 H2 : Hp} {ρ ρ1 ρ2 : List Addr} {st1 st2 : Sto} (a : Aft K w H ρ st1 H1 ρ1) (b : Aft K w H1 ρ1 st2 H2 ρ2) : Aft K w H ρ st2 H2 ρ2 :=
  ⟨a.s.trans b.s, a.p.trans b.p, b.r, fun c o e h => b.u c o (a.u c o e h) (fun z => by
    rcases a.n c z with z | z
    · exact h z
    · rw [e] at z; cases z), fun c hc => by
    rcases b.n c hc with z | z
    · exact a.n c z
    · cases q : H c with
      | none => exact .inr rfl
      | some o =>
        by_cases hc' : c ∈ ρ
        · exact .inl hc'
        · rw [a.u c o q hc'] at z
          cases z⟩

/-! ### the judgements -/
/-- the wishes about exceptions that are taken here -/
def WT (X : Cx) : WX := fun cls d σ H => ∃ W : WX, Takes X W ∧ W cls d σ H
theorem takes_WT (X : Cx) : Takes X (WT X) := fun u s' ⟨a, B, sI, pins, σ, H, cls, d, e, I, nb, up, sky, na, os, ag, W, tk, wq⟩ => tk u s' ⟨a, B, sI, pins, σ, H, cls, d, e, I, nb, up, sky, na, os, ag, wq⟩

/-- what a result asks: P of the value, the store and what lies behind, WT of an exception -/
def RR {α : Type} (X : Cx) (σ : L2.St) (H : Hp) (ρ : List Addr) (r : Res α) (P : α → Sto → Hp → List Addr → Prop) : Prop := match r with
  | .ok a st' => ∀ H' ρ', Aft X.K X.w H ρ st' H' ρ' → P a st' H' ρ'
  | .exc e st' => ∀ cls dd H' ρ', Aft X.K X.w H ρ st' H' ρ' → RepX X.K X.w H' ρ' e cls dd → WT X cls dd σ H'
  | .bad => False
def Res.bind {α β : Type} (r : Res α) (k : α → Sto → Res β) : Res β := match r with
  | .ok a st => k a st
  | .exc e st => .exc e st
  | .bad => .bad
theorem RR.bind {α β : Type} {X : Cx} {σ : L2.St} {H : Hp} {ρ : List Addr} {r : Res α} {k : α → Sto → Res β} {P : β → Sto → Hp → List Addr → Prop} (h : RR X σ H ρ (r.bind k) P) :
    RR X σ H ρ r fun a st1 H1 ρ1 => Aft X.K X.w H ρ st1 H1 ρ1 ∧ RR X σ H1 ρ1 (k a st1) P := by
  cases r with
  | ok a st1 =>
    intro H1 ρ1 a1
    refine ⟨a1, ?_⟩
    have h' : RR X σ H ρ (k a st1) P := h
    cases e : k a st1 with
    | ok b st2 =>
      rw [e] at h'
      exact fun H2 ρ2 a2 => h' H2 ρ2 (a1.trans a2)
    | exc x st2 =>
      rw [e] at h'
      exact fun cls dd H2 ρ2 a2 rx => h' cls dd H2 ρ2 (a1.trans a2) rx
    | bad =>
      rw [e] at h'
      exact h'
  | exc x st2 => exact h
  | bad => exact h
theorem RR.mono {α : Type} {X : Cx} {σ : L2.St} {H : Hp} {ρ : List Addr} {r : Res α} {P P' : α → Sto → Hp → List Addr → Prop} (h : RR X σ H ρ r P) (i : ∀ a st1 H1 ρ1, Aft X.K X.w H ρ st1 H1 ρ1 → P a st1 H1 ρ1 → P' a st1 H1 ρ1) : RR X σ H ρ r P' := by
  cases r with
  | ok a st1 => exact fun H1 ρ1 a1 => i a st1 H1 ρ1 a1 (h H1 ρ1 a1)
  | exc x st2 => exact h
  | bad => exact h
/-- the names and the store as they lie -/
structure At (X : Cx) (σ : L2.St) (H : Hp) (ρ : List Addr) (env : En) (st : Sto) : Prop where
  st : RelSt X.K X.w H ρ st
  en : RelEn X.K X.w H ρ σ env
theorem At.aft {X : Cx} {σ : L2.St} {H H' : Hp} {ρ ρ' : List Addr} {env : En} {st st' : Sto} (h : At X σ H ρ env st) (a : Aft X.K X.w H ρ st' H' ρ') : At X σ H' ρ' env st' := ⟨a.r, h.en.stay a.s a.p⟩
def tD (X : Cx) (f : SemE) : TE := fun σ H Q => ∃ ρ env st, At X σ H ρ env st ∧ RR X σ H ρ (f env st) fun d _ H' ρ' => ∀ v, Rep X.K X.w H' ρ' d v → Q v H'
def tT (X : Cx) (f : SemB) : TT := fun σ H Q => ∃ ρ env st, At X σ H ρ env st ∧ RR X σ H ρ (f env st) fun b _ H' _ => Q b H'
def tA (X : Cx) (f : SemA) : TA := fun σ H Q => ∃ ρ env st, At X σ H ρ env st ∧ RR X σ H ρ (f env st) fun ds _ H' ρ' => ∀ vs, Reps X.K X.w H' ρ' ds vs → Q vs H'
def RS (X : Cx) (D : Ends) (H : Hp) (ρ : List Addr) (r : ResS) : Prop := match r with
  | .nx env' st' => ∀ σ' H' ρ', Aft X.K X.w H ρ st' H' ρ' → RelEn X.K X.w H' ρ' σ' env' → D.nx σ' H'
  | .brk env' st' => ∀ σ' H' ρ', Aft X.K X.w H ρ st' H' ρ' → RelEn X.K X.w H' ρ' σ' env' → D.bk σ' H'
  | .cnt env' st' => ∀ σ' H' ρ', Aft X.K X.w H ρ st' H' ρ' → RelEn X.K X.w H' ρ' σ' env' → D.ct σ' H'
  | .ret d st' => ∀ v H' ρ', Aft X.K X.w H ρ st' H' ρ' → Rep X.K X.w H' ρ' d v → D.rt v H'
  | .exc e env' st' => ∀ cls dd σ' H' ρ', Aft X.K X.w H ρ st' H' ρ' → RelEn X.K X.w H' ρ' σ' env' → RepX X.K X.w H' ρ' e cls dd → WT X cls dd σ' H'
  | .bad => False
theorem RS.aft {X : Cx} {D : Ends} {H H1 : Hp} {ρ ρ1 : List Addr} {st1 : Sto} {r : ResS} (a : Aft X.K X.w H ρ st1 H1 ρ1) (h : RS X D H ρ r) : RS X D H1 ρ1 r := by
  cases r with
  | nx e s => exact fun σ' H' ρ' b => h σ' H' ρ' (a.trans b)
  | brk e s => exact fun σ' H' ρ' b => h σ' H' ρ' (a.trans b)
  | cnt e s => exact fun σ' H' ρ' b => h σ' H' ρ' (a.trans b)
  | ret d s => exact fun v H' ρ' b => h v H' ρ' (a.trans b)
  | exc x e s => exact fun cls dd σ' H' ρ' b => h cls dd σ' H' ρ' (a.trans b)
  | bad => exact h
def tS (X : Cx) (f : SemS) : TS := fun D σ H => ∃ ρ env st, At X σ H ρ env st ∧ RS X D H ρ (f env st)
def DE (X : Cx) (e : Expr) (f : SemE) : Prop := PE X e (tD X f)
def DT (X : Cx) (e : Expr) (f : SemB) : Prop := PT X e (tT X f)
def DA (X : Cx) (es : List Expr) (f : SemA) : Prop := PA X es (tA X f)
def DS (X : Cx) (s : Stmt) (f : SemS) : Prop := PS X s (tS X f)
def DSs (X : Cx) (s : List Stmt) (f : SemS) : Prop := PSs X s (tS X f)
/-- another reading that asks more -/
theorem PE.weak {X : Cx} {e : Expr} {t t' : TE} (h : PE X e t) (i : ∀ σ H Q, t' σ H Q → t σ H Q) : PE X e t' := ⟨fun pins s σ H Q I q => h.run pins s σ H Q I (i σ H Q q)⟩
theorem PT.weak {X : Cx} {e : Expr} {t t' : TT} (h : PT X e t) (i : ∀ σ H Q, t' σ H Q → t σ H Q) : PT X e t' := ⟨fun pins s σ H Q I q => h.run pins s σ H Q I (i σ H Q q)⟩
theorem PA.weak {X : Cx} {e : List Expr} {t t' : TA} (h : PA X e t) (i : ∀ σ H Q, t' σ H Q → t σ H Q) : PA X e t' := ⟨fun pos pins s σ H Q I q => h.run pos pins s σ H Q I (i σ H Q q)⟩
theorem PS.weak {X : Cx} {e : Stmt} {t t' : TS} (h : PS X e t) (i : ∀ D σ H, t' D σ H → t D σ H) : PS X e t' := ⟨fun pins s σ H D I q => h.run pins s σ H D I (i D σ H q)⟩
theorem PSs.weak {X : Cx} {e : List Stmt} {t t' : TS} (h : PSs X e t) (i : ∀ D σ H, t' D σ H → t D σ H) : PSs X e t' := ⟨fun pins s σ H D I q => h.run pins s σ H D I (i D σ H q)⟩
def ofO {α : Type} (o : Option α) (st : Sto) : Res α := match o with
  | some a => .ok a st
  | none => .bad

section
variable {X : Cx} {σ : L2.St} {H : Hp} {Q : VK} {α β : Type}

theorem tD_one {f : SemE} {k : D → Sto → Res D} (h : tD X (fun env st => (f env st).bind k) σ H Q) :
    tD X f σ H fun x H1 => ∃ ρ a env st, At X σ H1 ρ env st ∧ Rep X.K X.w H1 ρ a x ∧ RR X σ H1 ρ (k a st) fun d _ H' ρ' => ∀ v, Rep X.K X.w H' ρ' d v → Q v H' := by
  obtain ⟨ρ, env, st, a, h⟩ := h
  exact ⟨ρ, env, st, a, (RR.bind h).mono fun d st1 H1 ρ1 _ ⟨a1, q⟩ v r => ⟨ρ1, d, env, st1, a.aft a1, r, q⟩⟩
theorem tD_two {f g : SemE} {k : D → D → Sto → Res D} (h : tD X (fun env st => (f env st).bind fun a st1 => (g env st1).bind fun b st2 => k a b st2) σ H Q) :
    tD X f σ H fun x H1 => tD X g σ H1 fun y H2 => ∃ ρ a b env st, At X σ H2 ρ env st ∧ Rep X.K X.w H2 ρ a x ∧ Rep X.K X.w H2 ρ b y ∧ RR X σ H2 ρ (k a b st) fun d _ H' ρ' => ∀ v, Rep X.K X.w H' ρ' d v → Q v H' := by
  obtain ⟨ρ, env, st, a, h⟩ := h
  refine ⟨ρ, env, st, a, (RR.bind h).mono fun d st1 H1 ρ1 _ ⟨a1, q⟩ v r => ?_⟩
  exact ⟨ρ1, env, st1, a.aft a1, (RR.bind q).mono fun d2 st2 H2 ρ2 _ ⟨a2, q2⟩ v2 r2 => ⟨ρ2, d, d2, env, st2, (a.aft a1).aft a2, r.stay a2.s a2.p, r2, q2⟩⟩
end

/-! ### pure operations on values -/
def VP (X : Cx) (pins : List (Addr × Obj)) (σ : L2.St) (H : Hp) (ρ : List Addr) (st : Sto) (d : D) (r : Value) (s' : Shared) : Prop :=
  ∃ z H', Inv X pins σ H' s' ∧ RelV z r ∧ Aft X.K X.w H ρ st H' ρ ∧ Rep X.K X.w H' ρ d z
def OpD (X : Cx) (F : Value → Value → Sem Value) (op : Sto → D → D → Option D) : Prop :=
  ∀ (pins : List (Addr × Obj)) (s : Shared) (σ : L2.St) (H : Hp) (ρ : List Addr) (st : Sto) (x y : V) (v u : Value) (a b d : D), Inv X pins σ H s → RelSt X.K X.w H ρ st → RelV x v → RelV y u →
    Rep X.K X.w H ρ a x → Rep X.K X.w H ρ b y → op st a b = some d → wpAny (model X.prog X.w) X.A (F v u) (VP X pins σ H ρ st d) X.xe s
def UnD (X : Cx) (F : Value → Sem Value) (op : Sto → D → Option D) : Prop :=
  ∀ (pins : List (Addr × Obj)) (s : Shared) (σ : L2.St) (H : Hp) (ρ : List Addr) (st : Sto) (x : V) (v : Value) (a d : D), Inv X pins σ H s → RelSt X.K X.w H ρ st → RelV x v →
    Rep X.K X.w H ρ a x → op st a = some d → wpAny (model X.prog X.w) X.A (F v) (VP X pins σ H ρ st d) X.xe s
def CallD (X : Cx) (f : Value) (op : Sto → List D → Option D) : Prop :=
  ∀ (pins : List (Addr × Obj)) (s : Shared) (σ : L2.St) (H : Hp) (ρ : List Addr) (st : Sto) (xs : List V) (us : List Value) (as : List D) (d : D), Inv X pins σ H s → RelSt X.K X.w H ρ st → Vals xs us →
    Reps X.K X.w H ρ as xs → op st as = some d → wpAny (model X.prog X.w) X.A (call f us) (VP X pins σ H ρ st d) X.xe s
theorem VP.ep {X : Cx} {pins : List (Addr × Obj)} {σ : L2.St} {H : Hp} {ρ : List Addr} {st : Sto} {d : D} {r : Value} {s' : Shared} {Q : VK} (h : VP X pins σ H ρ st d r s')
    (q : RR X σ H ρ (.ok d st) fun d _ H' ρ' => ∀ v, Rep X.K X.w H' ρ' d v → Q v H') : EP X pins σ Q r s' := by
  obtain ⟨z, H', I, rv, a, rz⟩ := h
  exact ⟨z, H', I, rv, q H' ρ a z rz⟩
section
variable {X : Cx} {a b e c : Expr} {f g : SemE} {pos : Pos}
theorem OpD.r {F : Value → Value → Sem Value} {op : Sto → D → D → Option D} (h : OpD X F op) : OpR X F fun x y H Q => ∃ σ' ρ a b env st, At X σ' H ρ env st ∧ Rep X.K X.w H ρ a x ∧ Rep X.K X.w H ρ b y ∧
    RR X σ' H ρ (ofO (op st a b) st) fun d _ H' ρ' => ∀ v, Rep X.K X.w H' ρ' d v → Q v H' := by
  intro pins s σ H x y v u Q I rx ry q
  obtain ⟨σ', ρ, a, b, env, st, at_, ra, rb, q⟩ := q
  cases e : op st a b with
  | none =>
    rw [e] at q
    exact q.elim
  | some d =>
    rw [e] at q
    exact thn (h pins s σ H ρ st x y v u a b d I at_.st rx ry ra rb e) fun r s' hv => by
      obtain ⟨z, H', I', rv, af, rz⟩ := hv
      exact ⟨z, H', I', rv, q H' ρ af z rz⟩
theorem UnD.r {F : Value → Sem Value} {op : Sto → D → Option D} (h : UnD X F op) : UnR X F fun x H Q => ∃ σ' ρ a env st, At X σ' H ρ env st ∧ Rep X.K X.w H ρ a x ∧
    RR X σ' H ρ (ofO (op st a) st) fun d _ H' ρ' => ∀ v, Rep X.K X.w H' ρ' d v → Q v H' := by
  intro pins s σ H x v Q I rx q
  obtain ⟨σ', ρ, a, env, st, at_, ra, q⟩ := q
  cases e : op st a with
  | none =>
    rw [e] at q
    exact q.elim
  | some d =>
    rw [e] at q
    exact thn (h pins s σ H ρ st x v a d I at_.st rx ra e) fun r s' hv => by
      obtain ⟨z, H', I', rv, af, rz⟩ := hv
      exact ⟨z, H', I', rv, q H' ρ af z rz⟩
theorem CallD.r {fv : Value} {op : Sto → List D → Option D} (h : CallD X fv op) : CallR X fv fun xs H Q => ∃ σ' ρ as env st, At X σ' H ρ env st ∧ Reps X.K X.w H ρ as xs ∧
    RR X σ' H ρ (ofO (op st as) st) fun d _ H' ρ' => ∀ v, Rep X.K X.w H' ρ' d v → Q v H' := by
  intro pins s σ H xs us Q I rx q
  obtain ⟨σ', ρ, as, env, st, at_, ra, q⟩ := q
  cases e : op st as with
  | none =>
    rw [e] at q
    exact q.elim
  | some d =>
    rw [e] at q
    exact thn (h pins s σ H ρ st xs us as d I at_.st rx ra e) fun r s' hv => by
      obtain ⟨z, H', I', rv, af, rz⟩ := hv
      exact ⟨z, H', I', rv, q H' ρ af z rz⟩

/-! ### the semantics of expressions -/
def sVar (i : Nat) : SemE := fun env st => match env[i]? with
  | some (some d) => .ok d st
  | _ => .bad
def sC (d : D) : SemE := fun _ st => .ok d st
def sOp (op : Sto → D → D → Option D) (f g : SemE) : SemE := fun env st => (f env st).bind fun a st1 => (g env st1).bind fun b st2 => ofO (op st2 a b) st2
def sUn (op : Sto → D → Option D) (f : SemE) : SemE := fun env st => (f env st).bind fun a st1 => ofO (op st1 a) st1

theorem de_var (i : Nat) {x : Str} {pos : Pos} (hN : X.N[i]? = some x := by rfl) (hv : Vis X.env.scope x := by first | exact Or.inl rfl | exact Or.inr (Or.inl rfl) | exact Or.inr (Or.inr rfl)) (hd : (x == ("__debug__" : Str)) = false := by decide)
    (hcd : (x == ("__classdict__" : Str)) = false := by decide) : DE X (.Name x pos) (sVar i) := by
  refine PE.weak (pe_var hN hv hd hcd) fun σ H Q ⟨ρ, env, st, a, h⟩ => ?_
  unfold sVar at h
  cases e : env[i]? with
  | none => rw [e] at h; exact h.elim
  | some o =>
    cases o with
    | none => rw [e] at h; exact h.elim
    | some d =>
      rw [e] at h
      obtain ⟨v, e1, r⟩ := a.en.val i d e
      exact ⟨v, e1, h H ρ (Aft.refl a.st) v r⟩
theorem tC_of {v : V} {d : D} {σ : L2.St} {H : Hp} {Q : VK} (h : tD X (sC d) σ H Q) (r : ∀ H ρ, Rep X.K X.w H ρ d v) : tC v σ H Q := by
  obtain ⟨ρ, env, st, a, h⟩ := h
  exact h H ρ (Aft.refl a.st) v (r H ρ)
theorem de_int {i : Int} {j pos} : DE X (.Constant (.int i) j pos) (sC (.int i)) := PE.weak pe_int fun σ H Q h => tC_of h fun H ρ => by unfold Rep; rfl
theorem de_bl {b : Bool} {j pos} : DE X (.Constant (.bool b) j pos) (sC (.bl b)) := PE.weak pe_bl fun σ H Q h => tC_of h fun H ρ => by unfold Rep; rfl
theorem de_non {j pos} : DE X (.Constant .none j pos) (sC .non) := PE.weak pe_non fun σ H Q h => tC_of h fun H ρ => by unfold Rep; rfl
theorem de_str {x : Str} {j pos} : DE X (.Constant (.str x) j pos) (sC (.str x)) := PE.weak pe_str fun σ H Q h => tC_of h fun H ρ => by unfold Rep; rfl
/-- a constant of the module: a text, an int -/
theorem de_gstr {x y : Str} {t : Tok} {pos : Pos} (hg : Gl X x) (hm : X.mg x = some (.str y t)) (hd : (x == ("__debug__" : Str)) = false := by decide) : DE X (.Name x pos) (sC (.str y)) :=
  PE.weak (pe_glob (v := .str y) hg hm ⟨t, rfl⟩ hd) fun σ H Q h => tC_of h fun H ρ => by unfold Rep; rfl
theorem de_gint {x : Str} {i : Int} {t : Tok} {pos : Pos} (hg : Gl X x) (hm : X.mg x = some (.int i t)) (hd : (x == ("__debug__" : Str)) = false := by decide) : DE X (.Name x pos) (sC (.int i)) :=
  PE.weak (pe_glob (v := .int i) hg hm ⟨t, rfl⟩ hd) fun σ H Q h => tC_of h fun H ρ => by unfold Rep; rfl
/-- a tuple of the module -/
theorem de_gtup {x : Str} {ads : Addr} {ds : List D} {pos : Pos} (hg : Gl X x) (hm : X.mg x = some (.ref ads)) (hr : ∀ H ρ, Rep X.K X.w H ρ (.tup ds) (.ref ads)) (hd : (x == ("__debug__" : Str)) = false := by decide) : DE X (.Name x pos) (sC (.tup ds)) :=
  PE.weak (pe_glob (v := .ref ads) hg hm rfl hd) fun σ H Q h => tC_of h hr

theorem PE_two {σ : L2.St} {H : Hp} {Q : VK} {F : Sto → D → D → Option D} (q : tD X f σ H fun x H1 => tD X g σ H1 fun y H2 => ∃ ρ a b env st, At X σ H2 ρ env st ∧ Rep X.K X.w H2 ρ a x ∧ Rep X.K X.w H2 ρ b y ∧ RR X σ H2 ρ (ofO (F st a b) st) fun d _ H' ρ' => ∀ v, Rep X.K X.w H' ρ' d v → Q v H') :
    tOp (fun x y H Q => ∃ σ' ρ a b env st, At X σ' H ρ env st ∧ Rep X.K X.w H ρ a x ∧ Rep X.K X.w H ρ b y ∧ RR X σ' H ρ (ofO (F st a b) st) fun d _ H' ρ' => ∀ v, Rep X.K X.w H' ρ' d v → Q v H') (tD X f) (tD X g) σ H Q := by
  obtain ⟨ρ, env, st, at_, h⟩ := q
  refine ⟨ρ, env, st, at_, h.mono fun d st1 H1 ρ1 _ k v r => ?_⟩
  obtain ⟨ρ2, env2, st2, at2, h2⟩ := k v r
  exact ⟨ρ2, env2, st2, at2, h2.mono fun d' st3 H3 ρ3 _ k2 v2 r2 => ⟨σ, k2 v2 r2⟩⟩
theorem de_op {op : Operator} {F : Sto → D → D → Option D} (ho : OpD X (binaryOp op) F) (ha : DE X a f) (hb : DE X b g) : DE X (.BinOp a op b pos) (sOp F f g) :=
  PE.weak (pe_op ho.r ha hb) fun σ H Q h => PE_two (tD_two h)
theorem de_un {op : UnaryOp} {F : Sto → D → Option D} (ho : UnD X (unaryOp op) F) (ha : DE X a f) : DE X (.UnaryOp op a pos) (sUn F f) :=
  PE.weak (pe_un ho.r ha) fun σ H Q h => by
    obtain ⟨ρ, env, st, at_, q⟩ := tD_one h
    exact ⟨ρ, env, st, at_, q.mono fun d st1 H1 ρ1 _ k v r => ⟨σ, k v r⟩⟩
theorem de_cmp {op : CmpOp} {F : Sto → D → D → Option D} (ho : OpD X (compareOp op) F) (ha : DE X a f) (hb : DE X b g) (hm : behindInMarks op b = false := by first | exact nomark _ | with_unfolding_all rfl) : DE X (.Compare a [op] [b] pos) (sOp F f g) :=
  PE.weak (pe_cmpR ho.r ha hb hm) fun σ H Q h => PE_two (tD_two h)

/-! ### truth -/
def truthy (st : Sto) : D → Option Bool
  | .non => some false
  | .bl b => some b
  | .int i => some (i != 0)
  | .str x => if x.length ≤ sizeLine then some ((x.length : Int) != 0) else none
  | .tup ds => some (!ds.isEmpty)
  | .lst ds => some (!ds.isEmpty)
  | .ref n => match st[n]? with
    | some (.lst ds) => some (!ds.isEmpty)
    | _ => none
  | _ => none
theorem Reps.isEmpty {K : PySem.W.Frag} {w : World} {H : Hp} {ρ : List Addr} {ds : List D} {vs : List V} (h : Reps K w H ρ ds vs) : vs.isEmpty = ds.isEmpty := by
  have := h.length
  cases vs <;> cases ds <;> simp_all
theorem RelSt.lst {K : PySem.W.Frag} {w : World} {H : Hp} {ρ : List Addr} {st : Sto} (h : RelSt K w H ρ st) {n : Nat} {a : Addr} {ds : List D} (e : st[n]? = some (.lst ds)) (r : ρ[n]? = some a) : ∃ vs, H a = some (.lst vs) ∧ ds.length ≤ sizeLine ∧ Reps K w H ρ ds vs := h.obj n _ a e r
theorem truthy_ok {H : Hp} {ρ : List Addr} {st : Sto} {d : D} {x : V} {k : Bool} (hs : RelSt X.K X.w H ρ st) (r : Rep X.K X.w H ρ d x) (e : truthy st d = some k) : TruV X.K x H k := by
  cases d with
  | non => unfold Rep at r; subst r; cases e; rfl
  | bl b => unfold Rep at r; subst r; cases e; rfl
  | int i => unfold Rep at r; subst r; cases e; rfl
  | str y =>
    unfold Rep at r; subst r
    have e' : (if y.length ≤ sizeLine then some ((y.length : Int) != 0) else none) = some k := e
    by_cases hy : y.length ≤ sizeLine
    · rw [if_pos hy] at e'; cases e'; exact ⟨hy, rfl⟩
    · rw [if_neg hy] at e'; cases e'
  | tup ds =>
    unfold Rep at r
    obtain ⟨a, vs, rfl, q, z, rs⟩ := r
    cases e
    exact .inr (.inl ⟨vs, q, by rw [rs.isEmpty]⟩)
  | lst ds =>
    unfold Rep at r
    obtain ⟨a, vs, rfl, q, z, rs⟩ := r
    cases e
    exact .inl ⟨vs, q.sq, by rw [rs.isEmpty]⟩
  | dct es => cases e
  | ref n =>
    unfold Rep at r
    obtain ⟨a, ea, rfl⟩ := r
    have e' : (match st[n]? with
      | some (.lst ds) => some (!ds.isEmpty)
      | _ => none) = some k := e
    cases es : st[n]? with
    | none => rw [es] at e'; cases e'
    | some o =>
      cases o with
      | lst ds =>
        rw [es] at e'
        cases e'
        obtain ⟨vs, q, z, rs⟩ := hs.lst es ea
        exact .inl ⟨vs, SqL.of q, by rw [rs.isEmpty]⟩
      | _ => rw [es] at e'; cases e'
  | cls c => cases e

def sTru (f : SemE) : SemB := fun env st => (f env st).bind fun d st1 => ofO (truthy st1 d) st1
theorem dt_val (ha : DE X a f) (he : ∀ whole, isTrue a X.env whole = (do let v ← whole; standAt a.pos; holding [v] (PySem.truthy v)) := by intro _; rfl) : DT X a (sTru f) :=
  PT.weak (pt_truth ha he) fun σ H Q ⟨ρ, env, st, at_, h⟩ => by
    refine ⟨ρ, env, st, at_, (RR.bind h).mono fun d st1 H1 ρ1 a1 ⟨_, k⟩ v r => ?_⟩
    cases e : truthy st1 d with
    | none => rw [e] at k; exact k.elim
    | some c =>
      rw [e] at k
      exact ⟨c, truthy_ok a1.r r e, k H1 ρ1 (Aft.refl a1.r)⟩
/-- a comparison as a test -/
def asB (st : Sto) : D → Option Bool
  | .bl b => some b
  | _ => none
def sB (f : SemE) : SemB := fun env st => (f env st).bind fun d st1 => ofO (asB st1 d) st1
theorem tB_of {f : SemE} {σ : L2.St} {H : Hp} {Q : Bool → Hp → Prop} (h : tT X (sB f) σ H Q) : tD X f σ H fun x H' => ∃ k, x = .bl k ∧ Q k H' := by
  obtain ⟨ρ, env, st, at_, h⟩ := h
  refine ⟨ρ, env, st, at_, (RR.bind h).mono fun d st1 H1 ρ1 a1 ⟨_, k⟩ v r => ?_⟩
  cases d with
  | bl c =>
    unfold Rep at r
    exact ⟨c, r, k H1 ρ1 (Aft.refl a1.r)⟩
  | _ => exact k.elim
theorem dt_cmp {op : CmpOp} {F : Sto → D → D → Option D} (ho : OpD X (compareOp op) F) (ha : DE X a f) (hb : DE X b g) (hm : behindInMarks op b = false := by first | exact nomark _ | with_unfolding_all rfl) : DT X (.Compare a [op] [b] pos) (sB (sOp F f g)) :=
  PT.weak (pt_cmpR ho.r ha hb hm) fun σ H Q h => PE_two (tD_two (tB_of h))

/-! ### and, or, not, if -/
variable {fa fb : SemB} {rest : List Expr}
def sAnd (fa fb : SemB) : SemB := fun env st => (fa env st).bind fun b st1 => if b = true then fb env st1 else .ok false st1
def sOr (fa fb : SemB) : SemB := fun env st => (fa env st).bind fun b st1 => if b = true then .ok true st1 else fb env st1
def sNot (fa : SemB) : SemB := fun env st => (fa env st).bind fun b st1 => .ok (!b) st1
/-- a test, whatever whole is -/
def DW (X : Cx) (e : Expr) (f : SemB) : Prop := PW X e (tT X f)
theorem PW.weak {X : Cx} {e : Expr} {t t' : TT} (h : PW X e t) (i : ∀ σ H Q, t' σ H Q → t σ H Q) : PW X e t' := ⟨fun wh pins s σ H Q I q => h.run wh pins s σ H Q I (i σ H Q q)⟩
theorem DW.dt (h : DW X e fa) : DT X e fa := PW.pt h
theorem dw_and1 (ha : DT X a fa) : DW X (.BoolOp .And [a] pos) fa := pw_and1 ha
theorem dw_or1 (ha : DT X a fa) : DW X (.BoolOp .Or [a] pos) fa := pw_or1 ha
theorem dw_and (ha : DT X a fa) (hb : DW X (.BoolOp .And (b :: rest) pos) fb) : DW X (.BoolOp .And (a :: b :: rest) pos) (sAnd fa fb) :=
  PW.weak (pw_and ha hb) fun σ H Q ⟨ρ, env, st, at_, h⟩ => by
    refine ⟨ρ, env, st, at_, (RR.bind h).mono fun c st1 H1 ρ1 a1 ⟨_, k⟩ => ?_⟩
    cases c with
    | true => rw [if_pos rfl]; exact ⟨ρ1, env, st1, at_.aft a1, k⟩
    | false => rw [if_neg Bool.false_ne_true]; exact k H1 ρ1 (Aft.refl a1.r)
theorem dw_or (ha : DT X a fa) (hb : DW X (.BoolOp .Or (b :: rest) pos) fb) : DW X (.BoolOp .Or (a :: b :: rest) pos) (sOr fa fb) :=
  PW.weak (pw_or ha hb) fun σ H Q ⟨ρ, env, st, at_, h⟩ => by
    refine ⟨ρ, env, st, at_, (RR.bind h).mono fun c st1 H1 ρ1 a1 ⟨_, k⟩ => ?_⟩
    cases c with
    | false => rw [if_neg Bool.false_ne_true]; exact ⟨ρ1, env, st1, at_.aft a1, k⟩
    | true => rw [if_pos rfl]; exact k H1 ρ1 (Aft.refl a1.r)
theorem dt_not (ha : DT X a fa) : DT X (.UnaryOp .Not a pos) (sNot fa) :=
  PT.weak (pt_not ha) fun σ H Q ⟨ρ, env, st, at_, h⟩ => ⟨ρ, env, st, at_, (RR.bind h).mono fun c st1 H1 ρ1 a1 ⟨_, k⟩ => k H1 ρ1 (Aft.refl a1.r)⟩
/-- as values -/
def sAndV (f g : SemE) : SemE := fun env st => (f env st).bind fun d st1 => match truthy st1 d with
  | some true => g env st1
  | some false => .ok d st1
  | none => .bad
def sOrV (f g : SemE) : SemE := fun env st => (f env st).bind fun d st1 => match truthy st1 d with
  | some false => g env st1
  | some true => .ok d st1
  | none => .bad
def sNotV (f : SemE) : SemE := fun env st => (f env st).bind fun d st1 => match truthy st1 d with
  | some b => .ok (.bl (!b)) st1
  | none => .bad
theorem de_one {op} (h : DE X a f) : DE X (.BoolOp op [a] pos) f := pe_one h
theorem de_and (ha : DE X a f) (hb : DE X (.BoolOp .And (b :: rest) pos) g) : DE X (.BoolOp .And (a :: b :: rest) pos) (sAndV f g) :=
  PE.weak (pe_andT ha hb) fun σ H Q ⟨ρ, env, st, at_, h⟩ => by
    refine ⟨ρ, env, st, at_, (RR.bind h).mono fun d st1 H1 ρ1 a1 ⟨_, k⟩ v r => ?_⟩
    cases e : truthy st1 d with
    | none => rw [e] at k; exact k.elim
    | some c =>
      rw [e] at k
      refine ⟨c, truthy_ok a1.r r e, ?_⟩
      cases c with
      | true => rw [if_pos rfl]; exact ⟨ρ1, env, st1, at_.aft a1, k⟩
      | false => rw [if_neg Bool.false_ne_true]; exact k H1 ρ1 (Aft.refl a1.r) v r
theorem de_or (ha : DE X a f) (hb : DE X (.BoolOp .Or (b :: rest) pos) g) : DE X (.BoolOp .Or (a :: b :: rest) pos) (sOrV f g) :=
  PE.weak (pe_orT ha hb) fun σ H Q ⟨ρ, env, st, at_, h⟩ => by
    refine ⟨ρ, env, st, at_, (RR.bind h).mono fun d st1 H1 ρ1 a1 ⟨_, k⟩ v r => ?_⟩
    cases e : truthy st1 d with
    | none => rw [e] at k; exact k.elim
    | some c =>
      rw [e] at k
      refine ⟨c, truthy_ok a1.r r e, ?_⟩
      cases c with
      | false => rw [if_neg Bool.false_ne_true]; exact ⟨ρ1, env, st1, at_.aft a1, k⟩
      | true => rw [if_pos rfl]; exact k H1 ρ1 (Aft.refl a1.r) v r
theorem de_not (ha : DE X a f) : DE X (.UnaryOp .Not a pos) (sNotV f) :=
  PE.weak (pe_notT ha) fun σ H Q ⟨ρ, env, st, at_, h⟩ => by
    refine ⟨ρ, env, st, at_, (RR.bind h).mono fun d st1 H1 ρ1 a1 ⟨_, k⟩ v r => ?_⟩
    cases e : truthy st1 d with
    | none => rw [e] at k; exact k.elim
    | some c =>
      rw [e] at k
      exact ⟨c, truthy_ok a1.r r e, k H1 ρ1 (Aft.refl a1.r) _ (by unfold Rep; rfl)⟩
def sIf (fc : SemB) (f g : SemE) : SemE := fun env st => (fc env st).bind fun b st1 => if b = true then f env st1 else g env st1
theorem de_if {c : Expr} (hc : DT X c fa) (ha : DE X a f) (hb : DE X b g) : DE X (.IfExp c a b pos) (sIf fa f g) :=
  PE.weak (pe_ifExp hc ha hb) fun σ H Q ⟨ρ, env, st, at_, h⟩ => by
    refine ⟨ρ, env, st, at_, (RR.bind h).mono fun c st1 H1 ρ1 a1 ⟨_, k⟩ => ?_⟩
    cases c with
    | true => rw [if_pos rfl] at k ⊢; exact ⟨ρ1, env, st1, at_.aft a1, k⟩
    | false => rw [if_neg Bool.false_ne_true] at k ⊢; exact ⟨ρ1, env, st1, at_.aft a1, k⟩
end
/-! ### the store grows, an object is frozen -/
section
variable {K : PySem.W.Frag} {w : World} {H : Hp} {ρ : List Addr} {st : Sto}
theorem RepO.stay {H' : Hp} {ρ' : List Addr} {a : Addr} {o : SO} (h : RepO K w H ρ a o) (s : Stays H H') (p : ρ <+: ρ') (e : H' a = H a) : RepO K w H' ρ' a o := by
  cases o with
  | lst ds =>
    obtain ⟨vs, h1, z, h2⟩ := h
    exact ⟨vs, by rw [e]; exact h1, z, h2.stay s p⟩
  | dct es =>
    obtain ⟨l, h1, h2, h3, h4⟩ := h
    exact ⟨l, h1, h2, by rw [e]; exact h3, h4.1.stay s p, h4.2⟩
  | ins c fs =>
    obtain ⟨dx, vs, h1, h2, h3⟩ := h
    exact ⟨dx, vs, by rw [e]; exact h1, Paired.mapP h2 fun _ _ z => ⟨z.1, z.2.stay s p⟩, h3⟩
  | dead => trivial
theorem RelSt.fresh (h : RelSt K w H ρ st) {p : Addr} {o : HO} (hp : H p = none) : RelSt K w (upd H p o) ρ st := by
  have ne : ∀ a ∈ ρ, a ≠ p := fun a ha => by
    obtain ⟨u, e⟩ := h.here a ha
    exact ne_of_none e hp
  refine ⟨h.len, h.nd, fun a ha => ?_, fun n o' a e1 e2 => ?_⟩
  · obtain ⟨u, e⟩ := h.here a ha
    exact ⟨u, by rw [upd_ne (ne a ha)]; exact e⟩
  · exact (h.obj n o' a e1 e2).stay (Stays.new hp) (List.prefix_refl ρ) (upd_ne (ne a (List.mem_of_getElem? e2)))
theorem Aft.fresh (h : RelSt K w H ρ st) {p : Addr} {o : HO} (hp : H p = none) : Aft K w H ρ st (upd H p o) ρ := ⟨Stays.new hp, List.prefix_refl ρ, h.fresh hp, fun b u e _ => by rw [upd_ne (ne_of_none e hp)]; exact e, fun _ z => .inl z⟩
theorem RelSt.grow (h : RelSt K w H ρ st) {p : Addr} {o : HO} {so : SO} (hp : H p = none) (r : RepO K w (upd H p o) (ρ ++ [p]) p so) : RelSt K w (upd H p o) (ρ ++ [p]) (st ++ [so]) := by
  have ne : ∀ a ∈ ρ, a ≠ p := fun a ha => by
    obtain ⟨u, e⟩ := h.here a ha
    exact ne_of_none e hp
  refine ⟨by simp [h.len], List.nodup_append.mpr ⟨h.nd, by simp, fun a ha b hb => ?_⟩, fun a ha => ?_, fun n o' a e1 e2 => ?_⟩
  · simp only [List.mem_singleton] at hb
    subst hb
    exact ne a ha
  · rcases List.mem_append.mp ha with ha | ha
    · obtain ⟨u, e⟩ := h.here a ha
      exact ⟨u, by rw [upd_ne (ne a ha)]; exact e⟩
    · simp only [List.mem_singleton] at ha
      subst ha
      exact ⟨o, upd_same⟩
  · by_cases hn : n < st.length
    · rw [List.getElem?_append_left hn] at e1
      rw [List.getElem?_append_left (by rw [h.len]; exact hn)] at e2
      exact (h.obj n o' a e1 e2).stay (Stays.new hp) (List.prefix_append _ _) (upd_ne (ne a (List.mem_of_getElem? e2)))
    · have hl : n = st.length := by
        have := (List.getElem?_eq_some_iff.mp e1).1
        simp at this
        omega
      subst hl
      simp at e1
      subst e1
      rw [← h.len] at e2
      simp at e2
      subst e2
      exact r
theorem Aft.grow (h : RelSt K w H ρ st) {p : Addr} {o : HO} {so : SO} (hp : H p = none) (r : RepO K w (upd H p o) (ρ ++ [p]) p so) : Aft K w H ρ (st ++ [so]) (upd H p o) (ρ ++ [p]) := ⟨Stays.new hp, List.prefix_append _ _, h.grow hp r, fun b u e _ => by rw [upd_ne (ne_of_none e hp)]; exact e, fun b z => by
  rcases List.mem_append.mp z with z | z
  · exact .inl z
  · simp only [List.mem_singleton] at z
    subst z
    exact .inr hp⟩
/-- the object at a is written -/
theorem RelSt.write (h : RelSt K w H ρ st) {n : Nat} {a : Addr} {o : HO} {so : SO} (e : ρ[n]? = some a) (mu : Mut (H a)) (r : RepO K w (upd H a o) ρ a so) : RelSt K w (upd H a o) ρ (st.set n so) := by
  have nd := h.nd
  have inj : ∀ (m : Nat) (b : Addr), ρ[m]? = some b → m ≠ n → b ≠ a := fun m b em ne z => by
    subst z
    obtain ⟨h1, e1⟩ := List.getElem?_eq_some_iff.mp em
    obtain ⟨h2, e2⟩ := List.getElem?_eq_some_iff.mp e
    exact ne ((List.getElem_inj nd).mp (e1.trans e2.symm))
  refine ⟨by simp [h.len], nd, fun b hb => ?_, fun m o' b e1 e2 => ?_⟩
  · by_cases hba : b = a
    · subst hba
      exact ⟨o, upd_same⟩
    · obtain ⟨u, eu⟩ := h.here b hb
      exact ⟨u, by rw [upd_ne hba]; exact eu⟩
  · by_cases hm : m = n
    · subst hm
      have lt : m < st.length := by
        have := (List.getElem?_eq_some_iff.mp e).1
        rw [h.len] at this
        exact this
      rw [List.getElem?_set_self lt] at e1
      cases e1
      rw [e] at e2
      cases e2
      exact r
    · rw [List.getElem?_set_ne (Ne.symm hm)] at e1
      exact (h.obj m o' b e1 e2).stay (Stays.mut mu) (List.prefix_refl ρ) (upd_ne (inj m b e2 hm))
theorem Aft.write (h : RelSt K w H ρ st) {n : Nat} {a : Addr} {o : HO} {so : SO} (e : ρ[n]? = some a) (mu : Mut (H a)) (r : RepO K w (upd H a o) ρ a so) : Aft K w H ρ (st.set n so) (upd H a o) ρ := ⟨Stays.mut mu, List.prefix_refl ρ, h.write e mu r, fun b u eb nb => by rw [upd_ne (fun z => nb (by rw [z]; exact List.mem_of_getElem? e))]; exact eb, fun _ z => .inl z⟩
end

theorem pe_lock {X : Cx} {e : Expr} {t : TE} (h : PE X e t) : PE X e fun σ H Q => t σ H fun v H' => ∃ a u, v = .ref a ∧ H' a = some u ∧ Mut (some u) ∧ ∀ od, Q v (upd H' a (.frz od u)) :=
  ⟨fun pins s σ H Q I hq => thn (h.run pins s σ H _ I hq) fun v s' ⟨x, H', I', r, a, u, ex, eu, mu, q⟩ => by
    obtain ⟨od, I2⟩ := I'.lock eu mu
    exact ⟨x, _, I2, r, q od⟩⟩
/-- behind an expression something that it gave may be frozen -/
theorem pe_lock' {X : Cx} {e : Expr} {t : TE} (h : PE X e t) : PE X e fun σ H Q => t σ H fun v H' => Q v H' ∨ ∃ a u, v = .ref a ∧ H' a = some u ∧ Mut (some u) ∧ ∀ od, Q v (upd H' a (.frz od u)) :=
  ⟨fun pins s σ H Q I hq => thn (h.run pins s σ H _ I hq) fun v s' ⟨x, H', I', r, q⟩ => by
    rcases q with q | ⟨a, u, ex, eu, mu, q⟩
    · exact ⟨x, H', I', r, q⟩
    · obtain ⟨od, I2⟩ := I'.lock eu mu
      exact ⟨x, _, I2, r, q od⟩⟩

/-! ### argument lists, displays -/
def sNil : SemA := fun _ st => .ok [] st
def sCons (f : SemE) (fs : SemA) : SemA := fun env st => (f env st).bind fun d st1 => (fs env st1).bind fun ds st2 => .ok (d :: ds) st2
/-- what a list, a tuple holds -/
def itemsOf (st : Sto) : D → Option (List D)
  | .tup ds => some ds
  | .lst ds => some ds
  | .ref n => match st[n]? with
    | some (.lst ds) => some ds
    | _ => none
  | _ => none
def sStar (f : SemE) (fs : SemA) : SemA := fun env st => (f env st).bind fun d st1 => match itemsOf st1 d with
  | some xs => (fs env st1).bind fun ds st2 => .ok (xs ++ ds) st2
  | none => .bad
theorem itemsOf_ok {X : Cx} {H : Hp} {ρ : List Addr} {st : Sto} {d : D} {x : V} {xs : List D} (hs : RelSt X.K X.w H ρ st) (r : Rep X.K X.w H ρ d x) (e : itemsOf st d = some xs) :
    ∃ p vs, x = .ref p ∧ (SqT X.K H p vs ∨ SqL X.K H p vs) ∧ Reps X.K X.w H ρ xs vs := by
  cases d with
  | tup ds =>
    cases e
    unfold Rep at r
    obtain ⟨a, vs, rfl, q, z, rs⟩ := r
    exact ⟨a, vs, rfl, .inl q, rs⟩
  | lst ds =>
    cases e
    unfold Rep at r
    obtain ⟨a, vs, rfl, q, z, rs⟩ := r
    exact ⟨a, vs, rfl, .inr q.sq, rs⟩
  | ref n =>
    unfold Rep at r
    obtain ⟨a, ea, rfl⟩ := r
    have e' : (match st[n]? with
      | some (.lst ds) => some ds
      | _ => none) = some xs := e
    cases es : st[n]? with
    | none => rw [es] at e'; cases e'
    | some o =>
      cases o with
      | lst ds =>
        rw [es] at e'
        cases e'
        obtain ⟨vs, q, z, rs⟩ := hs.lst es ea
        exact ⟨a, vs, rfl, .inr (SqL.of q), rs⟩
      | _ => rw [es] at e'; cases e'
  | _ => cases e

section
variable {X : Cx} {e : Expr} {es : List Expr} {f : SemE} {fs : SemA} {pos : Pos}
theorem da_nil : DA X [] sNil := PA.weak pa_nil fun σ H Q ⟨ρ, env, st, at_, h⟩ => h H ρ (Aft.refl at_.st) [] Reps.nil
theorem da_cons (ha : DE X e f) (hr : DA X es fs) (hs : starEach (e :: es) X.env = (false, eval e X.env) :: starEach es X.env := by rfl) : DA X (e :: es) (sCons f fs) :=
  PA.weak (pa_cons ha hr hs) fun σ H Q ⟨ρ, env, st, at_, h⟩ => by
    refine ⟨ρ, env, st, at_, (RR.bind h).mono fun d st1 H1 ρ1 a1 ⟨_, k⟩ v r => ?_⟩
    exact ⟨ρ1, env, st1, at_.aft a1, (RR.bind k).mono fun ds st2 H2 ρ2 a2 ⟨_, k2⟩ vs rs => k2 H2 ρ2 (Aft.refl a2.r) (v :: vs) (Reps.cons (r.stay a2.s a2.p) rs)⟩
theorem da_star {p : Pos} (ha : DE X e f) (hr : DA X es fs) (hs : starEach (.Starred e p :: es) X.env = (true, eval e X.env) :: starEach es X.env := by rfl) : DA X (.Starred e p :: es) (sStar f fs) :=
  PA.weak (StX.pa_star ha hr hs) fun σ H Q ⟨ρ, env, st, at_, h⟩ => by
    refine ⟨ρ, env, st, at_, (RR.bind h).mono fun d st1 H1 ρ1 a1 ⟨_, k⟩ v r => ?_⟩
    cases ei : itemsOf st1 d with
    | none => rw [ei] at k; exact k.elim
    | some xs =>
      rw [ei] at k
      obtain ⟨q, vs, ev, hq, rs⟩ := itemsOf_ok a1.r r ei
      refine ⟨q, vs, ev, hq, ρ1, env, st1, at_.aft a1, (RR.bind k).mono fun ds st2 H2 ρ2 a2 ⟨_, k2⟩ ws rw' => ?_⟩
      exact k2 H2 ρ2 (Aft.refl a2.r) (vs ++ ws) ((rs.stay a2.s a2.p).append rw')

/-- (a, b, ..) -/
def sTup (fs : SemA) : SemE := fun env st => (fs env st).bind fun ds st1 => if ds.length ≤ sizeLine then .ok (.tup ds) st1 else .bad
/-- [a, b, ..]: new, frozen -/
def sLst (fs : SemA) : SemE := fun env st => (fs env st).bind fun ds st1 => if ds.length ≤ sizeLine then .ok (.lst ds) st1 else .bad
/-- .. that will be changed -/
def sLstM (fs : SemA) : SemE := fun env st => (fs env st).bind fun ds st1 => if ds.length ≤ sizeLine then .ok (.ref st1.length) (st1 ++ [.lst ds]) else .bad
theorem de_tup {x1} (h : DA X es fs) : DE X (.Tuple es x1 pos) (sTup fs) :=
  PE.weak (pe_tup h) fun σ H Q ⟨ρ, env, st, at_, h⟩ => by
    refine ⟨ρ, env, st, at_, (RR.bind h).mono fun ds st1 H1 ρ1 a1 ⟨_, k⟩ vs rs => ?_⟩
    by_cases z : ds.length ≤ sizeLine
    · rw [if_pos z] at k
      refine ⟨by rw [rs.length]; exact z, fun p hp => ?_⟩
      refine k _ ρ1 (Aft.fresh a1.r hp) _ ?_
      unfold Rep
      exact ⟨p, vs, rfl, SqT.of upd_same, z, rs.stay (Stays.new hp) (List.prefix_refl _)⟩
    · rw [if_neg z] at k
      exact k.elim
theorem upd_upd' {H : Hp} {a : Addr} {o u : HO} : upd (upd H a o) a u = upd H a u := upd_upd
theorem de_lst (h : DA X es fs) : DE X (.List es pos) (sLst fs) :=
  PE.weak (pe_lock (pe_lst h)) fun σ H Q ⟨ρ, env, st, at_, h⟩ => by
    refine ⟨ρ, env, st, at_, (RR.bind h).mono fun ds st1 H1 ρ1 a1 ⟨_, k⟩ vs rs => ?_⟩
    by_cases z : ds.length ≤ sizeLine
    · rw [if_pos z] at k
      refine ⟨by rw [rs.length]; exact z, fun p hp => ⟨p, _, rfl, upd_same, trivial, fun od => ?_⟩⟩
      rw [upd_upd]
      refine k _ ρ1 (Aft.fresh a1.r hp) _ ?_
      unfold Rep
      exact ⟨p, vs, rfl, (.inl ⟨od, upd_same⟩), z, rs.stay (Stays.new hp) (List.prefix_refl _)⟩
    · rw [if_neg z] at k
      exact k.elim
theorem de_lstM (h : DA X es fs) : DE X (.List es pos) (sLstM fs) :=
  PE.weak (pe_lst h) fun σ H Q ⟨ρ, env, st, at_, h⟩ => by
    refine ⟨ρ, env, st, at_, (RR.bind h).mono fun ds st1 H1 ρ1 a1 ⟨_, k⟩ vs rs => ?_⟩
    by_cases z : ds.length ≤ sizeLine
    · rw [if_pos z] at k
      refine ⟨by rw [rs.length]; exact z, fun p hp => ?_⟩
      refine k _ _ (Aft.grow a1.r hp ⟨vs, upd_same, z, rs.stay (Stays.new hp) (List.prefix_append _ _)⟩) _ ?_
      unfold Rep
      exact ⟨p, by rw [← a1.r.len]; simp, rfl⟩
    · rw [if_neg z] at k
      exact k.elim
/-- what an expression gave is frozen, if it is a list of the store -/
def sFrz (f : SemE) : SemE := fun env st => (f env st).bind fun d st1 => match d with
  | .ref n => match st1[n]? with
    | some (.lst ds) => .ok (.lst ds) (st1.set n .dead)
    | some (.dct es) => .ok (.dct es) (st1.set n .dead)
    | _ => .bad
  | d => .ok d st1
theorem de_frz (h : DE X e f) : DE X e (sFrz f) :=
  PE.weak (pe_lock' h) fun σ H Q ⟨ρ, env, st, at_, h⟩ => by
    refine ⟨ρ, env, st, at_, (RR.bind h).mono fun d st1 H1 ρ1 a1 ⟨_, k⟩ v r => ?_⟩
    cases d with
    | ref n =>
      have r' := r
      unfold Rep at r'
      obtain ⟨a, ea, rfl⟩ := r'
      cases es : st1[n]? with
      | none => simp only [es] at k; exact k.elim
      | some o =>
        cases o with
        | lst ds =>
          simp only [es] at k
          obtain ⟨vs, q, z, rs⟩ := a1.r.lst es ea
          refine .inr ⟨a, _, rfl, q, trivial, fun od => ?_⟩
          have mu : Mut (H1 a) := by rw [q]; trivial
          refine k _ ρ1 (Aft.write a1.r ea mu (so := .dead) trivial) _ ?_
          unfold Rep
          exact ⟨a, vs, rfl, (.inl ⟨od, upd_same⟩), z, rs.stay (Stays.mut mu) (List.prefix_refl _)⟩
        | dct ds =>
          simp only [es] at k
          obtain ⟨l, h1, h2, q, rs⟩ := a1.r.obj n _ a es ea
          refine .inr ⟨a, _, rfl, q, trivial, fun od => ?_⟩
          have mu : Mut (H1 a) := by rw [q]; trivial
          refine k _ ρ1 (Aft.write a1.r ea mu (so := .dead) trivial) _ ?_
          unfold Rep
          exact ⟨a, l, od, rfl, h1, h2, upd_same, rs.1.stay (Stays.mut mu) (List.prefix_refl _), rs.2⟩
        | ins c fs => simp only [es] at k; exact k.elim
        | dead => simp only [es] at k; exact k.elim
    | non => exact .inl (k H1 ρ1 (Aft.refl a1.r) v r)
    | bl b => exact .inl (k H1 ρ1 (Aft.refl a1.r) v r)
    | int b => exact .inl (k H1 ρ1 (Aft.refl a1.r) v r)
    | str b => exact .inl (k H1 ρ1 (Aft.refl a1.r) v r)
    | tup b => exact .inl (k H1 ρ1 (Aft.refl a1.r) v r)
    | lst b => exact .inl (k H1 ρ1 (Aft.refl a1.r) v r)
    | dct b => exact .inl (k H1 ρ1 (Aft.refl a1.r) v r)
    | cls b => exact .inl (k H1 ρ1 (Aft.refl a1.r) v r)
end

/-! ### defs -/
/-- a def's promise, by data -/
def spD (K : PySem.W.Frag) (w : World) (g : SemF) : Sp := fun vs H Q E => ∃ ρ as st, RelSt K w H ρ st ∧ Reps K w H ρ as vs ∧ match g as st with
  | .ok d st' => ∀ v H' ρ', Aft K w H ρ st' H' ρ' → Rep K w H' ρ' d v → Q v H'
  | .exc e st' => ∀ cls dd H' ρ', Aft K w H ρ st' H' ρ' → RepX K w H' ρ' e cls dd → E cls dd H'
  | .bad => False
/-- the def at f, by data -/
structure FnA (P : Program) (w : World) (K : PySem.W.Frag) (mg : Str → Option Value) (base : Heap) (k : Nat) (x : Str) (ps : List Str) (g : SemF) (f : Addr) (fd : FuncData) : Prop where
  at_ : mg x = some (.ref f)
  kp : PySem.W.keepIn K (.ref f) = true
  bd : Binds K fd ps []
  ok : FnOk P w K mg base (L2.CX P w) k f fd ps (spD K w g)
structure FnD (P : Program) (w : World) (K : PySem.W.Frag) (mg : Str → Option Value) (base : Heap) (k : Nat) (x : Str) (ps : List Str) (g : SemF) : Prop where
  ex : ∃ (f : Addr) (fd : FuncData), FnA P w K mg base k x ps g f fd
/-- g' says of g what it says -/
def Ref (g' g : SemF) : Prop := ∀ as st, g' as st ≠ .bad → g as st = g' as st
section
variable {P : Program} {w : World} {K : PySem.W.Frag} {mg : Str → Option Value} {base : Heap}
theorem spD.ref {g g' : SemF} (h : Ref g' g) {vs : List V} {H : Hp} {Q : VK} {E : XK} (q : spD K w g' vs H Q E) : spD K w g vs H Q E := by
  obtain ⟨ρ, as, st, r, rs, q⟩ := q
  refine ⟨ρ, as, st, r, rs, ?_⟩
  rw [h as st (fun z => by rw [z] at q; exact q)]
  exact q
theorem FnD.ref {k : Nat} {x : Str} {ps : List Str} {g g' : SemF} (F : FnD P w K mg base k x ps g) (h : Ref g' g) : FnD P w K mg base k x ps g' := by
  obtain ⟨f, fd, h1, h2, h3, h4⟩ := F.ex
  exact ⟨f, fd, h1, h2, h3, h4.imp fun vs H Q E q => spD.ref h q⟩
theorem FnA.ref {k : Nat} {x : Str} {ps : List Str} {g g' : SemF} {f : Addr} {fd : FuncData} (F : FnA P w K mg base k x ps g f fd) (h : Ref g' g) : FnA P w K mg base k x ps g' f fd := ⟨F.at_, F.kp, F.bd, F.ok.imp fun vs H Q E q => spD.ref h q⟩
theorem FnA.mono {j k : Nat} {x : Str} {ps : List Str} {g : SemF} {f : Addr} {fd : FuncData} (F : FnA P w K mg base j x ps g f fd) (h : j ≤ k) : FnA P w K mg base k x ps g f fd := ⟨F.at_, F.kp, F.bd, F.ok.mono h⟩
theorem FnA.d {k : Nat} {x : Str} {ps : List Str} {g : SemF} {f : Addr} {fd : FuncData} (F : FnA P w K mg base k x ps g f fd) : FnD P w K mg base k x ps g := ⟨f, fd, F⟩
theorem FnD.mono {j k : Nat} {x : Str} {ps : List Str} {g : SemF} (F : FnD P w K mg base j x ps g) (h : j ≤ k) : FnD P w K mg base k x ps g := by
  obtain ⟨f, fd, h1, h2, h3, h4⟩ := F.ex
  exact ⟨f, fd, h1, h2, h3, h4.mono h⟩
end
/-! ### a call -/
def sCall (g : SemF) (fs : SemA) : SemE := fun env st => (fs env st).bind g
section
variable {X : Cx} {e : Expr} {es : List Expr} {f : SemE} {fs : SemA} {pos p : Pos} {k : Nat} {x : Str} {ps : List Str} {g : SemF}
theorem spD_of {σ : L2.St} {H : Hp} {Q : VK} {vs : List V} {ρ : List Addr} {as : List D} {env : En} {st : Sto} (at_ : At X σ H ρ env st) (rs : Reps X.K X.w H ρ as vs) (h : RR X σ H ρ (g as st) fun d _ H' ρ' => ∀ v, Rep X.K X.w H' ρ' d v → Q v H') :
    spD X.K X.w g vs H Q (fun cls d H' => WT X cls d σ H') := by
  refine ⟨ρ, as, st, at_.st, rs, ?_⟩
  cases q : g as st with
  | ok d st' => rw [q] at h; exact fun v H' ρ' a r => h H' ρ' a v r
  | exc e st' => rw [q] at h; exact fun cls dd H' ρ' a r => h cls dd H' ρ' a r
  | bad => rw [q] at h; exact h
theorem de_call (F : FnD X.prog X.w X.K X.mg X.base k x ps g) (hr : Room k X.A) (ha : DA X (e :: es) fs) (hg : Gl X x := by rfl) (hdb : (x == ("__debug__" : Str)) = false := by decide)
    (he : starEach (e :: es) X.env = (false, eval e X.env) :: starEach es X.env := by rfl) (hpl : (backTo pos (starEach es X.env)).any (·.1) = false := by rfl) : DE X (.Call (.Name x p) (e :: es) [] pos) (sCall g fs) := by
  obtain ⟨a, fd, h1, h2, h3, h4⟩ := F.ex
  refine PE.weak (pe_callS h4 hr hg h1 h2 h3 (E := fun σ cls d H => WT X cls d σ H) (passAt (takes_WT X)) ha hdb he hpl) fun σ H Q ⟨ρ, env, st, at_, h⟩ => ?_
  exact ⟨ρ, env, st, at_, (RR.bind h).mono fun as st1 H1 ρ1 a1 ⟨_, k⟩ vs rs => spD_of (at_.aft a1) rs k⟩
end

/-! ### statements -/
def ResS.bind (r : ResS) (k : En → Sto → ResS) : ResS := match r with
  | .nx env st => k env st
  | r => r
/-- behind an expression -/
def Res.bindS {α : Type} (r : Res α) (env : En) (k : α → Sto → ResS) : ResS := match r with
  | .ok a st => k a st
  | .exc e st => .exc e env st
  | .bad => .bad
theorem RS.bindE {α : Type} {X : Cx} {D : Ends} {σ : L2.St} {H : Hp} {ρ : List Addr} {env : En} {st : Sto} {r : Res α} {k : α → Sto → ResS} (at_ : At X σ H ρ env st) (h : RS X D H ρ (r.bindS env k)) :
    RR X σ H ρ r fun a st1 H1 ρ1 => Aft X.K X.w H ρ st1 H1 ρ1 ∧ RS X D H1 ρ1 (k a st1) := by
  cases r with
  | ok a st1 => exact fun H1 ρ1 a1 => ⟨a1, RS.aft a1 h⟩
  | exc e st1 => exact fun cls dd H1 ρ1 a1 rx => h cls dd σ H1 ρ1 a1 (at_.en.stay a1.s a1.p) rx
  | bad => exact h
theorem RS.bind {X : Cx} {D : Ends} {H : Hp} {ρ : List Addr} {r : ResS} {k : En → Sto → ResS} (h : RS X D H ρ (r.bind k)) :
    RS X { D with nx := fun σ' H' => ∃ ρ' env' st', At X σ' H' ρ' env' st' ∧ RS X D H' ρ' (k env' st') } H ρ r := by
  cases r with
  | nx env1 st1 => exact fun σ1 H1 ρ1 a1 e1 => ⟨ρ1, env1, st1, ⟨a1.r, e1⟩, RS.aft a1 h⟩
  | ret d st1 => exact h
  | brk e s => exact h
  | cnt e s => exact h
  | exc x e s => exact h
  | bad => exact h
def sNext : SemS := fun env st => .nx env st
def sSeq (f g : SemS) : SemS := fun env st => (f env st).bind g
def sDrop (f : SemE) : SemS := fun env st => (f env st).bindS env fun _ st1 => .nx env st1
def sRet (f : SemE) : SemS := fun env st => (f env st).bindS env fun d st1 => .ret d st1
def sRetN : SemS := fun _ st => .ret .non st
def sIfS (c : SemB) (f g : SemS) : SemS := fun env st => (c env st).bindS env fun b st1 => if b = true then f env st1 else g env st1
def sBrk : SemS := fun env st => .brk env st
def sCnt : SemS := fun env st => .cnt env st
section
variable {X : Cx} {s : Stmt} {ss ss' : List Stmt} {e : Expr} {f : SemE} {fb : SemB} {g h : SemS} {pos : Pos}
theorem dss_nil : DSs X [] sNext := PSs.weak pss_nil fun D σ H ⟨ρ, env, st, at_, q⟩ => q σ H ρ (Aft.refl at_.st) at_.en
theorem dss_cons (h1 : DS X s g) (h2 : DSs X ss h) : DSs X (s :: ss) (sSeq g h) := PSs.weak (pss_cons h1 h2) fun D σ H ⟨ρ, env, st, at_, q⟩ => ⟨ρ, env, st, at_, RS.bind q⟩
theorem dss_one (h1 : DS X s g) : DSs X [s] g := pss_one h1
theorem ds_pass : DS X (.Pass pos) sNext := PS.weak ps_pass fun D σ H ⟨ρ, env, st, at_, q⟩ => q σ H ρ (Aft.refl at_.st) at_.en
theorem ds_break : DS X (.Break pos) sBrk := PS.weak ps_break fun D σ H ⟨ρ, env, st, at_, q⟩ => q σ H ρ (Aft.refl at_.st) at_.en
theorem ds_cont : DS X (.Continue pos) sCnt := PS.weak ps_continue fun D σ H ⟨ρ, env, st, at_, q⟩ => q σ H ρ (Aft.refl at_.st) at_.en
theorem ds_expr (he : DE X e f) (hs : swapsWith e none pos.line X.env = pure false := by rfl) : DS X (.Expr e pos) (sDrop f) :=
  PS.weak (ps_expr he hs) fun D σ H ⟨ρ, env, st, at_, q⟩ => ⟨ρ, env, st, at_, (RS.bindE at_ q).mono fun d st1 H1 ρ1 a1 ⟨_, k⟩ v r => k σ H1 ρ1 (Aft.refl a1.r) (at_.aft a1).en⟩
theorem ds_ret (he : DE X e f) : DS X (.Return (some e) pos) (sRet f) :=
  PS.weak (ps_ret he) fun D σ H ⟨ρ, env, st, at_, q⟩ => ⟨ρ, env, st, at_, (RS.bindE at_ q).mono fun d st1 H1 ρ1 a1 ⟨_, k⟩ v r => k v H1 ρ1 (Aft.refl a1.r) r⟩
theorem ds_retN : DS X (.Return none pos) sRetN :=
  PS.weak ps_retN fun D σ H ⟨ρ, env, st, at_, q⟩ => q .non H ρ (Aft.refl at_.st) (by unfold Rep; rfl)
theorem ds_if {c : Expr} (hc : DT X c fb) (ha : DSs X ss g) (hb : DSs X ss' h) : DS X (.If c ss ss' pos) (sIfS fb g h) :=
  PS.weak (ps_if hc ha hb) fun D σ H ⟨ρ, env, st, at_, q⟩ => by
    refine ⟨ρ, env, st, at_, (RS.bindE at_ q).mono fun b st1 H1 ρ1 a1 ⟨_, k⟩ => ?_⟩
    cases b with
    | true => rw [if_pos rfl] at k ⊢; exact ⟨ρ1, env, st1, at_.aft a1, k⟩
    | false => rw [if_neg Bool.false_ne_true] at k ⊢; exact ⟨ρ1, env, st1, at_.aft a1, k⟩
end

/-! ### targets: names, tuples of targets -/
abbrev SemG := D → En → Sto → Option En
def gN (i : Nat) : SemG := fun d env _ => some (env.set i (some d))
abbrev SemGs := List D → En → Sto → Option En
def gNilD : SemGs := fun ds env _ => match ds with
  | [] => some env
  | _ => none
def gConsD (g : SemG) (gs : SemGs) : SemGs := fun ds env st => match ds with
  | [] => none
  | d :: r => (g d env st).bind fun env1 => gs r env1 st
def gTupD (n : Nat) (gs : SemGs) : SemG := fun d env st => match d with
  | .tup ds => if ds.length = n then gs ds env st else none
  | _ => none
/-- what a target asks -/
def tG (X : Cx) (g : SemG) : TG := fun v σ H Q => ∃ ρ env st d env', At X σ H ρ env st ∧ Rep X.K X.w H ρ d v ∧ g d env st = some env' ∧ ∀ σ' H', Aft X.K X.w H ρ st H' ρ → RelEn X.K X.w H' ρ σ' env' → Q σ' H'
def tGs (X : Cx) (g : SemGs) : TGs := fun vs σ H Q => ∃ ρ env st ds env', At X σ H ρ env st ∧ Reps X.K X.w H ρ ds vs ∧ g ds env st = some env' ∧ ∀ σ' H', Aft X.K X.w H ρ st H' ρ → RelEn X.K X.w H' ρ σ' env' → Q σ' H'
def DG (X : Cx) (t : Expr) (g : SemG) : Prop := PG X t (tG X g)
def DGs (X : Cx) (ts : List Expr) (g : SemGs) : Prop := PGs X ts (tGs X g)
theorem PG.weak {X : Cx} {e : Expr} {t t' : TG} (h : PG X e t) (i : ∀ v σ H Q, t' v σ H Q → t v σ H Q) : PG X e t' := ⟨fun pins s σ H v u Q I r q => h.run pins s σ H v u Q I r (i v σ H Q q)⟩
theorem PGs.weak {X : Cx} {e : List Expr} {t t' : TGs} (h : PGs X e t) (i : ∀ v σ H Q, t' v σ H Q → t v σ H Q) : PGs X e t' := ⟨fun pins s σ H v u Q I r q => h.run pins s σ H v u Q I r (i v σ H Q q)⟩
theorem RelEn.set {K : PySem.W.Frag} {w : World} {H : Hp} {ρ : List Addr} {σ : L2.St} {env : En} (h : RelEn K w H ρ σ env) {d : D} {v : V} (r : Rep K w H ρ d v) (i : Nat) : RelEn K w H ρ (σ.set i (some v)) (env.set i (some d)) := by
  refine ⟨by simp [h.len], fun j d' e => ?_⟩
  by_cases hj : i = j
  · subst hj
    by_cases hi : i < env.length
    · rw [List.getElem?_set_self hi] at e
      cases e
      exact ⟨v, by rw [List.getElem?_set_self (by rw [h.len]; exact hi)], r⟩
    · rw [List.getElem?_eq_none (by simpa using hi)] at e
      cases e
  · rw [List.getElem?_set_ne hj] at e
    obtain ⟨u, e1, e2⟩ := h.val j d' e
    exact ⟨u, by rw [List.getElem?_set_ne hj]; exact e1, e2⟩
section
variable {X : Cx} {e : Expr} {es : List Expr} {f : SemE} {g : SemG} {gs : SemGs} {pos : Pos}
theorem dg_name {i : Nat} {x : Str} (hN : X.N.Nodup) (hi : X.N[i]? = some x := by rfl) (hx : Loc X.env.scope x := by first | exact .inl rfl | exact .inr rfl) (hf : X.fn x = true ∨ X.env.scope.names.lookup x = some .local := by first | exact .inl rfl | exact .inr rfl | assumption) : DG X (.Name x pos) (gN i) :=
  PG.weak (pg_name hN hi hx hf) fun v σ H Q ⟨ρ, env, st, d, env', at_, r, eg, q⟩ => by
    cases eg
    exact q _ H (Aft.refl at_.st) (at_.en.set r i)
theorem dgs_nil : DGs X [] gNilD := PGs.weak pgs_nil fun vs σ H Q ⟨ρ, env, st, ds, env', at_, rs, eg, q⟩ => by
  cases ds with
  | nil =>
    unfold Reps at rs
    cases eg
    exact ⟨rs, q σ H (Aft.refl at_.st) at_.en⟩
  | cons d r => cases eg
theorem dgs_cons (h1 : DG X e g) (h2 : DGs X es gs) (hs : (assignEach (e :: es) X.env).map (·.2) = assign e X.env :: (assignEach es X.env).map (·.2) := by rfl) : DGs X (e :: es) (gConsD g gs) :=
  PGs.weak (pgs_cons h1 h2 hs) fun vs σ H Q ⟨ρ, env, st, ds, env', at_, rs, eg, q⟩ => by
    cases ds with
    | nil => cases eg
    | cons d r =>
      unfold Reps at rs
      obtain ⟨v, vr, rfl, r1, r2⟩ := rs
      have eg' : (g d env st).bind (fun env1 => gs r env1 st) = some env' := eg
      cases e1 : g d env st with
      | none => rw [e1] at eg'; cases eg'
      | some env1 =>
        rw [e1] at eg'
        exact ⟨v, vr, rfl, ρ, env, st, d, env1, at_, r1, e1, fun σ1 H1 s1 re1 => ⟨ρ, env1, st, r, env', ⟨s1.r, re1⟩, r2.stay s1.s (List.prefix_refl _), eg', fun σ2 H2 s2 re2 => q σ2 H2 (s1.trans s2) re2⟩⟩
theorem dg_tup {k n : Nat} (hc : X.calm = true) (h : DGs X es gs) (hn : (assignEach es X.env).length = n := by rfl) (hst : (assignEach es X.env).findIdx? (·.1) = none := by rfl) : DG X (.Tuple es k pos) (gTupD n gs) :=
  PG.weak (pg_tup hc h hn hst) fun v σ H Q ⟨ρ, env, st, d, env', at_, r, eg, q⟩ => by
    cases d with
    | tup ds =>
      unfold Rep at r
      obtain ⟨a, vs, rfl, hq, zz, rs⟩ := r
      have eg' : (if ds.length = n then gs ds env st else none) = some env' := eg
      by_cases z : ds.length = n
      · rw [if_pos z] at eg'
        exact ⟨a, vs, rfl, hq, by rw [rs.length]; exact z, ρ, env, st, ds, env', at_, rs, eg', q⟩
      · rw [if_neg z] at eg'
        cases eg'
    | _ => cases eg
def sAsg (f : SemE) (g : SemG) : SemS := fun env st => (f env st).bindS env fun d st1 => match g d env st1 with
  | some env1 => .nx env1 st1
  | none => .bad
theorem tAsg_of {D : Ends} {σ : L2.St} {H : Hp} (h : tS X (sAsg f g) D σ H) : tAsg (tD X f) (tG X g) D σ H := by
  obtain ⟨ρ, env, st, at_, q⟩ := h
  refine ⟨ρ, env, st, at_, (RS.bindE at_ q).mono fun d st1 H1 ρ1 a1 ⟨_, k⟩ v r => ?_⟩
  cases eg : g d env st1 with
  | none => rw [eg] at k; exact k.elim
  | some env1 =>
    rw [eg] at k
    exact ⟨ρ1, env, st1, d, env1, at_.aft a1, r, eg, fun σ2 H2 s2 re2 => k σ2 H2 ρ1 s2 re2⟩
theorem ds_set {i : Nat} {x : Str} {pos' : Pos} (hN : X.N.Nodup) (he : DE X e f) (hi : X.N[i]? = some x := by rfl) (hx : Loc X.env.scope x := by first | exact .inl rfl | exact .inr rfl) (hs : swapsWith e (some (.Name x pos')) pos.line X.env = pure false := by rfl)
    (hf : X.fn x = true ∨ X.env.scope.names.lookup x = some .local := by first | exact .inl rfl | exact .inr rfl | assumption) : DS X (.Assign [.Name x pos'] e pos) (sAsg f (gN i)) :=
  PS.weak (ps_set hN hi hx he hs hf) fun D σ H h => by
    obtain ⟨ρ, env, st, at_, q⟩ := h
    refine ⟨ρ, env, st, at_, (RS.bindE at_ q).mono fun d st1 H1 ρ1 a1 ⟨_, k⟩ v r => ?_⟩
    exact k _ H1 ρ1 (Aft.refl a1.r) ((at_.aft a1).en.set r i)
theorem ds_asg {tg : Expr} (he : DE X e f) (hg : DG X tg g) (hs : swapsWithSole [tg] e pos.line X.env = pure false := by rfl) (hw : swappedStores [tg] e X.env = pure none := by rfl)
    (h1 : (assignEach [tg] X.env).map (·.2) = [assign tg X.env] := by rfl) : DS X (.Assign [tg] e pos) (sAsg f g) :=
  PS.weak (ps_asg he hg hs hw h1) fun D σ H h => tAsg_of h
end

/-! ### a def -/
def mkF (n N : Nat) (body : SemS) : SemF := fun as st => if as.length = n then (match body (as.map some ++ List.replicate (N - n) none) st with
  | .nx _ st' => .ok .non st'
  | .ret d st' => .ok d st'
  | .exc e _ st' => .exc e st'
  | _ => .bad) else .bad
theorem RelEn.begin_ {K : PySem.W.Frag} {w : World} {H : Hp} {ρ : List Addr} {N : List Str} {as : List D} {vs : List V} (rs : Reps K w H ρ as vs) : RelEn K w H ρ (start N vs) (as.map some ++ List.replicate (N.length - as.length) none) := by
  unfold L2.start
  have hl := rs.length
  refine ⟨by simp [hl], fun i d e => ?_⟩
  by_cases hi : i < as.length
  · rw [List.getElem?_append_left (by simpa using hi), List.getElem?_map] at e
    cases q : as[i]? with
    | none => rw [q] at e; cases e
    | some d' =>
      rw [q] at e
      cases e
      obtain ⟨v, e1, r⟩ := rs.get q
      exact ⟨v, by rw [List.getElem?_append_left (by rw [List.length_map, hl]; exact hi), List.getElem?_map, e1]; rfl, r⟩
  · rw [List.getElem?_append_right (by simpa using hi), List.getElem?_replicate] at e
    split at e <;> cases e
section
variable {P : Program} {w : World} {K : PySem.W.Frag} {mg : Str → Option Value} {base : Heap}
/-- the wishes of a def's body -/
theorem fnA_mk {x : Str} {params : Arguments} {body : List Stmt} {scope : Scope} {f : Addr} {fd : FuncData} {N ps : List Str} {k : Nat} {g : SemS} (F : FunD K x x params body scope [] [] f fd) (hm : mg x = some (.ref f)) (S : FnScope N ps scope)
    (hb : ∀ (kV doc pm : Value) (an : Option Addr) (cdv ct : Value) (us : List Value), us.length = ps.length → bindArgs (PySem.W.fnOf x x params body scope .none kV doc pm an cdv ct) ⟨us, []⟩ = pure (ps.zip us))
    (h : ∀ (cdv : Value) (A : Around) (outer : List Env) (s : Shared) (H : Hp) (E : XK), Room k (A.deeper (envOfC x scope s.heap.objs.size f cdv)) → DSs (cxOf (L2.CX P w) P w K mg base N x scope f cdv A outer s H E) body g) :
    FnA P w K mg base (k + 1) x ps (mkF ps.length N.length g) f fd := by
  refine ⟨hm, F.kp, F.bindsN hb, F.ok S (fun vs H Q E q => ?_) fun cdv A outer s H vs Q E hr hsp => ⟨_, h cdv A outer s H E hr, ?_⟩⟩
  · obtain ⟨ρ, as, st, r, rs, q⟩ := q
    rw [rs.length]
    unfold mkF at q
    by_cases z : as.length = ps.length
    · exact z
    · rw [if_neg z] at q
      exact q.elim
  · obtain ⟨ρ, as, st, r, rs, q⟩ := hsp
    unfold mkF at q
    by_cases z : as.length = ps.length
    · rw [if_pos z] at q
      have en := RelEn.begin_ (N := N) rs
      rw [z] at en
      refine ⟨ρ, _, st, ⟨r, en⟩, ?_⟩
      cases e : g (as.map some ++ List.replicate (N.length - ps.length) none) st with
      | nx env' st' => rw [e] at q; exact fun σ' H' ρ' a _ => q .non H' ρ' a (by unfold Rep; rfl)
      | ret d st' => rw [e] at q; exact fun v H' ρ' a rv => q v H' ρ' a rv
      | exc x env' st' =>
        rw [e] at q
        exact fun cls dd σ' H' ρ' a _ rx => ⟨_, takes_of rfl rfl rfl rfl, q cls dd H' ρ' a rx⟩
      | brk env' st' => rw [e] at q; exact q.elim
      | cnt env' st' => rw [e] at q; exact q.elim
      | bad => rw [e] at q; exact q.elim
    · rw [if_neg z] at q
      exact q.elim
end
/-- whence the items are: values, or a list of the store, which has to stay -/
inductive Src where
  | val
  | ref (n : Nat)
def srcOk (src : Src) (ds : List D) (st : Sto) : Prop := match src with
  | .val => True
  | .ref n => st[n]? = some (.lst ds)
abbrev SemI := En → Sto → Res (List D × Src)
/-- later: what stays, more places -/
structure Lat (H0 : Hp) (ρ0 : List Addr) (H : Hp) (ρ : List Addr) : Prop where
  s : Stays H0 H
  p : ρ0 <+: ρ
theorem Aft.lat {K : PySem.W.Frag} {w : World} {H H' : Hp} {ρ ρ' : List Addr} {st : Sto} (a : Aft K w H ρ st H' ρ') : Lat H ρ H' ρ' := ⟨a.s, a.p⟩
theorem Lat.then {K : PySem.W.Frag} {w : World} {H H1 H2 : Hp} {ρ ρ1 ρ2 : List Addr} {st : Sto} (a : Lat H ρ H1 ρ1) (b : Aft K w H1 ρ1 st H2 ρ2) : Lat H ρ H2 ρ2 := ⟨a.s.trans b.s, a.p.trans b.p⟩
/-- J walks the data ds -/
structure JW (K : PySem.W.Frag) (w : World) (H0 : Hp) (ρ0 : List Addr) (J : It) (ds : List D) (src : Src) : Prop where
  len : ds.length ≤ sizeLine
  stop : ∀ H ρ st (st0 : Sto), Lat H0 ρ0 H ρ → RelSt K w H ρ st → srcOk src ds st → ∀ i, ds.length ≤ i → J.stop i H
  go : ∀ H ρ st (st0 : Sto), Lat H0 ρ0 H ρ → RelSt K w H ρ st → srcOk src ds st → ∀ i, i < ds.length → J.go i H
  yld : ∀ H ρ st (st0 : Sto), Lat H0 ρ0 H ρ → RelSt K w H ρ st → srcOk src ds st → ∀ (i : Nat) (d : D), ds[i]? = some d → ∀ x H', J.yld i H x H' → Aft K w H ρ st H' ρ ∧ Rep K w H' ρ d x
def tI (X : Cx) (f : SemI) : TI := fun σ H R => ∃ ρ env st, At X σ H ρ env st ∧ RR X σ H ρ (f env st) fun p _ H' ρ' => ∀ J, JW X.K X.w H' ρ' J p.1 p.2 → R J H'
def DI (X : Cx) (tg e : Expr) (f : SemI) : Prop := PI X tg e (tI X f)
theorem PI.weak {X : Cx} {tg e : Expr} {t t' : TI} (h : PI X tg e t) (i : ∀ σ H Q, t' σ H Q → t σ H Q) : PI X tg e t' := ⟨fun pins s σ H R I q => h.run pins s σ H R I (i σ H R q)⟩

/-! ### lists, tuples, texts -/
def charsOf (x : Str) : List D := x.cps.toList.map fun c => D.str ⟨#[c]⟩
def walkOf (st : Sto) : D → Option (List D × Src)
  | .tup ds => some (ds, .val)
  | .lst ds => some (ds, .val)
  | .str x => if x.cps.size ≤ sizeLine then some (charsOf x, .val) else none
  | .ref n => match st[n]? with
    | some (.lst ds) => some (ds, .ref n)
    | _ => none
  | _ => none
def sWalk (f : SemE) : SemI := fun env st => (f env st).bind fun d st1 => ofO (walkOf st1 d) st1

theorem pi_seq {X : Cx} {tg l : Expr} {tl : TE} (hl : PE X l tl) : PI X tg l fun σ H R => tl σ H fun x H1 =>
    (∃ a, x = .ref a ∧ (∃ xs, SqL X.K H1 a xs) ∧ R (Itl X.K a) H1) ∨ (∃ a, x = .ref a ∧ (∃ xs, SqT X.K H1 a xs) ∧ R (Itt X.K a) H1) ∨ ∃ y, x = .str y ∧ R (Its y) H1 := by
  refine ⟨fun pins s σ H R I h => ?_⟩
  refine thn (hl.run pins s σ H _ I h) fun v s1 ⟨x, H1, I1, r1, q1⟩ => ?_
  rcases q1 with ⟨a, e, ⟨xs, hq⟩, q⟩ | ⟨a, e, ⟨xs, hq⟩, q⟩ | ⟨y, ex, q⟩
  · subst e
    cases r1
    obtain ⟨its, rv, p, hz⟩ := I1.list hq
    refine wpAny_pyIter_list p.isList ?_
    refine ⟨s1.heap.objs.size, [s1.heap.objs.size], _, _, H1, rfl, I1.kept (t' := s1.toks) fun b o e => Heap.get?_push_of_some _ e, turn_list a _, ⟨_, Heap.get?_push_size _ rfl, rfl, rfl⟩, fun b hb => ?_, q⟩
    have e : b = s1.heap.objs.size := by simpa using hb
    subst e
    exact I1.fpOk (Nat.le_refl _) (I1.hok.fresh (Nat.le_refl _))
  · subst e
    cases r1
    obtain ⟨its, rv, p, hz⟩ := I1.tuple hq
    refine wpAny_pyIter_tuple (show s1.heap.IsTuple a its.toArray from p) ?_
    refine ⟨s1.heap.objs.size, [s1.heap.objs.size], _, _, H1, rfl, I1.kept (t' := s1.toks) fun b o e => Heap.get?_push_of_some _ e, turn_tuple a _, ⟨_, Heap.get?_push_size _ rfl, rfl, rfl⟩, fun b hb => ?_, q⟩
    have e : b = s1.heap.objs.size := by simpa using hb
    subst e
    exact I1.fpOk (Nat.le_refl _) (I1.hok.fresh (Nat.le_refl _))
  · subst ex
    obtain ⟨t, rfl⟩ := r1
    cases ha : y.cps.all (· < 128)
    · exact wpAny_pyIter_wide ha (pi_one (tk := s1.toks) I1 _ (turn_str _ y t "str_iterator" (.inr rfl)) ⟨_, Heap.get?_push_size _ rfl, rfl, rfl⟩ q)
    · exact wpAny_pyIter_ascii ha (pi_one (tk := s1.toks) I1 _ (turn_str _ y t "str_ascii_iterator" (.inl rfl)) ⟨_, Heap.get?_push_size _ rfl, rfl, rfl⟩ q)

section
variable {K : PySem.W.Frag} {w : World} {H0 : Hp} {ρ0 : List Addr}
theorem SqL.inj {H : Hp} {a : Addr} {vs xs : List V} (h : H a = some (.lst vs)) (q : SqL K H a xs) (hk : K.lookup a = none) : xs = vs := by
  rcases q with (q | ⟨o, q⟩) | ⟨o, its, n, q, _⟩
  · rw [h] at q; cases q; rfl
  · rw [h] at q; cases q
  · rw [hk] at q; cases q
/-- a walk over a list of values vs that stay -/
theorem jw_list {a : Addr} {ds : List D} {src : Src} (hz : ds.length ≤ sizeLine) (h : ∀ H ρ st (st0 : Sto), Lat H0 ρ0 H ρ → RelSt K w H ρ st → srcOk src ds st → ∃ vs, SqL K H a vs ∧ Reps K w H ρ ds vs) : JW K w H0 ρ0 (Itl K a) ds src where
  len := hz
  stop := fun H ρ st st0 af rs ok i hi => by
    obtain ⟨vs, q, r⟩ := h H ρ st st0 af rs ok
    exact ⟨vs, q, by rw [r.length]; exact hi⟩
  go := fun H ρ st st0 af rs ok i hi => by
    obtain ⟨vs, q, r⟩ := h H ρ st st0 af rs ok
    have hv : i < vs.length := by rw [r.length]; exact hi
    exact ⟨vs, vs[i], q, List.getElem?_eq_getElem hv⟩
  yld := fun H ρ st st0 af rs ok i d hd x H' y => by
    obtain ⟨vs, q, r⟩ := h H ρ st st0 af rs ok
    obtain ⟨rfl, y⟩ := y
    obtain ⟨v, ev, rv⟩ := r.get hd
    have e := y vs q
    rw [ev] at e
    cases e
    exact ⟨Aft.refl rs, rv⟩
theorem jw_tup {a : Addr} {ds : List D} {src : Src} (hz : ds.length ≤ sizeLine) (h : ∀ H ρ st (st0 : Sto), Lat H0 ρ0 H ρ → RelSt K w H ρ st → srcOk src ds st → ∃ vs, SqT K H a vs ∧ Reps K w H ρ ds vs) : JW K w H0 ρ0 (Itt K a) ds src where
  len := hz
  stop := fun H ρ st st0 af rs ok i hi => by
    obtain ⟨vs, q, r⟩ := h H ρ st st0 af rs ok
    exact ⟨vs, q, by rw [r.length]; exact hi⟩
  go := fun H ρ st st0 af rs ok i hi => by
    obtain ⟨vs, q, r⟩ := h H ρ st st0 af rs ok
    have hv : i < vs.length := by rw [r.length]; exact hi
    exact ⟨vs, vs[i], q, List.getElem?_eq_getElem hv⟩
  yld := fun H ρ st st0 af rs ok i d hd x H' y => by
    obtain ⟨vs, q, r⟩ := h H ρ st st0 af rs ok
    obtain ⟨rfl, y⟩ := y
    obtain ⟨v, ev, rv⟩ := r.get hd
    have e := y vs q
    rw [ev] at e
    cases e
    exact ⟨Aft.refl rs, rv⟩
theorem jw_str {x : Str} (hz : x.cps.size ≤ sizeLine) : JW K w H0 ρ0 (Its x) (charsOf x) .val where
  len := by simpa [charsOf] using hz
  stop := fun H ρ st st0 af rs ok i hi => by
    show x.cps.size ≤ i
    simpa [charsOf] using hi
  go := fun H ρ st st0 af rs ok i hi => by
    show i < x.cps.size
    simpa [charsOf] using hi
  yld := fun H ρ st st0 af rs ok i d hd v H' y => by
    obtain ⟨rfl, c, ec, rfl⟩ := y
    refine ⟨Aft.refl rs, ?_⟩
    unfold charsOf at hd
    rw [List.getElem?_map, Array.getElem?_toList, ec] at hd
    cases hd
    unfold Rep
    rfl
theorem jw_range {lo c : Int} {n : Nat} (hz : n ≤ sizeLine) : JW K w H0 ρ0 (Itc lo c n) ((List.range n).map fun i => D.int (lo + (i : Nat) * c)) .val where
  len := by simpa using hz
  stop := fun H ρ st st0 af rs ok i hi => by
    show n ≤ i
    simpa using hi
  go := fun H ρ st st0 af rs ok i hi => by
    show i < n
    simpa using hi
  yld := fun H ρ st st0 af rs ok i d hd v H' y => by
    obtain ⟨rfl, rfl⟩ := y
    refine ⟨Aft.refl rs, ?_⟩
    rw [List.getElem?_map] at hd
    have hi : i < n := by
      by_cases z : i < n
      · exact z
      · rw [List.getElem?_eq_none (by simpa using z)] at hd
        cases hd
    rw [List.getElem?_range hi] at hd
    cases hd
    unfold Rep
    rfl
theorem jw_range1 {lo : Int} {n : Nat} (hz : n ≤ sizeLine) : JW K w H0 ρ0 (Itr lo n) ((List.range n).map fun i => D.int (lo + (i : Nat))) .val where
  len := by simpa using hz
  stop := fun H ρ st st0 af rs ok i hi => by
    show n ≤ i
    simpa using hi
  go := fun H ρ st st0 af rs ok i hi => by
    show i < n
    simpa using hi
  yld := fun H ρ st st0 af rs ok i d hd v H' y => by
    obtain ⟨rfl, rfl⟩ := y
    refine ⟨Aft.refl rs, ?_⟩
    rw [List.getElem?_map] at hd
    have hi : i < n := by
      by_cases z : i < n
      · exact z
      · rw [List.getElem?_eq_none (by simpa using z)] at hd
        cases hd
    rw [List.getElem?_range hi] at hd
    cases hd
    unfold Rep
    rfl
end

section
variable {X : Cx} {tg e : Expr} {f : SemE} {fs : SemA}
theorem di_seq (he : DE X e f) : DI X tg e (sWalk f) :=
  PI.weak (pi_seq he) fun σ H R ⟨ρ, env, st, at_, h⟩ => by
    refine ⟨ρ, env, st, at_, (RR.bind h).mono fun d st1 H1 ρ1 a1 ⟨_, k⟩ v r => ?_⟩
    cases d with
    | tup ds =>
      have r' := r
      unfold Rep at r'
      obtain ⟨a, vs, rfl, q, z, rs⟩ := r'
      refine .inr (.inl ⟨a, rfl, ⟨vs, q⟩, k H1 ρ1 (Aft.refl a1.r) _ (jw_tup z fun H ρ st st0 af _ _ => ⟨vs, af.s.sqT q, rs.stay af.s af.p⟩)⟩)
    | lst ds =>
      have r' := r
      unfold Rep at r'
      obtain ⟨a, vs, rfl, q, z, rs⟩ := r'
      refine .inl ⟨a, rfl, ⟨vs, q.sq⟩, k H1 ρ1 (Aft.refl a1.r) _ (jw_list z fun H ρ st st0 af _ _ => ⟨vs, (af.s.frzL q).sq, rs.stay af.s af.p⟩)⟩
    | str x =>
      unfold Rep at r
      have k' : RR X σ H1 ρ1 (ofO (if x.cps.size ≤ sizeLine then some (charsOf x, Src.val) else none) st1) fun p _ H' ρ' => ∀ J, JW X.K X.w H' ρ' J p.1 p.2 → R J H' := k
      by_cases z : x.cps.size ≤ sizeLine
      · rw [if_pos z] at k'
        exact .inr (.inr ⟨x, r, k' H1 ρ1 (Aft.refl a1.r) _ (jw_str z)⟩)
      · rw [if_neg z] at k'
        exact k'.elim
    | ref n =>
      have r' := r
      unfold Rep at r'
      obtain ⟨a, ea, rfl⟩ := r'
      have k' : RR X σ H1 ρ1 (ofO (match st1[n]? with
        | some (.lst ds) => some (ds, Src.ref n)
        | _ => none) st1) fun p _ H' ρ' => ∀ J, JW X.K X.w H' ρ' J p.1 p.2 → R J H' := k
      cases es : st1[n]? with
      | none => rw [es] at k'; exact k'.elim
      | some o =>
        cases o with
        | lst ds =>
          rw [es] at k'
          obtain ⟨vs, q, z, rs⟩ := a1.r.lst es ea
          refine .inl ⟨a, rfl, ⟨vs, SqL.of q⟩, k' H1 ρ1 (Aft.refl a1.r) _ (jw_list z fun H ρ st st0 af rst ok => ?_)⟩
          obtain ⟨vs', q', _, rs'⟩ := rst.lst ok (pre_get af.p ea)
          exact ⟨vs', SqL.of q', rs'⟩
        | _ => rw [es] at k'; exact k'.elim
    | _ => exact k.elim
/-! ### ranges -/
def smallI (i : Int) : Bool := decide (-8000000 ≤ i ∧ i ≤ 8000000)
theorem smallI_ok {i : Int} (h : smallI i = true) : -8000000 ≤ i ∧ i ≤ 8000000 := of_decide_eq_true h
def rangeOf1 : List D → Option (List D × Src)
  | [.int j] => if smallI j = true then some ((List.range j.toNat).map fun i => D.int (0 + (i : Nat)), .val) else none
  | _ => none
def rangeOf2 : List D → Option (List D × Src)
  | [.int i, .int j] => if smallI i = true ∧ smallI j = true then some ((List.range (j - i).toNat).map fun k => D.int (i + (k : Nat)), .val) else none
  | _ => none
def rangeOf3 : List D → Option (List D × Src)
  | [.int i, .int j, .int c] => if smallI i = true ∧ smallI j = true ∧ c = -1 then some ((List.range (i - j).toNat).map fun k => D.int (i + (k : Nat) * c), .val) else none
  | _ => none
theorem rangeOf1_some {ds : List D} {p : List D × Src} (h : rangeOf1 ds = some p) : ∃ j : Int, ds = [.int j] ∧ smallI j = true ∧ p = ((List.range j.toNat).map fun i => D.int (0 + (i : Nat)), .val) := by
  unfold rangeOf1 at h
  split at h
  · rename_i j
    by_cases z : smallI j = true
    · rw [if_pos z] at h; exact ⟨j, rfl, z, (Option.some.inj h).symm⟩
    · rw [if_neg z] at h; cases h
  · cases h
theorem rangeOf2_some {ds : List D} {p : List D × Src} (h : rangeOf2 ds = some p) : ∃ i j : Int, ds = [.int i, .int j] ∧ smallI i = true ∧ smallI j = true ∧ p = ((List.range (j - i).toNat).map fun k => D.int (i + (k : Nat)), .val) := by
  unfold rangeOf2 at h
  split at h
  · rename_i i j
    by_cases z : smallI i = true ∧ smallI j = true
    · rw [if_pos z] at h; exact ⟨i, j, rfl, z.1, z.2, (Option.some.inj h).symm⟩
    · rw [if_neg z] at h; cases h
  · cases h
theorem rangeOf3_some {ds : List D} {p : List D × Src} (h : rangeOf3 ds = some p) : ∃ i j : Int, ds = [.int i, .int j, .int (-1)] ∧ smallI i = true ∧ smallI j = true ∧ p = ((List.range (i - j).toNat).map fun k => D.int (i + (k : Nat) * (-1)), .val) := by
  unfold rangeOf3 at h
  split at h
  · rename_i i j c
    by_cases z : smallI i = true ∧ smallI j = true ∧ c = -1
    · rw [if_pos z] at h
      obtain ⟨z1, z2, rfl⟩ := z
      exact ⟨i, j, rfl, z1, z2, (Option.some.inj h).symm⟩
    · rw [if_neg z] at h; cases h
  · cases h
def sRange (F : List D → Option (List D × Src)) (fs : SemA) : SemI := fun env st => (fs env st).bind fun ds st1 => ofO (F ds) st1
theorem tI_range {F : List D → Option (List D × Src)} {σ : L2.St} {H : Hp} {R : It → Hp → Prop} (h : tI X (sRange F fs) σ H R) : tA X fs σ H fun vs H1 => ∃ ρ ds p, Reps X.K X.w H1 ρ ds vs ∧ F ds = some p ∧ ∀ J, JW X.K X.w H1 ρ J p.1 p.2 → R J H1 := by
  obtain ⟨ρ, env, st, at_, h⟩ := h
  refine ⟨ρ, env, st, at_, (RR.bind h).mono fun ds st1 H1 ρ1 a1 ⟨_, k⟩ vs rs => ?_⟩
  cases q : F ds with
  | none => rw [q] at k; exact k.elim
  | some p =>
    rw [q] at k
    exact ⟨ρ1, ds, p, rs, q, k H1 ρ1 (Aft.refl a1.r)⟩
theorem Reps.one {K : PySem.W.Frag} {w : World} {H : Hp} {ρ : List Addr} {i : Int} {vs : List V} (h : Reps K w H ρ [.int i] vs) : vs = [.int i] := by
  unfold Reps at h
  obtain ⟨v, r, rfl, h1, h2⟩ := h
  unfold Rep at h1; unfold Reps at h2; subst h1; subst h2; rfl
theorem Reps.consI {K : PySem.W.Frag} {w : World} {H : Hp} {ρ : List Addr} {i : Int} {ds : List D} {vs : List V} (h : Reps K w H ρ (.int i :: ds) vs) : ∃ r, vs = .int i :: r ∧ Reps K w H ρ ds r := by
  unfold Reps at h
  obtain ⟨v, r, rfl, h1, h2⟩ := h
  unfold Rep at h1; subst h1
  exact ⟨r, rfl, h2⟩
theorem PA.mono {es : List Expr} {t : TA} (h : PA X es t) : PA X es t := h
theorem di_range1 {a : Expr} {p pos : Pos} (hm : X.mg "range" = none) (ha : DA X [a] fs) (hg : Gl X "range" := by rfl) (hs : starEach [a] X.env = [(false, eval a X.env)] := by rfl) : DI X tg (.Call (.Name "range" p) [a] [] pos) (sRange rangeOf1 fs) :=
  PI.weak (pi_range1 hg hm ha hs) fun σ H R h => by
    obtain ⟨ρ, env, st, at_, h⟩ := tI_range h
    refine ⟨ρ, env, st, at_, h.mono fun ds st1 H1 ρ1 a1 k vs rs => ?_⟩
    obtain ⟨ρ2, ds2, p2, r2, e2, k2⟩ := k vs rs
    obtain ⟨j, rfl, z, rfl⟩ := rangeOf1_some e2
    obtain ⟨z1, z2⟩ := smallI_ok z
    exact ⟨j, r2.one, by omega, by omega, k2 _ (jw_range1 (by rw [sizeLine_eq]; omega))⟩
theorem di_range2 {a b : Expr} {p pos : Pos} (hm : X.mg "range" = none) (ha : DA X [a, b] fs) (hg : Gl X "range" := by rfl) (hs : starEach [a, b] X.env = [(false, eval a X.env), (false, eval b X.env)] := by rfl) (hs2 : starEach [b] X.env = [(false, eval b X.env)] := by rfl) :
    DI X tg (.Call (.Name "range" p) [a, b] [] pos) (sRange rangeOf2 fs) :=
  PI.weak (pi_range2 hg hm ha hs hs2) fun σ H R h => by
    obtain ⟨ρ, env, st, at_, h⟩ := tI_range h
    refine ⟨ρ, env, st, at_, h.mono fun ds st1 H1 ρ1 a1 k vs rs => ?_⟩
    obtain ⟨ρ2, ds2, p2, r2, e2, k2⟩ := k vs rs
    obtain ⟨i, j, rfl, z, z', rfl⟩ := rangeOf2_some e2
    obtain ⟨z1, z2⟩ := smallI_ok z
    obtain ⟨z3, z4⟩ := smallI_ok z'
    obtain ⟨r, rfl, r3⟩ := r2.consI
    rw [r3.one]
    exact ⟨i, j, rfl, ⟨by omega, by omega, by omega, by omega⟩, k2 _ (jw_range1 (by rw [sizeLine_eq]; omega))⟩
theorem di_range3 {a b c : Expr} {p pos : Pos} (hm : X.mg "range" = none) (ha : DA X [a, b, c] fs) (hg : Gl X "range" := by rfl) (hs : starEach [a, b, c] X.env = (false, eval a X.env) :: starEach [b, c] X.env := by rfl) (hpl : (backTo pos (starEach [b, c] X.env)).any (·.1) = false := by rfl) :
    DI X tg (.Call (.Name "range" p) [a, b, c] [] pos) (sRange rangeOf3 fs) :=
  PI.weak (pi_range3 hg hm ha hs hpl) fun σ H R h => by
    obtain ⟨ρ, env, st, at_, h⟩ := tI_range h
    refine ⟨ρ, env, st, at_, h.mono fun ds st1 H1 ρ1 a1 k vs rs => ?_⟩
    obtain ⟨ρ2, ds2, p2, r2, e2, k2⟩ := k vs rs
    obtain ⟨i, j, rfl, z, z', rfl⟩ := rangeOf3_some e2
    obtain ⟨z1, z2⟩ := smallI_ok z
    obtain ⟨z3, z4⟩ := smallI_ok z'
    obtain ⟨r, rfl, r3⟩ := r2.consI
    obtain ⟨r', rfl, r4⟩ := r3.consI
    rw [r4.one]
    exact ⟨i, j, -1, (i - j).toNat, rfl, RgC.neg (by omega) (by omega) (by omega) (by omega), k2 _ (jw_range (by rw [sizeLine_eq]; omega))⟩
/-! ### zip -/
def zipD : List D → List D → List D
  | a :: as, b :: bs => .tup [a, b] :: zipD as bs
  | _, _ => []
theorem zipD_len : ∀ as bs : List D, (zipD as bs).length = min as.length bs.length
  | [], bs => by unfold zipD; simp
  | a :: as, [] => by unfold zipD; simp
  | a :: as, b :: bs => by
    unfold zipD
    rw [List.length_cons, zipD_len as bs, List.length_cons, List.length_cons]
    omega
theorem zipD_get : ∀ {as bs : List D} {i : Nat} {d : D}, (zipD as bs)[i]? = some d → ∃ a b, as[i]? = some a ∧ bs[i]? = some b ∧ d = .tup [a, b]
  | [], _, _, _, h => by unfold zipD at h; simp at h
  | _ :: _, [], _, _, h => by unfold zipD at h; simp at h
  | a :: as, b :: bs, 0, d, h => by
    unfold zipD at h
    simp at h
    exact ⟨a, b, rfl, rfl, h.symm⟩
  | a :: as, b :: bs, i + 1, d, h => by
    unfold zipD at h
    obtain ⟨x, y, e1, e2, e3⟩ := zipD_get (as := as) (bs := bs) (i := i) (by simpa using h)
    exact ⟨x, y, by simpa using e1, by simpa using e2, e3⟩
/-- both lists, or both tuples -/
def zipOf : D → D → Option (List D × Src)
  | .lst as, .lst bs => some (zipD as bs, .val)
  | .tup as, .tup bs => some (zipD as bs, .val)
  | _, _ => none
def sZip (fs : SemA) : SemI := fun env st => (fs env st).bind fun ds st1 => match ds with
  | [a, b] => ofO (zipOf a b) st1
  | _ => .bad
theorem jw_zipL {K : PySem.W.Frag} {w : World} {H0 : Hp} {ρ0 : List Addr} {a b : Addr} {as bs : List D} {vs ws : List V} (hz : as.length ≤ sizeLine) (ha : FrzL K H0 a vs) (hb : FrzL K H0 b ws) (ra : Reps K w H0 ρ0 as vs) (rb : Reps K w H0 ρ0 bs ws) :
    JW K w H0 ρ0 (Itz K a b) (zipD as bs) .val where
  len := by rw [zipD_len]; omega
  stop := fun H ρ st st0 af rs ok i hi => by
    rw [zipD_len] at hi
    have l1 := ra.length
    have l2 := rb.length
    exact ⟨vs, ws, (af.s.frzL ha).sq, (af.s.frzL hb).sq, by omega⟩
  go := fun H ρ st st0 af rs ok i hi => by
    rw [zipD_len] at hi
    have l1 := ra.length
    have l2 := rb.length
    have h1 : i < vs.length := by omega
    have h2 : i < ws.length := by omega
    exact ⟨vs, ws, vs[i], ws[i], (af.s.frzL ha).sq, (af.s.frzL hb).sq, List.getElem?_eq_getElem h1, List.getElem?_eq_getElem h2⟩
  yld := fun H ρ st st0 af rs ok i d hd x H' y => by
    obtain ⟨x0, y0, e1, e2, rfl⟩ := zipD_get hd
    obtain ⟨T, vx, vy, rfl, hT, rfl, f1, f2⟩ := y
    obtain ⟨v1, ev1, rv1⟩ := ra.get e1
    obtain ⟨v2, ev2, rv2⟩ := rb.get e2
    have q1 := f1 vs (af.s.frzL ha).sq
    have q2 := f2 ws (af.s.frzL hb).sq
    rw [ev1] at q1; cases q1
    rw [ev2] at q2; cases q2
    refine ⟨Aft.fresh rs hT, ?_⟩
    unfold Rep
    exact ⟨T, _, rfl, SqT.of upd_same, by show 2 ≤ sizeLine; decide, Reps.cons ((rv1.stay af.s af.p).stay (Stays.new hT) (List.prefix_refl _)) (Reps.cons ((rv2.stay af.s af.p).stay (Stays.new hT) (List.prefix_refl _)) Reps.nil)⟩
theorem jw_zipT {K : PySem.W.Frag} {w : World} {H0 : Hp} {ρ0 : List Addr} {a b : Addr} {as bs : List D} {vs ws : List V} (hz : as.length ≤ sizeLine) (ha : SqT K H0 a vs) (hb : SqT K H0 b ws) (ra : Reps K w H0 ρ0 as vs) (rb : Reps K w H0 ρ0 bs ws) :
    JW K w H0 ρ0 (RZ.ItzT K a b) (zipD as bs) .val where
  len := by rw [zipD_len]; omega
  stop := fun H ρ st st0 af rs ok i hi => by
    rw [zipD_len] at hi
    have l1 := ra.length
    have l2 := rb.length
    exact ⟨vs, ws, af.s.sqT ha, af.s.sqT hb, by omega⟩
  go := fun H ρ st st0 af rs ok i hi => by
    rw [zipD_len] at hi
    have l1 := ra.length
    have l2 := rb.length
    have h1 : i < vs.length := by omega
    have h2 : i < ws.length := by omega
    exact ⟨vs, ws, vs[i], ws[i], af.s.sqT ha, af.s.sqT hb, List.getElem?_eq_getElem h1, List.getElem?_eq_getElem h2⟩
  yld := fun H ρ st st0 af rs ok i d hd x H' y => by
    obtain ⟨x0, y0, e1, e2, rfl⟩ := zipD_get hd
    obtain ⟨T, vx, vy, rfl, hT, rfl, f1, f2⟩ := y
    obtain ⟨v1, ev1, rv1⟩ := ra.get e1
    obtain ⟨v2, ev2, rv2⟩ := rb.get e2
    have q1 := f1 vs (af.s.sqT ha)
    have q2 := f2 ws (af.s.sqT hb)
    rw [ev1] at q1; cases q1
    rw [ev2] at q2; cases q2
    refine ⟨Aft.fresh rs hT, ?_⟩
    unfold Rep
    exact ⟨T, _, rfl, SqT.of upd_same, by show 2 ≤ sizeLine; decide, Reps.cons ((rv1.stay af.s af.p).stay (Stays.new hT) (List.prefix_refl _)) (Reps.cons ((rv2.stay af.s af.p).stay (Stays.new hT) (List.prefix_refl _)) Reps.nil)⟩
theorem Reps.two {K : PySem.W.Frag} {w : World} {H : Hp} {ρ : List Addr} {a b : D} {vs : List V} (h : Reps K w H ρ [a, b] vs) : ∃ x y, vs = [x, y] ∧ Rep K w H ρ a x ∧ Rep K w H ρ b y := by
  unfold Reps at h
  obtain ⟨v, r, rfl, h1, h2⟩ := h
  unfold Reps at h2
  obtain ⟨v', r', rfl, h3, h4⟩ := h2
  unfold Reps at h4
  subst h4
  exact ⟨v, v', rfl, h1, h3⟩
theorem di_zip {a b : Expr} {p pos tpos : Pos} {elts : List Expr} {kk : Nat} (hm : X.mg "zip" = none) (ha : DA X [a, b] fs) (hg : Gl X "zip" := by rfl) (hs : starEach [a, b] X.env = (false, eval a X.env) :: starEach [b] X.env := by rfl) (hpl : (backTo pos (starEach [b] X.env)).any (·.1) = false := by rfl) :
    DI X (.Tuple elts kk tpos) (.Call (.Name "zip" p) [a, b] [] pos) (sZip fs) :=
  PI.weak (RZ.pi_zipA hg hm ha hs hpl) fun σ H R ⟨ρ, env, st, at_, h⟩ => by
    refine ⟨ρ, env, st, at_, (RR.bind h).mono fun ds st1 H1 ρ1 a1 ⟨_, k⟩ vs rs => ?_⟩
    match ds, k, rs with
    | [x, y], k, rs =>
      obtain ⟨u, v, rfl, r1, r2⟩ := rs.two
      have k' : RR X σ H1 ρ1 (ofO (zipOf x y) st1) fun p _ H' ρ' => ∀ J, JW X.K X.w H' ρ' J p.1 p.2 → R J H' := k
      cases x with
      | lst as =>
        cases y with
        | lst bs =>
          unfold Rep at r1 r2
          obtain ⟨a, vs, rfl, q1, z1, rs1⟩ := r1
          obtain ⟨b, ws, rfl, q2, z2, rs2⟩ := r2
          exact ⟨a, b, vs, ws, rfl, .inl ⟨q1.sq, q2.sq, k' H1 ρ1 (Aft.refl a1.r) _ (jw_zipL z1 q1 q2 rs1 rs2)⟩⟩
        | _ => exact k'.elim
      | tup as =>
        cases y with
        | tup bs =>
          unfold Rep at r1 r2
          obtain ⟨a, vs, rfl, q1, z1, rs1⟩ := r1
          obtain ⟨b, ws, rfl, q2, z2, rs2⟩ := r2
          exact ⟨a, b, vs, ws, rfl, .inr ⟨q1, q2, k' H1 ρ1 (Aft.refl a1.r) _ (jw_zipT z1 q1 q2 rs1 rs2)⟩⟩
        | _ => exact k'.elim
      | _ => cases y <;> exact k'.elim
    | [], k, _ => exact k.elim
    | [_], k, _ => exact k.elim
    | _ :: _ :: _ :: _, k, _ => exact k.elim
end

/-! ### for -/
open Classical in
noncomputable def forL (ok : Sto → Prop) (g : SemG) (body : SemS) : List D → En → Sto → ResS
  | [], env, st => if ok st then .nx env st else .bad
  | d :: ds, env, st => if ok st then (match g d env st with
    | none => .bad
    | some env1 => match body env1 st with
      | .nx e s => forL ok g body ds e s
      | .cnt e s => forL ok g body ds e s
      | .brk e s => .nx e s
      | r => r) else .bad
noncomputable def sFor (fi : SemI) (g : SemG) (body : SemS) : SemS := fun env st => (fi env st).bindS env fun p st1 => forL (srcOk p.2 p.1) g body p.1 env st1
section
variable {X : Cx} {tg it : Expr} {fi : SemI} {g : SemG} {body : SemS} {ss : List Stmt} {pos : Pos}
theorem ds_for (hp : PassesOwn (model X.prog X.w) X.A X.env X.xe) (hc : X.calm = true) (hi : DI X tg it fi) (hg : DG X tg g) (hb : DSs X ss body) (hs : ∀ x, foldedSetIterable it X.env x = pure x := by intro _; rfl) :
    DS X (.For tg it ss [] pos) (sFor fi g body) :=
  PS.weak (ps_for hp hc hi hg hb hs) fun D σ0 H0 ⟨ρ0, env0, st0, at0, q0⟩ => by
    refine ⟨ρ0, env0, st0, at0, (RS.bindE at0 q0).mono fun p st1 H1 ρ1 a1 ⟨_, k⟩ J jw => ?_⟩
    obtain ⟨ds, src⟩ := p
    have k' : RS X D H1 ρ1 (forL (srcOk src ds) g body ds env0 st1) := k
    refine ⟨fun i m σ H => ∃ ρ env st sx, At X σ H ρ env st ∧ Aft X.K X.w H1 ρ1 sx H ρ ∧ m = ds.length - i ∧ i ≤ ds.length ∧ RS X D H ρ (forL (srcOk src ds) g body (ds.drop i) env st),
      ⟨ds.length, ρ1, env0, st1, st1, at0.aft a1, Aft.refl a1.r, by simp, Nat.zero_le _, by simpa using k'⟩, ?_⟩
    rintro i m σ H ⟨ρ, env, st, sx, at_, af, rfl, hi, q⟩
    by_cases hlt : i < ds.length
    · rw [List.drop_eq_getElem_cons hlt] at q
      unfold forL at q
      by_cases ok : srcOk src ds st
      · rw [if_pos ok] at q
        refine .inr ⟨jw.go H ρ st sx af.lat at_.st ok i hlt, fun σ' H' => ∃ ρ env st sx, At X σ' H' ρ env st ∧ Aft X.K X.w H1 ρ1 sx H' ρ ∧ RS X D H' ρ (forL (srcOk src ds) g body (ds.drop (i + 1)) env st), fun σ' H' hN => ?_, fun x H' y => ?_⟩
        · obtain ⟨ρ', env', st', sx', at', af', q'⟩ := hN
          exact ⟨ds.length - (i + 1), by omega, ρ', env', st', sx', at', af', rfl, hlt, q'⟩
        · obtain ⟨af2, rx⟩ := jw.yld H ρ st sx af.lat at_.st ok i ds[i] (List.getElem?_eq_getElem hlt) x H' y
          cases eg : g ds[i] env st with
          | none => rw [eg] at q; exact q.elim
          | some env1 =>
            rw [eg] at q
            refine ⟨ρ, env, st, ds[i], env1, at_.aft af2, rx, eg, fun σ2 H2 af3 re2 => ⟨ρ, env1, st, ⟨af3.r, re2⟩, ?_⟩⟩
            have q2 := RS.aft (af2.trans af3) q
            dsimp only at q2
            have afx := (af.trans af2).trans af3
            cases eb : body env1 st with
            | nx e s =>
              rw [eb] at q2
              exact fun σ' H' ρ' a' re' => ⟨ρ', e, s, s, ⟨a'.r, re'⟩, afx.trans a', RS.aft a' q2⟩
            | cnt e s =>
              rw [eb] at q2
              exact fun σ' H' ρ' a' re' => ⟨ρ', e, s, s, ⟨a'.r, re'⟩, afx.trans a', RS.aft a' q2⟩
            | brk e s => rw [eb] at q2; exact q2
            | ret d s => rw [eb] at q2; exact q2
            | exc x e s => rw [eb] at q2; exact q2
            | bad => rw [eb] at q2; exact q2
      · rw [if_neg ok] at q
        exact q.elim
    · have ei : ds.drop i = [] := List.drop_eq_nil_of_le (by omega)
      rw [ei] at q
      unfold forL at q
      by_cases ok : srcOk src ds st
      · rw [if_pos ok] at q
        exact .inl ⟨jw.stop H ρ st sx af.lat at_.st ok i (Nat.le_of_not_lt hlt), q σ H ρ (Aft.refl at_.st) at_.en⟩
      · rw [if_neg ok] at q
        exact q.elim

/-! ### while -/
def whileL (c : SemB) (body : SemS) : Nat → En → Sto → ResS
  | 0, _, _ => .bad
  | n + 1, env, st => (c env st).bindS env fun b st1 => if b = true then (match body env st1 with
    | .nx e s => whileL c body n e s
    | .cnt e s => whileL c body n e s
    | .brk e s => .nx e s
    | r => r) else .nx env st1
def sWhile (fuel : Nat) (c : SemB) (body : SemS) : SemS := fun env st => whileL c body fuel env st
theorem ds_while {c : Expr} {fc : SemB} (fuel : Nat) (hp : PassesOwn (model X.prog X.w) X.A X.env X.xe) (hc : DT X c fc) (hb : DSs X ss body) : DS X (.While c ss [] pos) (sWhile fuel fc body) :=
  PS.weak (ps_while hp hc hb) fun D σ0 H0 ⟨ρ0, env0, st0, at0, q0⟩ => by
    refine ⟨fun m σ H => ∃ ρ env st, At X σ H ρ env st ∧ RS X D H ρ (whileL fc body m env st), ⟨fuel, ρ0, env0, st0, at0, q0⟩, ?_⟩
    rintro m σ H ⟨ρ, env, st, at_, q⟩
    cases m with
    | zero => exact q.elim
    | succ m =>
      unfold whileL at q
      refine ⟨ρ, env, st, at_, (RS.bindE at_ q).mono fun b st1 H1 ρ1 a1 ⟨_, k⟩ => ?_⟩
      cases b with
      | true =>
        rw [if_pos rfl] at k ⊢
        refine ⟨fun σ' H' => ∃ ρ env st, At X σ' H' ρ env st ∧ RS X D H' ρ (whileL fc body m env st), fun σ' H' h => ⟨m, Nat.lt_succ_self m, h⟩, ρ1, env, st1, at_.aft a1, ?_⟩
        cases eb : body env st1 with
        | nx e s => rw [eb] at k; exact fun σ' H' ρ' a' re' => ⟨ρ', e, s, ⟨a'.r, re'⟩, RS.aft a' k⟩
        | cnt e s => rw [eb] at k; exact fun σ' H' ρ' a' re' => ⟨ρ', e, s, ⟨a'.r, re'⟩, RS.aft a' k⟩
        | brk e s => rw [eb] at k; exact k
        | ret d s => rw [eb] at k; exact k
        | exc x e s => rw [eb] at k; exact k
        | bad => rw [eb] at k; exact k
      | false =>
        rw [if_neg Bool.false_ne_true] at k ⊢
        exact k σ H1 ρ1 (Aft.refl a1.r) (at_.aft a1).en
end
/-- the slots of the block's own names forgotten -/
def wipeD (env : En) : List Nat → En
  | [] => env
  | v :: vs => (wipeD env vs).set v none
theorem RelEn.unset {K : PySem.W.Frag} {w : World} {H : Hp} {ρ : List Addr} {σ : L2.St} {env : En} (h : RelEn K w H ρ σ env) (i : Nat) : RelEn K w H ρ (σ.set i none) (env.set i none) := by
  refine ⟨by simp [h.len], fun j d' e => ?_⟩
  by_cases hj : i = j
  · subst hj
    by_cases hi : i < env.length
    · rw [List.getElem?_set_self hi] at e
      cases e
    · rw [List.getElem?_eq_none (by simpa using hi)] at e
      cases e
  · rw [List.getElem?_set_ne hj] at e
    obtain ⟨u, e1, e2⟩ := h.val j d' e
    exact ⟨u, by rw [List.getElem?_set_ne hj]; exact e1, e2⟩
theorem RelEn.wipe {K : PySem.W.Frag} {w : World} {H : Hp} {ρ : List Addr} {σ : L2.St} {env : En} (h : RelEn K w H ρ σ env) : ∀ vs : List Nat, RelEn K w H ρ (L2.wipe σ vs) (wipeD env vs)
  | [] => h
  | v :: vs => (RelEn.wipe h vs).unset v

theorem wipe_length' (σ : L2.St) (vs : List Nat) : (L2.wipe σ vs).length = σ.length := L2.wipe_length σ vs
theorem wipe_set {σ : L2.St} {i : Nat} {x : Option V} : ∀ {vs : List Nat}, i ∈ vs → L2.wipe (σ.set i x) vs = L2.wipe σ vs
  | [], h => by simp at h
  | v :: vs, h => by
    show (L2.wipe (σ.set i x) vs).set v none = (L2.wipe σ vs).set v none
    by_cases hv : i ∈ vs
    · rw [wipe_set hv]
    · have e : v = i := by
        rcases List.mem_cons.mp h with h | h
        · exact h.symm
        · exact absurd h hv
      subst e
      have q : L2.wipe (σ.set v x) vs = (L2.wipe σ vs).set v x := by
        clear h
        induction vs with
        | nil => rfl
        | cons u us ih =>
          have hu : v ∉ us := fun z => hv (List.mem_cons_of_mem _ z)
          have hne : v ≠ u := fun z => hv (by rw [z]; exact List.mem_cons_self)
          show (L2.wipe (σ.set v x) us).set u none = ((L2.wipe σ us).set u none).set v x
          rw [ih hu, List.set_comm _ _ hne]
      rw [q, List.set_set]
theorem wipe_wipe {σ : L2.St} : ∀ {vs ws : List Nat}, (∀ i ∈ vs, i ∈ ws) → L2.wipe (L2.wipe σ vs) ws = L2.wipe σ ws
  | [], _, _ => rfl
  | v :: vs, ws, h => by
    show L2.wipe ((L2.wipe σ vs).set v none) ws = _
    rw [wipe_set (h v List.mem_cons_self)]
    exact wipe_wipe fun i hi => h i (List.mem_cons_of_mem _ hi)

/-- behind a statement something may be frozen -/
theorem ps_lock' {X : Cx} {s : Stmt} {t : TS} (h : PS X s t) : PS X s fun D σ H => t { D with nx := fun σ' H' => D.nx σ' H' ∨ ∃ a u, H' a = some u ∧ Mut (some u) ∧ ∀ od, D.nx σ' (upd H' a (.frz od u)) } σ H :=
  ⟨fun pins s σ H D I hq => thn (h.run pins s σ H _ I hq) fun f s' hs => by
    cases f with
    | next =>
      obtain ⟨σ', H', I', q⟩ := hs
      rcases q with q | ⟨a, u, eu, mu, q⟩
      · exact ⟨σ', H', I', q⟩
      · obtain ⟨od, I2⟩ := I'.lock eu mu
        exact ⟨σ', _, I2, q od⟩
    | _ => exact hs⟩

/-! ### targets of a block: their slots are of the block's -/
def tGw (X : Cx) (vs : List Nat) (g : SemG) : TG := fun v σ H Q => ∃ ρ env st d env', At X σ H ρ env st ∧ Rep X.K X.w H ρ d v ∧ g d env st = some env' ∧ ∀ σ' H', Aft X.K X.w H ρ st H' ρ → RelEn X.K X.w H' ρ σ' env' → L2.wipe σ' vs = L2.wipe σ vs → Q σ' H'
def tGsw (X : Cx) (vs : List Nat) (g : SemGs) : TGs := fun us σ H Q => ∃ ρ env st ds env', At X σ H ρ env st ∧ Reps X.K X.w H ρ ds us ∧ g ds env st = some env' ∧ ∀ σ' H', Aft X.K X.w H ρ st H' ρ → RelEn X.K X.w H' ρ σ' env' → L2.wipe σ' vs = L2.wipe σ vs → Q σ' H'
def DGw (X : Cx) (vs : List Nat) (t : Expr) (g : SemG) : Prop := PG X t (tGw X vs g)
def DGsw (X : Cx) (vs : List Nat) (ts : List Expr) (g : SemGs) : Prop := PGs X ts (tGsw X vs g)
section
variable {X : Cx} {vs : List Nat} {e : Expr} {es : List Expr} {g : SemG} {gs : SemGs} {pos : Pos}
theorem dgw_name {i : Nat} {x : Str} (hN : X.N.Nodup) (hi : X.N[i]? = some x := by rfl) (hx : Loc X.env.scope x := by first | exact .inl rfl | exact .inr rfl) (hv : i ∈ vs := by decide) (hf : X.fn x = true ∨ X.env.scope.names.lookup x = some .local := by first | exact .inl rfl | exact .inr rfl | assumption) : DGw X vs (.Name x pos) (gN i) :=
  PG.weak (pg_name hN hi hx hf) fun v σ H Q ⟨ρ, env, st, d, env', at_, r, eg, q⟩ => by
    cases eg
    exact q _ H (Aft.refl at_.st) (at_.en.set r i) (wipe_set hv)
theorem dgsw_nil : DGsw X vs [] gNilD := PGs.weak pgs_nil fun us σ H Q ⟨ρ, env, st, ds, env', at_, rs, eg, q⟩ => by
  cases ds with
  | nil =>
    unfold Reps at rs
    cases eg
    exact ⟨rs, q σ H (Aft.refl at_.st) at_.en rfl⟩
  | cons d r => cases eg
theorem dgsw_cons (h1 : DGw X vs e g) (h2 : DGsw X vs es gs) (hs : (assignEach (e :: es) X.env).map (·.2) = assign e X.env :: (assignEach es X.env).map (·.2) := by rfl) : DGsw X vs (e :: es) (gConsD g gs) :=
  PGs.weak (pgs_cons h1 h2 hs) fun us σ H Q ⟨ρ, env, st, ds, env', at_, rs, eg, q⟩ => by
    cases ds with
    | nil => cases eg
    | cons d r =>
      unfold Reps at rs
      obtain ⟨v, vr, rfl, r1, r2⟩ := rs
      have eg' : (g d env st).bind (fun env1 => gs r env1 st) = some env' := eg
      cases e1 : g d env st with
      | none => rw [e1] at eg'; cases eg'
      | some env1 =>
        rw [e1] at eg'
        exact ⟨v, vr, rfl, ρ, env, st, d, env1, at_, r1, e1, fun σ1 H1 s1 re1 w1 => ⟨ρ, env1, st, r, env', ⟨s1.r, re1⟩, r2.stay s1.s (List.prefix_refl _), eg', fun σ2 H2 s2 re2 w2 => q σ2 H2 (s1.trans s2) re2 (w2.trans w1)⟩⟩
theorem dgw_tup {k n : Nat} (hc : X.calm = true) (h : DGsw X vs es gs) (hn : (assignEach es X.env).length = n := by rfl) (hst : (assignEach es X.env).findIdx? (·.1) = none := by rfl) : DGw X vs (.Tuple es k pos) (gTupD n gs) :=
  PG.weak (pg_tup hc h hn hst) fun v σ H Q ⟨ρ, env, st, d, env', at_, r, eg, q⟩ => by
    cases d with
    | tup ds =>
      unfold Rep at r
      obtain ⟨a, us, rfl, hq, zz, rs⟩ := r
      have eg' : (if ds.length = n then gs ds env st else none) = some env' := eg
      by_cases z : ds.length = n
      · rw [if_pos z] at eg'
        exact ⟨a, us, rfl, hq, by rw [rs.length]; exact z, ρ, env, st, ds, env', at_, rs, eg', q⟩
      · rw [if_neg z] at eg'
        cases eg'
    | _ => cases eg
end

/-! ### the loop of a comprehension -/
def Res.bindN {α β : Type} (r : Res α) (k : α → Sto → Res β) : Res β := match r with
  | .ok a st => k a st
  | _ => .bad
/-- no exception -/
def RN {α : Type} (K : PySem.W.Frag) (w : World) (H : Hp) (ρ : List Addr) (r : Res α) (P : α → Sto → Hp → List Addr → Prop) : Prop := match r with
  | .ok a st' => ∀ H' ρ', Aft K w H ρ st' H' ρ' → P a st' H' ρ'
  | _ => False
theorem RN.rr {α : Type} {X : Cx} {σ : L2.St} {H : Hp} {ρ : List Addr} {r : Res α} {P : α → Sto → Hp → List Addr → Prop} (h : RN X.K X.w H ρ r P) : RR X σ H ρ r P := by
  cases r with
  | ok a st => exact h
  | exc e st => exact False.elim h
  | bad => exact False.elim h
theorem RN.mono {α : Type} {K : PySem.W.Frag} {w : World} {H : Hp} {ρ : List Addr} {r : Res α} {P P' : α → Sto → Hp → List Addr → Prop} (h : RN K w H ρ r P) (i : ∀ a st1 H1 ρ1, Aft K w H ρ st1 H1 ρ1 → P a st1 H1 ρ1 → P' a st1 H1 ρ1) : RN K w H ρ r P' := by
  cases r with
  | ok a st1 => exact fun H1 ρ1 a1 => i a st1 H1 ρ1 a1 (h H1 ρ1 a1)
  | exc x st2 => exact h
  | bad => exact h
theorem RN.aft {α : Type} {K : PySem.W.Frag} {w : World} {H H1 : Hp} {ρ ρ1 : List Addr} {sx : Sto} {r : Res α} {P : α → Sto → Hp → List Addr → Prop} (h : RN K w H ρ r P) (a : Aft K w H ρ sx H1 ρ1) : RN K w H1 ρ1 r P := by
  cases r with
  | ok b st => exact fun H2 ρ2 a2 => h H2 ρ2 (a.trans a2)
  | exc e st => exact h
  | bad => exact h
theorem RR.bindN {α β : Type} {X : Cx} {σ : L2.St} {H : Hp} {ρ : List Addr} {r : Res α} {k : α → Sto → Res β} {P : β → Sto → Hp → List Addr → Prop} (h : RR X σ H ρ (r.bindN k) P) :
    RN X.K X.w H ρ r fun a st1 H1 ρ1 => RR X σ H1 ρ1 (k a st1) P := by
  cases r with
  | ok a st1 =>
    intro H1 ρ1 a1
    have h' : RR X σ H ρ (k a st1) P := h
    cases e : k a st1 with
    | ok b st2 =>
      rw [e] at h'
      exact fun H2 ρ2 a2 => h' H2 ρ2 (a1.trans a2)
    | exc x st2 =>
      rw [e] at h'
      exact fun cls dd H2 ρ2 a2 rx => h' cls dd H2 ρ2 (a1.trans a2) rx
    | bad =>
      rw [e] at h'
      exact h'
  | exc x st2 => exact False.elim h
  | bad => exact False.elim h
theorem RN.bindN {α β : Type} {K : PySem.W.Frag} {w : World} {H : Hp} {ρ : List Addr} {r : Res α} {k : α → Sto → Res β} {P : β → Sto → Hp → List Addr → Prop} (h : RN K w H ρ (r.bindN k) P) :
    RN K w H ρ r fun a st1 H1 ρ1 => RN K w H1 ρ1 (k a st1) P := by
  cases r with
  | ok a st1 =>
    intro H1 ρ1 a1
    have h' : RN K w H ρ (k a st1) P := h
    cases e : k a st1 with
    | ok b st2 =>
      rw [e] at h'
      exact fun H2 ρ2 a2 => h' H2 ρ2 (a1.trans a2)
    | exc x st2 =>
      rw [e] at h'
      exact h'
    | bad =>
      rw [e] at h'
      exact h'
  | exc x st2 => exact False.elim h
  | bad => exact False.elim h
theorem RN.bindC {α β : Type} {K : PySem.W.Frag} {w : World} {H H1 : Hp} {ρ ρ1 : List Addr} {r : Res α} {k : α → Sto → Res β} {P : β → Sto → Hp → List Addr → Prop} (h : RN K w H1 ρ1 (r.bindN k) P) :
    RN K w H ρ r fun a st1 _ _ => RN K w H1 ρ1 (k a st1) P := by
  cases r with
  | ok a st1 => exact fun _ _ _ => h
  | exc x st2 => exact False.elim h
  | bad => exact False.elim h
theorem RR.rn {α : Type} {X : Cx} {σ : L2.St} {H : Hp} {ρ : List Addr} {r : Res α} {P : α → Sto → Hp → List Addr → Prop} (h : RR X σ H ρ (r.bindN fun a st => .ok a st) P) : RN X.K X.w H ρ r P := by
  cases r with
  | ok a st1 => exact h
  | exc x st2 => exact False.elim h
  | bad => exact False.elim h
/-- readings without exceptions: the same in every block -/
def tDn (X : Cx) (f : SemE) : TE := fun σ H Q => ∃ ρ env st, At X σ H ρ env st ∧ RN X.K X.w H ρ (f env st) fun d _ H' ρ' => ∀ v, Rep X.K X.w H' ρ' d v → Q v H'
def tTn (X : Cx) (f : SemB) : TT := fun σ H Q => ∃ ρ env st, At X σ H ρ env st ∧ RN X.K X.w H ρ (f env st) fun b _ H' _ => Q b H'
open Classical in
noncomputable def lcL (ok : Sto → Prop) (g : SemG) (t : SemB) (e : SemE) (env : En) : List D → List D → Sto → Res (List D)
  | [], acc, st => if ok st then .ok acc st else .bad
  | d :: ds, acc, st => if ok st then (match g d env st with
    | none => .bad
    | some env1 => (t env1 st).bindN fun b st1 => if b = true then (e env1 st1).bindN fun y st2 => lcL ok g t e env ds (acc ++ [y]) st2 else lcL ok g t e env ds acc st1) else .bad
noncomputable def sLc (fi : SemI) (g : SemG) (t : SemB) (e : SemE) (vs : List Nat) : SemE := fun env st => (fi env st).bind fun p st1 => (lcL (srcOk p.2 p.1) g t e (wipeD env vs) p.1 [] st1).bindN fun acc st2 => .ok (.lst acc) st2
noncomputable def sLcM (fi : SemI) (g : SemG) (t : SemB) (e : SemE) (vs : List Nat) : SemE := fun env st => (fi env st).bind fun p st1 => (lcL (srcOk p.2 p.1) g t e (wipeD env vs) p.1 [] st1).bindN fun acc st2 => .ok (.ref st2.length) (st2 ++ [.lst acc])
def sYes : SemB := fun _ st => .ok true st
/-- a clause's tests -/
def DTs (X : Cx) (ifs : List Expr) (f : SemB) : Prop := PTs X ifs (tT X f)
theorem PTs.weak {X : Cx} {e : List Expr} {t t' : TT} (h : PTs X e t) (i : ∀ σ H Q, t' σ H Q → t σ H Q) : PTs X e t' := ⟨fun pins s σ H Q I q => h.run pins s σ H Q I (i σ H Q q)⟩
theorem dts_nil {X : Cx} : DTs X [] sYes := PTs.weak pts_nil fun σ H Q ⟨ρ, env, st, at_, h⟩ => h H ρ (Aft.refl at_.st)
theorem dts_one {X : Cx} {c : Expr} {f : SemB} (h : DT X c f) : DTs X [c] f := pts_one h

section
variable {X : Cx} {elt tg iter : Expr} {ifs : List Expr} {scope : Scope} {own : List (Str × Nat)} {pos : Pos} {fi : SemI} {g : SemG} {t : SemB} {e : SemE}
/-- a new object that is none of the store's may change -/
theorem Aft.mine {K : PySem.W.Frag} {w : World} {H0 H : Hp} {ρ0 ρ : List Addr} {st : Sto} (h : Aft K w H0 ρ0 st H ρ) {L : Addr} {o : HO} (h0 : H0 L = none) (hL : L ∉ ρ) (mu : H L = none ∨ Mut (H L)) : Aft K w H0 ρ0 st (upd H L o) ρ := by
  have sy : Stays H (upd H L o) := by
    rcases mu with mu | mu
    · exact Stays.new mu
    · exact Stays.mut mu
  refine ⟨⟨fun b xs e => ?_, fun b u v e => ?_⟩, h.p, ⟨h.r.len, h.r.nd, fun a ha => ?_, fun n o' a e1 e2 => ?_⟩, fun b u eb nb => ?_, h.n⟩
  · rw [upd_ne (ne_of_none e h0)]; exact h.s.tups b xs e
  · rw [upd_ne (ne_of_none e h0)]; exact h.s.frzs b u v e
  · obtain ⟨u, eu⟩ := h.r.here a ha
    exact ⟨u, by rw [upd_ne (fun z => hL (by rw [← z]; exact ha))]; exact eu⟩
  · exact (h.r.obj n o' a e1 e2).stay sy (List.prefix_refl _) (upd_ne (fun z => hL (by rw [← z]; exact List.mem_of_getElem? e2)))
  · rw [upd_ne (ne_of_none eb h0)]; exact h.u b u eb nb
theorem Aft.notin {K : PySem.W.Frag} {w : World} {H0 H : Hp} {ρ0 ρ : List Addr} {st : Sto} (h : Aft K w H0 ρ0 st H ρ) {L : Addr} {o : HO} (e : H0 L = some o) (hL : L ∉ ρ0) : L ∉ ρ := fun z => by
  rcases h.n L z with z | z
  · exact hL z
  · rw [e] at z; cases z
theorem At.mine {H : Hp} {ρ : List Addr} {env : En} {st : Sto} {σ : L2.St} (h : At X σ H ρ env st) {H0 : Hp} {ρ0 : List Addr} (af : Aft X.K X.w H0 ρ0 st H ρ) {L : Addr} {o : HO} (h0 : H0 L = none) (hL : L ∉ ρ) (mu : H L = none ∨ Mut (H L)) : At X σ (upd H L o) ρ env st :=
  ⟨(af.mine h0 hL mu).r, h.en.stay (by
    rcases mu with mu | mu
    · exact Stays.new mu
    · exact Stays.mut mu) (List.prefix_refl _)⟩
theorem RelSt.notin {K : PySem.W.Frag} {w : World} {H : Hp} {ρ : List Addr} {st : Sto} (h : RelSt K w H ρ st) {L : Addr} (e : H L = none) : L ∉ ρ := fun z => by
  obtain ⟨u, eu⟩ := h.here L z
  rw [e] at eu
  cases eu
/-- what a comprehension is asked, by data -/
def LcP (X : Cx) (fi : SemI) (g : SemG) (t : SemB) (e : SemE) (vs0 : List Nat) (σ : L2.St) (H : Hp) (Q : VK) : Prop := ∃ ρ env st, At X σ H ρ env st ∧ RR X σ H ρ ((fi env st).bind fun p st1 => (lcL (srcOk p.2 p.1) g t e (wipeD env vs0) p.1 [] st1).bindN fun acc st2 => .ok acc st2) fun acc st2 H2 ρ2 =>
      ∀ L vs, L ∉ ρ2 → (∀ o, Aft X.K X.w H ρ st2 (upd H2 L o) ρ2) → H2 L = some (.lst vs) → acc.length ≤ sizeLine → Reps X.K X.w H2 ρ2 acc vs → Q (.ref L) H2
theorem LcP.tLc {vs0 : List Nat} {σ : L2.St} {H0 : Hp} {Q : VK} (h : LcP X fi g t e vs0 σ H0 Q) : L2.tLc (tI X fi) (tGw X vs0 g) (tTn X t) (tDn X e) vs0 σ H0 Q := by
  obtain ⟨ρ0, env0, st0, at0, q0⟩ := h
  refine ⟨ρ0, env0, st0, at0, (RR.bind q0).mono fun p st1 H1 ρ1 a1 ⟨_, k⟩ J jw L hL => ?_⟩
  obtain ⟨ds, src⟩ := p
  have k' : RN X.K X.w H1 ρ1 (lcL (srcOk src ds) g t e (wipeD env0 vs0) ds [] st1) _ := RR.rn k
  clear k
  have atw : At X (L2.wipe σ vs0) H1 ρ1 (wipeD env0 vs0) st1 := ⟨a1.r, ((at0.aft a1).en).wipe _⟩
  have nL1 : L ∉ ρ1 := a1.r.notin hL
  -- the invariant
  refine ⟨fun i m H => ∃ ρ st acc vs, At X (L2.wipe σ vs0) H ρ (wipeD env0 vs0) st ∧ Aft X.K X.w H1 ρ1 st H ρ ∧ L ∉ ρ ∧ H L = some (.lst vs) ∧ Reps X.K X.w H ρ acc vs ∧ acc.length ≤ i ∧ m = ds.length - i ∧ i ≤ ds.length ∧
      RN X.K X.w H1 ρ1 (lcL (srcOk src ds) g t e (wipeD env0 vs0) (ds.drop i) acc st) fun acc st2 H2 ρ2 => ∀ L vs, L ∉ ρ2 → (∀ o, Aft X.K X.w H0 ρ0 st2 (upd H2 L o) ρ2) → H2 L = some (.lst vs) → acc.length ≤ sizeLine → Reps X.K X.w H2 ρ2 acc vs → Q (.ref L) H2,
    ⟨ds.length, ρ1, st1, [], [], atw.mine (Aft.refl a1.r) hL nL1 (.inl hL), (Aft.refl a1.r).mine hL nL1 (.inl hL), nL1, upd_same, Reps.nil, Nat.zero_le _, by simp, Nat.zero_le _, ?_⟩, ?_⟩
  · have z : ds.drop 0 = ds := by simp
    rw [z]
    exact k'
  · rintro i m H ⟨ρ, st, acc, vs, at_, af, nL, eL, rs, hacc, rfl, hi', q⟩
    have mu : Mut (H L) := by rw [eL]; trivial
    by_cases hlt : i < ds.length
    · rw [List.drop_eq_getElem_cons hlt] at q
      unfold lcL at q
      by_cases ok : srcOk src ds st
      · rw [if_pos ok] at q
        refine .inr ⟨jw.go H ρ st st af.lat at_.st ok i hlt, fun H => ∃ ρ st acc vs, At X (L2.wipe σ vs0) H ρ (wipeD env0 vs0) st ∧ Aft X.K X.w H1 ρ1 st H ρ ∧ L ∉ ρ ∧ H L = some (.lst vs) ∧ Reps X.K X.w H ρ acc vs ∧ acc.length ≤ i + 1 ∧
          RN X.K X.w H1 ρ1 (lcL (srcOk src ds) g t e (wipeD env0 vs0) (ds.drop (i + 1)) acc st) fun acc st2 H2 ρ2 => ∀ L vs, L ∉ ρ2 → (∀ o, Aft X.K X.w H0 ρ0 st2 (upd H2 L o) ρ2) → H2 L = some (.lst vs) → acc.length ≤ sizeLine → Reps X.K X.w H2 ρ2 acc vs → Q (.ref L) H2,
          fun H' hN => ?_, fun x H' y => ?_⟩
        · obtain ⟨ρ', st', acc', vs', h1, h2, h3, h4, h5, h6, h7⟩ := hN
          exact ⟨ds.length - (i + 1), by omega, ρ', st', acc', vs', h1, h2, h3, h4, h5, h6, rfl, hlt, h7⟩
        · obtain ⟨af2, rx⟩ := jw.yld H ρ st st af.lat at_.st ok i ds[i] (List.getElem?_eq_getElem hlt) x H' y
          have q2 := q
          cases eg : g ds[i] (wipeD env0 vs0) st with
          | none => rw [eg] at q2; exact q2.elim
          | some env1 =>
            rw [eg] at q2
            refine ⟨ρ, _, st, ds[i], env1, at_.aft af2, rx, eg, fun σ2 H3 af3 re3 we => ⟨by rw [we, wipe_wipe (fun _ h => h)], ?_⟩⟩
            dsimp only at q2
            refine ⟨ρ, env1, st, ⟨af3.r, re3⟩, (RN.bindC q2).mono fun b st4 H4 ρ4 af4 q4 => ?_⟩
            have afx := ((af.trans af2).trans af3).trans af4
            have afy := (af2.trans af3).trans af4
            have nL4 : L ∉ ρ4 := afy.notin eL nL
            have eL4 : H4 L = some (.lst vs) := afy.u L _ eL nL
            cases b with
            | false =>
              simp only [Bool.false_eq_true, if_false] at q4 ⊢
              exact ⟨ρ4, st4, acc, vs, at_.aft afy, afx, nL4, eL4, rs.stay afy.s afy.p, by omega, q4⟩
            | true =>
              simp only [if_true] at q4 ⊢
              refine ⟨ρ4, env1, st4, ⟨af4.r, re3.stay af4.s af4.p⟩, (RN.bindC q4).mono fun d st5 H5 ρ5 af5 q5 v rv => ?_⟩
              have afx5 := afx.trans af5
              have afy5 := afy.trans af5
              have nL5 : L ∉ ρ5 := afy5.notin eL nL
              have eL5 : H5 L = some (.lst vs) := afy5.u L _ eL nL
              have mu5 : Mut (H5 L) := by rw [eL5]; trivial
              have hl := rs.length
              refine ⟨vs, eL5, by have := jw.len; dsimp only at this; omega, ρ5, st5, acc ++ [d], vs ++ [v], (at_.aft afy5).mine afx5 hL nL5 (.inr mu5), afx5.mine hL nL5 (.inr mu5), nL5, upd_same, ?_, by simp; omega, q5⟩
              exact ((rs.stay afy5.s afy5.p).append (Reps.cons rv Reps.nil)).stay (Stays.mut mu5) (List.prefix_refl _)
      · rw [if_neg ok] at q
        exact q.elim
    · have ei : ds.drop i = [] := List.drop_eq_nil_of_le (by omega)
      rw [ei] at q
      unfold lcL at q
      by_cases ok : srcOk src ds st
      · rw [if_pos ok] at q
        have h0L : H0 L = none := by
          cases e0 : H0 L with
          | none => rfl
          | some o =>
            have : L ∉ ρ0 := fun z => nL1 (a1.p.subset z)
            rw [a1.u L o e0 this] at hL
            cases hL
        refine .inl ⟨jw.stop H ρ st st af.lat at_.st ok i (Nat.le_of_not_lt hlt), q H ρ af L vs nL (fun o => (a1.trans af).mine h0L nL (.inr mu)) eL ?_ rs⟩
        have := jw.len
        dsimp only at this
        omega
      · rw [if_neg ok] at q
        exact q.elim
theorem de_lc (hc : X.calm = true) (hN : X.N.Nodup) (hi : DI X tg iter fi) (ok : BlkOk X.N X.env.scope scope own)
    (hg : ∀ (s : Shared) (H : Hp) (C : Addr) (cl : List (Str × Addr)) (fp : List Addr), DGw (X.blk s H scope (compEnvC scope cl C X.env) fp) (own.map (fun x : Str × Nat => x.2)) tg g)
    (ht : ∀ (s : Shared) (H : Hp) (C : Addr) (cl : List (Str × Addr)) (fp : List Addr), DTs (X.blk s H scope (compEnvC scope cl C X.env) fp) ifs t)
    (he : ∀ (s : Shared) (H : Hp) (C : Addr) (cl : List (Str × Addr)) (fp : List Addr), DE (X.blk s H scope (compEnvC scope cl C X.env) fp) elt e) (hs : ∀ x, foldedSetIterable iter X.env x = pure x := by intro _; rfl) :
    PE X (.ListComp elt [⟨tg, iter, ifs, 0⟩] scope pos) (LcP X fi g t e (own.map (fun x : Str × Nat => x.2))) :=
  PE.weak (pe_lc (g := tGw X (own.map (fun x : Str × Nat => x.2)) g) (tt := tTn X t) (te := tDn X e) hc hN hi ok (fun s H C cl fp => PG.weak (hg s H C cl fp) fun v σ H Q ⟨ρ, env, st, d, env', at_, r, eg, q⟩ => ⟨ρ, env, st, d, env', ⟨at_.st, at_.en⟩, r, eg, q⟩)
    (fun s H C cl fp => PTs.weak (ht s H C cl fp) fun σ H Q ⟨ρ, env, st, at_, q⟩ => ⟨ρ, env, st, ⟨at_.st, at_.en⟩, RN.rr q⟩)
    (fun s H C cl fp => PE.weak (he s H C cl fp) fun σ H Q ⟨ρ, env, st, at_, q⟩ => ⟨ρ, env, st, ⟨at_.st, at_.en⟩, RN.rr q⟩) hs) fun σ H Q h => h.tLc
theorem RR.conv {α β γ : Type} {X : Cx} {σ : L2.St} {H : Hp} {ρ : List Addr} {r : Res α} {r2 : α → Sto → Res β} {F : β → Sto → Res γ} {P : γ → Sto → Hp → List Addr → Prop} (h : RR X σ H ρ (r.bind fun p s => (r2 p s).bindN F) P) :
    RR X σ H ρ (r.bind fun p s => (r2 p s).bindN fun a s => .ok a s) fun a s2 _ _ => RR X σ H ρ (F a s2) P := by
  cases r with
  | ok p s =>
    have h1 : RR X σ H ρ ((r2 p s).bindN F) P := h
    show RR X σ H ρ ((r2 p s).bindN fun a s => .ok a s) _
    cases q : r2 p s with
    | ok a s2 =>
      rw [q] at h1
      exact fun H' ρ' _ => h1
    | exc e s2 => rw [q] at h1; exact False.elim h1
    | bad => rw [q] at h1; exact False.elim h1
  | exc e s => exact h
  | bad => exact h
theorem LcP.mono {vs0 : List Nat} {σ : L2.St} {H : Hp} {Q Q' : VK} (h : LcP X fi g t e vs0 σ H Q) (i : ∀ v H', Q v H' → Q' v H') : LcP X fi g t e vs0 σ H Q' := by
  obtain ⟨ρ, env, st, at_, q⟩ := h
  exact ⟨ρ, env, st, at_, q.mono fun acc s2 H2 ρ2 a2 k L vs nL hA eL hz rs => i _ _ (k L vs nL hA eL hz rs)⟩
theorem lcF_of {vs0 : List Nat} {σ : L2.St} {H : Hp} {ρ : List Addr} {env : En} {st : Sto} {P : D → Sto → Hp → List Addr → Prop} (at_ : At X σ H ρ env st) (q : RR X σ H ρ (sLc fi g t e vs0 env st) P) :
    LcP X fi g t e vs0 σ H fun v H' => ∃ a u, v = .ref a ∧ H' a = some u ∧ Mut (some u) ∧ ∀ od, ∃ d st' ρ', Aft X.K X.w H ρ st' (upd H' a (.frz od u)) ρ' ∧ Rep X.K X.w (upd H' a (.frz od u)) ρ' d v ∧ P d st' (upd H' a (.frz od u)) ρ' := by
  refine ⟨ρ, env, st, at_, (RR.conv q).mono fun acc s2 H2 ρ2 a2 k L vs nL hA eL hz rs => ⟨L, _, rfl, eL, trivial, fun od => ?_⟩⟩
  refine ⟨_, _, ρ2, hA _, ?_, k _ ρ2 (hA _)⟩
  have mu : Mut (H2 L) := by rw [eL]; trivial
  unfold Rep
  exact ⟨L, vs, rfl, (.inl ⟨od, upd_same⟩), hz, rs.stay (Stays.mut mu) (List.prefix_refl _)⟩
theorem lcM_of {vs0 : List Nat} {σ : L2.St} {H : Hp} {ρ : List Addr} {env : En} {st : Sto} {P : D → Sto → Hp → List Addr → Prop} (at_ : At X σ H ρ env st) (q : RR X σ H ρ (sLcM fi g t e vs0 env st) P) :
    LcP X fi g t e vs0 σ H fun v H' => ∃ d st' ρ', Aft X.K X.w H ρ st' H' ρ' ∧ Rep X.K X.w H' ρ' d v ∧ P d st' H' ρ' := by
  refine ⟨ρ, env, st, at_, (RR.conv q).mono fun acc s2 H2 ρ2 a2 k L vs nL hA eL hz rs => ?_⟩
  have hU : upd H2 L (.lst vs) = H2 := by
    funext b
    unfold upd
    split
    · rename_i e
      rw [e]
      exact eL.symm
    · rfl
  have af : Aft X.K X.w H ρ s2 H2 ρ2 := by
    have := hA (.lst vs)
    rw [hU] at this
    exact this
  have h0L : H L = none := by
    cases e0 : H L with
    | none => rfl
    | some o =>
      have z : L ∉ ρ := fun z => nL (af.p.subset z)
      have := (hA (.lst (vs ++ [.non]))).u L o e0 z
      rw [upd_same] at this
      have e1 := af.u L o e0 z
      rw [eL] at e1
      rw [← e1] at this
      simp at this
  have af2 : Aft X.K X.w H ρ (s2 ++ [.lst acc]) H2 (ρ2 ++ [L]) := by
    refine ⟨af.s, af.p.trans (List.prefix_append _ _), ?_, af.u, fun b hb => ?_⟩
    · refine ⟨by simp [af.r.len], List.nodup_append.mpr ⟨af.r.nd, by simp, fun a ha b hb => ?_⟩, fun a ha => ?_, fun n o' a e1 e2 => ?_⟩
      · simp only [List.mem_singleton] at hb
        subst hb
        exact fun z => nL (by rw [← z]; exact ha)
      · rcases List.mem_append.mp ha with ha | ha
        · exact af.r.here a ha
        · simp only [List.mem_singleton] at ha
          subst ha
          exact ⟨_, eL⟩
      · by_cases hn : n < s2.length
        · rw [List.getElem?_append_left hn] at e1
          rw [List.getElem?_append_left (by rw [af.r.len]; exact hn)] at e2
          exact (af.r.obj n o' a e1 e2).stay (Stays.refl _) (List.prefix_append _ _) rfl
        · have hl : n = s2.length := by
            have := (List.getElem?_eq_some_iff.mp e1).1
            simp at this
            omega
          subst hl
          simp at e1
          subst e1
          rw [← af.r.len] at e2
          simp at e2
          subst e2
          exact ⟨vs, eL, hz, rs.stay (Stays.refl _) (List.prefix_append _ _)⟩
    · rcases List.mem_append.mp hb with hb | hb
      · exact af.n b hb
      · simp only [List.mem_singleton] at hb
        subst hb
        exact .inr h0L
  refine ⟨_, _, ρ2 ++ [L], af2, ?_, k H2 (ρ2 ++ [L]) af2⟩
  unfold Rep
  exact ⟨L, by rw [← af.r.len]; simp, rfl⟩
section
variable (hc : X.calm = true) (hN : X.N.Nodup) (hi : DI X tg iter fi) (ok : BlkOk X.N X.env.scope scope own)
    (hg : ∀ (s : Shared) (H : Hp) (C : Addr) (cl : List (Str × Addr)) (fp : List Addr), DGw (X.blk s H scope (compEnvC scope cl C X.env) fp) (own.map (fun x : Str × Nat => x.2)) tg g)
    (ht : ∀ (s : Shared) (H : Hp) (C : Addr) (cl : List (Str × Addr)) (fp : List Addr), DTs (X.blk s H scope (compEnvC scope cl C X.env) fp) ifs t)
    (he : ∀ (s : Shared) (H : Hp) (C : Addr) (cl : List (Str × Addr)) (fp : List Addr), DE (X.blk s H scope (compEnvC scope cl C X.env) fp) elt e)
include hc hN hi ok hg ht he
/-- frozen -/
theorem de_lcF (hs : ∀ x, foldedSetIterable iter X.env x = pure x := by intro _; rfl) : DE X (.ListComp elt [⟨tg, iter, ifs, 0⟩] scope pos) (sLc fi g t e (own.map (fun x : Str × Nat => x.2))) :=
  PE.weak (pe_lock (de_lc hc hN hi ok hg ht he hs)) fun σ H Q ⟨ρ, env, st, at_, q⟩ => (lcF_of at_ q).mono fun v H' ⟨a, u, e1, e2, e3, k⟩ => ⟨a, u, e1, e2, e3, fun od => by
    obtain ⟨d, st', ρ', _, r, p⟩ := k od
    exact p v r⟩
/-- to be changed -/
theorem de_lcM (hs : ∀ x, foldedSetIterable iter X.env x = pure x := by intro _; rfl) : DE X (.ListComp elt [⟨tg, iter, ifs, 0⟩] scope pos) (sLcM fi g t e (own.map (fun x : Str × Nat => x.2))) :=
  PE.weak (de_lc hc hN hi ok hg ht he hs) fun σ H Q ⟨ρ, env, st, at_, q⟩ => (lcM_of at_ q).mono fun v H' ⟨d, st', ρ', _, r, p⟩ => p v r
variable {i : Nat} {y : Str} {py spos : Pos}
theorem ps_lcD (hy : X.N[i]? = some y) (hyl : X.env.scope.names.lookup y = some .local) (hsw : swapsWith (.ListComp elt [⟨tg, iter, ifs, 0⟩] scope pos) (some (.Name y py)) spos.line X.env = pure true) (hs : ∀ x, foldedSetIterable iter X.env x = pure x) :
    PS X (.Assign [.Name y py] (.ListComp elt [⟨tg, iter, ifs, 0⟩] scope pos) spos) fun D σ H => LcP X fi g t e (own.map (fun x : Str × Nat => x.2)) σ H fun x H1 => D.nx (σ.set i (some x)) H1 :=
  PS.weak (ps_setLc (g := tGw X (own.map (fun x : Str × Nat => x.2)) g) (tt := tTn X t) (te := tDn X e) hc hN hy hyl hsw hi ok (fun s H C cl fp => PG.weak (hg s H C cl fp) fun v σ H Q ⟨ρ, env, st, d, env', at_, r, eg, q⟩ => ⟨ρ, env, st, d, env', ⟨at_.st, at_.en⟩, r, eg, q⟩)
    (fun s H C cl fp => PTs.weak (ht s H C cl fp) fun σ H Q ⟨ρ, env, st, at_, q⟩ => ⟨ρ, env, st, ⟨at_.st, at_.en⟩, RN.rr q⟩)
    (fun s H C cl fp => PE.weak (he s H C cl fp) fun σ H Q ⟨ρ, env, st, at_, q⟩ => ⟨ρ, env, st, ⟨at_.st, at_.en⟩, RN.rr q⟩) hs) fun D σ H h => h.tLc
/-- y = [..], frozen -/
theorem ds_lcF (hyl : X.env.scope.names.lookup y = some .local) (hsw : swapsWith (.ListComp elt [⟨tg, iter, ifs, 0⟩] scope pos) (some (.Name y py)) spos.line X.env = pure true) (hy : X.N[i]? = some y := by rfl) (hs : ∀ x, foldedSetIterable iter X.env x = pure x := by intro _; rfl) :
    DS X (.Assign [.Name y py] (.ListComp elt [⟨tg, iter, ifs, 0⟩] scope pos) spos) (sAsg (sLc fi g t e (own.map (fun x : Str × Nat => x.2))) (gN i)) :=
  PS.weak (ps_lock' (ps_lcD hc hN hi ok hg ht he hy hyl hsw hs)) fun D σ H ⟨ρ, env, st, at_, q⟩ => (lcF_of at_ (RS.bindE at_ q)).mono fun v H' ⟨a, u, e1, e2, e3, k⟩ => .inr ⟨a, u, e2, e3, fun od => by
    obtain ⟨d, st', ρ', af, r, _, p⟩ := k od
    exact p _ _ ρ' (Aft.refl af.r) ((at_.aft af).en.set r i)⟩
/-- .. to be changed -/
theorem ds_lcM (hyl : X.env.scope.names.lookup y = some .local) (hsw : swapsWith (.ListComp elt [⟨tg, iter, ifs, 0⟩] scope pos) (some (.Name y py)) spos.line X.env = pure true) (hy : X.N[i]? = some y := by rfl) (hs : ∀ x, foldedSetIterable iter X.env x = pure x := by intro _; rfl) :
    DS X (.Assign [.Name y py] (.ListComp elt [⟨tg, iter, ifs, 0⟩] scope pos) spos) (sAsg (sLcM fi g t e (own.map (fun x : Str × Nat => x.2))) (gN i)) :=
  PS.weak (ps_lcD hc hN hi ok hg ht he hy hyl hsw hs) fun D σ H ⟨ρ, env, st, at_, q⟩ => (lcM_of at_ (RS.bindE at_ q)).mono fun v H' ⟨d, st', ρ', af, r, _, p⟩ => p _ _ ρ' (Aft.refl af.r) ((at_.aft af).en.set r i)
end
end

/-! ### a, b = x, y -/
section
variable {X : Cx} {a b c : Expr} {fs : SemA} {i j k : Nat} {x y z : Str} {px py pz pt pos : Pos} {kt k2 pt2}
def sPar2 (i j : Nat) (fs : SemA) : SemS := fun env st => (fs env st).bindS env fun ds st1 => match ds with
  | [d, e] => .nx ((env.set i (some d)).set j (some e)) st1
  | _ => .bad
def sPar3 (i j k : Nat) (fs : SemA) : SemS := fun env st => (fs env st).bindS env fun ds st1 => match ds with
  | [d, e, f] => .nx (((env.set i (some d)).set j (some e)).set k (some f)) st1
  | _ => .bad
theorem reps2 {K : PySem.W.Frag} {w : World} {H : Hp} {ρ : List Addr} {d e : D} {vs : List V} (h : Reps K w H ρ [d, e] vs) : ∃ u v, vs = [u, v] ∧ Rep K w H ρ d u ∧ Rep K w H ρ e v := by
  unfold Reps at h
  obtain ⟨u, r, rfl, h1, h2⟩ := h
  unfold Reps at h2
  obtain ⟨v, r, rfl, h2, h3⟩ := h2
  unfold Reps at h3
  subst h3
  exact ⟨u, v, rfl, h1, h2⟩
theorem reps3 {K : PySem.W.Frag} {w : World} {H : Hp} {ρ : List Addr} {d e f : D} {vs : List V} (h : Reps K w H ρ [d, e, f] vs) : ∃ u v t, vs = [u, v, t] ∧ Rep K w H ρ d u ∧ Rep K w H ρ e v ∧ Rep K w H ρ f t := by
  unfold Reps at h
  obtain ⟨u, r, rfl, h1, h2⟩ := h
  obtain ⟨v, t, rfl, h2, h3⟩ := reps2 h2
  exact ⟨u, v, t, rfl, h1, h2, h3⟩
theorem ds_par2 (hc : X.calm = true) (hN : X.N.Nodup) (hw : swappedStores [.Tuple [.Name x px, .Name y py] kt pt] (.Tuple [a, b] k2 pt2) X.env = pure (some [x, y])) (hx : X.env.scope.names.lookup x = some .local) (hy : X.env.scope.names.lookup y = some .local) (ha : DA X [a, b] fs)
    (hi : X.N[i]? = some x := by rfl) (hj : X.N[j]? = some y := by rfl) (hij : i ≠ j := by decide) (hs : swapsWithSole [.Tuple [.Name x px, .Name y py] kt pt] (.Tuple [a, b] k2 pt2) pos.line X.env = pure false := by rfl) :
    DS X (.Assign [.Tuple [.Name x px, .Name y py] kt pt] (.Tuple [a, b] k2 pt2) pos) (sPar2 i j fs) :=
  PS.weak (ps_par hc hN hi hj hij hx hy ha hw hs) fun D σ H ⟨ρ, env, st, at_, q⟩ => by
    refine ⟨ρ, env, st, at_, (RS.bindE at_ q).mono fun ds st1 H1 ρ1 a1 ⟨_, k⟩ vs rs => ?_⟩
    match ds, k, rs with
    | [d, e], k, rs =>
      obtain ⟨u, v, rfl, r1, r2⟩ := reps2 rs
      exact ⟨u, v, rfl, k _ H1 ρ1 (Aft.refl a1.r) ((((at_.aft a1).en).set r1 i).set r2 j)⟩
    | [], k, _ => exact k.elim
    | [_], k, _ => exact k.elim
    | _ :: _ :: _ :: _, k, _ => exact k.elim
theorem ds_par3 (hc : X.calm = true) (hN : X.N.Nodup) (hw : swappedStores [.Tuple [.Name x px, .Name y py, .Name z pz] kt pt] (.Tuple [a, b, c] k2 pt2) X.env = pure (some [x, y, z])) (hx : X.env.scope.names.lookup x = some .local) (hy : X.env.scope.names.lookup y = some .local) (hz : X.env.scope.names.lookup z = some .local) (ha : DA X [a, b, c] fs)
    (hi : X.N[i]? = some x := by rfl) (hj : X.N[j]? = some y := by rfl) (hk : X.N[k]? = some z := by rfl) (hij : i ≠ j := by decide) (hik : i ≠ k := by decide) (hjk : j ≠ k := by decide) (hs : swapsWithSole [.Tuple [.Name x px, .Name y py, .Name z pz] kt pt] (.Tuple [a, b, c] k2 pt2) pos.line X.env = pure false := by rfl) :
    DS X (.Assign [.Tuple [.Name x px, .Name y py, .Name z pz] kt pt] (.Tuple [a, b, c] k2 pt2) pos) (sPar3 i j k fs) :=
  PS.weak (ps_par3 hc hN hi hj hk hij hik hjk hx hy hz ha hw hs) fun D σ H ⟨ρ, env, st, at_, q⟩ => by
    refine ⟨ρ, env, st, at_, (RS.bindE at_ q).mono fun ds st1 H1 ρ1 a1 ⟨_, kk⟩ vs rs => ?_⟩
    match ds, kk, rs with
    | [d, e, f], kk, rs =>
      obtain ⟨u, v, t, rfl, r1, r2, r3⟩ := reps3 rs
      exact ⟨u, v, t, rfl, kk _ H1 ρ1 (Aft.refl a1.r) (((((at_.aft a1).en).set r1 i).set r2 j).set r3 k)⟩
    | [], kk, _ => exact kk.elim
    | [_], kk, _ => exact kk.elim
    | [_, _], kk, _ => exact kk.elim
    | _ :: _ :: _ :: _ :: _, kk, _ => exact kk.elim
end
/-! ### data -/
mutual
def pyOf : D → Option PyData
  | .non => some .none
  | .bl b => some (.bool b)
  | .int i => some (.int i)
  | .str x => some (.str x)
  | .tup ds => (pysOf ds).map .tuple
  | .lst ds => (pysOf ds).map .list
  | _ => none
def pysOf : List D → Option (List PyData)
  | [] => some []
  | d :: ds => match pyOf d, pysOf ds with
    | some k, some ks => some (k :: ks)
    | _, _ => none
end
def pyS (st : Sto) : D → Option PyData
  | .ref n => match st[n]? with
    | some (.lst ds) => (pysOf ds).map .list
    | _ => none
  | d => pyOf d
theorem pysOf_cons {d : D} {ds : List D} {xs : List PyData} (h : pysOf (d :: ds) = some xs) : ∃ x r, pyOf d = some x ∧ pysOf ds = some r ∧ xs = x :: r := by
  unfold pysOf at h
  cases e1 : pyOf d with
  | none => rw [e1] at h; cases h
  | some x =>
    cases e2 : pysOf ds with
    | none => rw [e1, e2] at h; cases h
    | some r => rw [e1, e2] at h; exact ⟨x, r, rfl, rfl, (Option.some.inj h).symm⟩
theorem map_some {α β : Type} {f : α → β} {o : Option α} {b : β} (h : o.map f = some b) : ∃ a, o = some a ∧ b = f a := by
  cases o with
  | none => cases h
  | some a => exact ⟨a, rfl, (Option.some.inj h).symm⟩
section
variable {K : PySem.W.Frag} {w : World} {H : Hp} {ρ : List Addr}
mutual
theorem Rep.dp : ∀ {d : D} {v : V} {x : PyData}, Rep K w H ρ d v → pyOf d = some x → Dp K H v x
  | .non, v, x, h, e => by unfold Rep at h; unfold pyOf at e; subst h; cases e; exact .non
  | .bl b, v, x, h, e => by unfold Rep at h; unfold pyOf at e; subst h; cases e; exact .bl b
  | .int b, v, x, h, e => by unfold Rep at h; unfold pyOf at e; subst h; cases e; exact .int b
  | .str b, v, x, h, e => by unfold Rep at h; unfold pyOf at e; subst h; cases e; exact .str b
  | .tup ds, v, x, h, e => by
    unfold Rep at h; unfold pyOf at e
    obtain ⟨a, vs, rfl, q, z, rs⟩ := h
    obtain ⟨xs, e1, rfl⟩ := map_some e
    exact .tup q (Reps.dp rs e1)
  | .lst ds, v, x, h, e => by
    unfold Rep at h; unfold pyOf at e
    obtain ⟨a, vs, rfl, q, z, rs⟩ := h
    obtain ⟨xs, e1, rfl⟩ := map_some e
    exact .lst q.sq (Reps.dp rs e1)
  | .dct es, v, x, h, e => by unfold pyOf at e; cases e
  | .ref n, v, x, h, e => by unfold pyOf at e; cases e
  | .cls n, v, x, h, e => by unfold pyOf at e; cases e
theorem Reps.dp : ∀ {ds : List D} {vs : List V} {xs : List PyData}, Reps K w H ρ ds vs → pysOf ds = some xs → DpAll K H vs xs
  | [], vs, xs, h, e => by unfold Reps at h; unfold pysOf at e; subst h; cases e; exact .nil
  | d :: ds, vs, xs, h, e => by
    unfold Reps at h
    obtain ⟨v, r, rfl, h1, h2⟩ := h
    obtain ⟨x, xr, e1, e2, rfl⟩ := pysOf_cons e
    exact .cons (Rep.dp h1 e1) (Reps.dp h2 e2)
end
theorem rep_dpS {st : Sto} {d : D} {v : V} {x : PyData} (hs : RelSt K w H ρ st) (r : Rep K w H ρ d v) (e : pyS st d = some x) : Dp K H v x := by
  cases d with
  | ref n =>
    unfold Rep at r
    obtain ⟨a, ea, rfl⟩ := r
    have e' : (match st[n]? with
      | some (.lst ds) => (pysOf ds).map PyData.list
      | _ => none) = some x := e
    cases es : st[n]? with
    | none => rw [es] at e'; cases e'
    | some o =>
      cases o with
      | lst ds =>
        rw [es] at e'
        obtain ⟨xs, e1, rfl⟩ := map_some e'
        obtain ⟨vs, q, z, rs⟩ := hs.lst es ea
        exact .lst (SqL.of q) (rs.dp e1)
      | _ => rw [es] at e'; cases e'
  | _ => exact r.dp e
end
mutual
theorem pyOf_plain : ∀ {d : D} {x : PyData}, pyOf d = some x → x.plain = true
  | .non, x, e => by unfold pyOf at e; cases e; rfl
  | .bl b, x, e => by unfold pyOf at e; cases e; rfl
  | .int b, x, e => by unfold pyOf at e; cases e; rfl
  | .str b, x, e => by unfold pyOf at e; cases e; rfl
  | .tup ds, x, e => by
    unfold pyOf at e
    obtain ⟨xs, e1, rfl⟩ := map_some e
    show PyData.plainAll xs = true
    exact pysOf_plain e1
  | .lst ds, x, e => by
    unfold pyOf at e
    obtain ⟨xs, e1, rfl⟩ := map_some e
    show PyData.plainAll xs = true
    exact pysOf_plain e1
  | .dct es, x, e => by unfold pyOf at e; cases e
  | .ref n, x, e => by unfold pyOf at e; cases e
  | .cls n, x, e => by unfold pyOf at e; cases e
theorem pysOf_plain : ∀ {ds : List D} {xs : List PyData}, pysOf ds = some xs → PyData.plainAll xs = true
  | [], xs, e => by unfold pysOf at e; cases e; rfl
  | d :: ds, xs, e => by
    obtain ⟨x, xr, e1, e2, rfl⟩ := pysOf_cons e
    show (x.plain && PyData.plainAll xr) = true
    rw [pyOf_plain e1, pysOf_plain e2]; rfl
end
theorem pyS_plain {st : Sto} {d : D} {x : PyData} (e : pyS st d = some x) : x.plain = true := by
  cases d with
  | ref n =>
    have e' : (match st[n]? with
      | some (.lst ds) => (pysOf ds).map PyData.list
      | _ => none) = some x := e
    cases es : st[n]? with
    | none => rw [es] at e'; cases e'
    | some o =>
      cases o with
      | lst ds =>
        rw [es] at e'
        obtain ⟨xs, e1, rfl⟩ := map_some e'
        exact (pysOf_plain e1 : PyData.plainAll xs = true)
      | _ => rw [es] at e'; cases e'
  | _ => exact pyOf_plain e
/-- both as data, no deeper than 20 -/
def py2 (st : Sto) (a b : D) : Option (PyData × PyData) := match pyS st a, pyS st b with
  | some x, some y => if x.depth ≤ 20 ∧ y.depth ≤ 20 then some (x, y) else none
  | _, _ => none
theorem py2_some {st : Sto} {a b : D} {p : PyData × PyData} (h : py2 st a b = some p) : pyS st a = some p.1 ∧ pyS st b = some p.2 ∧ p.1.depth ≤ 20 ∧ p.2.depth ≤ 20 := by
  unfold py2 at h
  cases e1 : pyS st a with
  | none => rw [e1] at h; cases h
  | some x =>
    cases e2 : pyS st b with
    | none => rw [e1, e2] at h; cases h
    | some y =>
      rw [e1, e2] at h
      dsimp only at h
      by_cases z : x.depth ≤ 20 ∧ y.depth ≤ 20
      · rw [if_pos z] at h; cases h; exact ⟨rfl, rfl, z.1, z.2⟩
      · rw [if_neg z] at h; cases h
def oEq (st : Sto) (a b : D) : Option D := (py2 st a b).map fun p => .bl (PyData.eqv p.1 p.2)
def oNe (st : Sto) (a b : D) : Option D := (py2 st a b).map fun p => .bl (!PyData.eqv p.1 p.2)
def pyNon : PyData → Bool
  | .none => true
  | _ => false
theorem pyNon_ne {x : PyData} (h : pyNon x = false) : x ≠ .none := fun e => by rw [e] at h; cases h
def oOrd (f : PyData → PyData → Bool) (st : Sto) (a b : D) : Option D := (py2 st a b).bind fun p => if PySem.W.alike p.1 p.2 = true ∧ pyNon p.1 = false then some (.bl (f p.1 p.2)) else none
def oLt : Sto → D → D → Option D := oOrd fun x y => PySem.W.dataLt x y
def oGt : Sto → D → D → Option D := oOrd fun x y => PySem.W.dataLt y x
def oLe : Sto → D → D → Option D := oOrd fun x y => !PySem.W.dataLt y x
def oGe : Sto → D → D → Option D := oOrd fun x y => !PySem.W.dataLt x y
section
variable {X : Cx} {pins : List (Addr × Obj)} {σ : L2.St} {H : Hp} {ρ : List Addr} {st : Sto} {s : Shared}
theorem VP.pure {d : D} {v : V} {u : Value} (I : Inv X pins σ H s) (hs : RelSt X.K X.w H ρ st) (r : RelV v u) (h : Rep X.K X.w H ρ d v) : VP X pins σ H ρ st d u s := ⟨v, H, I, r, Aft.refl hs, h⟩
theorem VP.bl (I : Inv X pins σ H s) (hs : RelSt X.K X.w H ρ st) (b : Bool) : VP X pins σ H ρ st (.bl b) (.bool b) s := VP.pure I hs (v := .bl b) rfl (by unfold Rep; rfl)
end
section
variable {X : Cx}
theorem rep_reads {pins : List (Addr × Obj)} {σ : L2.St} {H : Hp} {ρ : List Addr} {st : Sto} {s : Shared} {d : D} {x : PyData} {v : V} {u : Value} (I : Inv X pins σ H s) (hs : RelSt X.K X.w H ρ st) (r : Rep X.K X.w H ρ d v) (e : pyS st d = some x) (rv : RelV v u) : ∃ as, Reads s.heap u x as := (rep_dpS hs r e).reads I x v u rv
theorem od_eq (hu : X.A.units + 64 < cLine) : OpD X (compareOp .Eq) oEq := by
  intro pins s σ H ρ st x y v u a b d I hs rx ry ra rb e
  obtain ⟨p, e1, rfl⟩ := map_some e
  obtain ⟨h1, h2, h3, h4⟩ := py2_some e1
  obtain ⟨as, r1⟩ := rep_reads I hs ra h1 rx
  obtain ⟨bs, r2⟩ := rep_reads I hs rb h2 ry
  exact SeqAt.eq_plain r1 r2 (pyS_plain h1) (pyS_plain h2) (by omega) (VP.bl I hs _)
theorem od_ne (hu : X.A.units + 64 < cLine) : OpD X (compareOp .NotEq) oNe := by
  intro pins s σ H ρ st x y v u a b d I hs rx ry ra rb e
  obtain ⟨p, e1, rfl⟩ := map_some e
  obtain ⟨h1, h2, h3, h4⟩ := py2_some e1
  obtain ⟨as, r1⟩ := rep_reads I hs ra h1 rx
  obtain ⟨bs, r2⟩ := rep_reads I hs rb h2 ry
  exact SeqAt.ne_plain r1 r2 (pyS_plain h1) (pyS_plain h2) (by omega) (VP.bl I hs _)
theorem oOrd_some {f : PyData → PyData → Bool} {st : Sto} {a b d : D} (h : oOrd f st a b = some d) : ∃ p, py2 st a b = some p ∧ PySem.W.alike p.1 p.2 = true ∧ p.1 ≠ .none ∧ d = .bl (f p.1 p.2) := by
  unfold oOrd at h
  cases e : py2 st a b with
  | none => rw [e] at h; cases h
  | some p =>
    rw [e] at h
    dsimp only [Option.bind] at h
    by_cases z : PySem.W.alike p.1 p.2 = true ∧ pyNon p.1 = false
    · rw [if_pos z] at h; exact ⟨p, rfl, z.1, pyNon_ne z.2, (Option.some.inj h).symm⟩
    · rw [if_neg z] at h; cases h
theorem od_lt (hu : X.A.units + 64 < cLine) : OpD X (compareOp .Lt) oLt := by
  intro pins s σ H ρ st x y v u a b d I hs rx ry ra rb e
  obtain ⟨p, e1, al, nn, rfl⟩ := oOrd_some e
  obtain ⟨h1, h2, h3, h4⟩ := py2_some e1
  obtain ⟨as, r1⟩ := rep_reads I hs ra h1 rx
  obtain ⟨bs, r2⟩ := rep_reads I hs rb h2 ry
  exact PySem.W.lt_data r1 r2 al nn (by omega) (VP.bl I hs _)
theorem od_gt (hu : X.A.units + 64 < cLine) : OpD X (compareOp .Gt) oGt := by
  intro pins s σ H ρ st x y v u a b d I hs rx ry ra rb e
  obtain ⟨p, e1, al, nn, rfl⟩ := oOrd_some e
  obtain ⟨h1, h2, h3, h4⟩ := py2_some e1
  obtain ⟨as, r1⟩ := rep_reads I hs ra h1 rx
  obtain ⟨bs, r2⟩ := rep_reads I hs rb h2 ry
  exact PySem.W.gt_data r1 r2 al nn (by omega) (VP.bl I hs _)
theorem od_le (hu : X.A.units + 64 < cLine) : OpD X (compareOp .LtE) oLe := by
  intro pins s σ H ρ st x y v u a b d I hs rx ry ra rb e
  obtain ⟨p, e1, al, nn, rfl⟩ := oOrd_some e
  obtain ⟨h1, h2, h3, h4⟩ := py2_some e1
  obtain ⟨as, r1⟩ := rep_reads I hs ra h1 rx
  obtain ⟨bs, r2⟩ := rep_reads I hs rb h2 ry
  exact PySem.W.le_data r1 r2 al nn (by omega) (VP.bl I hs _)
theorem od_ge (hu : X.A.units + 64 < cLine) : OpD X (compareOp .GtE) oGe := by
  intro pins s σ H ρ st x y v u a b d I hs rx ry ra rb e
  obtain ⟨p, e1, al, nn, rfl⟩ := oOrd_some e
  obtain ⟨h1, h2, h3, h4⟩ := py2_some e1
  obtain ⟨as, r1⟩ := rep_reads I hs ra h1 rx
  obtain ⟨bs, r2⟩ := rep_reads I hs rb h2 ry
  exact PySem.W.ge_data r1 r2 al nn (by omega) (VP.bl I hs _)
end

/-! ### from the layer's rules -/
section
variable {X : Cx}
theorem OpD.of {F : Value → Value → Sem Value} {r : R2} {op : Sto → D → D → Option D} (h : OpR X F r)
    (hr : ∀ (H : Hp) (ρ : List Addr) (st : Sto) (x y : V) (a b d : D), RelSt X.K X.w H ρ st → Rep X.K X.w H ρ a x → Rep X.K X.w H ρ b y → op st a b = some d → r x y H fun z H' => Aft X.K X.w H ρ st H' ρ ∧ Rep X.K X.w H' ρ d z) : OpD X F op := by
  intro pins s σ H ρ st x y v u a b d I hs rx ry ra rb e
  exact thn (h pins s σ H x y v u _ I rx ry (hr H ρ st x y a b d hs ra rb e)) fun r' s' ⟨z, H', I', rv, af, rz⟩ => ⟨z, H', I', rv, af, rz⟩
theorem UnD.of {F : Value → Sem Value} {r : V → Hp → VK → Prop} {op : Sto → D → Option D} (h : UnR X F r)
    (hr : ∀ (H : Hp) (ρ : List Addr) (st : Sto) (x : V) (a d : D), RelSt X.K X.w H ρ st → Rep X.K X.w H ρ a x → op st a = some d → r x H fun z H' => Aft X.K X.w H ρ st H' ρ ∧ Rep X.K X.w H' ρ d z) : UnD X F op := by
  intro pins s σ H ρ st x v a d I hs rx ra e
  exact thn (h pins s σ H x v _ I rx (hr H ρ st x a d hs ra e)) fun r' s' ⟨z, H', I', rv, af, rz⟩ => ⟨z, H', I', rv, af, rz⟩
theorem CallD.of {f : Value} {r : List V → Hp → VK → Prop} {op : Sto → List D → Option D} (h : CallR X f r)
    (hr : ∀ (H : Hp) (ρ : List Addr) (st : Sto) (xs : List V) (as : List D) (d : D), RelSt X.K X.w H ρ st → Reps X.K X.w H ρ as xs → op st as = some d → r xs H fun z H' => Aft X.K X.w H ρ st H' ρ ∧ Rep X.K X.w H' ρ d z) : CallD X f op := by
  intro pins s σ H ρ st xs us as d I hs rx ra e
  exact thn (h pins s σ H xs us _ I rx (hr H ρ st xs as d hs ra e)) fun r' s' ⟨z, H', I', rv, af, rz⟩ => ⟨z, H', I', rv, af, rz⟩
theorem OpD.orElse {F : Value → Value → Sem Value} {op op' : Sto → D → D → Option D} (h : OpD X F op) (h' : OpD X F op') : OpD X F fun st a b => (op st a b).or (op' st a b) := by
  intro pins s σ H ρ st x y v u a b d I hs rx ry ra rb e
  dsimp only at e
  cases q : op st a b with
  | some d' => rw [q] at e; cases e; exact h pins s σ H ρ st x y v u a b _ I hs rx ry ra rb q
  | none => rw [q] at e; exact h' pins s σ H ρ st x y v u a b _ I hs rx ry ra rb e
theorem CallD.orElse {f : Value} {op op' : Sto → List D → Option D} (h : CallD X f op) (h' : CallD X f op') : CallD X f fun st as => (op st as).or (op' st as) := by
  intro pins s σ H ρ st xs us as d I hs rx ra e
  dsimp only at e
  cases q : op st as with
  | some d' => rw [q] at e; cases e; exact h pins s σ H ρ st xs us as _ I hs rx ra q
  | none => rw [q] at e; exact h' pins s σ H ρ st xs us as _ I hs rx ra e
/-- .. what they give is frozen -/
def lockV (H' : Hp) (Q : VK) (v : V) : Prop := Q v H' ∨ ∃ a u, v = .ref a ∧ H' a = some u ∧ Mut (some u) ∧ ∀ od, Q v (upd H' a (.frz od u))
theorem EP.lock {pins : List (Addr × Obj)} {σ : L2.St} {Q : VK} {u : Value} {s' : Shared} (h : EP X pins σ (fun v H' => lockV H' Q v) u s') : EP X pins σ Q u s' := by
  obtain ⟨x, H', I', r, q⟩ := h
  rcases q with q | ⟨a, u, ex, eu, mu, q⟩
  · exact ⟨x, H', I', r, q⟩
  · obtain ⟨od, I2⟩ := I'.lock eu mu
    exact ⟨x, _, I2, r, q od⟩
theorem OpR.lock {F : Value → Value → Sem Value} {r : R2} (h : OpR X F r) : OpR X F fun x y H Q => r x y H fun v H' => lockV H' Q v :=
  fun pins s σ H x y v u Q I rx ry q => thn (h pins s σ H x y v u _ I rx ry q) fun _ _ z => EP.lock z
theorem CallR.lock {f : Value} {r : List V → Hp → VK → Prop} (h : CallR X f r) : CallR X f fun xs H Q => r xs H fun v H' => lockV H' Q v :=
  fun pins s σ H xs us Q I rx q => thn (h pins s σ H xs us _ I rx q) fun _ _ z => EP.lock z
theorem MtR.lock {id : String} {r : V → List V → Hp → VK → Prop} (h : MtR X id r) : MtR X id fun x xs H Q => r x xs H fun v H' => lockV H' Q v :=
  fun pins s σ H x xs v us Q I rx rs q => thn (h pins s σ H x xs v us _ I rx rs q) fun _ _ z => EP.lock z
theorem SlR.lock {r : V → Option Int → Option Int → Hp → VK → Prop} (h : SlR X r) : SlR X fun x lo hi H Q => r x lo hi H fun v H' => lockV H' Q v :=
  fun pins s σ H x v vl vu lo hi sl Q I rx hsl pl pu q => by
    obtain ⟨T, id, h1, h2, h3⟩ := h pins s σ H x v vl vu lo hi sl _ I rx hsl pl pu q
    exact ⟨T, id, h1, h2, thn h3 fun _ _ z => EP.lock z⟩
/-- a new list, frozen -/
theorem new_lst {H : Hp} {ρ : List Addr} {st : Sto} {p : Addr} {ds : List D} {vs : List V} (hs : RelSt X.K X.w H ρ st) (hp : H p = none) (rs : Reps X.K X.w H ρ ds vs) (z : ds.length ≤ sizeLine) :
    lockV (upd H p (.lst vs)) (fun z H' => Aft X.K X.w H ρ st H' ρ ∧ Rep X.K X.w H' ρ (.lst ds) z) (.ref p) := by
  refine .inr ⟨p, _, rfl, upd_same, trivial, fun od => ?_⟩
  rw [upd_upd]
  refine ⟨Aft.fresh hs hp, ?_⟩
  unfold Rep
  exact ⟨p, vs, rfl, (.inl ⟨od, upd_same⟩), z, rs.stay (Stays.new hp) (List.prefix_refl _)⟩
theorem new_tup {H : Hp} {ρ : List Addr} {st : Sto} {p : Addr} {ds : List D} {vs : List V} (hs : RelSt X.K X.w H ρ st) (hp : H p = none) (rs : Reps X.K X.w H ρ ds vs) (z : ds.length ≤ sizeLine) :
    Aft X.K X.w H ρ st (upd H p (.tup vs)) ρ ∧ Rep X.K X.w (upd H p (.tup vs)) ρ (.tup ds) (.ref p) := by
  refine ⟨Aft.fresh hs hp, ?_⟩
  unfold Rep
  exact ⟨p, vs, rfl, SqT.of upd_same, z, rs.stay (Stays.new hp) (List.prefix_refl _)⟩

/-! ### arithmetic -/
def oInt (f : Int → Int → Option Int) : Sto → D → D → Option D
  | _, .int i, .int j => (f i j).map .int
  | _, _, _ => none
theorem OpD.int {F : Value → Value → Sem Value} {C : Int → Int → Prop} {g : Int → Int → Int} {f : Int → Int → Option Int} (h : OpR X F (rI C fun i j => .int (g i j))) (hf : ∀ i j k, f i j = some k → C i j ∧ k = g i j) : OpD X F (oInt f) := by
  refine OpD.of h fun H ρ st x y a b d hs ra rb e => ?_
  cases a with
  | int i =>
    cases b with
    | int j =>
      unfold Rep at ra rb
      obtain ⟨k, e1, rfl⟩ := map_some (show (f i j).map D.int = some d from e)
      obtain ⟨h1, rfl⟩ := hf i j k e1
      exact ⟨i, j, ra, rb, h1, Aft.refl hs, by unfold Rep; rfl⟩
    | _ => cases e
  | _ => cases e
theorem OpD.int0 {F : Value → Value → Sem Value} {g : Int → Int → Int} (h : OpR X F (rI0 fun i j => .int (g i j))) : OpD X F (oInt fun i j => some (g i j)) := by
  refine OpD.of h fun H ρ st x y a b d hs ra rb e => ?_
  cases a with
  | int i =>
    cases b with
    | int j =>
      unfold Rep at ra rb
      cases e
      exact ⟨i, j, ra, rb, Aft.refl hs, by unfold Rep; rfl⟩
    | _ => cases e
  | _ => cases e
def oSub : Sto → D → D → Option D := oInt fun i j => some (i - j)
theorem od_sub : OpD X (binaryOp .Sub) oSub := OpD.int0 op_sub
def oMod : Sto → D → D → Option D := oInt fun i j => if 0 < j then some (i % j) else none
theorem od_mod : OpD X (binaryOp .Mod) oMod := OpD.int op_mod fun i j k e => by
  by_cases z : 0 < j
  · rw [if_pos z] at e; cases e; exact ⟨z, rfl⟩
  · rw [if_neg z] at e; cases e
def oDiv : Sto → D → D → Option D := oInt fun i j => if 0 < j ∧ j.natAbs.log2 < 9000 then some (i / j) else none
theorem od_div : OpD X (binaryOp .FloorDiv) oDiv := OpD.int op_fdivW fun i j k e => by
  by_cases z : 0 < j ∧ j.natAbs.log2 < 9000
  · rw [if_pos z] at e; cases e; exact ⟨z, rfl⟩
  · rw [if_neg z] at e; cases e
def powOk (i j : Int) : Bool := decide (0 ≤ j ∧ (Builtin.Int.intBits i : Int) * j ≤ 2 ^ 27)
theorem op_powW : OpR X (binaryOp .Pow) (rI (fun i j => 0 ≤ j ∧ (Builtin.Int.intBits i : Int) * j ≤ 2 ^ 27) fun i j => .int (i ^ j.toNat)) := opI fun _ _ _ _ _ _ _ hc q => pow_int hc.1 hc.2 q
def oPow : Sto → D → D → Option D := oInt fun i j => if powOk i j = true then some (i ^ j.toNat) else none
theorem od_pow : OpD X (binaryOp .Pow) oPow := OpD.int op_powW fun i j k e => by
  by_cases z : powOk i j = true
  · rw [if_pos z] at e; cases e; exact ⟨of_decide_eq_true z, rfl⟩
  · rw [if_neg z] at e; cases e
def oBand : Sto → D → D → Option D := oInt fun i j => some (Builtin.bitAnd i j)
theorem od_band : OpD X (binaryOp .BitAnd) oBand := OpD.int0 op_and
def mulOk (i j : Int) : Bool := decide (i.natAbs.log2 + j.natAbs.log2 < 1000000)
def oMulI : Sto → D → D → Option D := oInt fun i j => if mulOk i j = true then some (i * j) else none
theorem mulOk_ok {i j : Int} (h : mulOk i j = true) : CMulW i j := by
  have h' : i.natAbs.log2 + j.natAbs.log2 < 1000000 := of_decide_eq_true h
  exact h'
theorem od_mulI : OpD X (binaryOp .Mult) oMulI := OpD.int op_mulW fun i j k e => by
  by_cases z : mulOk i j = true
  · rw [if_pos z] at e; cases e; exact ⟨mulOk_ok z, rfl⟩
  · rw [if_neg z] at e; cases e
def oNeg : Sto → D → Option D
  | _, .int i => some (.int (-i))
  | _, _ => none
theorem od_neg : UnD X (unaryOp .USub) oNeg := UnD.of un_neg fun H ρ st x a d hs ra e => by
  cases a with
  | int i =>
    unfold Rep at ra
    cases e
    exact ⟨i, ra, Aft.refl hs, by unfold Rep; rfl⟩
  | _ => cases e
end
/-- the items of a list -/
def listOf (st : Sto) : D → Option (List D)
  | .lst ds => some ds
  | .ref n => match st[n]? with
    | some (.lst ds) => some ds
    | _ => none
  | _ => none
section
variable {X : Cx}
theorem listOf_ok {H : Hp} {ρ : List Addr} {st : Sto} {d : D} {x : V} {xs : List D} (hs : RelSt X.K X.w H ρ st) (r : Rep X.K X.w H ρ d x) (e : listOf st d = some xs) :
    ∃ p vs, x = .ref p ∧ SqL X.K H p vs ∧ xs.length ≤ sizeLine ∧ Reps X.K X.w H ρ xs vs := by
  cases d with
  | lst ds =>
    cases e
    unfold Rep at r
    obtain ⟨a, vs, rfl, q, z, rs⟩ := r
    exact ⟨a, vs, rfl, q.sq, z, rs⟩
  | ref n =>
    unfold Rep at r
    obtain ⟨a, ea, rfl⟩ := r
    have e' : (match st[n]? with
      | some (.lst ds) => some ds
      | _ => none) = some xs := e
    cases es : st[n]? with
    | none => rw [es] at e'; cases e'
    | some o =>
      cases o with
      | lst ds =>
        rw [es] at e'
        cases e'
        obtain ⟨vs, q, z, rs⟩ := hs.lst es ea
        exact ⟨a, vs, rfl, SqL.of q, z, rs⟩
      | _ => rw [es] at e'; cases e'
  | _ => cases e
theorem op_catL : OpR X (binaryOp .Add) (fun x y H Q => ∃ a b xs ys, x = .ref a ∧ y = .ref b ∧ SqL X.K H a xs ∧ SqL X.K H b ys ∧ xs.length + ys.length ≤ sizeLine ∧ ∀ p, H p = none → Q (.ref p) (upd H p (.lst (xs ++ ys)))) := by
  intro pins s σ H x y v u Q I rx ry h
  obtain ⟨a, b, xs, ys, rfl, rfl, ha, hb, hz, q⟩ := h
  cases rx
  cases ry
  obtain ⟨its, r1, p1, _⟩ := I.list ha
  obtain ⟨its2, r2, p2, _⟩ := I.list hb
  have l1 := r1.length
  have l2 := r2.length
  obtain ⟨⟨cls, dd, data, sl⟩, ho, hc, n, hd⟩ := id p1.isList
  obtain ⟨⟨cls2, dd2, data2, sl2⟩, ho2, hc2, n2, hd2⟩ := id p2.isList
  simp only at hc hd hc2 hd2
  subst hc hd hc2 hd2
  have e : its.toArray ++ its2.toArray = (its ++ its2).toArray := by simp
  refine concat_meets ⟨_, ho, rfl⟩ ⟨_, ho2, rfl⟩ noFill_list_add seq_list_add PySem.F.slot_list_add PySem.F.entry_list_add (PySem.F.args_list_add_2 _ _) (PyProof.Rows.list_addW a b its.toArray its2.toArray n n2 dd dd2 sl sl2 (by simp only [List.size_toArray]; omega)) ⟨ho, ho2, ?_⟩
  rw [e]
  exact ⟨.ref _, _, I.lnew (t' := s.toks) (r1.append r2) (by rw [List.length_append]; omega), rfl, q _ I.fresh⟩
/-- + -/
def oAdd (st : Sto) (a b : D) : Option D := match a, b with
  | .int i, .int j => some (.int (i + j))
  | .str x, .str y => if x.length + y.length ≤ sizeLine then some (.str (x ++ y)) else none
  | .tup xs, .tup ys => if xs.length + ys.length ≤ sizeLine then some (.tup (xs ++ ys)) else none
  | a, b => match listOf st a, listOf st b with
    | some xs, some ys => if xs.length + ys.length ≤ sizeLine then some (.lst (xs ++ ys)) else none
    | _, _ => none
def oAddI (st : Sto) (a b : D) : Option D := match a, b with
  | .int i, .int j => some (.int (i + j))
  | _, _ => none
def oAddS (st : Sto) (a b : D) : Option D := match a, b with
  | .str x, .str y => if x.length + y.length ≤ sizeLine then some (.str (x ++ y)) else none
  | _, _ => none
def oAddT (st : Sto) (a b : D) : Option D := match a, b with
  | .tup xs, .tup ys => if xs.length + ys.length ≤ sizeLine then some (.tup (xs ++ ys)) else none
  | _, _ => none
def oAddL (st : Sto) (a b : D) : Option D := match listOf st a, listOf st b with
  | some xs, some ys => if xs.length + ys.length ≤ sizeLine then some (.lst (xs ++ ys)) else none
  | _, _ => none
theorem od_addI : OpD X (binaryOp .Add) oAddI := OpD.of op_add fun H ρ st x y a b d hs ra rb e => by
  cases a with
  | int i =>
    cases b with
    | int j =>
      unfold Rep at ra rb
      cases e
      exact ⟨i, j, ra, rb, Aft.refl hs, by unfold Rep; rfl⟩
    | _ => cases e
  | _ => cases e
theorem od_addS : OpD X (binaryOp .Add) oAddS := OpD.of op_add_str fun H ρ st x y a b d hs ra rb e => by
  cases a with
  | str i =>
    cases b with
    | str j =>
      unfold Rep at ra rb
      have e' : (if i.length + j.length ≤ sizeLine then some (D.str (i ++ j)) else none) = some d := e
      by_cases z : i.length + j.length ≤ sizeLine
      · rw [if_pos z] at e'; cases e'
        exact ⟨i, j, ra, rb, z, Aft.refl hs, by unfold Rep; rfl⟩
      · rw [if_neg z] at e'; cases e'
    | _ => cases e
  | _ => cases e
theorem od_addT : OpD X (binaryOp .Add) oAddT := OpD.of op_catA fun H ρ st x y a b d hs ra rb e => by
  cases a with
  | tup i =>
    cases b with
    | tup j =>
      have e' : (if i.length + j.length ≤ sizeLine then some (D.tup (i ++ j)) else none) = some d := e
      by_cases z : i.length + j.length ≤ sizeLine
      · rw [if_pos z] at e'; cases e'
        have ra' := ra
        have rb' := rb
        unfold Rep at ra' rb'
        obtain ⟨p, vs, rfl, q1, z1, r1⟩ := ra'
        obtain ⟨p2, vs2, rfl, q2, z2, r2⟩ := rb'
        refine ⟨p, p2, vs, vs2, rfl, rfl, q1, q2, by rw [r1.length, r2.length]; exact z, fun e1 => ?_, fun _ e2 => ?_, fun _ _ q hq => ?_⟩
        · subst e1
          have : i = [] := List.eq_nil_of_length_eq_zero (by rw [← r1.length]; rfl)
          subst this
          exact ⟨Aft.refl hs, rb⟩
        · subst e2
          have : j = [] := List.eq_nil_of_length_eq_zero (by rw [← r2.length]; rfl)
          subst this
          rw [List.append_nil]
          exact ⟨Aft.refl hs, ra⟩
        · exact new_tup hs hq (r1.append r2) (by rw [List.length_append]; exact z)
      · rw [if_neg z] at e'; cases e'
    | _ => cases e
  | _ => cases e
theorem od_addL : OpD X (binaryOp .Add) oAddL := OpD.of (OpR.lock op_catL) fun H ρ st x y a b d hs ra rb e => by
  unfold oAddL at e
  cases e1 : listOf st a with
  | none => rw [e1] at e; cases e
  | some xs =>
    cases e2 : listOf st b with
    | none => rw [e1, e2] at e; cases e
    | some ys =>
      rw [e1, e2] at e
      dsimp only at e
      by_cases z : xs.length + ys.length ≤ sizeLine
      · rw [if_pos z] at e; cases e
        obtain ⟨p, vs, rfl, q1, z1, r1⟩ := listOf_ok hs ra e1
        obtain ⟨p2, vs2, rfl, q2, z2, r2⟩ := listOf_ok hs rb e2
        exact ⟨p, p2, vs, vs2, rfl, rfl, q1, q2, by rw [r1.length, r2.length]; exact z, fun q hq => new_lst hs hq (r1.append r2) (by rw [List.length_append]; exact z)⟩
      · rw [if_neg z] at e; cases e
theorem oAdd_eq (st : Sto) (a b : D) : oAdd st a b = (oAddI st a b).or ((oAddS st a b).or ((oAddT st a b).or (oAddL st a b))) := by
  cases a <;> cases b <;> simp [oAdd, oAddI, oAddS, oAddT, oAddL, listOf]
theorem od_add : OpD X (binaryOp .Add) oAdd := by
  have h := (od_addI (X := X)).orElse (od_addS.orElse (od_addT.orElse od_addL))
  have e : oAdd = fun st a b => (oAddI st a b).or ((oAddS st a b).or ((oAddT st a b).or (oAddL st a b))) := by
    funext st a b
    exact oAdd_eq st a b
  rw [e]
  exact h

/-! ### in -/
def oIn (st : Sto) (a b : D) : Option D := match b with
  | .str z => (match a with
    | .str x => (match x.cps.toList with
      | [c] => some (.bl (decide (c ∈ z.cps.toList)))
      | _ => none)
    | _ => none)
  | b => (match itemsOf st b with
    | some ds => (py2 st a (.tup ds)).bind fun p => match p.2 with
      | .tuple xs => some (.bl (xs.any fun y => PyData.eqv y p.1))
      | _ => none
    | none => none)
def oNotIn (st : Sto) (a b : D) : Option D := match oIn st a b with
  | some (.bl k) => some (.bl (!k))
  | _ => none
theorem oIn_seq {st : Sto} {a b d : D} {ds : List D} (h : (py2 st a (.tup ds)).bind (fun p => match p.2 with
      | .tuple xs => some (D.bl (xs.any fun y => PyData.eqv y p.1))
      | _ => none) = some d) : ∃ x xs, pyS st a = some x ∧ pysOf ds = some xs ∧ x.depth ≤ 20 ∧ PyData.depthAll xs ≤ 20 ∧ d = .bl (xs.any fun y => PyData.eqv y x) := by
  cases e : py2 st a (.tup ds) with
  | none => rw [e] at h; cases h
  | some p =>
    rw [e] at h
    obtain ⟨h1, h2, h3, h4⟩ := py2_some e
    have h2' : pyOf (.tup ds) = some p.2 := h2
    unfold pyOf at h2'
    obtain ⟨xs, e1, e2⟩ := map_some h2'
    dsimp only [Option.bind] at h
    rw [e2] at h h4
    refine ⟨p.1, xs, h1, e1, h3, ?_, (Option.some.inj h).symm⟩
    have : PyData.depth (.tuple xs) = PyData.depthAll xs + 1 := by simp [PyData.depth]
    omega
theorem str1 {x : Str} {c : Nat} (h : x.cps.toList = [c]) : x = ⟨#[c]⟩ := by
  cases x with
  | mk cps =>
    have : cps = #[c] := Array.toList_inj.mp h
    rw [this]
theorem reads_seq {pins : List (Addr × Obj)} {σ : L2.St} {H : Hp} {ρ : List Addr} {st : Sto} {s : Shared} {b : D} {y : V} {u : Value} {ds : List D} {xs : List PyData} (I : Inv X pins σ H s) (hs : RelSt X.K X.w H ρ st) (rb : Rep X.K X.w H ρ b y) (ry : RelV y u) (ei : itemsOf st b = some ds) (hx : pysOf ds = some xs) :
    (∃ as, Reads s.heap u (.tuple xs) as) ∨ ∃ as, Reads s.heap u (.list xs) as := by
  obtain ⟨p, vs, rfl, hq, rs⟩ := itemsOf_ok hs rb ei
  rcases hq with hq | hq
  · exact .inl ((Dp.tup hq (rs.dp hx)).reads I _ _ u ry)
  · exact .inr ((Dp.lst hq (rs.dp hx)).reads I _ _ u ry)
theorem od_in (hu : X.A.units + 64 < cLine) : OpD X (compareOp .In) oIn := by
  intro pins s σ H ρ st x y v u a b d I hs rx ry ra rb e
  have key : ∀ ds, itemsOf st b = some ds → (py2 st a (.tup ds)).bind (fun p => match p.2 with
      | .tuple xs => some (D.bl (xs.any fun y => PyData.eqv y p.1))
      | _ => none) = some d → wpAny (model X.prog X.w) X.A (compareOp .In v u) (VP X pins σ H ρ st d) X.xe s := fun ds ei h => by
    obtain ⟨z, xs, h1, h2, h3, h4, rfl⟩ := oIn_seq (b := b) h
    obtain ⟨bs, r2⟩ := rep_reads I hs ra h1 rx
    rcases reads_seq I hs rb ry ei h2 with ⟨as, r1⟩ | ⟨as, r1⟩
    · exact SeqAt.in_tuple_data r1 r2 (pysOf_plain h2) (pyS_plain h1) (by omega) (VP.bl I hs _)
    · exact SeqAt.in_list_data r1 r2 (pysOf_plain h2) (pyS_plain h1) (by omega) (VP.bl I hs _)
  cases b with
  | str z =>
    cases a with
    | str x' =>
      have e' : (match x'.cps.toList with
        | [c] => some (D.bl (decide (c ∈ z.cps.toList)))
        | _ => none) = some d := e
      match hx : x'.cps.toList, e' with
      | [c], e' =>
        cases e'
        unfold Rep at ra rb
        subst ra rb
        rw [str1 hx] at rx
        exact thn (op_in_sign pins s σ H (.str ⟨#[c]⟩) (.str z) v u (fun r H' => H' = H ∧ r = .bl (decide (c ∈ z.cps.toList))) I rx ry ⟨c, z, rfl, rfl, rfl, rfl⟩) fun r s' hv => by
          obtain ⟨r', H', I', rv, rfl, rfl⟩ := hv
          exact VP.pure I' hs rv (by unfold Rep; rfl)
    | _ => cases e
  | tup ds => exact key ds rfl e
  | lst ds => exact key ds rfl e
  | ref n =>
    cases ei : itemsOf st (.ref n) with
    | none =>
      have e' : (match itemsOf st (.ref n) with
        | some ds => (py2 st a (.tup ds)).bind fun p => match p.2 with
          | .tuple xs => some (D.bl (xs.any fun y => PyData.eqv y p.1))
          | _ => none
        | none => none) = some d := e
      rw [ei] at e'
      cases e'
    | some ds =>
      have e' : (match itemsOf st (.ref n) with
        | some ds => (py2 st a (.tup ds)).bind fun p => match p.2 with
          | .tuple xs => some (D.bl (xs.any fun y => PyData.eqv y p.1))
          | _ => none
        | none => none) = some d := e
      rw [ei] at e'
      exact key ds ei e'
  | _ => cases e
theorem oNotIn_some {st : Sto} {a b d : D} (h : oNotIn st a b = some d) : ∃ k, oIn st a b = some (.bl k) ∧ d = .bl (!k) := by
  unfold oNotIn at h
  split at h
  · rename_i k e
    exact ⟨k, e, (Option.some.inj h).symm⟩
  · cases h
theorem od_notIn (hu : X.A.units + 64 < cLine) : OpD X (compareOp .NotIn) oNotIn := by
  intro pins s σ H ρ st x y v u a b d I hs rx ry ra rb e0
  obtain ⟨k, e, rfl⟩ := oNotIn_some e0
  have key : ∀ ds, itemsOf st b = some ds → (py2 st a (.tup ds)).bind (fun p => match p.2 with
      | .tuple xs => some (D.bl (xs.any fun y => PyData.eqv y p.1))
      | _ => none) = some (.bl k) → wpAny (model X.prog X.w) X.A (compareOp .NotIn v u) (VP X pins σ H ρ st (.bl (!k))) X.xe s := fun ds ei h => by
    obtain ⟨z, xs, h1, h2, h3, h4, ek⟩ := oIn_seq (b := b) h
    cases ek
    obtain ⟨bs, r2⟩ := rep_reads I hs ra h1 rx
    rcases reads_seq I hs rb ry ei h2 with ⟨as, r1⟩ | ⟨as, r1⟩
    · exact SeqAt.notIn_tuple_data r1 r2 (pysOf_plain h2) (pyS_plain h1) (by omega) (VP.bl I hs _)
    · exact SeqAt.notIn_list_data r1 r2 (pysOf_plain h2) (pyS_plain h1) (by omega) (VP.bl I hs _)
  cases b with
  | str z =>
    cases a with
    | str x' =>
      have e' : (match x'.cps.toList with
        | [c] => some (D.bl (decide (c ∈ z.cps.toList)))
        | _ => none) = some (.bl k) := e
      match hx : x'.cps.toList, e' with
      | [c], e' =>
        cases e'
        unfold Rep at ra rb
        subst ra rb
        rw [str1 hx] at rx
        exact thn (op_notIn_sign pins s σ H (.str ⟨#[c]⟩) (.str z) v u (fun r H' => H' = H ∧ r = .bl (!decide (c ∈ z.cps.toList))) I rx ry ⟨c, z, rfl, rfl, rfl, rfl⟩) fun r s' hv => by
          obtain ⟨r', H', I', rv, rfl, rfl⟩ := hv
          exact VP.pure I' hs rv (by unfold Rep; rfl)
    | _ => cases e
  | tup ds => exact key ds rfl e
  | lst ds => exact key ds rfl e
  | ref n =>
    cases ei : itemsOf st (.ref n) with
    | none =>
      have e' : (match itemsOf st (.ref n) with
        | some ds => (py2 st a (.tup ds)).bind fun p => match p.2 with
          | .tuple xs => some (D.bl (xs.any fun y => PyData.eqv y p.1))
          | _ => none
        | none => none) = some (.bl k) := e
      rw [ei] at e'
      cases e'
    | some ds =>
      have e' : (match itemsOf st (.ref n) with
        | some ds => (py2 st a (.tup ds)).bind fun p => match p.2 with
          | .tuple xs => some (D.bl (xs.any fun y => PyData.eqv y p.1))
          | _ => none
        | none => none) = some (.bl k) := e
      rw [ei] at e'
      exact key ds ei e'
  | _ => cases e

/-! ### is None -/
def D.isNon : D → Bool
  | .non => true
  | _ => false
def oIsN (_ : Sto) (a b : D) : Option D := match b with
  | .non => some (.bl a.isNon)
  | _ => none
def oNotN (_ : Sto) (a b : D) : Option D := match b with
  | .non => some (.bl (!a.isNon))
  | _ => none
theorem rep_non {K : PySem.W.Frag} {w : World} {H : Hp} {ρ : List Addr} {a : D} {x : V} (r : Rep K w H ρ a x) : decide (x = .non) = a.isNon := by
  cases a <;> unfold Rep at r
  case non => subst r; rfl
  case bl => subst r; rfl
  case int => subst r; rfl
  case str => subst r; rfl
  case tup => obtain ⟨p, _, rfl, _⟩ := r; rfl
  case lst => obtain ⟨p, _, rfl, _⟩ := r; rfl
  case dct => obtain ⟨p, _, _, rfl, _⟩ := r; rfl
  case ref => obtain ⟨p, _, rfl⟩ := r; rfl
  case cls => subst r; rfl
theorem od_isN : OpD X (compareOp .Is) oIsN := OpD.of op_isN fun H ρ st x y a b d hs ra rb e => by
  cases b with
  | non =>
    cases e
    unfold Rep at rb
    exact ⟨rb, Aft.refl hs, by rw [rep_non ra]; unfold Rep; rfl⟩
  | _ => cases e
theorem od_notN : OpD X (compareOp .IsNot) oNotN := OpD.of op_notN fun H ρ st x y a b d hs ra rb e => by
  cases b with
  | non =>
    cases e
    unfold Rep at rb
    exact ⟨rb, Aft.refl hs, by rw [rep_non ra]; unfold Rep; rfl⟩
  | _ => cases e

/-! ### chains -/
section
variable {a b c : Expr} {f g h : SemE} {pos : Pos}
def sChain (F G : Sto → D → D → Option D) (f g h : SemE) : SemE := fun env st => (f env st).bind fun x st1 => (g env st1).bind fun y st2 => match F st2 x y with
  | some (.bl true) => (h env st2).bind fun z st3 => ofO (G st3 y z) st3
  | some (.bl false) => .ok (.bl false) st2
  | _ => .bad
end

/-! ### subscripts -/
def oIx (st : Sto) (a b : D) : Option D := match b with
  | .int i => (match a with
    | .str z => if z.length ≤ sizeLine then (atI z.cps.toList i).map fun c => .str ⟨#[c]⟩ else none
    | a => (itemsOf st a).bind fun ds => atI ds i)
  | _ => none
theorem atI_map {α β : Type} {xs : List α} {i : Int} {v : α} (h : atI xs i = some v) : ∃ j, ixN xs.length i = some j ∧ xs[j]? = some v := by
  unfold atI at h
  cases e : ixN xs.length i with
  | none => rw [e] at h; cases h
  | some j => rw [e] at h; exact ⟨j, rfl, h⟩
theorem atI_reps {H : Hp} {ρ : List Addr} {ds : List D} {vs : List V} {i : Int} {d : D} (rs : Reps X.K X.w H ρ ds vs) (h : atI ds i = some d) : ∃ v, atI vs i = some v ∧ Rep X.K X.w H ρ d v := by
  obtain ⟨j, e1, e2⟩ := atI_map (β := Nat) h
  obtain ⟨v, e3, r⟩ := rs.get e2
  refine ⟨v, ?_, r⟩
  unfold atI
  rw [rs.length, e1]
  exact e3
theorem ixd : IxR X fun x y H Q => ∃ σ ρ env st a b, At X σ H ρ env st ∧ Rep X.K X.w H ρ a x ∧ Rep X.K X.w H ρ b y ∧ RR X σ H ρ (ofO (oIx st a b) st) fun d _ H' ρ' => ∀ v, Rep X.K X.w H' ρ' d v → Q v H' := by
  intro value slice pins s σ H x y v u Q I rx ry q hs
  obtain ⟨σ', ρ, env, st, a, b, at_, ra, rb, q⟩ := q
  refine ix_seq value slice pins s σ H x y v u Q I rx ry ?_ hs
  cases b with
  | int i =>
    unfold Rep at rb
    have key : ∀ ds d, itemsOf st a = some ds → atI ds i = some d → oIx st a (.int i) = some d → rIx X.K x y H Q := fun ds d ei ea eo => by
      rw [eo] at q
      obtain ⟨p, vs, rfl, hq, rs⟩ := itemsOf_ok at_.st ra ei
      obtain ⟨z, ez, rz⟩ := atI_reps rs ea
      have q' : Q z H := q H ρ (Aft.refl at_.st) z rz
      rcases hq with hq | hq
      · exact .inr (.inl ⟨p, vs, i, z, rfl, rb, hq, ez, q'⟩)
      · exact .inl ⟨p, vs, i, z, rfl, rb, hq, ez, q'⟩
    cases a with
    | str z =>
      have q' : RR X σ' H ρ (ofO (if z.length ≤ sizeLine then (atI z.cps.toList i).map fun c => D.str ⟨#[c]⟩ else none) st) fun d _ H' ρ' => ∀ v, Rep X.K X.w H' ρ' d v → Q v H' := q
      by_cases hz : z.length ≤ sizeLine
      · rw [if_pos hz] at q'
        cases e : atI z.cps.toList i with
        | none => rw [e] at q'; exact q'.elim
        | some c =>
          rw [e] at q'
          unfold Rep at ra
          exact .inr (.inr ⟨z, i, c, ra, rb, hz, e, q' H ρ (Aft.refl at_.st) _ (by unfold Rep; rfl)⟩)
      · rw [if_neg hz] at q'; exact q'.elim
    | tup ds =>
      cases e : atI ds i with
      | none =>
        have : oIx st (.tup ds) (.int i) = none := by simpa [oIx, itemsOf] using e
        rw [this] at q; exact q.elim
      | some d => exact key ds d rfl e (by simpa [oIx, itemsOf] using e)
    | lst ds =>
      cases e : atI ds i with
      | none =>
        have : oIx st (.lst ds) (.int i) = none := by simpa [oIx, itemsOf] using e
        rw [this] at q; exact q.elim
      | some d => exact key ds d rfl e (by simpa [oIx, itemsOf] using e)
    | ref n =>
      cases ei : itemsOf st (.ref n) with
      | none =>
        have : oIx st (.ref n) (.int i) = none := by show (itemsOf st (.ref n)).bind _ = _; rw [ei]; rfl
        rw [this] at q; exact q.elim
      | some ds =>
        cases e : atI ds i with
        | none =>
          have : oIx st (.ref n) (.int i) = none := by show (itemsOf st (.ref n)).bind _ = _; rw [ei]; exact e
          rw [this] at q; exact q.elim
        | some d => exact key ds d ei e (by show (itemsOf st (.ref n)).bind _ = _; rw [ei]; exact e)
    | _ => exact q.elim
  | _ => exact q.elim
theorem de_ix {a b : Expr} {f g : SemE} {pos : Pos} (ha : DE X a f) (hb : DE X b g) (hs : PlainIx b := by intro _ _; rfl) : DE X (.Subscript a b pos) (sOp oIx f g) :=
  PE.weak (pe_ix ixd ha hb hs) fun σ H Q h => by
    obtain ⟨ρ, env, st, at_, h⟩ := tD_two h
    refine ⟨ρ, env, st, at_, h.mono fun d st1 H1 ρ1 _ k v r => ?_⟩
    obtain ⟨ρ2, env2, st2, at2, h2⟩ := k v r
    exact ⟨ρ2, env2, st2, at2, h2.mono fun d' st3 H3 ρ3 _ k2 v2 r2 => by
      obtain ⟨ρ, a, b, env, st, h1, h2, h3, h4⟩ := k2 v2 r2
      exact ⟨σ, ρ, env, st, a, b, h1, h2, h3, h4⟩⟩

/-! ### slices -/
def cutD {α : Type} (xs : List α) (lo hi : Option Int) : List α := (xs.drop (HT.sIx xs.length 0 lo)).take (HT.sIx xs.length xs.length hi - HT.sIx xs.length 0 lo)
theorem Reps.cut {K : PySem.W.Frag} {w : World} {H : Hp} {ρ : List Addr} {ds : List D} {vs : List V} (rs : Reps K w H ρ ds vs) (lo hi : Option Int) : Reps K w H ρ (cutD ds lo hi) (cutV vs lo hi) := by
  unfold cutD cutV
  rw [rs.length]
  exact (rs.drop _).take _
theorem cutD_len {α : Type} (xs : List α) (lo hi : Option Int) : (cutD xs lo hi).length ≤ xs.length := by
  unfold cutD
  rw [List.length_take, List.length_drop]
  omega
theorem cutD_all {α : Type} {xs : List α} {lo hi : Option Int} (h : HT.sIx xs.length 0 lo = 0 ∧ HT.sIx xs.length xs.length hi = xs.length) : cutD xs lo hi = xs := by
  unfold cutD
  rw [h.1, h.2]
  simp
/-- a part: none or an int -/
def sPart : Option SemE → En → Sto → Res (Option Int)
  | none, _, st => .ok none st
  | some f, env, st => (f env st).bind fun d st1 => match d with
    | .int i => .ok (some i) st1
    | _ => .bad
def oSl (st : Sto) (a : D) (lo hi : Option Int) : Option D := match a with
  | .tup ds => some (.tup (cutD ds lo hi))
  | .str z => if z.length ≤ sizeLine then some (.str (cutS z lo hi)) else none
  | a => (listOf st a).map fun ds => .lst (cutD ds lo hi)
def sSl (f : SemE) (lo hi : Option SemE) : SemE := fun env st => (f env st).bind fun a st1 => (sPart lo env st1).bind fun l st2 => (sPart hi env st2).bind fun u st3 => ofO (oSl st3 a l u) st3
def tP (X : Cx) (f : En → Sto → Res (Option Int)) : TO := fun σ H Q => ∃ ρ env st, At X σ H ρ env st ∧ RR X σ H ρ (f env st) fun o _ H' ρ' => Q o H'
def DP (X : Cx) (e : Option Expr) (f : Option SemE) : Prop := PO X e (tP X (sPart f))
theorem PO.weak {e : Option Expr} {t t' : TO} (h : PO X e t) (i : ∀ σ H Q, t' σ H Q → t σ H Q) : PO X e t' := ⟨fun pins s σ H Q I q => h.run pins s σ H Q I (i σ H Q q)⟩
theorem dp_none : DP X none none := PO.weak po_none fun σ H Q ⟨ρ, env, st, at_, h⟩ => h H ρ (Aft.refl at_.st)
theorem dp_some {e : Expr} {f : SemE} (h : DE X e f) : DP X (some e) (some f) := PO.weak (po_some h) fun σ H Q ⟨ρ, env, st, at_, q⟩ => by
  refine ⟨ρ, env, st, at_, (RR.bind q).mono fun d st1 H1 ρ1 a1 ⟨_, k⟩ v r => ?_⟩
  cases d with
  | int i =>
    unfold Rep at r
    exact ⟨i, r, k H1 ρ1 (Aft.refl a1.r)⟩
  | _ => exact k.elim
theorem sld : SlR X fun x lo hi H Q => ∃ σ ρ env st a, At X σ H ρ env st ∧ Rep X.K X.w H ρ a x ∧ RR X σ H ρ (ofO (oSl st a lo hi) st) fun d _ H' ρ' => ∀ v, Rep X.K X.w H' ρ' d v → Q v H' := by
  intro pins s σ H x v vl vu lo hi sl Q I rx hsl pl pu q
  obtain ⟨σ', ρ, env, st, a, at_, ra, q⟩ := q
  have keyL : ∀ ds, listOf st a = some ds → (∀ H' ρ', Aft X.K X.w H ρ st H' ρ' → ∀ v, Rep X.K X.w H' ρ' (.lst (cutD ds lo hi)) v → Q v H') → ∃ T id, typeLookup (.type T) "__getitem__" = pure (some (.builtin id)) ∧ s.TypeIs v T ∧ wpAny (model X.prog X.w) X.A (getItem v (.ref sl)) (EP X pins σ Q) X.xe s := fun ds ei q' => by
    obtain ⟨p, vs, rfl, hq, z, rs⟩ := listOf_ok at_.st ra ei
    refine SlR.lock sl_list pins s σ H (.ref p) v vl vu lo hi sl Q I rx hsl pl pu ⟨p, vs, rfl, hq, fun r hr => ?_⟩
    refine .inr ⟨r, _, rfl, upd_same, trivial, fun od => ?_⟩
    rw [upd_upd]
    refine q' _ ρ (Aft.fresh at_.st hr) _ ?_
    unfold Rep
    exact ⟨r, _, rfl, (.inl ⟨od, upd_same⟩), Nat.le_trans (cutD_len _ _ _) z, (rs.cut lo hi).stay (Stays.new hr) (List.prefix_refl _)⟩
  cases a with
  | tup ds =>
    have ra' := ra
    unfold Rep at ra'
    obtain ⟨p, vs, rfl, hq, z, rs⟩ := ra'
    have q' : ∀ H' ρ', Aft X.K X.w H ρ st H' ρ' → ∀ v, Rep X.K X.w H' ρ' (.tup (cutD ds lo hi)) v → Q v H' := q
    refine sl_tupA pins s σ H (.ref p) v vl vu lo hi sl Q I rx hsl pl pu ⟨p, vs, rfl, hq, fun h => ?_, fun h r hr => ?_⟩
    · have hd : cutD ds lo hi = ds := cutD_all (by rw [← rs.length]; exact h)
      rw [hd] at q'
      exact q' H ρ (Aft.refl at_.st) _ ra
    · obtain ⟨a1, a2⟩ := new_tup (X := X) at_.st hr (rs.cut lo hi) (Nat.le_trans (cutD_len _ _ _) z)
      exact q' _ ρ a1 _ a2
  | str z =>
    have q' : RR X σ' H ρ (ofO (if z.length ≤ sizeLine then some (D.str (cutS z lo hi)) else none) st) fun d _ H' ρ' => ∀ v, Rep X.K X.w H' ρ' d v → Q v H' := q
    by_cases hz : z.length ≤ sizeLine
    · rw [if_pos hz] at q'
      unfold Rep at ra
      exact sl_str pins s σ H x v vl vu lo hi sl Q I rx hsl pl pu ⟨z, ra, hz, q' H ρ (Aft.refl at_.st) _ (by unfold Rep; rfl)⟩
    · rw [if_neg hz] at q'; exact q'.elim
  | lst ds => exact keyL ds rfl q
  | ref n =>
    cases ei : listOf st (.ref n) with
    | none =>
      have : oSl st (.ref n) lo hi = none := by show (listOf st (.ref n)).map _ = none; rw [ei]; rfl
      rw [this] at q
      exact q.elim
    | some ds =>
      have : oSl st (.ref n) lo hi = some (.lst (cutD ds lo hi)) := by show (listOf st (.ref n)).map _ = _; rw [ei]; rfl
      rw [this] at q
      exact keyL ds ei q
  | _ => exact q.elim
theorem de_sl {a : Expr} {lo hi : Option Expr} {f : SemE} {l u : Option SemE} {p2 pos : Pos} (ha : DE X a f) (hl : DP X lo l) (hu : DP X hi u) : DE X (.Subscript a (.Slice lo hi none p2) pos) (sSl f l u) :=
  PE.weak (pe_slice sld ha hl hu) fun σ H Q ⟨ρ, env, st, at_, h⟩ => by
    refine ⟨ρ, env, st, at_, (RR.bind h).mono fun d st1 H1 ρ1 a1 ⟨_, k⟩ v r => ?_⟩
    refine ⟨ρ1, env, st1, at_.aft a1, (RR.bind k).mono fun l st2 H2 ρ2 a2 ⟨_, k2⟩ => ?_⟩
    refine ⟨ρ2, env, st2, (at_.aft a1).aft a2, (RR.bind k2).mono fun u st3 H3 ρ3 a3 ⟨_, k3⟩ => ?_⟩
    exact ⟨σ, ρ3, env, st3, d, ((at_.aft a1).aft a2).aft a3, (r.stay a2.s a2.p).stay a3.s a3.p, k3⟩
end
section
variable {X : Cx} {e : Expr} {es : List Expr} {f g : SemE} {fs : SemA} {pos p : Pos} {x : Str}
def sCB (op : Sto → List D → Option D) (fs : SemA) : SemE := fun env st => (fs env st).bind fun as st1 => ofO (op st1 as) st1
theorem tCB_of {op : Sto → List D → Option D} {σ : L2.St} {H : Hp} {Q : VK} (h : tD X (sCB op fs) σ H Q) : tA X fs σ H fun xs H1 => ∃ σ' ρ as env st, At X σ' H1 ρ env st ∧ Reps X.K X.w H1 ρ as xs ∧ RR X σ' H1 ρ (ofO (op st as) st) fun d _ H' ρ' => ∀ v, Rep X.K X.w H' ρ' d v → Q v H' := by
  obtain ⟨ρ, env, st, at_, h⟩ := h
  exact ⟨ρ, env, st, at_, (RR.bind h).mono fun as st1 H1 ρ1 a1 ⟨_, k⟩ vs rs => ⟨σ, ρ1, as, env, st1, at_.aft a1, rs, k⟩⟩
theorem de_callB {id : String} {op : Sto → List D → Option D} (hc : CallD X (.builtin id) op) (hm : X.mg x = none) (hv : bootBuiltins x = some (.builtin id)) (ha : DA X (e :: es) fs) (hg : Gl X x := by rfl) (hn : x ≠ "__name__" := by decide) (hdb : (x == ("__debug__" : Str)) = false := by decide)
    (he : starEach (e :: es) X.env = (false, eval e X.env) :: starEach es X.env := by rfl) (hpl : (backTo pos (starEach es X.env)).any (·.1) = false := by rfl) : DE X (.Call (.Name x p) (e :: es) [] pos) (sCB op fs) :=
  PE.weak (pe_callB hc.r hg hm hv ha hn hdb he hpl) fun σ H Q h => tCB_of h
theorem de_callTy {T : String} {op : Sto → List D → Option D} (hc : CallD X (.type T) op) (hm : X.mg x = none) (hv : bootBuiltins x = some (.type T)) (ha : DA X (e :: es) fs) (hg : Gl X x := by rfl) (hn : x ≠ "__name__" := by decide) (hdb : (x == ("__debug__" : Str)) = false := by decide)
    (he : starEach (e :: es) X.env = (false, eval e X.env) :: starEach es X.env := by rfl) (hpl : (backTo pos (starEach es X.env)).any (·.1) = false := by rfl) : DE X (.Call (.Name x p) (e :: es) [] pos) (sCB op fs) :=
  PE.weak (pe_callTy hc.r hg hm hv ha hn hdb he hpl) fun σ H Q h => tCB_of h

/-! ### numbers -/
def intsOf : List D → Option (List Int)
  | [] => some []
  | .int i :: r => (intsOf r).map (i :: ·)
  | _ => none
theorem Reps.ints {H : Hp} {ρ : List Addr} : ∀ {ds : List D} {vs : List V} {ns : List Int}, Reps X.K X.w H ρ ds vs → intsOf ds = some ns → vs = ns.map V.int
  | [], vs, ns, h, e => by unfold Reps at h; unfold intsOf at e; subst h; cases e; rfl
  | d :: ds, vs, ns, h, e => by
    unfold Reps at h
    obtain ⟨v, r, rfl, h1, h2⟩ := h
    cases d with
    | int i =>
      unfold intsOf at e
      obtain ⟨ms, e1, rfl⟩ := map_some e
      unfold Rep at h1
      subst h1
      rw [Reps.ints h2 e1]
      rfl
    | _ => unfold intsOf at e; cases e
theorem intsOf_len : ∀ {ds : List D} {ns : List Int}, intsOf ds = some ns → ns.length = ds.length
  | [], ns, e => by unfold intsOf at e; cases e; rfl
  | d :: ds, ns, e => by
    cases d with
    | int i =>
      unfold intsOf at e
      obtain ⟨ms, e1, rfl⟩ := map_some e
      simp [intsOf_len e1]
    | _ => unfold intsOf at e; cases e
def bolsOf : List D → Option (List Bool)
  | [] => some []
  | .bl i :: r => (bolsOf r).map (i :: ·)
  | _ => none
theorem Reps.bols {H : Hp} {ρ : List Addr} : ∀ {ds : List D} {vs : List V} {ns : List Bool}, Reps X.K X.w H ρ ds vs → bolsOf ds = some ns → vs = ns.map V.bl
  | [], vs, ns, h, e => by unfold Reps at h; unfold bolsOf at e; subst h; cases e; rfl
  | d :: ds, vs, ns, h, e => by
    unfold Reps at h
    obtain ⟨v, r, rfl, h1, h2⟩ := h
    cases d with
    | bl i =>
      unfold bolsOf at e
      obtain ⟨ms, e1, rfl⟩ := map_some e
      unfold Rep at h1
      subst h1
      rw [Reps.bols h2 e1]
      rfl
    | _ => unfold bolsOf at e; cases e
theorem Reps.oneD {K : PySem.W.Frag} {w : World} {H : Hp} {ρ : List Addr} {d : D} {vs : List V} (h : Reps K w H ρ [d] vs) : ∃ v, vs = [v] ∧ Rep K w H ρ d v := by
  unfold Reps at h
  obtain ⟨v, r, rfl, h1, h2⟩ := h
  unfold Reps at h2
  subst h2
  exact ⟨v, rfl, h1⟩
def greatest (a : Int) : List Int → Int
  | [] => a
  | b :: r => greatest (if a < b then b else a) r
theorem greatest_ge : ∀ (l : List Int) (a : Int), a ≤ greatest a l ∧ ∀ b ∈ l, b ≤ greatest a l
  | [], a => ⟨Int.le_refl a, fun _ h => by simp at h⟩
  | b :: r, a => by
    unfold greatest
    have h := greatest_ge r (if a < b then b else a)
    have h1 : a ≤ (if a < b then b else a) ∧ b ≤ (if a < b then b else a) := by
      split <;> omega
    refine ⟨Int.le_trans h1.1 h.1, fun c hc => ?_⟩
    rcases List.mem_cons.mp hc with e | hc
    · subst e; exact Int.le_trans h1.2 h.1
    · exact h.2 c hc
theorem greatest_mem : ∀ (l : List Int) (a : Int), greatest a l = a ∨ greatest a l ∈ l
  | [], a => .inl rfl
  | b :: r, a => by
    unfold greatest
    rcases greatest_mem r (if a < b then b else a) with h | h
    · rw [h]
      split
      · exact .inr (List.mem_cons_self)
      · exact .inl rfl
    · exact .inr (List.mem_cons_of_mem _ h)
def oAbs (_ : Sto) : List D → Option D
  | [.int i] => some (.int (if i < 0 then -i else i))
  | _ => none
theorem cd_abs : CallD X (.builtin "abs") oAbs := CallD.of call_abs fun H ρ st xs as d hs ra e => by
  match as, e, ra with
  | [.int i], e, ra =>
    cases e
    obtain ⟨v, rfl, r⟩ := ra.oneD
    unfold Rep at r; subst r
    exact ⟨i, rfl, Aft.refl hs, by unfold Rep; rfl⟩
def oMax (st : Sto) : List D → Option D
  | [.int i, .int j] => some (.int (if j > i then j else i))
  | [d] => (match (listOf st d).bind intsOf with
    | some (a :: r) => some (.int (greatest a r))
    | _ => none)
  | _ => none
def oMin (st : Sto) : List D → Option D
  | [.int i, .int j] => some (.int (if j < i then j else i))
  | _ => none
theorem cd_max (hc : X.calm = true) : CallD X (.builtin "max") oMax := by
  intro pins s σ H ρ st xs us as d I hs rx ra e
  match as, e, ra with
  | [.int i, .int j], e, ra =>
    cases e
    obtain ⟨x, y, rfl, r1, r2⟩ := ra.two
    unfold Rep at r1 r2; subst r1 r2
    exact thn (call_max2 hc pins s σ H _ us (fun r H' => H' = H ∧ r = .int (if j > i then j else i)) I rx ⟨i, j, rfl, rfl, rfl⟩) fun r s' ⟨r', H', I', rv, e1, e2⟩ => by
      subst e1 e2
      exact VP.pure I' hs rv (by unfold Rep; rfl)
  | [b], e, ra =>
    have e' : (match (listOf st b).bind intsOf with
      | some (a :: r) => some (D.int (greatest a r))
      | _ => none) = some d := by
      cases b <;> exact e
    obtain ⟨v, rfl, r⟩ := ra.oneD
    cases el : listOf st b with
    | none => rw [el] at e'; cases e'
    | some ds =>
      rw [el] at e'
      dsimp only [Option.bind] at e'
      cases ei : intsOf ds with
      | none => rw [ei] at e'; cases e'
      | some ns =>
        rw [ei] at e'
        cases ns with
        | nil => cases e'
        | cons a l =>
          cases e'
          obtain ⟨p, vs, rfl, hq, z, rs⟩ := listOf_ok hs r el
          have ev := rs.ints ei
          subst ev
          exact thn (cr_max hc pins s σ H _ us (fun r H' => H' = H ∧ r = .int (greatest a l)) I rx ⟨p, a :: l, rfl, hq, by simp, fun m hm hge => ⟨rfl, by
            have h1 := greatest_ge l a
            have h2 := greatest_mem l a
            have h3 : m ≤ greatest a l := by
              rcases List.mem_cons.mp hm with e | hm
              · subst e; exact h1.1
              · exact h1.2 m hm
            have h4 : greatest a l ≤ m := by
              rcases h2 with e | h2
              · rw [e]; exact hge a List.mem_cons_self
              · exact hge _ (List.mem_cons_of_mem _ h2)
            rw [Int.le_antisymm h3 h4]⟩⟩) fun r s' ⟨r', H', I', rv, e1, e2⟩ => by
            subst e1 e2
            exact VP.pure I' hs rv (by unfold Rep; rfl)
theorem cd_min (hc : X.calm = true) : CallD X (.builtin "min") oMin := CallD.of (call_min2 hc) fun H ρ st xs as d hs ra e => by
  match as, e, ra with
  | [.int i, .int j], e, ra =>
    cases e
    obtain ⟨x, y, rfl, r1, r2⟩ := ra.two
    unfold Rep at r1 r2; subst r1 r2
    exact ⟨i, j, rfl, Aft.refl hs, by unfold Rep; rfl⟩
def oInt1 (_ : Sto) : List D → Option D
  | [.int i] => some (.int i)
  | [.bl b] => some (.int (if b then 1 else 0))
  | _ => none
theorem cd_int : CallD X (.type "int") oInt1 := CallD.of call_int1 fun H ρ st xs as d hs ra e => by
  match as, e, ra with
  | [.int i], e, ra =>
    cases e
    obtain ⟨v, rfl, r⟩ := ra.oneD
    unfold Rep at r; subst r
    exact .inl ⟨i, rfl, Aft.refl hs, by unfold Rep; rfl⟩
  | [.bl b], e, ra =>
    cases e
    obtain ⟨v, rfl, r⟩ := ra.oneD
    unfold Rep at r; subst r
    exact .inr ⟨b, rfl, Aft.refl hs, by unfold Rep; rfl⟩
def oSum (st : Sto) : List D → Option D
  | [d] => ((itemsOf st d).bind intsOf).map fun ns => .int ns.sum
  | _ => none
theorem preSum_sum (ns : List Int) (xs : Array (Int × Tok)) (e : (xs.toList.map (·.1)) = ns) : preSum (numAt xs) xs.size = ns.sum := by
  subst e
  have key : ∀ k, k ≤ xs.size → preSum (numAt xs) k = ((xs.toList.map (·.1)).take k).sum := by
    intro k
    induction k with
    | zero => intro _; rfl
    | succ k ih =>
      intro hk
      have hk' : k < (xs.toList.map (·.1)).length := by simp; omega
      rw [List.take_succ_eq_append_getElem hk', List.sum_append]
      show preSum (numAt xs) k + numAt xs k = _
      rw [ih (by omega)]
      have : numAt xs k = (xs.toList.map (·.1))[k] := by
        unfold numAt
        rw [Array.getElem?_eq_getElem (by omega)]
        simp
      rw [this]
      simp
  rw [key xs.size (Nat.le_refl _)]
  have hl : (xs.toList.map (·.1)).length = xs.size := by simp
  rw [← hl, List.take_length]
theorem cd_sum (hc : X.calm = true) : CallD X (.builtin "sum") oSum := by
  intro pins s σ H ρ st xs us as d I hs rx ra e
  match as, e, ra with
  | [b], e, ra =>
    obtain ⟨ns, e1, rfl⟩ := map_some (show ((itemsOf st b).bind intsOf).map (fun ns => D.int ns.sum) = some d from e)
    obtain ⟨v, rfl, r⟩ := ra.oneD
    cases el : itemsOf st b with
    | none => rw [el] at e1; cases e1
    | some ds =>
      rw [el] at e1
      dsimp only [Option.bind] at e1
      obtain ⟨p, vs, rfl, hq, rs⟩ := itemsOf_ok hs r el
      have ev := rs.ints e1
      subst ev
      rcases hq with hq | hq
      · obtain ⟨its, rv, hl, _⟩ := I.tuple hq
        rw [Vals.ref1 rx]
        obtain ⟨ys, ey⟩ := rv.ints.allInts.items
        have hn : numsOf (intItems ys).toList = ns := by rw [← ey]; exact rv.ints.numsOf
        rw [nums_intItems] at hn
        rw [ey] at hl
        exact PySem.W.ktm_sumG (I.ok.hd hc) hl fun h' tk t' hk => by
          rw [preSum_sum ns ys hn]
          exact ⟨.int ns.sum, H, I.kept hk, ⟨_, rfl⟩, Aft.refl hs, by unfold Rep; rfl⟩
      · exact thn (cr_sum hc pins s σ H _ us (fun r H' => H' = H ∧ r = .int ns.sum) I rx ⟨p, ns, rfl, hq, rfl, rfl⟩) fun r s' ⟨r', H', I', rv, e1, e2⟩ => by
          subst e1 e2
          exact VP.pure I' hs rv (by unfold Rep; rfl)

/-! ### sequences -/
def oLen (st : Sto) : List D → Option D
  | [.str z] => if z.length ≤ sizeLine then some (.int z.length) else none
  | [d] => (itemsOf st d).map fun ds => .int ds.length
  | _ => none
theorem cd_len : CallD X (.builtin "len") oLen := by
  intro pins s σ H ρ st xs us as d I hs rx ra e
  match as, e, ra with
  | [b], e, ra =>
    obtain ⟨v, rfl, r⟩ := ra.oneD
    have key : ∀ ds, itemsOf st b = some ds → d = .int ds.length → wpAny (model X.prog X.w) X.A (call (.builtin "len") us) (VP X pins σ H ρ st d) X.xe s := fun ds ei ed => by
      subst ed
      obtain ⟨p, vs, rfl, hq, rs⟩ := itemsOf_ok hs r ei
      exact thn (call_len_seq pins s σ H _ us (fun r H' => H' = H ∧ r = .int vs.length) I rx ⟨p, vs, rfl, hq.symm, rfl, rfl⟩) fun r s' ⟨r', H', I', rv, e1, e2⟩ => by
        subst e1 e2
        exact VP.pure I' hs rv (by unfold Rep; rw [rs.length])
    cases b with
    | str z =>
      have e' : (if z.length ≤ sizeLine then some (D.int z.length) else none) = some d := e
      by_cases hz : z.length ≤ sizeLine
      · rw [if_pos hz] at e'; cases e'
        unfold Rep at r; subst r
        exact thn (call_len_str pins s σ H _ us (fun r H' => H' = H ∧ r = .int z.length) I rx ⟨z, rfl, hz, rfl, rfl⟩) fun r s' ⟨r', H', I', rv, e1, e2⟩ => by
          subst e1 e2
          exact VP.pure I' hs rv (by unfold Rep; rfl)
      · rw [if_neg hz] at e'; cases e'
    | tup ds =>
      obtain ⟨_, e1, e2⟩ := map_some (show (itemsOf st (.tup ds)).map (fun ds => D.int ds.length) = some d from e)
      exact key _ e1 e2
    | lst ds =>
      obtain ⟨_, e1, e2⟩ := map_some (show (itemsOf st (.lst ds)).map (fun ds => D.int ds.length) = some d from e)
      exact key _ e1 e2
    | ref n =>
      obtain ⟨_, e1, e2⟩ := map_some (show (itemsOf st (.ref n)).map (fun ds => D.int ds.length) = some d from e)
      exact key _ e1 e2
    | _ => cases e
  | [], e, _ => cases e
  | a :: b :: r, e, _ => unfold oLen at e; cases a <;> cases e
def oTuple (st : Sto) : List D → Option D
  | [d] => (itemsOf st d).map .tup
  | _ => none
theorem cd_tuple : CallD X (.type "tuple") oTuple := CallD.of call_tuple_of fun H ρ st xs as d hs ra e => by
  match as, e, ra with
  | [b], e, ra =>
    obtain ⟨ds, e1, rfl⟩ := map_some (show (itemsOf st b).map D.tup = some d from e)
    obtain ⟨v, rfl, r⟩ := ra.oneD
    have key : ∀ ds', listOf st b = some ds' → ds' = ds → (∃ p ys, [v] = [.ref p] ∧ ((SqL X.K H p ys ∧ ∀ l, H l = none → (fun z H' => Aft X.K X.w H ρ st H' ρ ∧ Rep X.K X.w H' ρ (.tup ds) z) (.ref l) (upd H l (.tup ys))) ∨ (SqT X.K H p ys ∧ (fun z H' => Aft X.K X.w H ρ st H' ρ ∧ Rep X.K X.w H' ρ (.tup ds) z) (.ref p) H))) := fun ds' el e2 => by
      subst e2
      obtain ⟨p, vs, rfl, hq, z, rs⟩ := listOf_ok hs r el
      exact ⟨p, vs, rfl, .inl ⟨hq, fun l hl => new_tup hs hl rs z⟩⟩
    cases b with
    | tup ds' =>
      cases e1
      have r' := r
      unfold Rep at r'
      obtain ⟨p, vs, rfl, hq, z, rs⟩ := r'
      exact ⟨p, vs, rfl, .inr ⟨hq, Aft.refl hs, r⟩⟩
    | lst ds' => cases e1; exact key _ rfl rfl
    | ref n => exact key ds e1 rfl
    | _ => cases e1
def oList (st : Sto) : List D → Option D
  | [d] => (itemsOf st d).bind fun ds => if ds.length ≤ sizeLine then some (.lst ds) else none
  | _ => none
theorem cd_list : CallD X (.type "list") oList := CallD.of (CallR.lock call_list_of) fun H ρ st xs as d hs ra e => by
  match as, e, ra with
  | [b], e, ra =>
    obtain ⟨v, rfl, r⟩ := ra.oneD
    have e' : ((itemsOf st b).bind fun ds => if ds.length ≤ sizeLine then some (D.lst ds) else none) = some d := e
    cases el : itemsOf st b with
    | none => rw [el] at e'; cases e'
    | some ds =>
      rw [el] at e'
      dsimp only [Option.bind] at e'
      by_cases z : ds.length ≤ sizeLine
      · rw [if_pos z] at e'; cases e'
        obtain ⟨p, vs, rfl, hq, rs⟩ := itemsOf_ok hs r el
        exact ⟨p, vs, rfl, hq.symm, fun l hl => new_lst hs hl rs z⟩
      · rw [if_neg z] at e'; cases e'
def oAny (st : Sto) : List D → Option D
  | [d] => ((listOf st d).bind bolsOf).map fun bs => .bl (bs.any id)
  | _ => none
def oAll (st : Sto) : List D → Option D
  | [d] => ((listOf st d).bind bolsOf).map fun bs => .bl (bs.all id)
  | _ => none
theorem bols_ok {H : Hp} {ρ : List Addr} {st : Sto} {b : D} {v : V} {bs : List Bool} (hs : RelSt X.K X.w H ρ st) (r : Rep X.K X.w H ρ b v) (e : (listOf st b).bind bolsOf = some bs) : ∃ p, v = .ref p ∧ SqL X.K H p (bs.map V.bl) := by
  cases el : listOf st b with
  | none => rw [el] at e; cases e
  | some ds =>
    rw [el] at e
    obtain ⟨p, vs, rfl, hq, z, rs⟩ := listOf_ok hs r el
    have := rs.bols e
    subst this
    exact ⟨p, rfl, hq⟩
theorem cd_any (hc : X.calm = true) : CallD X (.builtin "any") oAny := CallD.of (cr_any hc) fun H ρ st xs as d hs ra e => by
  match as, e, ra with
  | [b], e, ra =>
    obtain ⟨v, rfl, r⟩ := ra.oneD
    obtain ⟨bs, e1, rfl⟩ := map_some (show ((listOf st b).bind bolsOf).map (fun bs => D.bl (bs.any id)) = some d from e)
    obtain ⟨p, rfl, hq⟩ := bols_ok hs r e1
    exact ⟨p, bs, rfl, hq, Aft.refl hs, by unfold Rep; rfl⟩
theorem cd_all (hc : X.calm = true) : CallD X (.builtin "all") oAll := CallD.of (cr_all hc) fun H ρ st xs as d hs ra e => by
  match as, e, ra with
  | [b], e, ra =>
    obtain ⟨v, rfl, r⟩ := ra.oneD
    obtain ⟨bs, e1, rfl⟩ := map_some (show ((listOf st b).bind bolsOf).map (fun bs => D.bl (bs.all id)) = some d from e)
    obtain ⟨p, rfl, hq⟩ := bols_ok hs r e1
    exact ⟨p, bs, rfl, hq, Aft.refl hs, by unfold Rep; rfl⟩

/-! ### isinstance -/
/-- a value's type by name -/
def tyOf (st : Sto) : D → Option String
  | .non => some "NoneType"
  | .bl _ => some "bool"
  | .int _ => some "int"
  | .str _ => some "str"
  | .tup _ => some "tuple"
  | .lst _ => some "list"
  | .dct _ => some "dict"
  | .ref n => (match st[n]? with
    | some (.lst _) => some "list"
    | some (.dct _) => some "dict"
    | some (.ins _ _) => some "object"
    | _ => none)
  | _ => none
def isTy (t T : String) : Bool := t == T || (t == "bool" && T == "int")
def tyNames : List String := ["NoneType", "bool", "int", "str", "tuple", "list", "dict"]
def kitTab : Bool := tyNames.all fun t => (["bool", "int", "str", "tuple", "list", "dict"]).all fun T => L2.kitB t T == some (isTy t T)
theorem kitTab_ok : kitTab = true := by decide +kernel
theorem kit_at {t T : String} (h1 : t ∈ tyNames) (h2 : T ∈ (["bool", "int", "str", "tuple", "list", "dict"] : List String)) : L2.kitB t T = some (isTy t T) := by
  have h := kitTab_ok
  unfold kitTab at h
  have := List.all_eq_true.mp (List.all_eq_true.mp h t h1) T h2
  exact eq_of_beq this
def six : List String := ["bool", "int", "str", "tuple", "list", "dict"]
theorem kit_six {K : PySem.W.Frag} {t : String} (h : t ∈ tyNames) : ∀ T ∈ six, PySem.W.kitOne K (.type t) (.type T) = some (isTy t T) := fun T hT => kit_ty (kit_at h hT)
theorem six_meta : ∀ T ∈ six, PySem.W.kitMeta T = true := by decide +kernel
theorem six_object : ∀ T ∈ six, isTy "object" T = false := by decide +kernel
theorem kit_own {K : PySem.W.Frag} {C : Addr} (o : Own K C) : ∀ T ∈ six, PySem.W.kitOne K (.ref C) (.type T) = some (isTy "object" T) := fun T hT => by
  unfold PySem.W.kitOne PySem.W.kitCls
  rw [if_neg (by simp)]
  dsimp only
  rw [if_pos (six_meta T hT), six_object T hT]
  exact o.no T hT
theorem kitD {pins : List (Addr × Obj)} {σ : L2.St} {H : Hp} {ρ : List Addr} {st : Sto} {s : Shared} {d : D} {t : String} {x : V} {u : Value} (I : Inv X pins σ H s) (hs : RelSt X.K X.w H ρ st) (r : Rep X.K X.w H ρ d x) (e : tyOf st d = some t) (rx : RelV x u) :
    ∃ (tv : Value) (P : Heap → Prop), PySem.W.KitX X.K u tv P ∧ (∀ T ∈ six, PySem.W.kitOne X.K tv (.type T) = some (isTy t T)) ∧ P s.heap ∧ u ≠ .builtin "__main__.__loader__#opaque" := by
  have of : ∀ {tn : String} (hm : tn ∈ tyNames), (∃ P : Heap → Prop, PySem.W.KitX X.K u (.type tn) P ∧ P s.heap ∧ u ≠ .builtin "__main__.__loader__#opaque") → ∃ (tv : Value) (P : Heap → Prop), PySem.W.KitX X.K u tv P ∧ (∀ T ∈ six, PySem.W.kitOne X.K tv (.type T) = some (isTy tn T)) ∧ P s.heap ∧ u ≠ .builtin "__main__.__loader__#opaque" := fun hm ⟨P, a, b⟩ => ⟨_, P, a, kit_six hm, b⟩
  have raw : ∀ {a : Addr} {l : List DictEntry}, RawD a l s.heap → RelV (.ref a) u → ∃ P : Heap → Prop, PySem.W.KitX X.K u (.type "dict") P ∧ P s.heap ∧ u ≠ .builtin "__main__.__loader__#opaque" := fun {a l} h rx => by
    obtain ⟨o, ep, h1, h2, h3⟩ := h
    cases (show u = Value.ref a from rx)
    exact ⟨_, PySem.W.kitx_dict, ⟨o, h1, h2.1⟩, fun z => nomatch z⟩
  cases d with
  | non => unfold Rep at r; subst r; cases e; exact of (by decide) (kit_of I rx (.base .non))
  | bl b => unfold Rep at r; subst r; cases e; exact of (by decide) (kit_of I rx (.base (.bl b)))
  | int b => unfold Rep at r; subst r; cases e; exact of (by decide) (kit_of I rx (.base (.int b)))
  | str b => unfold Rep at r; subst r; cases e; exact of (by decide) (kit_of I rx (.base (.str b)))
  | tup ds =>
    unfold Rep at r
    obtain ⟨a, vs, rfl, hq, z, rs⟩ := r
    cases e
    rcases hq with (hq | ⟨o, hq⟩) | ⟨o, its, n, hk, hc, _⟩
    · exact of (by decide) (kit_of I rx (.base (.tup hq)))
    · exact of (by decide) (kit_of I rx (.fTuple hq))
    · exact of (by decide) (kit_of I rx (.kTuple hk hc))
  | lst ds =>
    unfold Rep at r
    obtain ⟨a, vs, rfl, hq, z, rs⟩ := r
    cases e
    rcases hq with ⟨o, hq⟩ | ⟨o, its, n, hk, hc, _⟩
    · exact of (by decide) (kit_of I rx (.base (.frz hq)))
    · exact of (by decide) (kit_of I rx (.kList hk hc))
  | dct es =>
    unfold Rep at r
    obtain ⟨a, l, o, rfl, h1, h2, hq, rs⟩ := r
    cases e
    obtain ⟨_, q⟩ := (show ObjOk X.prog X.w H s.heap a (.frz o (.ext (RawD a l))) from I.hok a _ hq)
    exact of (by decide) (raw q.1 rx)
  | ref n =>
    unfold Rep at r
    obtain ⟨a, ea, rfl⟩ := r
    have e' : (match st[n]? with
      | some (.lst _) => some "list"
      | some (.dct _) => some "dict"
      | some (.ins _ _) => some "object"
      | _ => none) = some t := e
    cases es : st[n]? with
    | none => rw [es] at e'; cases e'
    | some o =>
      cases o with
      | lst ds =>
        rw [es] at e'
        cases e'
        obtain ⟨vs, q, z, rs⟩ := hs.lst es ea
        exact of (by decide) (kit_of I rx (.base (.lst q)))
      | dct ds =>
        rw [es] at e'
        cases e'
        obtain ⟨l, h1, h2, q, rs⟩ := hs.obj n _ a es ea
        have q' := (show ObjOk X.prog X.w H s.heap a (.ext (RawD a l)) from I.hok a _ q)
        exact of (by decide) (raw q'.1 rx)
      | ins c fs =>
        rw [es] at e'
        cases e'
        obtain ⟨dx, vs, q, rf, ow⟩ := (show RepO X.K X.w H ρ a (.ins c fs) from hs.obj n _ a es ea)
        cases (show u = Value.ref a from rx)
        obtain ⟨mA, O, _⟩ := ins_get I.hok q
        obtain ⟨od, J, _⟩ := O.look
        exact ⟨_, _, PySem.W.kitx_own (ow.cl.get _) ow.cl.hd ow.ha ow.hn ow.htk ow.hm, kit_own ow, J, fun z => nomatch z⟩
      | dead => rw [es] at e'; cases e'
  | cls c => cases e
def sIsi (Ts : List String) (f : SemE) : SemE := fun env st => (f env st).bind fun d st1 => ofO ((tyOf st1 d).map fun t => .bl (Ts.any fun T => isTy t T)) st1
def R2D (F : Value → Value → Sem Value) : Prop := True
theorem call_isiD {T : String} (hT : T ∈ (["bool", "int", "str", "tuple", "list", "dict"] : List String)) : CallR X (.builtin "isinstance") fun xs H Q => ∃ σ ρ env st d x, At X σ H ρ env st ∧ xs = [x, .ty T] ∧ Rep X.K X.w H ρ d x ∧
    RR X σ H ρ (ofO ((tyOf st d).map fun t => D.bl (isTy t T)) st) fun d _ H' ρ' => ∀ v, Rep X.K X.w H' ρ' d v → Q v H' := by
  intro pins s σ H xs us Q I r h
  obtain ⟨σ', ρ, env, st, d, x, at_, rfl, rx, q⟩ := h
  obtain ⟨u1, u2, rfl, r1, r2⟩ := vals2 r
  cases (show u2 = Value.type T from r2)
  cases e : tyOf st d with
  | none => rw [e] at q; exact q.elim
  | some t =>
    rw [e] at q
    obtain ⟨tv, P, Z, hkt, p, hx⟩ := kitD I at_.st rx e r1
    exact PySem.W.kia_one Z I.kIn p (hkt T hT) hx fun tk => ⟨.bl (isTy t T), H, I.tok tk, rfl, q H ρ (Aft.refl at_.st) _ (by unfold Rep; rfl)⟩
theorem de_isi {a : Expr} {T : Str} {Ts : String} {q : Pos} (hT : Ts ∈ (["bool", "int", "str", "tuple", "list", "dict"] : List String)) (hv : bootBuiltins T = some (.type Ts)) (hm : X.mg "isinstance" = none) (hmT : X.mg T = none) (ha : DE X a f) (hg : Gl X "isinstance" := by rfl) (hgT : Gl X T := by rfl)
    (he : starEach [a, .Name T q] X.env = (false, eval a X.env) :: starEach [.Name T q] X.env := by rfl) (hpl : (backTo pos (starEach [.Name T q] X.env)).any (·.1) = false := by rfl) (h1 : starEach [.Name T q] X.env = (false, eval (.Name T q) X.env) :: starEach [] X.env := by rfl)
    (hn : T ≠ "__name__" := by decide) (hdb : (T == ("__debug__" : Str)) = false := by decide) : DE X (.Call (.Name "isinstance" p) [a, .Name T q] [] pos) (sIsi [Ts] f) :=
  PE.weak (pe_callB (call_isiD hT) hg hm boot_isinstance (pa_cons ha (pa_cons (pe_bltn (v := .ty Ts) hgT hmT hv rfl hn hdb) pa_nil h1) he) (by decide) (by decide) he hpl) fun σ H Q ⟨ρ, env, st, at_, h⟩ => by
    refine ⟨ρ, env, st, at_, (RR.bind h).mono fun d st1 H1 ρ1 a1 ⟨_, k⟩ v r => ?_⟩
    refine ⟨σ, ρ1, env, st1, d, v, at_.aft a1, rfl, r, ?_⟩
    have e : (fun t => D.bl ([Ts].any fun T => isTy t T)) = fun t => D.bl (isTy t Ts) := by
      funext t
      simp
    rw [e] at k
    exact k
theorem vals_ty : ∀ {Ts : List String} {its : List Value}, Vals (Ts.map V.ty) its → its = Ts.map Value.type
  | [], _, .nil => rfl
  | T :: Ts, _, .cons (b := v) r1 r2 => by
    have e1 : v = Value.type T := r1
    rw [e1, vals_ty r2]
    rfl
theorem kit_any {K : PySem.W.Frag} {t : String} {tv : Value} (hm : ∀ T ∈ six, PySem.W.kitOne K tv (.type T) = some (isTy t T)) : ∀ {Ts : List String}, (∀ T ∈ Ts, T ∈ (["bool", "int", "str", "tuple", "list", "dict"] : List String)) → PySem.W.kitAny K tv (Ts.map Value.type) = some (Ts.any fun T => isTy t T)
  | [], _ => rfl
  | T :: Ts, hT => by
    have ih := kit_any (K := K) hm (Ts := Ts) fun T' h => hT T' (List.mem_cons_of_mem _ h)
    refine kitAny_cons (b := isTy t T) (hm T (hT T List.mem_cons_self)) (fun hb => ?_) (fun hb => ?_)
    · rw [ih]
      simp [hb]
    · simp [hb]
theorem RR.aftR {α : Type} {σ : L2.St} {H H1 : Hp} {ρ ρ1 : List Addr} {r : Res α} {sx : Sto} {P : α → Sto → Hp → List Addr → Prop} (a : Aft X.K X.w H ρ sx H1 ρ1) (h : RR X σ H ρ r P) : RR X σ H1 ρ1 r P := by
  cases r with
  | ok b st => exact fun H2 ρ2 a2 => h H2 ρ2 (a.trans a2)
  | exc e st => exact fun cls dd H2 ρ2 a2 => h cls dd H2 ρ2 (a.trans a2)
  | bad => exact h
theorem call_isiDT {Ts : List String} (hT : ∀ T ∈ Ts, T ∈ (["bool", "int", "str", "tuple", "list", "dict"] : List String)) : CallR X (.builtin "isinstance") fun xs H Q => ∃ σ ρ env st d x tp, At X σ H ρ env st ∧ xs = [x, .ref tp] ∧ H tp = some (.tup (Ts.map V.ty)) ∧ Rep X.K X.w H ρ d x ∧
    RR X σ H ρ (ofO ((tyOf st d).map fun t => D.bl (Ts.any fun T => isTy t T)) st) fun d _ H' ρ' => ∀ v, Rep X.K X.w H' ρ' d v → Q v H' := by
  intro pins s σ H xs us Q I r h
  obtain ⟨σ', ρ, env, st, d, x, tp, at_, rfl, hH, rx, q⟩ := h
  obtain ⟨u1, u2, rfl, r1, r2⟩ := vals2 r
  cases (show u2 = Value.ref tp from r2)
  cases e : tyOf st d with
  | none => rw [e] at q; exact q.elim
  | some t =>
    rw [e] at q
    obtain ⟨tv, P, Z, hkt, p, hx⟩ := kitD I at_.st rx e r1
    obtain ⟨_, its, rv, o, h1, h2, n, h3⟩ := (show ObjOk X.prog X.w H s.heap tp (.tup (Ts.map V.ty)) from I.hok tp _ hH)
    have e3 : its = Ts.map Value.type := vals_ty rv
    subst e3
    obtain ⟨oc, od, dt, sl⟩ := o
    simp only at h2 h3
    subst h2 h3
    have ek := kit_any (K := X.K) hkt hT
    exact PySem.W.kia_tup Z I.kIn p h1 ek hx fun tk => ⟨.bl _, H, I.tok tk, rfl, q H ρ (Aft.refl at_.st) _ (by unfold Rep; rfl)⟩
/-- isinstance(a, (T, U)) -/
theorem de_isi2 {a : Expr} {T U : Str} {Ts Us : String} {q q2 tpos : Pos} {x1} (hT : Ts ∈ (["bool", "int", "str", "tuple", "list", "dict"] : List String)) (hU : Us ∈ (["bool", "int", "str", "tuple", "list", "dict"] : List String)) (hv : bootBuiltins T = some (.type Ts)) (hvU : bootBuiltins U = some (.type Us)) (hm : X.mg "isinstance" = none) (hmT : X.mg T = none) (hmU : X.mg U = none) (ha : DE X a f) (hg : Gl X "isinstance" := by rfl) (hgT : Gl X T := by rfl) (hgU : Gl X U := by rfl)
    (he : starEach [a, .Tuple [.Name T q, .Name U q2] x1 tpos] X.env = (false, eval a X.env) :: starEach [.Tuple [.Name T q, .Name U q2] x1 tpos] X.env := by rfl) (hpl : (backTo pos (starEach [.Tuple [.Name T q, .Name U q2] x1 tpos] X.env)).any (·.1) = false := by rfl)
    (h1 : starEach [.Tuple [.Name T q, .Name U q2] x1 tpos] X.env = (false, eval (.Tuple [.Name T q, .Name U q2] x1 tpos) X.env) :: starEach [] X.env := by rfl) (h2 : starEach [.Name T q, .Name U q2] X.env = (false, eval (.Name T q) X.env) :: starEach [.Name U q2] X.env := by rfl) (h3 : starEach [.Name U q2] X.env = (false, eval (.Name U q2) X.env) :: starEach [] X.env := by rfl)
    (hn : T ≠ "__name__" := by decide) (hdb : (T == ("__debug__" : Str)) = false := by decide) (hnU : U ≠ "__name__" := by decide) (hdbU : (U == ("__debug__" : Str)) = false := by decide) : DE X (.Call (.Name "isinstance" p) [a, .Tuple [.Name T q, .Name U q2] x1 tpos] [] pos) (sIsi [Ts, Us] f) :=
  PE.weak (pe_callB (call_isiDT (Ts := [Ts, Us]) (fun T' h => by
      rcases List.mem_cons.mp h with e | h
      · rw [e]; exact hT
      · rcases List.mem_cons.mp h with e | h
        · rw [e]; exact hU
        · simp at h)) hg hm boot_isinstance (pa_cons ha (pa_cons (pe_tup (pa_cons (pe_bltn (v := .ty Ts) hgT hmT hv rfl hn hdb) (pa_cons (pe_bltn (v := .ty Us) hgU hmU hvU rfl hnU hdbU) pa_nil h3) h2)) pa_nil h1) he) (by decide) (by decide) he hpl) fun σ H Q ⟨ρ, env, st, at_, h⟩ => by
    refine ⟨ρ, env, st, at_, (RR.bind h).mono fun d st1 H1 ρ1 a1 ⟨_, k⟩ v r => ?_⟩
    refine ⟨by show 2 ≤ sizeLine; decide, fun tp htp => ?_⟩
    exact ⟨σ, ρ1, env, st1, d, v, tp, (at_.aft a1).aft (Aft.fresh a1.r htp), rfl, upd_same, r.stay (Stays.new htp) (List.prefix_refl _), RR.aftR (Aft.fresh a1.r htp) k⟩
end
section
variable {X : Cx} {e o i a b c : Expr} {es : List Expr} {f g h : SemE} {fs : SemA} {pos p apos cpos : Pos} {x : Str}

/-! ### never reached -/
def sDead {α : Type} : En → Sto → Res α := fun _ _ => .bad
def sDeadS : SemS := fun _ _ => .bad
theorem de_dead : DE X e sDead := ⟨fun pins s σ H Q I ⟨_, _, _, _, z⟩ => z.elim⟩
theorem dt_dead : DT X e sDead := ⟨fun pins s σ H Q I ⟨_, _, _, _, z⟩ => z.elim⟩
theorem ds_dead {t : Stmt} : DS X t sDeadS := ⟨fun pins s σ H Q I ⟨_, _, _, _, z⟩ => z.elim⟩

/-! ### append, pop -/
def getL (st : Sto) : D → Option (Nat × List D)
  | .ref n => match st[n]? with
    | some (.lst ds) => some (n, ds)
    | _ => none
  | _ => none
theorem getL_some {st : Sto} {d : D} {p : Nat × List D} (h : getL st d = some p) : d = .ref p.1 ∧ st[p.1]? = some (.lst p.2) := by
  cases d with
  | ref n =>
    have h' : (match st[n]? with
      | some (.lst ds) => some (n, ds)
      | _ => none) = some p := h
    cases es : st[n]? with
    | none => rw [es] at h'; cases h'
    | some o =>
      rw [es] at h'
      cases o with
      | lst ds => cases h'; exact ⟨rfl, es⟩
      | _ => cases h'
  | _ => cases h
def sApp (f g : SemE) : SemE := fun env st => (f env st).bind fun a st1 => match getL st1 a with
  | none => .bad
  | some _ => (g env st1).bind fun b st2 => match getL st2 a with
    | some (n, ds) => if ds.length < sizeLine then .ok .non (st2.set n (.lst (ds ++ [b]))) else .bad
    | none => .bad
theorem de_append (ho : DE X o f) (he : DE X e g) (hb : attributeBase o "append" X.env (eval o X.env) = eval o X.env := by rfl)
    (hfew : ((backTo cpos (starEach [e] X.env)).all (fun x => !x.1) && (backToKw cpos (keywordEach [] X.env)).all (fun x => x.1.isSome) && decide ([e].length + ([] : List Keyword).length + (if ([] : List Keyword).isEmpty then 0 else 1) < 30)) = true := by rfl)
    (hline : (apos.endLine == cpos.line) = true := by rfl) (hs : starEach [e] X.env = (false, eval e X.env) :: starEach [] X.env := by rfl) (hplain : (backTo cpos (starEach [] X.env)).any (·.1) = false := by rfl) : DE X (.Call (.Attribute o "append" apos) [e] [] cpos) (sApp f g) :=
  PE.weak (pe_bm PySem.F.plainAttrs_list PySem.F.slot_list_append PySem.F.type_list_append mt_append ho (pa_cons he pa_nil hs) hb hfew hline hs hplain) fun σ H Q ⟨ρ, env, st, at_, h⟩ => by
    refine ⟨ρ, env, st, at_, (RR.bind h).mono fun d st1 H1 ρ1 a1 ⟨_, k⟩ v r => ?_⟩
    cases eg : getL st1 d with
    | none => rw [eg] at k; exact k.elim
    | some q =>
      rw [eg] at k
      obtain ⟨rfl, e1⟩ := getL_some eg
      have r' := r
      unfold Rep at r'
      obtain ⟨p, ep, rfl⟩ := r'
      obtain ⟨vs, hv, _, _⟩ := a1.r.lst e1 ep
      refine ⟨.inl ⟨rfl, vs, SqL.of hv⟩, ρ1, env, st1, at_.aft a1, (RR.bind k).mono fun y st2 H2 ρ2 a2 ⟨_, k2⟩ v2 r2 => ?_⟩
      cases eg2 : getL st2 (.ref q.1) with
      | none => rw [eg2] at k2; exact k2.elim
      | some q2 =>
        rw [eg2] at k2
        obtain ⟨e3, e4⟩ := getL_some eg2
        obtain ⟨n2, ds2⟩ := q2
        simp only [D.ref.injEq] at e3
        subst e3
        dsimp only at k2 e4
        by_cases hz : ds2.length < sizeLine
        · rw [if_pos hz] at k2
          have ep2 := pre_get a2.p ep
          obtain ⟨vs2, hv2, z2, rs2⟩ := a2.r.lst e4 ep2
          have mu : Mut (H2 p) := by rw [hv2]; trivial
          refine ⟨p, vs2, v2, rfl, rfl, hv2, by rw [rs2.length]; exact hz, ?_⟩
          refine k2 _ ρ2 (Aft.write a2.r ep2 mu ⟨vs2 ++ [v2], upd_same, by simp; omega, ?_⟩) .non (by unfold Rep; rfl)
          exact (rs2.append (Reps.cons r2 Reps.nil)).stay (Stays.mut mu) (List.prefix_refl _)
        · rw [if_neg hz] at k2; exact k2.elim
def sPop (f : SemE) : SemE := fun env st => (f env st).bind fun a st1 => match getL st1 a with
  | some (n, ds) => (match ds[ds.length - 1]? with
    | some d => .ok d (st1.set n (.lst ds.dropLast))
    | none => .bad)
  | none => .bad
theorem Reps.dropLast {K : PySem.W.Frag} {w : World} {H : Hp} {ρ : List Addr} {ds : List D} {vs : List V} (h : Reps K w H ρ ds vs) : Reps K w H ρ ds.dropLast vs.dropLast := by
  rw [List.dropLast_eq_take, List.dropLast_eq_take, h.length]
  exact h.take _
theorem de_pop (ho : DE X o f) (hb : attributeBase o "pop" X.env (eval o X.env) = eval o X.env := by rfl) (hline : (apos.endLine == cpos.line) = true := by rfl) : DE X (.Call (.Attribute o "pop" apos) [] [] cpos) (sPop f) :=
  PE.weak (pe_bm0 PySem.F.plainAttrs_list PySem.F.slot_list_pop PySem.F.type_list_pop mt_pop ho hb hline) fun σ H Q ⟨ρ, env, st, at_, h⟩ => by
    refine ⟨ρ, env, st, at_, (RR.bind h).mono fun d st1 H1 ρ1 a1 ⟨_, k⟩ v r => ?_⟩
    cases eg : getL st1 d with
    | none => rw [eg] at k; exact k.elim
    | some q =>
      rw [eg] at k
      obtain ⟨rfl, e1⟩ := getL_some eg
      obtain ⟨n, ds⟩ := q
      dsimp only at k e1
      have r' := r
      unfold Rep at r'
      obtain ⟨p, ep, rfl⟩ := r'
      obtain ⟨vs, hv, z, rs⟩ := a1.r.lst e1 ep
      cases el : ds[ds.length - 1]? with
      | none => rw [el] at k; exact k.elim
      | some y =>
        rw [el] at k
        obtain ⟨u, eu, ru⟩ := rs.get el
        have mu : Mut (H1 p) := by rw [hv]; trivial
        refine ⟨.inl ⟨rfl, vs, SqL.of hv⟩, p, vs, u, rfl, rfl, hv, by rw [rs.length]; exact eu, ?_⟩
        refine k _ ρ1 (Aft.write a1.r ep mu ⟨vs.dropLast, upd_same, by simp; omega, rs.dropLast.stay (Stays.mut mu) (List.prefix_refl _)⟩) u ?_
        exact ru.stay (Stays.mut mu) (List.prefix_refl _)

/-! ### xs[i] = v -/
/-- a store by place, by data: what it does to the store -/
def SetD (X : Cx) (op : Sto → D → D → D → Option Sto) : Prop :=
  PSet X fun o i v H Q => ∃ σ ρ env st a b d, At X σ H ρ env st ∧ Rep X.K X.w H ρ a o ∧ Rep X.K X.w H ρ b i ∧ Rep X.K X.w H ρ d v ∧ match op st a b d with
    | some st' => ∀ H', Aft X.K X.w H ρ st' H' ρ → Q H'
    | none => False
def sSub (op : Sto → D → D → D → Option Sto) (fe fo fi : SemE) : SemS := fun env st => (fe env st).bindS env fun v st1 => (fo env st1).bindS env fun o st2 => (fi env st2).bindS env fun i st3 => match op st3 o i v with
  | some st4 => .nx env st4
  | none => .bad
def setL (st : Sto) (a b d : D) : Option Sto := match getL st a, b with
  | some (n, ds), .int k => (ixN ds.length k).map fun j => st.set n (.lst (ds.set j d))
  | _, _ => none
theorem setD_list : SetD X setL := by
  intro pins s σ H o i v ov iv u Q I ro ri rv h
  obtain ⟨σ', ρ, env, st, a, b, d, at_, ra, rb, rd, q⟩ := h
  cases eg : getL st a with
  | none =>
    have : setL st a b d = none := by unfold setL; rw [eg]
    rw [this] at q
    exact q.elim
  | some w =>
    obtain ⟨n, ds⟩ := w
    obtain ⟨e0, e1⟩ := getL_some eg
    dsimp only at e0 e1
    subst e0
    cases b with
    | int k =>
      have es : setL st (.ref n) (.int k) d = (ixN ds.length k).map fun j => st.set n (.lst (ds.set j d)) := by unfold setL; rw [eg]
      rw [es] at q
      cases ej : ixN ds.length k with
      | none => rw [ej] at q; exact q.elim
      | some j =>
        rw [ej] at q
        unfold Rep at ra rb
        obtain ⟨p, ep, rfl⟩ := ra
        subst rb
        obtain ⟨vs, hv, z, rs⟩ := at_.st.lst e1 ep
        have mu : Mut (H p) := by rw [hv]; trivial
        refine set_list pins s σ H _ _ v ov iv u Q I ro ri rv ⟨p, vs, k, j, rfl, rfl, hv, by rw [rs.length]; exact ej, ?_⟩
        exact q _ (Aft.write at_.st ep mu ⟨vs.set j v, upd_same, by simp; exact z, (rs.set j rd).stay (Stays.mut mu) (List.prefix_refl _)⟩)
    | _ => unfold setL at q; rw [eg] at q; exact q.elim
theorem ds_sub {op : Sto → D → D → D → Option Sto} {fe fo fi : SemE} {spos : Pos} (hs : SetD X op) (he : DE X e fe) (ho : DE X o fo) (hi : DE X i fi) (hsw : swapsWithSole [.Subscript o i spos] e pos.line X.env = pure false := by rfl) (hw : swappedStores [.Subscript o i spos] e X.env = pure none := by rfl)
    (h1 : (assignEach [.Subscript o i spos] X.env).map (·.2) = [assign (.Subscript o i spos) X.env] := by rfl)
    (ha : ∀ v, assign (.Subscript o i spos) X.env v = (do
      let ov ← holding [v] (eval o X.env)
      let iv ← holding [v, ov] (eval i X.env)
      standAt spos
      holding [v, ov, iv] (setItem ov iv v)
      release [v, ov, iv] []) := by intro _; rfl) : DS X (.Assign [.Subscript o i spos] e pos) (sSub op fe fo fi) :=
  PS.weak (ps_asg he (pg_sub ho hi hs ha) hsw hw h1) fun D σ H ⟨ρ, env, st, at_, q⟩ => by
    refine ⟨ρ, env, st, at_, (RS.bindE at_ q).mono fun d st1 H1 ρ1 a1 ⟨_, k⟩ v r => ?_⟩
    refine ⟨ρ1, env, st1, at_.aft a1, (RS.bindE (at_.aft a1) k).mono fun d2 st2 H2 ρ2 a2 ⟨_, k2⟩ v2 r2 => ?_⟩
    refine ⟨ρ2, env, st2, (at_.aft a1).aft a2, (RS.bindE ((at_.aft a1).aft a2) k2).mono fun d3 st3 H3 ρ3 a3 ⟨_, k3⟩ v3 r3 => ?_⟩
    refine ⟨σ, ρ3, env, st3, d2, d3, d, ((at_.aft a1).aft a2).aft a3, r2.stay a3.s a3.p, r3, (r.stay a2.s a2.p).stay a3.s a3.p, ?_⟩
    cases eo : op st3 d2 d3 d with
    | none => rw [eo] at k3; exact k3.elim
    | some st4 =>
      rw [eo] at k3
      intro H4 a4
      exact k3 σ H4 ρ3 a4 ((((at_.aft a1).aft a2).aft a3).aft a4).en

/-! ### a < b < c -/
theorem chain_of {F G : Sto → D → D → Option D} {σ : L2.St} {H : Hp} {Q : VK} (q : tD X (sChain F G f g h) σ H Q) :
    tChain (fun x y H Q => ∃ σ' ρ a b env st, At X σ' H ρ env st ∧ Rep X.K X.w H ρ a x ∧ Rep X.K X.w H ρ b y ∧ RR X σ' H ρ (ofO (F st a b) st) fun d _ H' ρ' => ∀ v, Rep X.K X.w H' ρ' d v → Q v H')
      (fun x y H Q => ∃ σ' ρ a b env st, At X σ' H ρ env st ∧ Rep X.K X.w H ρ a x ∧ Rep X.K X.w H ρ b y ∧ RR X σ' H ρ (ofO (G st a b) st) fun d _ H' ρ' => ∀ v, Rep X.K X.w H' ρ' d v → Q v H') (tD X f) (tD X g) (tD X h) σ H Q := by
  obtain ⟨ρ, env, st, at_, q⟩ := q
  refine ⟨ρ, env, st, at_, (RR.bind q).mono fun d st1 H1 ρ1 a1 ⟨_, k⟩ v r => ?_⟩
  refine ⟨ρ1, env, st1, at_.aft a1, (RR.bind k).mono fun d2 st2 H2 ρ2 a2 ⟨_, k2⟩ v2 r2 => ?_⟩
  refine ⟨σ, ρ2, d, d2, env, st2, (at_.aft a1).aft a2, r.stay a2.s a2.p, r2, ?_⟩
  cases eF : F st2 d d2 with
  | none => rw [eF] at k2; exact k2.elim
  | some z =>
    rw [eF] at k2
    cases z with
    | bl c =>
      intro H3 ρ3 a3 v3 r3
      unfold Rep at r3
      refine ⟨c, r3, ?_⟩
      cases c with
      | true =>
        rw [if_pos rfl]
        have k3 : RR X σ H2 ρ2 ((h env st2).bind fun z st3 => ofO (G st3 d2 z) st3) fun d _ H' ρ' => ∀ v, Rep X.K X.w H' ρ' d v → Q v H' := k2
        refine ⟨ρ3, env, st2, ((at_.aft a1).aft a2).aft a3, (RR.bind (RR.aftR a3 k3)).mono fun d4 st4 H4 ρ4 a4 ⟨_, k4⟩ v4 r4 => ?_⟩
        exact ⟨σ, ρ4, d2, d4, env, st4, (((at_.aft a1).aft a2).aft a3).aft a4, (r2.stay a3.s a3.p).stay a4.s a4.p, r4, k4⟩
      | false =>
        rw [if_neg Bool.false_ne_true]
        exact k2 H3 ρ3 a3 _ (by unfold Rep; rfl)
    | _ => exact k2.elim
theorem de_chain {op op' : CmpOp} {F G : Sto → D → D → Option D} (ho : OpD X (compareOp op) F) (ho' : OpD X (compareOp op') G) (ha : DE X a f) (hb : DE X b g) (hc : DE X c h) (hm : lastMarks [op, op'] [b, c] = false := by with_unfolding_all rfl) : DE X (.Compare a [op, op'] [b, c] pos) (sChain F G f g h) :=
  PE.weak (pe_chain ho.r ho'.r ha hb hc hm) fun σ H Q q => chain_of q
theorem dt_chain {op op' : CmpOp} {F G : Sto → D → D → Option D} (ho : OpD X (compareOp op) F) (ho' : OpD X (compareOp op') G) (ha : DE X a f) (hb : DE X b g) (hc : DE X c h) (hm : lastMarks [op, op'] [b, c] = false := by with_unfolding_all rfl) : DT X (.Compare a [op, op'] [b, c] pos) (sB (sChain F G f g h)) :=
  PT.weak (pt_chain ho.r ho'.r ha hb hc hm) fun σ H Q q => chain_of (tB_of q)

/-! ### calls with keywords alone -/
def permD (π : List Nat) (as : List D) : List D := π.map fun j => as.getD j .non
def sCallK (π : List Nat) (g : SemF) (fs : SemA) : SemE := fun env st => (fs env st).bind fun as st1 => if as.length = π.length then g (permD π as) st1 else .bad
def DK (X : Cx) (kws : List Keyword) (fs : SemA) : Prop := PK X kws (tA X fs)
theorem dk_nil : DK X [] sNil := ⟨fun pos pins s σ H Q I ⟨ρ, env, st, at_, h⟩ => pk_nil.run pos pins s σ H Q I (h H ρ (Aft.refl at_.st) [] Reps.nil)⟩
theorem dk_cons {nm : Option Str} {kpos : Pos} {kws : List Keyword} (ha : DE X e f) (hr : DK X kws fs) : DK X (⟨nm, e, kpos⟩ :: kws) (sCons f fs) :=
  ⟨fun pos pins s σ H Q I ⟨ρ, env, st, at_, h⟩ => (pk_cons ha hr).run pos pins s σ H Q I (by
    refine ⟨ρ, env, st, at_, (RR.bind h).mono fun d st1 H1 ρ1 a1 ⟨_, k⟩ v r => ?_⟩
    exact ⟨ρ1, env, st1, at_.aft a1, (RR.bind k).mono fun ds st2 H2 ρ2 a2 ⟨_, k2⟩ vs rs => k2 H2 ρ2 (Aft.refl a2.r) (v :: vs) (Reps.cons (r.stay a2.s a2.p) rs)⟩)⟩
/-- the keywords named ks, put in the parameters' order by π -/
structure FnK (P : Program) (w : World) (K : PySem.W.Frag) (mg : Str → Option Value) (base : Heap) (k : Nat) (x : Str) (ps ks : List Str) (π : List Nat) (g : SemF) : Prop where
  ex : ∃ (f : Addr) (fd : FuncData), FnA P w K mg base k x ps g f fd ∧ π.length = ps.length ∧ ks.length = π.length ∧ ∀ (s : Shared) (ws : List Value), ws.length = ks.length → BindsTo s fd ⟨[], ks.zip ws⟩ (ps.zip (π.map fun j => ws.getD j .none))
theorem Reps.perm {K : PySem.W.Frag} {w : World} {H : Hp} {ρ : List Addr} {ds : List D} {vs : List V} (h : Reps K w H ρ ds vs) : ∀ π : List Nat, Reps K w H ρ (permD π ds) (π.map fun j => vs.getD j .non)
  | [] => Reps.nil
  | j :: π => by
    refine Reps.cons ?_ (h.perm π)
    have hl := h.length
    by_cases hj : j < ds.length
    · obtain ⟨v, e, r⟩ := h.get (List.getElem?_eq_getElem hj)
      have e1 : vs.getD j .non = v := by rw [List.getD_eq_getElem?_getD, e]; rfl
      have e2 : ds.getD j .non = ds[j] := by rw [List.getD_eq_getElem?_getD, List.getElem?_eq_getElem hj]; rfl
      show Rep K w H ρ (ds.getD j .non) (vs.getD j .non)
      rw [e1, e2]
      exact r
    · have e1 : vs.getD j .non = .non := by rw [List.getD_eq_getElem?_getD, List.getElem?_eq_none (by omega)]; rfl
      have e2 : ds.getD j .non = .non := by rw [List.getD_eq_getElem?_getD, List.getElem?_eq_none (by omega)]; rfl
      show Rep K w H ρ (ds.getD j .non) (vs.getD j .non)
      rw [e1, e2]
      unfold Rep
      rfl
theorem vals_perm {zs : List V} {ws : List Value} (h : Vals zs ws) : ∀ π : List Nat, Vals (π.map fun j => zs.getD j .non) (π.map fun j => ws.getD j .none)
  | [] => .nil
  | j :: π => by
    refine .cons ?_ (vals_perm h π)
    have hl := h.length
    by_cases hj : j < zs.length
    · obtain ⟨u, e, r⟩ := h.get (List.getElem?_eq_getElem hj)
      have e1 : ws.getD j .none = u := by rw [List.getD_eq_getElem?_getD, e]; rfl
      have e2 : zs.getD j .non = zs[j] := by rw [List.getD_eq_getElem?_getD, List.getElem?_eq_getElem hj]; rfl
      show RelV (zs.getD j .non) (ws.getD j .none)
      rw [e1, e2]
      exact r
    · have e1 : ws.getD j .none = .none := by rw [List.getD_eq_getElem?_getD, List.getElem?_eq_none (by omega)]; rfl
      have e2 : zs.getD j .non = .non := by rw [List.getD_eq_getElem?_getD, List.getElem?_eq_none (by omega)]; rfl
      show RelV (zs.getD j .non) (ws.getD j .none)
      rw [e1, e2]
      rfl
variable {k : Nat} {ps ks : List Str} {π : List Nat} {G : SemF} {kws : List Keyword}
theorem de_callK (F : FnK X.prog X.w X.K X.mg X.base k x ps ks π G) (hr : Room k X.A) (hkw : DK X kws fs) (hg : Gl X x := by rfl) (hall : (backToKw pos (keywordEach kws X.env)).all (·.1.isSome) = true := by rfl) (hks : (backToKw pos (keywordEach kws X.env)).filterMap (·.1) = ks := by rfl)
    (hdb : (x == ("__debug__" : Str)) = false := by decide) (hpl : ((backTo pos (starEach [] X.env)).any (·.1) || (backToKw pos (keywordEach kws X.env)).any (·.1.isNone)) = false := by rfl) : DE X (.Call (.Name x p) [] kws pos) (sCallK π G fs) := by
  obtain ⟨fa, fd, A, B1, B2, B⟩ := F.ex
  refine ⟨fun pins s σ H Q I h => ?_⟩
  obtain ⟨ρ, env, st, at_, h⟩ := h
  refine wpAny_Call_Name_kw (ld_glob I hg A.at_ ?_ hdb)
  refine PySem.W.callWith_KW0 (h₀ := X.base) I.ok.mod.kin A.kp hall (thn (hkw.run pos pins s σ H (fun vs H1 => vs.length = π.length ∧ spD X.K X.w G (π.map fun j => vs.getD j .non) H1 Q (fun cls d H' => WT X cls d σ H')) I ?_) fun ws s2 ⟨zs, H2, I2, rz, lz, q2⟩ => ⟨I2.kIn, ?_⟩) hpl
  · refine ⟨ρ, env, st, at_, (RR.bind h).mono fun as st1 H1 ρ1 a1 ⟨_, k⟩ vs rs => ?_⟩
    by_cases hl : as.length = π.length
    · rw [if_pos hl] at k
      exact ⟨by rw [rs.length]; exact hl, spD_of (at_.aft a1) (rs.perm π) k⟩
    · rw [if_neg hl] at k
      exact k.elim
  · rw [hks]
    have r2 : Vals (π.map fun j => zs.getD j .non) (π.map fun j => ws.getD j .none) := vals_perm rz π
    have hl : ws.length = ks.length := by rw [← rz.length, lz, B2]
    refine wpAny_call (codeAny_mono (A.ok.run X.A X.stack s2 H2 ⟨[], ks.zip ws⟩ (π.map fun j => ws.getD j .none) (π.map fun j => zs.getD j .non) Q _ hr I2.env0 (B s2 ws hl) r2 q2) fun r s' hq => ?_)
    cases r with
    | error e => exact passAt (takes_WT X) σ pins H2 s2 e s' I2 hq
    | ok fl =>
      cases fl with
      | ret u => exact I2.after hq
      | next => exact False.elim hq
      | brk => exact False.elim hq
      | cont => exact False.elim hq
theorem fnK_of {P : Program} {w : World} {K : PySem.W.Frag} {mg : Str → Option Value} {base : Heap} {params : Arguments} {body : List Stmt} {scope : Scope} {fa : Addr} {fd : FuncData} (A : FnA P w K mg base k x ps G fa fd) (F : FunD K x x params body scope [] [] fa fd)
    (h1 : π.length = ps.length) (h2 : ks.length = π.length) (hb : ∀ (kV doc pm : Value) (an : Option Addr) (cdv ct : Value) (ws : List Value), ws.length = ks.length → bindArgs (PySem.W.fnOf x x params body scope .none kV doc pm an cdv ct) ⟨[], ks.zip ws⟩ = pure (ps.zip (π.map fun j => ws.getD j .none))) :
    FnK P w K mg base k x ps ks π G := by
  refine ⟨fa, fd, A, h1, h2, fun s ws hl => ?_⟩
  obtain ⟨oc, od, dV, kV, doc, pm, an, cdv, ct, osl, rfl, lk, hcd, hD, hK⟩ := F.ex
  rcases hD with ⟨_, rfl⟩ | ⟨e, _⟩
  · exact .of_eq (hb kV doc pm an cdv ct ws hl)
  · exact absurd rfl e
end
/-- what the module's top leaves as it was -/
structure Bs (mg : Str → Option Value) : Prop where
  isinstance : mg "isinstance" = none
  int : mg "int" = none
  bool : mg "bool" = none
  str : mg "str" = none
  tuple : mg "tuple" = none
  list : mg "list" = none
  dict : mg "dict" = none
  len : mg "len" = none
  abs : mg "abs" = none
  max : mg "max" = none
  min : mg "min" = none
  sum : mg "sum" = none
  all : mg "all" = none
  any : mg "any" = none
  sorted : mg "sorted" = none
  range : mg "range" = none
  zip : mg "zip" = none
  repr : mg "repr" = none
def WR {α : Type} (r : Res α) (Q : α → Sto → Prop) : Prop := match r with
  | .ok a st => Q a st
  | _ => False
def WO {α : Type} (o : Option α) (Q : α → Prop) : Prop := match o with
  | some a => Q a
  | none => False
def WS (r : ResS) (N : En → Sto → Prop) (R : D → Sto → Prop) (B : En → Sto → Prop) : Prop := match r with
  | .nx e s => N e s
  | .ret d s => R d s
  | .brk e s => B e s
  | _ => False
theorem WR.get {α : Type} {r : Res α} {Q : α → Sto → Prop} (h : WR r Q) : ∃ a st, r = .ok a st ∧ Q a st := by
  cases r with
  | ok a st => exact ⟨a, st, rfl, h⟩
  | _ => exact h.elim
theorem WR.of {α : Type} {r : Res α} {Q : α → Sto → Prop} {a : α} {st : Sto} (e : r = .ok a st) (h : Q a st) : WR r Q := by rw [e]; exact h
theorem WR.mono {α : Type} {r : Res α} {Q Q' : α → Sto → Prop} (h : WR r Q) (i : ∀ a st, Q a st → Q' a st) : WR r Q' := by
  cases r with
  | ok a st => exact i a st h
  | _ => exact h
theorem WO.mono {α : Type} {r : Option α} {Q Q' : α → Prop} (h : WO r Q) (i : ∀ a, Q a → Q' a) : WO r Q' := by
  cases r with
  | some a => exact i a h
  | none => exact h
theorem WS.mono {r : ResS} {N N' : En → Sto → Prop} {R R' : D → Sto → Prop} {B B' : En → Sto → Prop} (h : WS r N R B) (i : ∀ e s, N e s → N' e s) (j : ∀ d s, R d s → R' d s) (k : ∀ e s, B e s → B' e s) : WS r N' R' B' := by
  cases r with
  | nx e s => exact i e s h
  | ret d s => exact j d s h
  | brk e s => exact k e s h
  | _ => exact h
def getE : En → Nat → Option D
  | [], _ => none
  | a :: _, 0 => a
  | _ :: l, n + 1 => getE l n
theorem getE_eq : ∀ (env : En) (i : Nat), getE env i = (env[i]?).join
  | [], i => by simp [getE]
  | a :: l, 0 => by simp [getE]
  | a :: l, n + 1 => by simp [getE, getE_eq l n]
theorem getE_zero {a : Option D} {l : En} : getE (a :: l) 0 = a := (rfl)
theorem getE_succ {a : Option D} {l : En} {n : Nat} : getE (a :: l) (n + 1) = getE l n := (rfl)
def setE : En → Nat → D → En
  | [], _, _ => []
  | _ :: l, 0, d => some d :: l
  | a :: l, n + 1, d => a :: setE l n d
theorem setE_zero {a : Option D} {l : En} {d : D} : setE (a :: l) 0 d = some d :: l := (rfl)
theorem setE_succ {a : Option D} {l : En} {n : Nat} {d : D} : setE (a :: l) (n + 1) d = a :: setE l n d := (rfl)
theorem set_eq : ∀ (env : En) (i : Nat) (d : D), env.set i (some d) = setE env i d
  | [], i, d => rfl
  | a :: l, 0, d => rfl
  | a :: l, n + 1, d => by simp [setE, set_eq l n d]
def unsE : En → Nat → En
  | [], _ => []
  | _ :: l, 0 => none :: l
  | a :: l, n + 1 => a :: unsE l n
theorem unsE_zero {a : Option D} {l : En} : unsE (a :: l) 0 = none :: l := (rfl)
theorem unsE_succ {a : Option D} {l : En} {n : Nat} : unsE (a :: l) (n + 1) = a :: unsE l n := (rfl)
theorem uns_eq : ∀ (env : En) (i : Nat), env.set i none = unsE env i
  | [], i => rfl
  | a :: l, 0 => rfl
  | a :: l, n + 1 => by simp [unsE, uns_eq l n]
theorem wipeD_nil {env : En} : wipeD env [] = env := (rfl)
theorem wipeD_cons {env : En} {v : Nat} {vs : List Nat} : wipeD env (v :: vs) = unsE (wipeD env vs) v := uns_eq _ _

section
variable {α β : Type} {env : En} {st : Sto} {Q : D → Sto → Prop} {QB : Bool → Sto → Prop} {QA : List D → Sto → Prop} {f g h : SemE} {fs : SemA} {c c' : SemB} {N B : En → Sto → Prop} {R : D → Sto → Prop} {i j k : Nat}
theorem WR_bind {r : Res α} {F : α → Sto → Res β} {Q : β → Sto → Prop} : WR (r.bind F) Q = WR r fun a s => WR (F a s) Q := by cases r <;> rfl
theorem WR_ok {a : α} {s : Sto} {Q : α → Sto → Prop} : WR (.ok a s) Q = Q a s := (rfl)
theorem WR_bad {Q : α → Sto → Prop} : WR (.bad : Res α) Q = False := (rfl)
theorem WO_some {a : α} {Q : α → Prop} : WO (some a) Q = Q a := (rfl)
theorem WO_none {Q : α → Prop} : WO (none : Option α) Q = False := (rfl)
theorem WR_ofO {o : Option α} {Q : α → Sto → Prop} : WR (ofO o st) Q = WO o fun a => Q a st := by cases o <;> rfl
theorem WR_ite {p : Prop} [Decidable p] {r r' : Res α} {Q : α → Sto → Prop} : WR (if p then r else r') Q = if p then WR r Q else WR r' Q := by split <;> rfl
theorem WO_ite {p : Prop} [Decidable p] {r r' : Option α} {Q : α → Prop} : WO (if p then r else r') Q = if p then WO r Q else WO r' Q := by split <;> rfl
theorem WO_map {o : Option α} {F : α → β} {Q : β → Prop} : WO (o.map F) Q = WO o fun a => Q (F a) := by cases o <;> rfl
theorem WR_sVar : WR (sVar i env st) Q = WO (getE env i) fun d => Q d st := by
  rw [getE_eq]
  unfold sVar
  cases e : env[i]? with
  | none => rfl
  | some o => cases o <;> rfl
theorem WR_sC {d : D} : WR (sC d env st) Q = Q d st := (rfl)
theorem WR_sOp {F : Sto → D → D → Option D} : WR (sOp F f g env st) Q = WR (f env st) fun a s => WR (g env s) fun b s2 => WO (F s2 a b) fun d => Q d s2 := by
  unfold sOp
  simp only [WR_bind, WR_ofO]
theorem WR_sUn {F : Sto → D → Option D} : WR (sUn F f env st) Q = WR (f env st) fun a s => WO (F s a) fun d => Q d s := by
  unfold sUn
  simp only [WR_bind, WR_ofO]
theorem WR_sTru : WR (sTru f env st) QB = WR (f env st) fun a s => WO (truthy s a) fun b => QB b s := by
  unfold sTru
  simp only [WR_bind, WR_ofO]
theorem WR_sB : WR (sB f env st) QB = WR (f env st) fun a s => WO (asB s a) fun b => QB b s := by
  unfold sB
  simp only [WR_bind, WR_ofO]
theorem WR_sAnd : WR (sAnd c c' env st) QB = WR (c env st) fun b s => if b = true then WR (c' env s) QB else QB false s := by
  unfold sAnd
  simp only [WR_bind, WR_ite, WR_ok]
theorem WR_sOr : WR (sOr c c' env st) QB = WR (c env st) fun b s => if b = true then QB true s else WR (c' env s) QB := by
  unfold sOr
  simp only [WR_bind, WR_ite, WR_ok]
theorem WR_sNot : WR (sNot c env st) QB = WR (c env st) fun b s => QB (!b) s := by
  unfold sNot
  simp only [WR_bind, WR_ok]
theorem WR_sAndV : WR (sAndV f g env st) Q = WR (f env st) fun d s => WO (truthy s d) fun b => if b = true then WR (g env s) Q else Q d s := by
  unfold sAndV
  rw [WR_bind]
  congr
  funext d s
  cases e : truthy s d with
  | none => rfl
  | some b => cases b <;> rfl
theorem WR_sOrV : WR (sOrV f g env st) Q = WR (f env st) fun d s => WO (truthy s d) fun b => if b = true then Q d s else WR (g env s) Q := by
  unfold sOrV
  rw [WR_bind]
  congr
  funext d s
  cases e : truthy s d with
  | none => rfl
  | some b => cases b <;> rfl
theorem WR_sNotV : WR (sNotV f env st) Q = WR (f env st) fun d s => WO (truthy s d) fun b => Q (.bl (!b)) s := by
  unfold sNotV
  rw [WR_bind]
  congr
  funext d s
  cases e : truthy s d <;> rfl
theorem WR_sIf : WR (sIf c f g env st) Q = WR (c env st) fun b s => if b = true then WR (f env s) Q else WR (g env s) Q := by
  unfold sIf
  simp only [WR_bind, WR_ite]
theorem WR_sNil : WR (sNil env st) QA = QA [] st := (rfl)
theorem WR_sCons : WR (sCons f fs env st) QA = WR (f env st) fun d s => WR (fs env s) fun ds s2 => QA (d :: ds) s2 := by
  unfold sCons
  simp only [WR_bind, WR_ok]
theorem WR_sStar : WR (sStar f fs env st) QA = WR (f env st) fun d s => WO (itemsOf s d) fun xs => WR (fs env s) fun ds s2 => QA (xs ++ ds) s2 := by
  unfold sStar
  rw [WR_bind]
  congr
  funext d s
  cases e : itemsOf s d with
  | none => rfl
  | some xs =>
    show WR _ _ = WR _ _
    rw [WR_bind]
    rfl
theorem WR_sTup : WR (sTup fs env st) Q = WR (fs env st) fun ds s => ds.length ≤ sizeLine ∧ Q (.tup ds) s := by
  unfold sTup
  rw [WR_bind]
  congr
  funext ds s
  by_cases z : ds.length ≤ sizeLine
  · rw [if_pos z]; exact propext ⟨fun h => ⟨z, h⟩, fun h => h.2⟩
  · rw [if_neg z]; exact propext ⟨fun h => h.elim, fun h => z h.1⟩
theorem WR_sLst : WR (sLst fs env st) Q = WR (fs env st) fun ds s => ds.length ≤ sizeLine ∧ Q (.lst ds) s := by
  unfold sLst
  rw [WR_bind]
  congr
  funext ds s
  by_cases z : ds.length ≤ sizeLine
  · rw [if_pos z]; exact propext ⟨fun h => ⟨z, h⟩, fun h => h.2⟩
  · rw [if_neg z]; exact propext ⟨fun h => h.elim, fun h => z h.1⟩
theorem WR_sLstM : WR (sLstM fs env st) Q = WR (fs env st) fun ds s => ds.length ≤ sizeLine ∧ Q (.ref s.length) (s ++ [.lst ds]) := by
  unfold sLstM
  rw [WR_bind]
  congr
  funext ds s
  by_cases z : ds.length ≤ sizeLine
  · rw [if_pos z]; exact propext ⟨fun h => ⟨z, h⟩, fun h => h.2⟩
  · rw [if_neg z]; exact propext ⟨fun h => h.elim, fun h => z h.1⟩
/-- frozen -/
def frzD (s : Sto) : D → Option (D × Sto)
  | .ref n => match s[n]? with
    | some (.lst ds) => some (.lst ds, s.set n .dead)
    | some (.dct es) => some (.dct es, s.set n .dead)
    | _ => none
  | d => some (d, s)
theorem WR_sFrz : WR (sFrz f env st) Q = WR (f env st) fun d s => WO (frzD s d) fun p => Q p.1 p.2 := by
  unfold sFrz
  rw [WR_bind]
  congr
  funext d s
  cases d with
  | ref n =>
    unfold frzD
    cases e : s[n]? with
    | none => simp only [e]; rfl
    | some o => cases o <;> simp only [e] <;> rfl
  | _ => rfl
theorem WR_sCall {G : SemF} : WR (sCall G fs env st) Q = WR (fs env st) fun as s => WR (G as s) Q := by
  unfold sCall
  rw [WR_bind]
theorem WR_sCallK {π : List Nat} {G : SemF} : WR (sCallK π G fs env st) Q = WR (fs env st) fun as s => as.length = π.length ∧ WR (G (permD π as) s) Q := by
  unfold sCallK
  rw [WR_bind]
  congr
  funext ds s
  by_cases z : ds.length = π.length
  · rw [if_pos z]; exact propext ⟨fun h => ⟨z, h⟩, fun h => h.2⟩
  · rw [if_neg z]; exact propext ⟨fun h => h.elim, fun h => z h.1⟩
theorem WR_sCB {op : Sto → List D → Option D} : WR (sCB op fs env st) Q = WR (fs env st) fun as s => WO (op s as) fun d => Q d s := by
  unfold sCB
  simp only [WR_bind, WR_ofO]
theorem WR_sIsi {Ts : List String} : WR (sIsi Ts f env st) Q = WR (f env st) fun d s => WO (tyOf s d) fun t => Q (.bl (Ts.any fun T => isTy t T)) s := by
  unfold sIsi
  simp only [WR_bind, WR_ofO, WO_map]
theorem WR_sPart0 {QP : Option Int → Sto → Prop} : WR (sPart none env st) QP = QP none st := (rfl)
theorem WR_sPart1 {QP : Option Int → Sto → Prop} : WR (sPart (some f) env st) QP = WR (f env st) fun d s => match d with
    | .int i => QP (some i) s
    | _ => False := by
  show WR (Res.bind _ _) _ = _
  rw [WR_bind]
  congr
  funext d s
  cases d <;> rfl
theorem WR_sSl {l u : Option SemE} : WR (sSl f l u env st) Q = WR (f env st) fun a s => WR (sPart l env s) fun lo s2 => WR (sPart u env s2) fun hi s3 => WO (oSl s3 a lo hi) fun d => Q d s3 := by
  unfold sSl
  simp only [WR_bind, WR_ofO]
theorem WR_sApp : WR (sApp f g env st) Q = WR (f env st) fun a s => WO (getL s a) fun _ => WR (g env s) fun b s2 => WO (getL s2 a) fun p => p.2.length < sizeLine ∧ Q .non (s2.set p.1 (.lst (p.2 ++ [b]))) := by
  unfold sApp
  rw [WR_bind]
  congr
  funext a s
  cases e : getL s a with
  | none => rfl
  | some p =>
    show WR _ _ = WR _ _
    rw [WR_bind]
    congr
    funext b s2
    cases e2 : getL s2 a with
    | none => rfl
    | some p2 =>
      show WR (if p2.2.length < sizeLine then _ else _) _ = (p2.2.length < sizeLine ∧ _)
      by_cases z : p2.2.length < sizeLine
      · rw [if_pos z]; exact propext ⟨fun h => ⟨z, h⟩, fun h => h.2⟩
      · rw [if_neg z]; exact propext ⟨fun h => h.elim, fun h => z h.1⟩
theorem WR_sPop : WR (sPop f env st) Q = WR (f env st) fun a s => WO (getL s a) fun p => WO p.2[p.2.length - 1]? fun d => Q d (s.set p.1 (.lst p.2.dropLast)) := by
  unfold sPop
  rw [WR_bind]
  congr
  funext a s
  cases e : getL s a with
  | none => rfl
  | some p =>
    obtain ⟨n, ds⟩ := p
    show WR (match ds[ds.length - 1]? with
      | some d => .ok d (s.set n (.lst ds.dropLast))
      | none => .bad) Q = WO ds[ds.length - 1]? _
    cases ds[ds.length - 1]? <;> rfl
theorem WR_sChain {F G : Sto → D → D → Option D} : WR (sChain F G f g h env st) Q = WR (f env st) fun x s => WR (g env s) fun y s2 => WO (F s2 x y) fun b => match b with
    | .bl true => WR (h env s2) fun z s3 => WO (G s3 y z) fun d => Q d s3
    | .bl false => Q (.bl false) s2
    | _ => False := by
  unfold sChain
  rw [WR_bind]
  congr
  funext x s
  rw [WR_bind]
  congr
  funext y s2
  cases e : F s2 x y with
  | none => rfl
  | some b =>
    cases b with
    | bl k =>
      cases k with
      | true =>
        show WR (Res.bind _ _) _ = WR _ _
        rw [WR_bind]
        congr
        funext z s3
        rw [WR_ofO]
      | false => rfl
    | _ => rfl
theorem WR_dead : WR (sDead env st) Q = False := (rfl)

/-! ### statements -/
theorem WS_bindE {r : Res α} {F : α → Sto → ResS} : WS (r.bindS env F) N R B = WR r fun a s => WS (F a s) N R B := by cases r <;> rfl
theorem WS_nx {e : En} {s : Sto} : WS (.nx e s) N R B = N e s := (rfl)
theorem WS_ret {d : D} {s : Sto} : WS (.ret d s) N R B = R d s := (rfl)
theorem WS_brk {e : En} {s : Sto} : WS (.brk e s) N R B = B e s := (rfl)
theorem WS_bad : WS .bad N R B = False := (rfl)
theorem WS_ite {p : Prop} [Decidable p] {r r' : ResS} : WS (if p then r else r') N R B = if p then WS r N R B else WS r' N R B := by split <;> rfl
theorem WS_sNext : WS (sNext env st) N R B = N env st := (rfl)
theorem WS_sBrk : WS (sBrk env st) N R B = B env st := (rfl)
theorem WS_dead : WS (sDeadS env st) N R B = False := (rfl)
theorem WS_sSeq {f g : SemS} : WS (sSeq f g env st) N R B = WS (f env st) (fun e s => WS (g e s) N R B) R B := by
  unfold sSeq
  cases f env st <;> rfl
theorem WS_sDrop : WS (sDrop f env st) N R B = WR (f env st) fun _ s => N env s := by
  unfold sDrop
  rw [WS_bindE]; rfl
theorem WS_sRet : WS (sRet f env st) N R B = WR (f env st) fun d s => R d s := by
  unfold sRet
  rw [WS_bindE]; rfl
theorem WS_sRetN : WS (sRetN env st) N R B = R .non st := (rfl)
theorem WS_sIfS {f g : SemS} : WS (sIfS c f g env st) N R B = WR (c env st) fun b s => if b = true then WS (f env s) N R B else WS (g env s) N R B := by
  unfold sIfS
  rw [WS_bindE]
  congr
  funext b s
  rw [WS_ite]
theorem WS_sAsg {g : SemG} : WS (sAsg f g env st) N R B = WR (f env st) fun d s => WO (g d env s) fun e => N e s := by
  unfold sAsg
  rw [WS_bindE]
  congr
  funext d s
  cases g d env s <;> rfl
theorem WO_gN {d : D} {QE : En → Prop} : WO (gN i d env st) QE = QE (setE env i d) := by
  show QE (env.set i (some d)) = _
  rw [set_eq]
theorem WO_gTup {n : Nat} {gs : SemGs} {ds : List D} {QE : En → Prop} : WO (gTupD n gs (.tup ds) env st) QE = (ds.length = n ∧ WO (gs ds env st) QE) := by
  show WO (if ds.length = n then gs ds env st else none) QE = _
  by_cases z : ds.length = n
  · rw [if_pos z]; exact propext ⟨fun h => ⟨z, h⟩, fun h => h.2⟩
  · rw [if_neg z]; exact propext ⟨fun h => h.elim, fun h => z h.1⟩
theorem WO_gCons {g : SemG} {gs : SemGs} {d : D} {ds : List D} {QE : En → Prop} : WO (gConsD g gs (d :: ds) env st) QE = WO (g d env st) fun e => WO (gs ds e st) QE := by
  show WO ((g d env st).bind _) QE = _
  cases g d env st <;> rfl
theorem WO_gNil {QE : En → Prop} : WO (gNilD [] env st) QE = QE env := (rfl)
theorem WS_sPar2 : WS (sPar2 i j fs env st) N R B = WR (fs env st) fun ds s => match ds with
    | [d, e] => N (setE (setE env i d) j e) s
    | _ => False := by
  unfold sPar2
  rw [WS_bindE]
  congr
  funext ds s
  match ds with
  | [] => rfl
  | [_] => rfl
  | [d, e] => show N _ _ = _; rw [set_eq, set_eq]
  | _ :: _ :: _ :: _ => rfl
theorem WS_sPar3 : WS (sPar3 i j k fs env st) N R B = WR (fs env st) fun ds s => match ds with
    | [d, e, f] => N (setE (setE (setE env i d) j e) k f) s
    | _ => False := by
  unfold sPar3
  rw [WS_bindE]
  congr
  funext ds s
  match ds with
  | [] => rfl
  | [_] => rfl
  | [_, _] => rfl
  | [d, e, f] => show N _ _ = _; rw [set_eq, set_eq, set_eq]
  | _ :: _ :: _ :: _ :: _ => rfl
theorem WS_sSub {op : Sto → D → D → D → Option Sto} {fe fo fi : SemE} : WS (sSub op fe fo fi env st) N R B = WR (fe env st) fun v s => WR (fo env s) fun o s2 => WR (fi env s2) fun i s3 => WO (op s3 o i v) fun s4 => N env s4 := by
  unfold sSub
  rw [WS_bindE]
  congr
  funext v s
  rw [WS_bindE]
  congr
  funext o s2
  rw [WS_bindE]
  congr
  funext i s3
  cases op s3 o i v <;> rfl
theorem WR_mkF {n M : Nat} {body : SemS} {as : List D} : WR (mkF n M body as st) Q = (as.length = n ∧ WS (body (as.map some ++ List.replicate (M - n) none) st) (fun _ s => Q .non s) Q (fun _ _ => False)) := by
  unfold mkF
  by_cases z : as.length = n
  · rw [if_pos z]
    refine propext ⟨fun h => ⟨z, ?_⟩, fun h => ?_⟩
    · revert h
      cases body (as.map some ++ List.replicate (M - n) none) st <;> exact id
    · have h := h.2
      revert h
      cases body (as.map some ++ List.replicate (M - n) none) st <;> exact id
  · rw [if_neg z]; exact propext ⟨fun h => h.elim, fun h => absurd h.1 z⟩

/-! ### walks -/
theorem WR_sWalk {QI : List D × Src → Sto → Prop} : WR (sWalk f env st) QI = WR (f env st) fun d s => WO (walkOf s d) fun p => QI p s := by
  unfold sWalk
  simp only [WR_bind, WR_ofO]
theorem WR_sRange {F : List D → Option (List D × Src)} {QI : List D × Src → Sto → Prop} : WR (sRange F fs env st) QI = WR (fs env st) fun ds s => WO (F ds) fun p => QI p s := by
  unfold sRange
  simp only [WR_bind, WR_ofO]
theorem WR_sZip {QI : List D × Src → Sto → Prop} : WR (sZip fs env st) QI = WR (fs env st) fun ds s => match ds with
    | [a, b] => WO (zipOf a b) fun p => QI p s
    | _ => False := by
  unfold sZip
  rw [WR_bind]
  congr
  funext ds s
  match ds with
  | [] => rfl
  | [_] => rfl
  | [a, b] => show WR (ofO _ _) _ = _; rw [WR_ofO]
  | _ :: _ :: _ :: _ => rfl
/-- a for -/
theorem forL_by {ok : Sto → Prop} {g : SemG} {body : SemS} (I : Nat → En → Sto → Prop) {N : En → Sto → Prop} {R : D → Sto → Prop} : ∀ (ds : List D) (n : Nat) (env : En) (st : Sto), I n env st →
    (∀ m e s, I m e s → ok s) → (∀ m d e s, ds[m]? = some d → I (n + m) e s → WO (g d e s) fun e1 => WS (body e1 s) (I (n + m + 1)) R N) → (∀ e s, I (n + ds.length) e s → N e s) → WS (forL ok g body ds env st) N R (fun _ _ => False)
  | [], n, env, st, h0, hok, _, hd => by
    unfold forL
    rw [if_pos (hok n env st h0)]
    exact hd env st (by simpa using h0)
  | d :: ds, n, env, st, h0, hok, hs, hd => by
    unfold forL
    rw [if_pos (hok n env st h0)]
    have h1 := hs 0 d env st (by simp) (by simpa using h0)
    cases eg : g d env st with
    | none => rw [eg] at h1; exact h1.elim
    | some e1 =>
      rw [eg] at h1
      have h2 : WS (body e1 st) (I (n + 0 + 1)) R N := h1
      have ih := fun e s (h : I (n + 1) e s) => forL_by I ds (n + 1) e s h hok (fun m d' e s hm hI => by
        have q := hs (m + 1) d' e s (by simpa using hm) (by rw [show n + (m + 1) = n + 1 + m by omega]; exact hI)
        rw [show n + (m + 1) + 1 = n + 1 + m + 1 by omega] at q
        exact q) (fun e s h => hd e s (by rw [show n + (d :: ds).length = n + 1 + ds.length by simp; omega]; exact h))
      dsimp only
      cases eb : body e1 st with
      | nx e s => rw [eb] at h2; exact ih e s h2
      | ret d s => rw [eb] at h2; exact h2
      | brk e s => rw [eb] at h2; exact h2
      | _ => rw [eb] at h2; exact h2.elim
theorem WS_sFor {fi : SemI} {g : SemG} {body : SemS} : WS (sFor fi g body env st) N R B = WR (fi env st) fun p s => WS (forL (srcOk p.2 p.1) g body p.1 env s) N R B := by
  unfold sFor
  rw [WS_bindE]
/-- the loop by an invariant over values that are walked -/
theorem for_by {g : SemG} {body : SemS} {ds : List D} (I : Nat → En → Sto → Prop) (h0 : I 0 env st) (hs : ∀ m d e s, ds[m]? = some d → I m e s → WO (g d e s) fun e1 => WS (body e1 s) (I (m + 1)) R N) (hd : ∀ e s, I ds.length e s → N e s) : WS (forL (srcOk .val ds) g body ds env st) N R (fun _ _ => False) :=
  forL_by I ds 0 env st h0 (fun _ _ _ _ => trivial) (fun m d e s hm hI => by
    have q := hs m d e s hm (by simpa using hI)
    simpa using q) (fun e s h => hd e s (by simpa using h))
theorem for_byB {g : SemG} {body : SemS} {ds : List D} (I : Nat → En → Sto → Prop) (h0 : I 0 env st) (hs : ∀ m d e s, ds[m]? = some d → I m e s → WO (g d e s) fun e1 => WS (body e1 s) (I (m + 1)) R N) (hd : ∀ e s, I ds.length e s → N e s) : WS (forL (srcOk .val ds) g body ds env st) N R B :=
  (for_by (R := R) I h0 hs hd).mono (fun _ _ h => h) (fun _ _ h => h) (fun _ _ h => h.elim)
/-- .. over a list of the store that stays -/
theorem for_byR {n : Nat} {g : SemG} {body : SemS} {ds : List D} (I : Nat → En → Sto → Prop) (h0 : I 0 env st) (hok : ∀ m e s, I m e s → s[n]? = some (.lst ds)) (hs : ∀ m d e s, ds[m]? = some d → I m e s → WO (g d e s) fun e1 => WS (body e1 s) (I (m + 1)) R N) (hd : ∀ e s, I ds.length e s → N e s) : WS (forL (srcOk (.ref n) ds) g body ds env st) N R B :=
  (forL_by (N := N) (R := R) I ds 0 env st h0 (fun m e s h => hok m e s h) (fun m d e s hm hI => by
    have q := hs m d e s hm (by simpa using hI)
    simpa using q) (fun e s h => hd e s (by simpa using h))).mono (fun _ _ h => h) (fun _ _ h => h) (fun _ _ h => h.elim)
/-- a comprehension -/
theorem lcL_by {ok : Sto → Prop} {g : SemG} {t : SemB} {e : SemE} {env : En} (I : Nat → List D → Sto → Prop) {QL : List D → Sto → Prop} : ∀ (ds : List D) (n : Nat) (acc : List D) (st : Sto), I n acc st → (∀ m a s, I m a s → ok s) →
    (∀ m d a s, ds[m]? = some d → I (n + m) a s → WO (g d env s) fun e1 => WR (t e1 s) fun b s1 => if b = true then WR (e e1 s1) fun y s2 => I (n + m + 1) (a ++ [y]) s2 else I (n + m + 1) a s1) → (∀ a s, I (n + ds.length) a s → QL a s) → WR (lcL ok g t e env ds acc st) QL
  | [], n, acc, st, h0, hok, _, hd => by
    unfold lcL
    rw [if_pos (hok n acc st h0)]
    exact hd acc st (by simpa using h0)
  | d :: ds, n, acc, st, h0, hok, hs, hd => by
    unfold lcL
    rw [if_pos (hok n acc st h0)]
    have h1 := hs 0 d acc st (by simp) (by simpa using h0)
    have ih := fun a s (h : I (n + 1) a s) => lcL_by I ds (n + 1) a s h hok (fun m d' a s hm hI => by
        have q := hs (m + 1) d' a s (by simpa using hm) (by rw [show n + (m + 1) = n + 1 + m by omega]; exact hI)
        rw [show n + (m + 1) + 1 = n + 1 + m + 1 by omega] at q
        exact q) (fun a s h => hd a s (by rw [show n + (d :: ds).length = n + 1 + ds.length by simp; omega]; exact h))
    cases eg : g d env st with
    | none => rw [eg] at h1; exact h1.elim
    | some e1 =>
      rw [eg] at h1
      obtain ⟨b, s1, e2, h2⟩ := WR.get (show WR (t e1 st) _ from h1)
      dsimp only
      rw [e2]
      show WR (if b = true then _ else _) QL
      by_cases hb : b = true
      · rw [if_pos hb] at h2 ⊢
        obtain ⟨y, s2, e3, h3⟩ := h2.get
        rw [e3]
        exact ih _ s2 h3
      · rw [if_neg hb] at h2 ⊢
        exact ih _ s1 h2
theorem WR_bindN {r : Res α} {F : α → Sto → Res β} {Q : β → Sto → Prop} : WR (r.bindN F) Q = WR r fun a s => WR (F a s) Q := by cases r <;> rfl
theorem WR_sLc {fi : SemI} {g : SemG} {t : SemB} {e : SemE} {vs : List Nat} : WR (sLc fi g t e vs env st) Q = WR (fi env st) fun p s => WR (lcL (srcOk p.2 p.1) g t e (wipeD env vs) p.1 [] s) fun acc s2 => Q (.lst acc) s2 := by
  unfold sLc
  rw [WR_bind]
  congr
  funext p s
  rw [WR_bindN]
  rfl
theorem WR_sLcM {fi : SemI} {g : SemG} {t : SemB} {e : SemE} {vs : List Nat} : WR (sLcM fi g t e vs env st) Q = WR (fi env st) fun p s => WR (lcL (srcOk p.2 p.1) g t e (wipeD env vs) p.1 [] s) fun acc s2 => Q (.ref s2.length) (s2 ++ [.lst acc]) := by
  unfold sLcM
  rw [WR_bind]
  congr
  funext p s
  rw [WR_bindN]
  rfl
theorem WR_sYes : WR (sYes env st) QB = QB true st := (rfl)
/-- a comprehension over values: an invariant -/
theorem lc_by {g : SemG} {t : SemB} {e : SemE} {ds : List D} {QL : List D → Sto → Prop} (I : Nat → List D → Sto → Prop) (h0 : I 0 [] st) (hs : ∀ m d a s, ds[m]? = some d → I m a s → WO (g d env s) fun e1 => WR (t e1 s) fun b s1 => if b = true then WR (e e1 s1) fun y s2 => I (m + 1) (a ++ [y]) s2 else I (m + 1) a s1) (hd : ∀ a s, I ds.length a s → QL a s) : WR (lcL (srcOk .val ds) g t e env ds [] st) QL :=
  lcL_by I ds 0 [] st h0 (fun _ _ _ _ => trivial) (fun m d a s hm hI => by
    have q := hs m d a s hm (by simpa using hI)
    simpa using q) (fun a s h => hd a s (by simpa using h))
/-- .. that maps, with a test, and leaves the store -/
theorem lc_map {g : SemG} {t : SemB} {e : SemE} {ds : List D} {src : Src} {QL : List D → Sto → Prop} (p : D → Bool) (F : D → D) (hok : srcOk src ds st) (hs : ∀ d ∈ ds, WO (g d env st) fun e1 => WR (t e1 st) fun b s1 => b = p d ∧ s1 = st ∧ (p d = true → WR (e e1 st) fun y s2 => y = F d ∧ s2 = st)) (hd : QL ((ds.filter p).map F) st) : WR (lcL (srcOk src ds) g t e env ds [] st) QL := by
  refine lcL_by (fun m a s => s = st ∧ a = ((ds.take m).filter p).map F) ds 0 [] st ⟨rfl, by simp⟩ (fun m a s h => by rw [h.1]; exact hok) (fun m d a s hm hI => ?_) (fun a s h => ?_)
  · obtain ⟨rfl, rfl⟩ := hI
    have hm' := List.getElem?_eq_some_iff.mp hm
    have h1 := hs d (List.mem_of_getElem? hm)
    refine h1.mono fun e1 h2 => h2.mono fun b s1 ⟨e2, e3, h3⟩ => ?_
    subst e2 e3
    have et : ds.take (0 + m + 1) = ds.take (0 + m) ++ [d] := by
      rw [Nat.zero_add, List.take_succ_eq_append_getElem hm'.1, hm'.2]
    by_cases hp : p d = true
    · rw [if_pos hp]
      refine (h3 hp).mono fun y s2 ⟨e4, e5⟩ => ⟨e5, ?_⟩
      rw [et, e4]
      simp [hp]
    · rw [if_neg hp]
      refine ⟨rfl, ?_⟩
      rw [et]
      simp [hp]
  · obtain ⟨rfl, rfl⟩ := h
    simpa using hd
/-- a while -/
theorem while_by {c : SemB} {body : SemS} (I : Nat → En → Sto → Prop) : ∀ (n m : Nat) (env : En) (st : Sto), m < n → I m env st →
    (∀ m e s, I m e s → WR (c e s) fun b s1 => if b = true then WS (body e s1) (fun e2 s2 => ∃ m', m' < m ∧ I m' e2 s2) R N else N e s1) → WS (whileL c body n env st) N R (fun _ _ => False)
  | 0, m, env, st, h, _, _ => by omega
  | n + 1, m, env, st, h, h0, hs => by
    unfold whileL
    rw [WS_bindE]
    refine (hs m env st h0).mono fun b s1 h1 => ?_
    by_cases hb : b = true
    · rw [if_pos hb] at h1 ⊢
      cases eb : body env s1 with
      | nx e s =>
        rw [eb] at h1
        obtain ⟨m', hm, hI⟩ := h1
        exact while_by I n m' e s (by omega) hI hs
      | ret d s => rw [eb] at h1; exact h1
      | brk e s => rw [eb] at h1; exact h1
      | _ => rw [eb] at h1; exact h1.elim
    · rw [if_neg hb] at h1 ⊢
      exact h1
theorem WS_sWhile {fuel : Nat} {body : SemS} : WS (sWhile fuel c body env st) N R B = WS (whileL c body fuel env st) N R B := (rfl)
end
/-! ### the operations at plain arguments -/
section
variable {st : Sto} {Q : D → Prop} {QB : Bool → Prop} {i j : Int} {n : Nat} {xs ys ds : List D}
theorem o_add {i j : Int} : oAdd st (.int i) (.int j) = some (.int (i + j)) := (rfl)
theorem o_sub : oSub st (.int i) (.int j) = some (.int (i - j)) := (rfl)
theorem o_mod : WO (oMod st (.int i) (.int j)) Q = (0 < j ∧ Q (.int (i % j))) := by
  show WO ((if 0 < j then some (i % j) else none).map D.int) Q = _
  by_cases z : 0 < j
  · rw [if_pos z]; exact propext ⟨fun h => ⟨z, h⟩, fun h => h.2⟩
  · rw [if_neg z]; exact propext ⟨fun h => h.elim, fun h => z h.1⟩
theorem o_div : WO (oDiv st (.int i) (.int j)) Q = ((0 < j ∧ j.natAbs.log2 < 9000) ∧ Q (.int (i / j))) := by
  show WO ((if 0 < j ∧ j.natAbs.log2 < 9000 then some (i / j) else none).map D.int) Q = _
  by_cases z : 0 < j ∧ j.natAbs.log2 < 9000
  · rw [if_pos z]; exact propext ⟨fun h => ⟨z, h⟩, fun h => h.2⟩
  · rw [if_neg z]; exact propext ⟨fun h => h.elim, fun h => z h.1⟩
theorem o_pow : WO (oPow st (.int i) (.int j)) Q = (powOk i j = true ∧ Q (.int (i ^ j.toNat))) := by
  show WO ((if powOk i j = true then some (i ^ j.toNat) else none).map D.int) Q = _
  by_cases z : powOk i j = true
  · rw [if_pos z]; exact propext ⟨fun h => ⟨z, h⟩, fun h => h.2⟩
  · rw [if_neg z]; exact propext ⟨fun h => h.elim, fun h => z h.1⟩
theorem o_mul : WO (oMulI st (.int i) (.int j)) Q = (mulOk i j = true ∧ Q (.int (i * j))) := by
  show WO ((if mulOk i j = true then some (i * j) else none).map D.int) Q = _
  by_cases z : mulOk i j = true
  · rw [if_pos z]; exact propext ⟨fun h => ⟨z, h⟩, fun h => h.2⟩
  · rw [if_neg z]; exact propext ⟨fun h => h.elim, fun h => z h.1⟩
theorem o_addT : WO (oAdd st (.tup xs) (.tup ys)) Q = (xs.length + ys.length ≤ sizeLine ∧ Q (.tup (xs ++ ys))) := by
  show WO (if xs.length + ys.length ≤ sizeLine then some (D.tup (xs ++ ys)) else none) Q = _
  by_cases z : xs.length + ys.length ≤ sizeLine
  · rw [if_pos z]; exact propext ⟨fun h => ⟨z, h⟩, fun h => h.2⟩
  · rw [if_neg z]; exact propext ⟨fun h => h.elim, fun h => z h.1⟩
theorem o_addL : WO (oAdd st (.lst xs) (.lst ys)) Q = (xs.length + ys.length ≤ sizeLine ∧ Q (.lst (xs ++ ys))) := by
  show WO (if xs.length + ys.length ≤ sizeLine then some (D.lst (xs ++ ys)) else none) Q = _
  by_cases z : xs.length + ys.length ≤ sizeLine
  · rw [if_pos z]; exact propext ⟨fun h => ⟨z, h⟩, fun h => h.2⟩
  · rw [if_neg z]; exact propext ⟨fun h => h.elim, fun h => z h.1⟩
theorem py2_int : py2 st (.int i) (.int j) = some (.int i, .int j) := (rfl)
theorem o_eqI : oEq st (.int i) (.int j) = some (.bl (decide (i = j))) := by
  show some (D.bl (i == j)) = _
  rw [PySem.W.beq_decide]
theorem o_neI : oNe st (.int i) (.int j) = some (.bl (!decide (i = j))) := by
  show some (D.bl (!(i == j))) = _
  rw [PySem.W.beq_decide]
theorem lt_intD : PySem.W.dataLt (.int i) (.int j) = decide (i < j) := by
  exact PySem.W.dataLt_int i j
theorem o_ltI : oLt st (.int i) (.int j) = some (.bl (decide (i < j))) := by
  rw [← lt_intD]; rfl
theorem o_gtI : oGt st (.int i) (.int j) = some (.bl (decide (j < i))) := by
  rw [← lt_intD]; rfl
theorem not_ltI : (!decide (j < i)) = decide (i ≤ j) := by
  by_cases h : j < i
  · rw [decide_eq_true h, decide_eq_false (by omega)]; rfl
  · rw [decide_eq_false h, decide_eq_true (by omega)]; rfl
theorem o_leI : oLe st (.int i) (.int j) = some (.bl (decide (i ≤ j))) := by
  rw [← not_ltI, ← lt_intD]; rfl
theorem o_geI : oGe st (.int i) (.int j) = some (.bl (decide (j ≤ i))) := by
  rw [← not_ltI, ← lt_intD]; rfl
theorem asB_bl {b : Bool} : asB st (.bl b) = some b := (rfl)
theorem tru_bl {b : Bool} : truthy st (.bl b) = some b := (rfl)
theorem atI_nn (xs : List D) (k : Nat) : atI xs (k : Int) = xs[k]? := by
  unfold atI ixN
  rw [if_pos (by omega)]
  by_cases h : k < xs.length
  · rw [if_pos (by omega)]; rfl
  · rw [if_neg (by omega), List.getElem?_eq_none (by omega)]; rfl
theorem atI_0 : atI xs 0 = xs[0]? := atI_nn xs 0
theorem atI_1 : atI xs 1 = xs[1]? := atI_nn xs 1
theorem atI_2 : atI xs 2 = xs[2]? := atI_nn xs 2
theorem atI_3 : atI xs 3 = xs[3]? := atI_nn xs 3
theorem ix_tup : oIx st (.tup ds) (.int i) = atI ds i := (rfl)
theorem ix_lst : oIx st (.lst ds) (.int i) = atI ds i := (rfl)
theorem ix_ref (h : st[n]? = some (.lst ds)) : oIx st (.ref n) (.int i) = atI ds i := by
  show (itemsOf st (.ref n)).bind _ = _
  simp only [itemsOf, h]; rfl
theorem getL_ref (h : st[n]? = some (.lst ds)) : getL st (.ref n) = some (n, ds) := by
  simp only [getL, h]
theorem set_ref (h : st[n]? = some (.lst ds)) {d : D} : setL st (.ref n) (.int i) d = (ixN ds.length i).map fun j => st.set n (.lst (ds.set j d)) := by
  simp only [setL, getL_ref h]
theorem ixN_lit {m : Nat} (k : Nat) (h : k < m) : ixN m (k : Int) = some k := by
  unfold ixN
  rw [if_pos (by omega), if_pos (by omega)]; rfl
end

theorem ixN_30 : ixN 3 0 = some 0 := (rfl)
theorem ixN_31 : ixN 3 1 = some 1 := (rfl)
theorem ixN_32 : ixN 3 2 = some 2 := (rfl)
theorem powOk_of {i j : Int} {m : Nat} (h : i.natAbs < 2 ^ m) (h0 : 0 ≤ j) (h1 : (m : Int) * j ≤ 2 ^ 27) : powOk i j = true := by
  refine decide_eq_true ⟨h0, ?_⟩
  have hb : Builtin.Int.intBits i ≤ m := PySem.intBits_le_iff.mpr h
  exact Int.le_trans (Int.mul_le_mul_of_nonneg_right (by omega) h0) h1
theorem mulOk_of {i j : Int} {m n : Nat} (hi : i.natAbs < 2 ^ m) (hj : j.natAbs < 2 ^ n) (h0 : 0 < m) (h1 : 0 < n) (h : m + n ≤ 1000000) : mulOk i j = true := by
  have h2 : CMulW i j := wide_mul hi hj h0 h1 h
  exact decide_eq_true h2
theorem log2_small {j : Int} (h0 : 0 < j) (h : j < 2 ^ 60) : j.natAbs.log2 < 9000 := by
  have h1 : j.natAbs < 2 ^ 60 := by omega
  exact (wide_div (i := 0) h0 h1 (by decide) (by decide)).2
/-! ### types by name -/
theorem isTy_NoneType_bool : isTy "NoneType" "bool" = false := by decide +kernel
theorem isTy_NoneType_int : isTy "NoneType" "int" = false := by decide +kernel
theorem isTy_NoneType_str : isTy "NoneType" "str" = false := by decide +kernel
theorem isTy_NoneType_tuple : isTy "NoneType" "tuple" = false := by decide +kernel
theorem isTy_NoneType_list : isTy "NoneType" "list" = false := by decide +kernel
theorem isTy_NoneType_dict : isTy "NoneType" "dict" = false := by decide +kernel
theorem isTy_bool_bool : isTy "bool" "bool" = true := by decide +kernel
theorem isTy_bool_int : isTy "bool" "int" = true := by decide +kernel
theorem isTy_bool_str : isTy "bool" "str" = false := by decide +kernel
theorem isTy_bool_tuple : isTy "bool" "tuple" = false := by decide +kernel
theorem isTy_bool_list : isTy "bool" "list" = false := by decide +kernel
theorem isTy_bool_dict : isTy "bool" "dict" = false := by decide +kernel
theorem isTy_int_bool : isTy "int" "bool" = false := by decide +kernel
theorem isTy_int_int : isTy "int" "int" = true := by decide +kernel
theorem isTy_int_str : isTy "int" "str" = false := by decide +kernel
theorem isTy_int_tuple : isTy "int" "tuple" = false := by decide +kernel
theorem isTy_int_list : isTy "int" "list" = false := by decide +kernel
theorem isTy_int_dict : isTy "int" "dict" = false := by decide +kernel
theorem isTy_str_bool : isTy "str" "bool" = false := by decide +kernel
theorem isTy_str_int : isTy "str" "int" = false := by decide +kernel
theorem isTy_str_str : isTy "str" "str" = true := by decide +kernel
theorem isTy_str_tuple : isTy "str" "tuple" = false := by decide +kernel
theorem isTy_str_list : isTy "str" "list" = false := by decide +kernel
theorem isTy_str_dict : isTy "str" "dict" = false := by decide +kernel
theorem isTy_tuple_bool : isTy "tuple" "bool" = false := by decide +kernel
theorem isTy_tuple_int : isTy "tuple" "int" = false := by decide +kernel
theorem isTy_tuple_str : isTy "tuple" "str" = false := by decide +kernel
theorem isTy_tuple_tuple : isTy "tuple" "tuple" = true := by decide +kernel
theorem isTy_tuple_list : isTy "tuple" "list" = false := by decide +kernel
theorem isTy_tuple_dict : isTy "tuple" "dict" = false := by decide +kernel
theorem isTy_list_bool : isTy "list" "bool" = false := by decide +kernel
theorem isTy_list_int : isTy "list" "int" = false := by decide +kernel
theorem isTy_list_str : isTy "list" "str" = false := by decide +kernel
theorem isTy_list_tuple : isTy "list" "tuple" = false := by decide +kernel
theorem isTy_list_list : isTy "list" "list" = true := by decide +kernel
theorem isTy_list_dict : isTy "list" "dict" = false := by decide +kernel
theorem isTy_dict_bool : isTy "dict" "bool" = false := by decide +kernel
theorem isTy_dict_int : isTy "dict" "int" = false := by decide +kernel
theorem isTy_dict_str : isTy "dict" "str" = false := by decide +kernel
theorem isTy_dict_tuple : isTy "dict" "tuple" = false := by decide +kernel
theorem isTy_dict_list : isTy "dict" "list" = false := by decide +kernel
theorem isTy_dict_dict : isTy "dict" "dict" = true := by decide +kernel
theorem o_eqB {st : Sto} {a b : Bool} : oEq st (.bl a) (.bl b) = some (.bl (decide (a = b))) := by
  show some (D.bl (a == b)) = _
  rw [PySem.W.beq_decide]
theorem o_neB {st : Sto} {a b : Bool} : oNe st (.bl a) (.bl b) = some (.bl (!decide (a = b))) := by
  show some (D.bl (!(a == b))) = _
  rw [PySem.W.beq_decide]
theorem o_eqS {st : Sto} {a b : Str} : oEq st (.str a) (.str b) = some (.bl (decide (a = b))) := by
  show some (D.bl (a == b)) = _
  rw [PySem.W.beq_decide]
theorem o_neS {st : Sto} {a b : Str} : oNe st (.str a) (.str b) = some (.bl (!decide (a = b))) := by
  show some (D.bl (!(a == b))) = _
  rw [PySem.W.beq_decide]
theorem o_eqNN {st : Sto} : oEq st .non .non = some (.bl true) := (rfl)
theorem o_isN {st : Sto} {a : D} : oIsN st a .non = some (.bl a.isNon) := (rfl)
theorem o_notN {st : Sto} {a : D} : oNotN st a .non = some (.bl (!a.isNon)) := (rfl)
theorem len_tup {st : Sto} {ds : List D} : oLen st [.tup ds] = some (.int ds.length) := (rfl)
theorem len_lst {st : Sto} {ds : List D} : oLen st [.lst ds] = some (.int ds.length) := (rfl)
theorem len_ref {st : Sto} {n : Nat} {ds : List D} (h : st[n]? = some (.lst ds)) : oLen st [.ref n] = some (.int ds.length) := by
  show (itemsOf st (.ref n)).map _ = _
  simp only [itemsOf, h]; rfl
theorem rng1 {m : Nat} (h : m ≤ 8000000) : rangeOf1 [.int m] = some ((List.range m).map fun i => D.int (i : Nat), .val) := by
  have h2 : smallI (m : Int) = true := decide_eq_true (by omega)
  simp only [rangeOf1, h2, if_true, Int.toNat_natCast, Int.zero_add]
theorem rng1i {j : Int} (h0 : -8000000 ≤ j) (h : j ≤ 8000000) : rangeOf1 [.int j] = some ((List.range j.toNat).map fun i => D.int (i : Nat), .val) := by
  have h2 : smallI j = true := decide_eq_true ⟨h0, h⟩
  simp only [rangeOf1, h2, if_true, Int.toNat_natCast, Int.zero_add]
theorem rng2 {i j : Int} (h0 : -8000000 ≤ i) (h1 : i ≤ 8000000) (h2 : -8000000 ≤ j) (h3 : j ≤ 8000000) : rangeOf2 [.int i, .int j] = some ((List.range (j - i).toNat).map fun k => D.int (i + (k : Nat)), .val) := by
  have e1 : smallI i = true := decide_eq_true ⟨h0, h1⟩
  have e2 : smallI j = true := decide_eq_true ⟨h2, h3⟩
  simp only [rangeOf2, e1, e2, true_and, if_true]
theorem rng3 {i j : Int} (h0 : -8000000 ≤ i) (h1 : i ≤ 8000000) (h2 : -8000000 ≤ j) (h3 : j ≤ 8000000) : rangeOf3 [.int i, .int j, .int (-1)] = some ((List.range (i - j).toNat).map fun k => D.int (i + (k : Nat) * (-1)), .val) := by
  have e1 : smallI i = true := decide_eq_true ⟨h0, h1⟩
  have e2 : smallI j = true := decide_eq_true ⟨h2, h3⟩
  simp only [rangeOf3, e1, e2, true_and, if_true]
theorem walk_tup {st : Sto} {ds : List D} : walkOf st (.tup ds) = some (ds, .val) := (rfl)
theorem walk_lst {st : Sto} {ds : List D} : walkOf st (.lst ds) = some (ds, .val) := (rfl)
theorem walk_ref {st : Sto} {n : Nat} {ds : List D} (h : st[n]? = some (.lst ds)) : walkOf st (.ref n) = some (ds, .ref n) := by
  simp only [walkOf, h]
theorem sz0 : (0 ≤ sizeLine) = True := eq_true (by decide)
theorem sz1 : (1 ≤ sizeLine) = True := eq_true (by decide)
theorem sz2 : (2 ≤ sizeLine) = True := eq_true (by decide)
theorem sz3 : (3 ≤ sizeLine) = True := eq_true (by decide)
theorem sz4 : (4 ≤ sizeLine) = True := eq_true (by decide)
theorem sz5 : (5 ≤ sizeLine) = True := eq_true (by decide)
theorem sz6 : (6 ≤ sizeLine) = True := eq_true (by decide)
theorem sz7 : (7 ≤ sizeLine) = True := eq_true (by decide)
theorem sz8 : (8 ≤ sizeLine) = True := eq_true (by decide)
theorem sz9 : (9 ≤ sizeLine) = True := eq_true (by decide)
theorem sz10 : (10 ≤ sizeLine) = True := eq_true (by decide)
theorem sz11 : (11 ≤ sizeLine) = True := eq_true (by decide)
theorem sz12 : (12 ≤ sizeLine) = True := eq_true (by decide)

/-! ### slices, lists of truth values, displays -/
theorem cut_to {α : Type} (xs : List α) (k : Nat) : cutD xs none (some (k : Int)) = xs.take k := by
  unfold cutD
  rw [HT.sIx_nat, HT.sIx_none]
  simp only [List.drop_zero, Nat.sub_zero]
  by_cases h : k ≤ xs.length
  · rw [Nat.min_eq_left h]
  · rw [Nat.min_eq_right (by omega), List.take_length, List.take_of_length_le (by omega)]
theorem cut_from {α : Type} (xs : List α) (k : Nat) : cutD xs (some (k : Int)) none = xs.drop k := by
  unfold cutD
  rw [HT.sIx_nat, HT.sIx_none]
  by_cases h : k ≤ xs.length
  · rw [Nat.min_eq_left h, List.take_of_length_le (by rw [List.length_drop]; omega)]
  · rw [Nat.min_eq_right (by omega), List.drop_length, List.drop_of_length_le (by omega), List.take_nil]
theorem cut_in {α : Type} (xs : List α) (k l : Nat) : cutD xs (some (k : Int)) (some (l : Int)) = (xs.drop k).take (l - k) := by
  unfold cutD
  rw [HT.sIx_nat, HT.sIx_nat]
  by_cases h : k ≤ xs.length
  · rw [Nat.min_eq_left h]
    by_cases h2 : l ≤ xs.length
    · rw [Nat.min_eq_left h2]
    · rw [Nat.min_eq_right (by omega), List.take_of_length_le (by rw [List.length_drop]; omega), List.take_of_length_le (by rw [List.length_drop]; omega)]
  · rw [Nat.min_eq_right (show xs.length ≤ k by omega), List.drop_length, List.drop_of_length_le (by omega)]
    simp
theorem sl_to {st : Sto} {ds : List D} (k : Nat) : oSl st (.tup ds) none (some (k : Int)) = some (.tup (ds.take k)) := by
  show some (D.tup (cutD ds none (some (k : Int)))) = _
  rw [cut_to]
theorem sl_from {st : Sto} {ds : List D} (k : Nat) : oSl st (.tup ds) (some (k : Int)) none = some (.tup (ds.drop k)) := by
  show some (D.tup (cutD ds (some (k : Int)) none)) = _
  rw [cut_from]
theorem sl_in {st : Sto} {ds : List D} (k l : Nat) : oSl st (.tup ds) (some (k : Int)) (some (l : Int)) = some (.tup ((ds.drop k).take (l - k))) := by
  show some (D.tup (cutD ds (some (k : Int)) (some (l : Int)))) = _
  rw [cut_in]
theorem sl_toL {st : Sto} {ds : List D} (k : Nat) : oSl st (.lst ds) none (some (k : Int)) = some (.lst (ds.take k)) := by
  show some (D.lst (cutD ds none (some (k : Int)))) = _
  rw [cut_to]
theorem sl_fromL {st : Sto} {ds : List D} (k : Nat) : oSl st (.lst ds) (some (k : Int)) none = some (.lst (ds.drop k)) := by
  show some (D.lst (cutD ds (some (k : Int)) none)) = _
  rw [cut_from]
theorem succ_cast (k : Nat) : (k : Int) + 1 = ((k + 1 : Nat) : Int) := (rfl)
theorem bolsOf_map {α : Type} (f : α → Bool) : ∀ xs : List α, bolsOf (xs.map fun x => D.bl (f x)) = some (xs.map f)
  | [] => rfl
  | x :: xs => by
    show (bolsOf (xs.map fun x => D.bl (f x))).map _ = _
    rw [bolsOf_map f xs]; rfl
theorem o_all {α : Type} {st : Sto} (f : α → Bool) (xs : List α) : oAll st [.lst (xs.map fun x => D.bl (f x))] = some (.bl (xs.all f)) := by
  show ((some (xs.map fun x => D.bl (f x))).bind bolsOf).map _ = _
  rw [show (some (xs.map fun x => D.bl (f x))).bind bolsOf = bolsOf (xs.map fun x => D.bl (f x)) from rfl, bolsOf_map]
  simp
theorem o_any {α : Type} {st : Sto} (f : α → Bool) (xs : List α) : oAny st [.lst (xs.map fun x => D.bl (f x))] = some (.bl (xs.any f)) := by
  show ((some (xs.map fun x => D.bl (f x))).bind bolsOf).map _ = _
  rw [show (some (xs.map fun x => D.bl (f x))).bind bolsOf = bolsOf (xs.map fun x => D.bl (f x)) from rfl, bolsOf_map]
  simp
theorem o_in01 {st : Sto} {i : Int} : oIn st (.int i) (.tup [.int 0, .int 1]) = some (.bl (decide (i = 0 ∨ i = 1))) := by
  show some (D.bl (([PyData.int 0, PyData.int 1] : List PyData).any fun y => PyData.eqv y (.int i))) = _
  have e : ∀ k : Int, PyData.eqv (.int k) (.int i) = decide (k = i) := fun k => by
    show (k == i) = _
    rw [PySem.W.beq_decide]
  simp only [List.any_cons, List.any_nil, e, Bool.or_false]
  rw [Bool.decide_or, decide_eq_decide.mpr (eq_comm (a := (0 : Int))), decide_eq_decide.mpr (eq_comm (a := (1 : Int)))]
theorem items_tup {st : Sto} {ds : List D} : itemsOf st (.tup ds) = some ds := (rfl)
theorem items_lst {st : Sto} {ds : List D} : itemsOf st (.lst ds) = some ds := (rfl)
theorem items_ref {st : Sto} {n : Nat} {ds : List D} (h : st[n]? = some (.lst ds)) : itemsOf st (.ref n) = some ds := by
  simp only [itemsOf, h]
theorem tuple_lst {st : Sto} {ds : List D} : oTuple st [.lst ds] = some (.tup ds) := (rfl)
theorem list_tup {st : Sto} {ds : List D} (h : ds.length ≤ sizeLine) : oList st [.tup ds] = some (.lst ds) := by
  show (if ds.length ≤ sizeLine then some (D.lst ds) else none) = _
  rw [if_pos h]
theorem list_lst {st : Sto} {ds : List D} (h : ds.length ≤ sizeLine) : oList st [.lst ds] = some (.lst ds) := by
  show (if ds.length ≤ sizeLine then some (D.lst ds) else none) = _
  rw [if_pos h]

/-! ### words compared -/
theorem pysOf_ints : ∀ w : List Int, pysOf (w.map D.int) = some (w.map PyData.int)
  | [] => rfl
  | x :: w => by
    show (match pyOf (.int x), pysOf (w.map D.int) with
      | some k, some ks => some (k :: ks)
      | _, _ => none) = _
    rw [pysOf_ints w]; rfl
theorem depth_ints : ∀ w : List Int, PyData.depthAll (w.map PyData.int) = 0
  | [] => rfl
  | x :: w => by
    show max (PyData.depth (.int x)) (PyData.depthAll (w.map PyData.int)) = 0
    rw [depth_ints w]; rfl
theorem eqv_ints : ∀ w v : List Int, PyData.eqvAll (w.map .int) (v.map .int) = decide (w = v)
  | [], [] => rfl
  | [], _ :: _ => rfl
  | _ :: _, [] => rfl
  | x :: w, y :: v => by
    show (PyData.eqv (.int x) (.int y) && PyData.eqvAll (w.map .int) (v.map .int)) = _
    rw [eqv_ints w v]
    show ((x == y) && _) = _
    rw [PySem.W.beq_decide, ← Bool.decide_and]
    exact decide_eq_decide.mpr (by simp)
theorem py2_words {st : Sto} (w v : List Int) : py2 st (.tup (w.map .int)) (.tup (v.map .int)) = some (.tuple (w.map .int), .tuple (v.map .int)) := by
  have e : ∀ u : List Int, pyS st (.tup (u.map .int)) = some (.tuple (u.map .int)) := fun u => by
    show (pysOf (u.map D.int)).map PyData.tuple = _
    rw [pysOf_ints]; rfl
  unfold py2
  rw [e, e]
  have d : ∀ u : List Int, PyData.depth (.tuple (u.map .int)) = 1 := fun u => by
    show PyData.depthAll (u.map PyData.int) + 1 = 1
    rw [depth_ints]
  show (if PyData.depth (.tuple (w.map .int)) ≤ 20 ∧ PyData.depth (.tuple (v.map .int)) ≤ 20 then _ else _) = _
  rw [d, d, if_pos ⟨by decide, by decide⟩]
theorem o_eqW {st : Sto} (w v : List Int) : oEq st (.tup (w.map .int)) (.tup (v.map .int)) = some (.bl (decide (w = v))) := by
  unfold oEq
  rw [py2_words]
  show some (D.bl (PyData.eqvAll (w.map .int) (v.map .int))) = _
  rw [eqv_ints]
theorem o_neW {st : Sto} (w v : List Int) : oNe st (.tup (w.map .int)) (.tup (v.map .int)) = some (.bl (!decide (w = v))) := by
  unfold oNe
  rw [py2_words]
  show some (D.bl (!PyData.eqvAll (w.map .int) (v.map .int))) = _
  rw [eqv_ints]
mutual
def repB (K : PySem.W.Frag) : D → Value → Bool
  | .non, .none => true
  | .bl b, .bool c => b == c
  | .int i, .int j _ => decide (i = j)
  | .str x, .str y _ => decide (x = y)
  | .tup ds, .ref a => (match K.lookup a with
    | some ⟨.type c, _, .seq its _, _⟩ => decide (c = "tuple") && (decide (its.size ≤ sizeLine) && repBs K ds its.toList)
    | _ => false)
  | .lst ds, .ref a => (match K.lookup a with
    | some ⟨.type c, none, .seq its _, _⟩ => decide (c = "list") && (decide (its.size ≤ sizeLine) && repBs K ds its.toList)
    | _ => false)
  | _, _ => false
def repBs (K : PySem.W.Frag) : List D → List Value → Bool
  | [], [] => true
  | d :: ds, u :: us => repB K d u && repBs K ds us
  | _, _ => false
end
section
variable {K : PySem.W.Frag} {w : World}
theorem repBs_len : ∀ {ds : List D} {us : List Value}, repBs K ds us = true → ds.length = us.length
  | [], [], _ => rfl
  | [], _ :: _, h => by simp [repBs] at h
  | _ :: _, [], h => by simp [repBs] at h
  | d :: ds, u :: us, h => by
    simp only [repBs] at h
    exact congrArg (· + 1) (repBs_len (He.ba h).2)
mutual
theorem repB_ok : ∀ {d : D} {u : Value}, repB K d u = true → ∃ v, RelV v u ∧ ∀ H ρ, Rep K w H ρ d v
  | .non, .none, h => ⟨.non, rfl, fun H ρ => by simp only [Rep]⟩
  | .bl b, .bool c, h => ⟨.bl b, He.relB_ok (v := .bl b) (u := .bool c) (show (b == c) = true by simpa only [repB] using h), fun H ρ => by simp only [Rep]⟩
  | .int i, .int j t, h => ⟨.int i, He.relB_ok (v := .int i) (u := .int j t) (show decide (i = j) = true by simpa only [repB] using h), fun H ρ => by simp only [Rep]⟩
  | .str x, .str y t, h => ⟨.str x, He.relB_ok (v := .str x) (u := .str y t) (show decide (x = y) = true by simpa only [repB] using h), fun H ρ => by simp only [Rep]⟩
  | .tup ds, .ref a, h => by
    simp only [repB] at h
    cases q : K.lookup a with
    | none => rw [q] at h; cases h
    | some o =>
      obtain ⟨oc, od, dt, osl⟩ := o
      rw [q] at h
      cases oc with
      | type c =>
        cases dt with
        | seq its n =>
          obtain ⟨h1, h2⟩ := He.ba (show (decide (c = "tuple") && (decide (its.size ≤ sizeLine) && repBs K ds its.toList)) = true from h)
          obtain ⟨h3, h4⟩ := He.ba h2
          obtain ⟨vs, hv, hr⟩ := repBs_ok (us := its.toList) h4
          have hl : ds.length ≤ sizeLine := by rw [repBs_len h4, Array.length_toList]; exact of_decide_eq_true h3
          exact ⟨.ref a, rfl, fun H ρ => by
            simp only [Rep]
            exact ⟨a, vs, rfl, .inr ⟨_, its, n, q, congrArg Value.type (of_decide_eq_true h1), rfl, of_decide_eq_true h3, hv⟩, hl, hr H ρ⟩⟩
        | _ => cases h
      | _ => cases dt <;> cases h
  | .lst ds, .ref a, h => by
    simp only [repB] at h
    cases q : K.lookup a with
    | none => rw [q] at h; cases h
    | some o =>
      obtain ⟨oc, od, dt, osl⟩ := o
      rw [q] at h
      cases oc with
      | type c =>
        cases od with
        | none =>
          cases dt with
          | seq its n =>
            obtain ⟨h1, h2⟩ := He.ba (show (decide (c = "list") && (decide (its.size ≤ sizeLine) && repBs K ds its.toList)) = true from h)
            obtain ⟨h3, h4⟩ := He.ba h2
            obtain ⟨vs, hv, hr⟩ := repBs_ok (us := its.toList) h4
            have hl : ds.length ≤ sizeLine := by rw [repBs_len h4, Array.length_toList]; exact of_decide_eq_true h3
            exact ⟨.ref a, rfl, fun H ρ => by
              simp only [Rep]
              exact ⟨a, vs, rfl, .inr ⟨_, its, n, q, congrArg Value.type (of_decide_eq_true h1), rfl, rfl, of_decide_eq_true h3, hv⟩, hl, hr H ρ⟩⟩
          | _ => cases h
        | some z => cases dt <;> cases h
      | _ => cases od <;> cases dt <;> cases h
theorem repBs_ok : ∀ {ds : List D} {us : List Value}, repBs K ds us = true → ∃ vs, Vals vs us ∧ ∀ H ρ, Reps K w H ρ ds vs
  | [], [], _ => ⟨[], .nil, fun H ρ => by simp only [Reps]⟩
  | [], _ :: _, h => by simp [repBs] at h
  | _ :: _, [], h => by simp [repBs] at h
  | d :: ds, u :: us, h => by
    simp only [repBs] at h
    obtain ⟨h1, h2⟩ := He.ba h
    obtain ⟨v, e1, r1⟩ := repB_ok h1
    obtain ⟨vs, e2, r2⟩ := repBs_ok h2
    exact ⟨v :: vs, .cons e1 e2, fun H ρ => by simp only [Reps]; exact ⟨v, vs, rfl, r1 H ρ, r2 H ρ⟩⟩
end
/-! ### the module's names -/
def gloB (K : PySem.W.Frag) (x : Str) (d : D) : Bool := match PySem.W.nsIn K mainGlobals x with
  | some (some u) => repB K d u
  | _ => false
theorem gloB_get {h : Heap} {mg : Str → Option Value} (X : K.In h) (G : h.Ns mainGlobals mg) {x : Str} {d : D} (c : gloB K x d = true) : ∃ u, mg x = some u ∧ repB K d u = true := by
  unfold gloB at c
  cases q : PySem.W.nsIn K mainGlobals x with
  | none => rw [q] at c; cases c
  | some o =>
    cases o with
    | none => rw [q] at c; cases c
    | some u => exact ⟨u, PySem.W.mg_of X G q, by rw [q] at c; exact c⟩
theorem gloB_str {h : Heap} {mg : Str → Option Value} (X : K.In h) (G : h.Ns mainGlobals mg) {x z : Str} (c : gloB K x (.str z) = true) : ∃ t, mg x = some (.str z t) := by
  obtain ⟨u, e, q⟩ := gloB_get X G c
  cases u with
  | str y t =>
    have : z = y := of_decide_eq_true (show decide (z = y) = true by simpa only [repB] using q)
    subst this
    exact ⟨t, e⟩
  | _ => simp [repB] at q
theorem gloB_int {h : Heap} {mg : Str → Option Value} (X : K.In h) (G : h.Ns mainGlobals mg) {x : Str} {i : Int} (c : gloB K x (.int i) = true) : ∃ t, mg x = some (.int i t) := by
  obtain ⟨u, e, q⟩ := gloB_get X G c
  cases u with
  | int j t =>
    have : i = j := of_decide_eq_true (show decide (i = j) = true by simpa only [repB] using q)
    subst this
    exact ⟨t, e⟩
  | _ => simp [repB] at q
theorem gloB_tup {h : Heap} {mg : Str → Option Value} (X : K.In h) (G : h.Ns mainGlobals mg) {x : Str} {ds : List D} (c : gloB K x (.tup ds) = true) : ∃ a, mg x = some (.ref a) ∧ ∀ H ρ, Rep K w H ρ (.tup ds) (.ref a) := by
  obtain ⟨u, e, q⟩ := gloB_get X G c
  obtain ⟨v, r, hr⟩ := repB_ok (w := w) q
  cases u with
  | ref a =>
    have hv : v = .ref a := by
      have := hr (fun _ => none) []
      simp only [Rep] at this
      obtain ⟨b, vs, rfl, _⟩ := this
      cases r
      rfl
    subst hv
    exact ⟨a, e, hr⟩
  | _ => simp [repB] at q
theorem gloB_lst {h : Heap} {mg : Str → Option Value} (X : K.In h) (G : h.Ns mainGlobals mg) {x : Str} {ds : List D} (c : gloB K x (.lst ds) = true) : ∃ a, mg x = some (.ref a) ∧ ∀ H ρ, Rep K w H ρ (.lst ds) (.ref a) := by
  obtain ⟨u, e, q⟩ := gloB_get X G c
  obtain ⟨v, r, hr⟩ := repB_ok (w := w) q
  cases u with
  | ref a =>
    have hv : v = .ref a := by
      have := hr (fun _ => none) []
      simp only [Rep] at this
      obtain ⟨b, vs, rfl, _⟩ := this
      cases r
      rfl
    subst hv
    exact ⟨a, e, hr⟩
  | _ => simp [repB] at q
end
/-! ### the hook -/
def dd (x : Str) (s : Stmt) : He.DefD := ⟨(x, none), x, x, defArgs s, defBody s, defScope s, [], []⟩
def bsN : List Str := ["isinstance", "int", "bool", "str", "tuple", "list", "dict", "len", "abs", "max", "min", "sum", "all", "any", "sorted", "range", "zip", "repr"]
def gloF (K : PySem.W.Frag) (x : Str) : Bool := He.Fa.ok K (.glo x)
def freeF (K : PySem.W.Frag) (x : Str) : Bool := He.Fa.ok K (.free x)
def obsM (cs : List (Str × D)) (fn : List He.DefD) (K : PySem.W.Frag) : He.AlD := ((bsN.all (freeF K)) && ((cs.all fun c => gloB K c.1 c.2) && fn.all fun d => gloF K d.at_.1 && d.ok K), fn.map fun d => He.fnW K d.at_)
def SaysM (cs : List (Str × D)) (fn : List He.DefD) (K : PySem.W.Frag) : Prop := obsM cs fn K = He.valD fn
def obsMG (n : Nat) (cs : List (Str × D)) (fn : List He.DefD) (g : Addr → Option Obj) : He.AlD := obsM cs fn (He.frG g (He.asD g n))
def hookM (n : Nat) (cs : List (Str × D)) (fn : List He.DefD) : PySem.W.Hook where
  α := He.AlD
  obs := fun s => obsMG n cs fn s.heap.get?
  val := fun _ => He.valD fn
  says := fun _ h => ∃ K : PySem.W.Frag, K.In h ∧ SaysM cs fn K
  of := fun _ _ e => ⟨_, He.frG_in, e⟩
  keeps := fun _ _ _ ⟨K, hK, c⟩ k => ⟨K, PySem.W.Frag.In.keeps hK k, c⟩
theorem obsMG_eq {n : Nat} {cs : List (Str × D)} {fn : List He.DefD} {g : Addr → Option Obj} {s : Shared} (h : ∀ a, g a = s.heap.get? a) : obsMG n cs fn g = (hookM n cs fn).obs s := by
  have e : g = s.heap.get? := funext h
  rw [e] <;> rfl
section
variable {cs : List (Str × D)} {fn : List He.DefD} {K : PySem.W.Frag} {h : Heap} {mg : Str → Option Value}
theorem SaysM.c3 (c : SaysM cs fn K) : bsN.all (freeF K) = true ∧ (cs.all fun c => gloB K c.1 c.2) = true ∧ (fn.all fun d => gloF K d.at_.1 && d.ok K) = true := by
  have c1 := He.ba (show (bsN.all (freeF K) && ((cs.all fun c => gloB K c.1 c.2) && fn.all fun d => gloF K d.at_.1 && d.ok K)) = true from congrArg (fun z : He.AlD => z.1) c)
  exact ⟨c1.1, He.ba c1.2⟩
theorem SaysM.free (X : K.In h) (G : h.Ns mainGlobals mg) (c : SaysM cs fn K) (i : Nat) {x : Str} (e : bsN[i]? = some x) : mg x = none :=
  He.free_ok X G (List.all_eq_true.mp c.c3.1 x (List.mem_of_getElem? e))
theorem SaysM.bs (X : K.In h) (G : h.Ns mainGlobals mg) (c : SaysM cs fn K) : Bs mg :=
  ⟨c.free X G 0 rfl, c.free X G 1 rfl, c.free X G 2 rfl, c.free X G 3 rfl, c.free X G 4 rfl, c.free X G 5 rfl, c.free X G 6 rfl, c.free X G 7 rfl, c.free X G 8 rfl, c.free X G 9 rfl, c.free X G 10 rfl, c.free X G 11 rfl, c.free X G 12 rfl, c.free X G 13 rfl, c.free X G 14 rfl, c.free X G 15 rfl, c.free X G 16 rfl, c.free X G 17 rfl⟩
theorem SaysM.con (c : SaysM cs fn K) (i : Nat) {x : Str} {d : D} (e : cs[i]? = some (x, d) := by rfl) : gloB K x d = true :=
  List.all_eq_true.mp c.c3.2.1 (x, d) (List.mem_of_getElem? e)
theorem SaysM.fun_ (X : K.In h) (G : h.Ns mainGlobals mg) (c : SaysM cs fn K) (i : Nat) {x : Str} {s : Stmt} (e : fn[i]? = some (dd x s) := by rfl) :
    ∃ (f : Addr) (fd : FuncData), FunD K x x (defArgs s) (defBody s) (defScope s) [] [] f fd ∧ mg x = some (.ref f) := by
  have c2 := He.ba (List.all_eq_true.mp c.c3.2.2 _ (List.mem_of_getElem? e))
  have em : fn.map (fun d => He.fnW K d.at_) = fn.map He.DefD.val := congrArg (fun z : He.AlD => z.2) c
  have e2 : (fn.map fun d => He.fnW K d.at_)[i]? = (fn.map He.DefD.val)[i]? := by rw [em]
  rw [List.getElem?_map, List.getElem?_map, e] at e2
  obtain ⟨fd, F⟩ := He.DefD.funD (Option.some.inj e2) c2.2
  exact ⟨_, fd, F, He.glo_ok X G c2.1⟩
end
/-! ### a def at no depth says nothing; the law's end -/
def botF : SemF := fun _ _ => .bad
theorem fnA_bot {P : Program} {w : World} {K : PySem.W.Frag} {mg : Str → Option Value} {base : Heap} {k : Nat} {x : Str} {params : Arguments} {body : List Stmt} {scope : Scope} {f : Addr} {fd : FuncData} {ps : List Str} (F : FunD K x x params body scope [] [] f fd) (hm : mg x = some (.ref f))
    (hb : ∀ (kV doc pm : Value) (an : Option Addr) (cdv ct : Value) (us : List Value), us.length = ps.length → bindArgs (PySem.W.fnOf x x params body scope .none kV doc pm an cdv ct) ⟨us, []⟩ = pure (ps.zip us)) : FnA P w K mg base k x ps botF f fd :=
  ⟨hm, F.kp, F.bindsN hb, ⟨fun vs H Q E h => by obtain ⟨_, _, _, _, _, z⟩ := h; exact z.elim, fun A outer s H args us vs Q E hr _ _ _ h => by obtain ⟨_, _, _, _, _, z⟩ := h; exact z.elim⟩⟩
theorem reps_ints {K : PySem.W.Frag} {w : World} {H : Hp} : ∀ ns : List Int, Reps K w H [] (ns.map .int) (ns.map V.int)
  | [] => by simp only [List.map_nil, Reps]
  | n :: ns => by
    simp only [List.map_cons, Reps]
    exact ⟨_, _, rfl, by simp only [Rep], reps_ints ns⟩
theorem sp_law {K : PySem.W.Frag} {w : World} {H : Hp} {a : Addr} {ns : List Int} {g : SemF} (hn : ns.length ≤ sizeLine) (hO : Only H) (hS : SqL K H a (ns.map V.int)) (hw : WR (g [.lst (ns.map .int)] []) fun d _ => d = .bl true) : spD K w g [.ref a] H (fun v _ => v = .bl true) fun _ _ _ => False := by
  refine ⟨[], [.lst (ns.map .int)], [], ⟨rfl, List.nodup_nil, (fun _ h => by cases h), fun _ _ _ h => by simp at h⟩, ?_, ?_⟩
  · have hF : FrzL K H a (ns.map V.int) := by
      rcases hS with h | h
      · rcases h with h | h
        · rcases hO a with z | ⟨o, xs, z⟩
          · rw [z] at h; cases h
          · rw [z] at h; cases h
        · exact .inl h
      · exact .inr h
    show Reps K w H [] [.lst (ns.map .int)] [.ref a]
    simp only [Reps]
    refine ⟨_, _, rfl, ?_, rfl⟩
    simp only [Rep]
    exact ⟨a, _, rfl, hF, by rw [List.length_map]; exact hn, reps_ints ns⟩
  · generalize g [.lst (ns.map .int)] [] = r at hw
    unfold WR at hw
    cases r with
    | ok d st =>
      intro v H' ρ' hA hR
      subst hw
      simpa only [Rep] using hR
    | exc e st => exact absurd hw (fun z => z)
    | bad => exact absurd hw (fun z => z)
theorem walk_dl {l : PySem.W.OpenLaw} {n k : Nat} {q : Program} {loose : List Str} {XP : (Str → Option Value) → Heap → Prop} {YP : World → Heap → Prop} {d : DefRec} {x : Str}
    (hn : l.most = some n) (hn2 : n ≤ sizeLine) (hdf : d.params.defaults = []) (hr : Room k callerA)
    (F : ∀ (w : World) (mg : Str → Option Value) (fa : Addr) (h : Heap), YP w h → h.Ns mainGlobals mg → mg d.name = some (.ref fa) →
      ∃ (K : PySem.W.Frag) (fd : FuncData) (g : SemF), K.In h ∧ (∀ (s : Shared) (u : Value), BindsTo s fd ⟨[u], []⟩ [(x, u)]) ∧
        (∀ ns : List Int, ns.length ≤ n → WR (g [.lst (ns.map .int)] []) fun d _ => d = .bl true) ∧ ∀ base : Heap, FnOk l.prog w K mg base (L2.CX l.prog w) k fa fd [x] (spD K w g)) :
    PySem.W.WalkO q loose XP YP l.row.toRowW d [] (fun f vs => PySem.call f vs) := by
  refine Att.attach_call hn hdf fun w s₀ s₁ mg mb fa o pm cd doc a vs ns G Y ho hd hcd hmg hobj hints hlen hg => ?_
  obtain ⟨K, fd, g, KX, hb, hsp, hF⟩ := F w mg fa _ Y G.T.g hmg
  exact law_call KX G.T.g G.T.b G.T.builtins G.T.nolimit hg hobj hints (Nat.le_trans hlen hn2) hr (fun base _ _ => hF base) hb (fun H hO hS => sp_law (Nat.le_trans hlen hn2) hO hS (hsp ns hlen)) fun H e s' ⟨_, _, _, _, _, _, _, _, _, _, _, _, z⟩ => z
section
variable {P : Program} {w : World} {K : PySem.W.Frag} {H : Hp} {h : Heap} {ρ : List Addr}
mutual
theorem nested_of (hok : HOk P w H h) (KX : K.In h) : ∀ {d : D} {v : V} {u : Value} {nk : NestedKey}, Rep K w H ρ d v → RelV v u → keyOf d = some nk → NestedIs h nk u
  | .non, v, u, nk, r, rv, e => by
    unfold Rep at r
    subst r
    cases rv
    simp only [keyOf, Option.some.injEq] at e
    subst e
    exact .none
  | .bl b, v, u, nk, r, rv, e => by
    unfold Rep at r
    subst r
    cases rv
    simp only [keyOf, Option.some.injEq] at e
    subst e
    exact .bool rfl
  | .int i, v, u, nk, r, rv, e => by
    unfold Rep at r
    subst r
    obtain ⟨t, rfl⟩ := rv
    simp only [keyOf, Option.some.injEq] at e
    subst e
    exact .int i t
  | .str x, v, u, nk, r, rv, e => by
    unfold Rep at r
    subst r
    obtain ⟨t, rfl⟩ := rv
    simp only [keyOf, Option.some.injEq] at e
    subst e
    exact .text x t
  | .tup ds, v, u, nk, r, rv, e => by
    unfold Rep at r
    obtain ⟨a, vs, rfl, q, z, rs⟩ := r
    cases rv
    obtain ⟨its, o, n, hv, ho, hc, hd⟩ := sqT_at hok KX q
    simp only [keyOf] at e
    obtain ⟨ks, ek, rfl⟩ := map_some e
    exact .tup ho hc hd (nesteds_of hok KX rs hv ek)
  | .lst _, _, _, _, _, _, e => by simp [keyOf] at e
  | .dct _, _, _, _, _, _, e => by simp [keyOf] at e
  | .ref _, _, _, _, _, _, e => by simp [keyOf] at e
  | .cls _, _, _, _, _, _, e => by simp [keyOf] at e
theorem nesteds_of (hok : HOk P w H h) (KX : K.In h) : ∀ {ds : List D} {vs : List V} {us : List Value} {ks : List NestedKey}, Reps K w H ρ ds vs → Vals vs us → keysOf ds = some ks → NestedAll h ks us
  | [], vs, us, ks, r, rv, e => by
    unfold Reps at r
    subst r
    cases rv
    simp only [keysOf, Option.some.injEq] at e
    subst e
    exact .nil
  | d :: ds, vs, us, ks, r, rv, e => by
    unfold Reps at r
    obtain ⟨v, vr, rfl, r1, r2⟩ := r
    cases rv with
    | cons x1 x2 =>
      simp only [keysOf] at e
      cases e1 : keyOf d with
      | none => rw [e1] at e; simp at e
      | some k =>
        cases e2 : keysOf ds with
        | none => rw [e1, e2] at e; simp at e
        | some kr =>
          rw [e1, e2] at e
          simp only [Option.some.injEq] at e
          subst e
          exact .cons (nested_of hok KX r1 x1 e1) (nesteds_of hok KX r2 x2 e2)
end
/-! ### a dict's data -/
def findD (es : List (D × D)) (nk : NestedKey) : Option D := (es.find? fun e => decide (keyOf e.1 = some nk)).map (·.2)
def putD (es : List (D × D)) (k d : D) (nk : NestedKey) : List (D × D) :=
  if (findD es nk).isSome then es.map fun e => if keyOf e.1 = some nk then (e.1, d) else e else es ++ [(k, d)]
/-- the entries of a dict with tuple keys, as the library tells them -/
theorem entries_of (hok : HOk P w H h) (KX : K.In h) : ∀ {es : List (D × D)} {l : List DictEntry}, RepEs K w H ρ es l → es.all (fun e => isT e.1) = true →
    ∃ xs : List (NestedKey × Addr × Value), l = xs.map (entryOfKey (nestedKind P w)) ∧ (∀ x ∈ xs, (nestedKind P w).is h x.1 x.2.1) ∧
      Paired (fun (e : D × D) (x : NestedKey × Addr × Value) => keyOf e.1 = some x.1 ∧ Rep K w H ρ e.1 (.ref x.2.1) ∧ ∃ dv, RelV dv x.2.2 ∧ Rep K w H ρ e.2 dv) es xs
  | [], l, r, _ => by
    unfold RepEs at r
    subst r
    exact ⟨[], rfl, fun _ z => by simp at z, .nil⟩
  | (k, d) :: es, l, r, a => by
    unfold RepEs at r
    obtain ⟨e, rr, kv, dv, nk, rfl, ek, eh, z, rk, rpk, rd, rpd, rest⟩ := r
    simp only [List.all_cons, Bool.and_eq_true] at a
    obtain ⟨xs, rfl, hi, hp⟩ := entries_of hok KX rest a.2
    cases k with
    | tup ks =>
      have ni := nested_of hok KX rpk rk ek
      unfold Rep at rpk
      obtain ⟨b, vs, rfl, q, zz, rs⟩ := rpk
      have eb : e.key = .ref b := by
        have : RelV (V.ref b) e.key := rk
        generalize e.key = ekk at this
        cases this
        rfl
      refine ⟨(nk, b, e.val) :: xs, ?_, ?_, ?_⟩
      · rw [List.map_cons]
        congr 1
        obtain ⟨eh', ek', ev'⟩ := e
        simp only at eh eb
        subst eh eb
        rfl
      · intro x hx
        rcases List.mem_cons.mp hx with rfl | hx
        · exact ⟨by rw [eb] at ni; exact ni, z⟩
        · exact hi x hx
      · exact .cons ⟨ek, by unfold Rep; exact ⟨b, vs, rfl, q, zz, rs⟩, dv, rd, rpd⟩ hp
    | _ => simp [isT] at a
theorem find_get : ∀ {es : List (D × D)} {xs : List (NestedKey × Addr × Value)}, Paired (fun (e : D × D) (x : NestedKey × Addr × Value) => keyOf e.1 = some x.1 ∧ Rep K w H ρ e.1 (.ref x.2.1) ∧ ∃ dv, RelV dv x.2.2 ∧ Rep K w H ρ e.2 dv) es xs → ∀ nk : NestedKey,
    (findD es nk = none ∧ atKey xs nk = none) ∨ ∃ d p dv, findD es nk = some d ∧ atKey xs nk = some p ∧ RelV dv p.2 ∧ Rep K w H ρ d dv
  | [], [], _, nk => .inl ⟨rfl, rfl⟩
  | e :: es, x :: xs, .cons h t, nk => by
    obtain ⟨ek, rk, dv, rd, rpd⟩ := h
    by_cases z : x.1 = nk
    · refine .inr ⟨e.2, x.2, dv, ?_, ?_, rd, rpd⟩
      · simp [findD, List.find?_cons, ek, z]
      · simp [atKey, List.find?_cons, z]
    · have z2 : ¬ keyOf e.1 = some nk := by rw [ek]; intro q; exact z (Option.some.inj q)
      have h1 : findD (e :: es) nk = findD es nk := by simp [findD, List.find?_cons, z2]
      have h2 : atKey (x :: xs) nk = atKey xs nk := by simp [atKey, List.find?_cons, z]
      rw [h1, h2]
      exact find_get t nk
theorem keys_nodup {es : List (D × D)} {xs : List (NestedKey × Addr × Value)} (hp : Paired (fun (e : D × D) (x : NestedKey × Addr × Value) => keyOf e.1 = some x.1 ∧ Rep K w H ρ e.1 (.ref x.2.1) ∧ ∃ dv, RelV dv x.2.2 ∧ Rep K w H ρ e.2 dv) es xs) (nd : (es.map fun e => keyOf e.1).Nodup) : (xs.map (·.1)).Nodup := by
  have e : (es.map fun e => keyOf e.1) = (xs.map (·.1)).map some := by
    clear nd
    induction hp with
    | nil => rfl
    | cons h t ih => simp only [List.map_cons, h.1, ih]
  rw [e] at nd
  have := List.Pairwise.of_map (R := (· ≠ ·)) (S := (· ≠ ·)) some (fun a b hab z => hab (congrArg some z)) nd
  exact this
end
/-- the dict that a stands for -/
def dctOf (st : Sto) : D → Option (List (D × D))
  | .ref n => (match st[n]? with
    | some (.dct es) => some es
    | _ => none)
  | .dct es => some es
  | _ => none
theorem dctOf_ref {st : Sto} {n : Nat} {es : List (D × D)} (h : dctOf st (.ref n) = some es) : st[n]? = some (.dct es) := by
  simp only [dctOf] at h
  cases e : st[n]? with
  | none => rw [e] at h; cases h
  | some o =>
    rw [e] at h
    cases o with
    | dct fs => cases h; rfl
    | _ => cases h
section
variable {X : Cx} {pins : List (Addr × Obj)} {σ : L2.St} {H : Hp} {ρ : List Addr} {st : Sto} {s : Shared}
theorem dct_at {a : D} {v : V} {es : List (D × D)} (I : Inv X pins σ H s) (hs : RelSt X.K X.w H ρ st) (r : Rep X.K X.w H ρ a v) (e : dctOf st a = some es) :
    ∃ p l, v = .ref p ∧ (p == sysModules) = false ∧ l.length ≤ sizeLine ∧ RawD p l s.heap ∧ RepEs X.K X.w H ρ es l ∧ DOk es ∧ ∀ n, a = .ref n → ρ[n]? = some p ∧ H p = some (.ext (RawD p l)) := by
  cases a with
  | ref n =>
    have e1 := dctOf_ref e
    unfold Rep at r
    obtain ⟨p, ep, rfl⟩ := r
    obtain ⟨l, h1, h2, h3, h4, h5⟩ := hs.obj n _ p e1 ep
    have ho : ObjOk X.prog X.w H s.heap p (.ext (RawD p l)) := I.hok p _ h3
    exact ⟨p, l, rfl, h1, h2, ho.1, h4, h5, fun m em => by cases em; exact ⟨ep, h3⟩⟩
  | dct fs =>
    cases e
    unfold Rep at r
    obtain ⟨p, l, o, rfl, h1, h2, h3, h4, h5⟩ := r
    have ho : ObjOk X.prog X.w H s.heap p (.frz o (.ext (RawD p l))) := I.hok p _ h3
    exact ⟨p, l, rfl, h1, h2, ho.2.1, h4, h5, fun m em => by cases em⟩
  | _ => cases e
/-- the key b may be asked of es -/
def keyOk (es : List (D × D)) (b : D) (nk : NestedKey) : Bool := isT b && (es.all (fun e => isT e.1) && decide (nk.depth ≤ 8))
theorem keyOk_some {es : List (D × D)} {b : D} {nk : NestedKey} (h : keyOk es b nk = true) : isT b = true ∧ es.all (fun e => isT e.1) = true ∧ nk.depth ≤ 8 := by
  unfold keyOk at h
  simp only [Bool.and_eq_true, decide_eq_true_eq] at h
  exact ⟨h.1, h.2.1, h.2.2⟩
/-- all that the library asks of a dict and a key -/
theorem dct_key {a b : D} {x y : V} {v u : Value} {es : List (D × D)} {nk : NestedKey} (I : Inv X pins σ H s) (hs : RelSt X.K X.w H ρ st) (ra : Rep X.K X.w H ρ a x) (rb : Rep X.K X.w H ρ b y) (rx : RelV x v) (ry : RelV y u) (e : dctOf st a = some es) (ek : keyOf b = some nk) (ok : keyOk es b nk = true) :
    ∃ p l q xs, x = .ref p ∧ v = .ref p ∧ u = .ref q ∧ (p == sysModules) = false ∧ l.length ≤ sizeLine ∧ l = xs.map (entryOfKey (nestedKind X.prog X.w)) ∧ (nestedKind X.prog X.w).is s.heap nk q ∧ s.heap.DictOfH (nestedKind X.prog X.w) p xs ∧
      Paired (fun (e : D × D) (x : NestedKey × Addr × Value) => keyOf e.1 = some x.1 ∧ Rep X.K X.w H ρ e.1 (.ref x.2.1) ∧ ∃ dv, RelV dv x.2.2 ∧ Rep X.K X.w H ρ e.2 dv) es xs ∧ DOk es ∧ RepEs X.K X.w H ρ es l ∧ Rep X.K X.w H ρ b (.ref q) ∧ ∀ n, a = .ref n → ρ[n]? = some p ∧ H p = some (.ext (RawD p l)) := by
  obtain ⟨o1, o2, o3⟩ := keyOk_some ok
  obtain ⟨p, l, rfl, h1, h2, ⟨o, ep, ho, hx, hd⟩, h4, h5, h6⟩ := dct_at I hs ra e
  cases rx
  obtain ⟨xs, el, hi, hp⟩ := entries_of I.hok I.kIn h4 o2
  have ni := nested_of I.hok I.kIn rb ry ek
  cases b with
  | tup ks =>
    have rb' := rb
    unfold Rep at rb
    obtain ⟨q, vs, rfl, _, _, _⟩ := rb
    cases ry
    exact ⟨p, l, q, xs, rfl, rfl, rfl, h1, h2, el, ⟨ni, o3⟩, ⟨o, l.toArray, ep, ho, hx, hd, by rw [List.toList_toArray]; exact el, hi, keys_nodup hp h5.nd⟩, hp, h5, h4, rb', h6⟩
  | _ => simp [isT] at o1
theorem room_in1 {X : Cx} (hu : X.A.units + 64 < cLine) : (nestedKind X.prog X.w).room X.A.in1 := by
  show X.A.in1.units + 8 < cLine
  have : X.A.in1.units = X.A.units + 1 := rfl
  omega
theorem room_in0 {X : Cx} (hu : X.A.units + 64 < cLine) : (nestedKind X.prog X.w).room X.A := by
  show X.A.units + 8 < cLine
  omega
end
/-! ### d[k], k in d -/
def oDIx (st : Sto) (a b : D) : Option D := match dctOf st a, keyOf b with
  | some es, some nk => if keyOk es b nk = true then findD es nk else none
  | _, _ => none
theorem oDIx_some {st : Sto} {a b d : D} (h : oDIx st a b = some d) : ∃ es nk, dctOf st a = some es ∧ keyOf b = some nk ∧ keyOk es b nk = true ∧ findD es nk = some d := by
  unfold oDIx at h
  cases e1 : dctOf st a with
  | none => rw [e1] at h; cases h
  | some es =>
    cases e2 : keyOf b with
    | none => rw [e1, e2] at h; cases h
    | some nk =>
      rw [e1, e2] at h
      dsimp only at h
      by_cases z : keyOk es b nk = true
      · rw [if_pos z] at h; exact ⟨es, nk, rfl, rfl, z, h⟩
      · rw [if_neg z] at h; cases h
section
variable {X : Cx}
theorem ix_dct (hu : X.A.units + 64 < cLine) : IxR X fun x y H Q => ∃ σ ρ env st a b, At X σ H ρ env st ∧ Rep X.K X.w H ρ a x ∧ Rep X.K X.w H ρ b y ∧ RR X σ H ρ (ofO (oDIx st a b) st) fun d _ H' ρ' => ∀ v, Rep X.K X.w H' ρ' d v → Q v H' := by
  intro value slice pins s σ H x y v u Q I rx ry q hs
  obtain ⟨σ', ρ, env, st, a, b, at_, ra, rb, q⟩ := q
  cases eo : oDIx st a b with
  | none => rw [eo] at q; exact q.elim
  | some d =>
    rw [eo] at q
    obtain ⟨es, nk, h1, h2, h3, h4⟩ := oDIx_some eo
    obtain ⟨p, l, k, xs, rfl, rfl, rfl, hp, hl, el, hk, hD, hP, _, _, _, _⟩ := dct_key I at_.st ra rb rx ry h1 h2 h3
    rcases find_get hP nk with ⟨z, _⟩ | ⟨d', pp, dv, z1, z2, z3, z4⟩
    · rw [h4] at z; cases z
    · rw [h4] at z1
      cases z1
      exact tail_any hD.typeIs slot_dict_getitem.lookup (wpAny_getItem_heap (room_in1 hu) hk hD z2 ⟨dv, H, I.tok _, z3, q H ρ (Aft.refl at_.st) dv z4⟩) hs
theorem de_dix {a b : Expr} {f g : SemE} {pos : Pos} (hu : X.A.units + 64 < cLine) (ha : DE X a f) (hb : DE X b g) (hs : PlainIx b := by intro _ _; rfl) : DE X (.Subscript a b pos) (sOp oDIx f g) :=
  PE.weak (pe_ix (ix_dct hu) ha hb hs) fun σ H Q h => by
    obtain ⟨ρ, env, st, at_, h⟩ := tD_two h
    refine ⟨ρ, env, st, at_, h.mono fun d st1 H1 ρ1 _ k v r => ?_⟩
    obtain ⟨ρ2, env2, st2, at2, h2⟩ := k v r
    exact ⟨ρ2, env2, st2, at2, h2.mono fun d' st3 H3 ρ3 _ k2 v2 r2 => by
      obtain ⟨ρ, a, b, env, st, h1, h2, h3, h4⟩ := k2 v2 r2
      exact ⟨σ, ρ, env, st, a, b, h1, h2, h3, h4⟩⟩
def oDIn (st : Sto) (a b : D) : Option D := match dctOf st b, keyOf a with
  | some es, some nk => if keyOk es a nk = true then some (.bl (findD es nk).isSome) else none
  | _, _ => none
def oDNotIn (st : Sto) (a b : D) : Option D := match dctOf st b, keyOf a with
  | some es, some nk => if keyOk es a nk = true then some (.bl (!(findD es nk).isSome)) else none
  | _, _ => none
theorem dget_some {st : Sto} {a b d : D} {F : List (D × D) → NestedKey → D} (h : (match dctOf st b, keyOf a with
  | some es, some nk => if keyOk es a nk = true then some (F es nk) else none
  | _, _ => none) = some d) : ∃ es nk, dctOf st b = some es ∧ keyOf a = some nk ∧ keyOk es a nk = true ∧ d = F es nk := by
  cases e1 : dctOf st b with
  | none => rw [e1] at h; cases h
  | some es =>
    cases e2 : keyOf a with
    | none => rw [e1, e2] at h; cases h
    | some nk =>
      rw [e1, e2] at h
      dsimp only at h
      by_cases z : keyOk es a nk = true
      · rw [if_pos z] at h; exact ⟨es, nk, rfl, rfl, z, (Option.some.inj h).symm⟩
      · rw [if_neg z] at h; cases h
theorem find_isSome {K : PySem.W.Frag} {w : World} {H : Hp} {ρ : List Addr} {es : List (D × D)} {xs : List (NestedKey × Addr × Value)} (hp : Paired (fun (e : D × D) (x : NestedKey × Addr × Value) => keyOf e.1 = some x.1 ∧ Rep K w H ρ e.1 (.ref x.2.1) ∧ ∃ dv, RelV dv x.2.2 ∧ Rep K w H ρ e.2 dv) es xs) (nk : NestedKey) : (atKey xs nk).isSome = (findD es nk).isSome := by
  rcases find_get hp nk with ⟨a, b⟩ | ⟨d', pp, dv, z1, z2, _, _⟩
  · rw [a, b]
    rfl
  · rw [z1, z2]
    rfl
theorem od_din (hu : X.A.units + 64 < cLine) : OpD X (compareOp .In) oDIn := by
  intro pins s σ H ρ st x y v u a b d I hs rx ry ra rb e
  obtain ⟨es, nk, h1, h2, h3, rfl⟩ := dget_some (F := fun es nk => .bl (findD es nk).isSome) e
  obtain ⟨p, l, k, xs, rfl, rfl, rfl, hp, hl, el, hk, hD, hP, _, _, _, _⟩ := dct_key I hs rb ra ry rx h1 h2 h3
  refine wpAny_in_heap (room_in1 hu) hk hp hD ?_
  rw [find_isSome hP]
  exact VP.bl (I.tok _) hs _
theorem od_dnotin (hu : X.A.units + 64 < cLine) : OpD X (compareOp .NotIn) oDNotIn := by
  intro pins s σ H ρ st x y v u a b d I hs rx ry ra rb e
  obtain ⟨es, nk, h1, h2, h3, rfl⟩ := dget_some (F := fun es nk => .bl (!(findD es nk).isSome)) e
  obtain ⟨p, l, k, xs, rfl, rfl, rfl, hp, hl, el, hk, hD, hP, _, _, _, _⟩ := dct_key I hs rb ra ry rx h1 h2 h3
  refine wpAny_notIn_heap (room_in1 hu) hk hp hD ?_
  rw [find_isSome hP]
  exact VP.bl (I.tok _) hs _
end
/-! ### {} -/
def sDctM : SemE := fun _ st => .ok (.ref st.length) (st ++ [.dct []])
def tDNewR : TE := fun _ H Q => ∀ p, H p = none → (p == sysModules) = false → Q (.ref p) (upd H p (.ext (RawD p [])))
theorem raw_keeps {p : Addr} {l : List DictEntry} : ∀ h1 h2 : Heap, RawD p l h1 → (∀ o, h1.get? p = some o → h2.get? p = some o) → RawD p l h2 := fun h1 h2 ⟨o, ep, h, hx, hd⟩ k => ⟨o, ep, k o h, hx, hd⟩
theorem raw_ok {P : Program} {w : World} {H : Hp} {h : Heap} {p : Addr} {l : List DictEntry} (r : RawD p l h) : ObjOk P w H h p (.ext (RawD p l)) := ⟨r, let ⟨o, _, e, _⟩ := r; ⟨o, e⟩, raw_keeps⟩
section
variable {X : Cx} {pos : Pos}
theorem pe_dnewR : PE X (.Dict [] [] pos) tDNewR := ⟨fun pins s σ H Q I h =>
  wpAny_Dict_empty ⟨.ref s.heap.objs.size, _, I.laid (a := s.heap.objs.size) (o := .ext (RawD s.heap.objs.size [])) (t' := s.toks) (fun _ _ q => Heap.get?_push_of_some _ q) (Nat.le_refl _) (raw_ok ⟨_, 0, Heap.get?_push_size _ rfl, ⟨rfl, rfl, rfl⟩, rfl⟩), rfl,
    h _ (I.hok.fresh (Nat.le_refl _)) (beq_eq_false_iff_ne.mpr (Ne.symm (Nat.ne_of_lt I.big)))⟩⟩
theorem de_dctM : DE X (.Dict [] [] pos) sDctM :=
  PE.weak pe_dnewR fun σ H Q ⟨ρ, env, st, at_, h⟩ => by
    intro p hp hs
    refine h _ _ (Aft.grow at_.st hp (so := .dct []) ⟨[], hs, Nat.zero_le _, upd_same, by unfold RepEs; rfl, ⟨List.nodup_nil, .inl rfl⟩⟩) _ ?_
    unfold Rep
    exact ⟨p, by rw [← at_.st.len]; simp, rfl⟩
end
/-! ### d[k] = v -/
def setDct (st : Sto) (a b d : D) : Option Sto := match a with
  | .ref n => (match dctOf st a, keyOf b with
    | some es, some nk => if keyOk es b nk = true ∧ es.length < sizeLine then some (st.set n (.dct (putD es b d nk))) else none
    | _, _ => none)
  | _ => none
theorem setDct_some {st st' : Sto} {a b d : D} (h : setDct st a b d = some st') : ∃ n es nk, a = .ref n ∧ dctOf st a = some es ∧ keyOf b = some nk ∧ keyOk es b nk = true ∧ es.length < sizeLine ∧ st' = st.set n (.dct (putD es b d nk)) := by
  cases a with
  | ref n =>
    unfold setDct at h
    dsimp only at h
    cases e1 : dctOf st (.ref n) with
    | none => rw [e1] at h; cases h
    | some es =>
      cases e2 : keyOf b with
      | none => rw [e1, e2] at h; cases h
      | some nk =>
        rw [e1, e2] at h
        dsimp only at h
        by_cases z : keyOk es b nk = true ∧ es.length < sizeLine
        · rw [if_pos z] at h; exact ⟨n, es, nk, rfl, rfl, rfl, z.1, z.2, (Option.some.inj h).symm⟩
        · rw [if_neg z] at h; cases h
  | _ => cases h
theorem repEs_snoc {K : PySem.W.Frag} {w : World} {H : Hp} {ρ : List Addr} {k d : D} {e : DictEntry} {r : List DictEntry} (h : RepEs K w H ρ [(k, d)] [e]) : ∀ {es : List (D × D)} {l : List DictEntry}, RepEs K w H ρ es l → RepEs K w H ρ (es ++ [(k, d)]) (l ++ [e])
  | [], l, q => by
    unfold RepEs at q
    subst q
    exact h
  | (k', d') :: es, l, q => by
    unfold RepEs at q
    obtain ⟨e', rr, kv, dv, nk, rfl, h1, h2, h3, h4, h5, h6, h7, h8⟩ := q
    show RepEs K w H ρ ((k', d') :: (es ++ [(k, d)])) (e' :: (rr ++ [e]))
    unfold RepEs
    exact ⟨e', _, kv, dv, nk, rfl, h1, h2, h3, h4, h5, h6, h7, repEs_snoc (r := r) h h8⟩
theorem repEs_put {K : PySem.W.Frag} {P : Program} {w : World} {H : Hp} {ρ : List Addr} {knd : HeapKind P w NestedKey} {nk : NestedKey} {d : D} {dv : V} {u : Value} (rd : RelV dv u) (rpd : Rep K w H ρ d dv) {es : List (D × D)} {xs : List (NestedKey × Addr × Value)}
    (hP : Paired (fun (e : D × D) (x : NestedKey × Addr × Value) => keyOf e.1 = some x.1 ∧ Rep K w H ρ e.1 (.ref x.2.1) ∧ ∃ dv, RelV dv x.2.2 ∧ Rep K w H ρ e.2 dv) es xs) : RepEs K w H ρ es (xs.map (entryOfKey knd)) →
    RepEs K w H ρ (es.map fun e => if keyOf e.1 = some nk then (e.1, d) else e) ((xs.map (putAt nk u)).map (entryOfKey knd)) := by
  induction hP with
  | nil => exact fun q => q
  | @cons e x es xs hp t ih =>
    intro q
    obtain ⟨k', d'⟩ := e
    rw [List.map_cons] at q
    unfold RepEs at q
    obtain ⟨e', rr, kv, dv', nk', e0, h1, h2, h3, h4, h5, h6, h7, h8⟩ := q
    rw [List.cons.injEq] at e0
    obtain ⟨e1, e2⟩ := e0
    rw [← e2] at h8
    rw [← e1] at h2 h4 h6
    rw [List.map_cons, List.map_cons, List.map_cons]
    by_cases z : x.1 = nk
    · have pz : putAt nk u x = (x.1, x.2.1, u) := if_pos z
      rw [if_pos (by rw [hp.1, z]), pz]
      unfold RepEs
      exact ⟨_, _, kv, dv, nk', rfl, h1, h2, h3, h4, h5, rd, rpd, ih h8⟩
    · have pz : putAt nk u x = x := if_neg z
      rw [if_neg (by rw [hp.1]; exact fun q => z (Option.some.inj q)), pz]
      unfold RepEs
      exact ⟨_, _, kv, dv', nk', rfl, h1, h2, h3, h4, h5, h6, h7, ih h8⟩
theorem findD_none {es : List (D × D)} {nk : NestedKey} (h : findD es nk = none) : ∀ e ∈ es, keyOf e.1 ≠ some nk := by
  unfold findD at h
  simp only [Option.map_eq_none_iff, List.find?_eq_none, decide_eq_true_eq] at h
  exact h
theorem putD_ok {es : List (D × D)} {b d : D} {nk : NestedKey} (ok : DOk es) (ek : keyOf b = some nk) (hk : keyOk es b nk = true) : DOk (putD es b d nk) := by
  obtain ⟨o1, o2, _⟩ := keyOk_some hk
  unfold putD
  by_cases z : (findD es nk).isSome = true
  · rw [if_pos z]
    have e : ((es.map fun e => if keyOf e.1 = some nk then (e.1, d) else e).map fun e => keyOf e.1) = es.map fun e => keyOf e.1 := by
      rw [List.map_map]
      refine List.map_congr_left fun e _ => ?_
      simp only [Function.comp]
      split <;> rfl
    refine ⟨by rw [e]; exact ok.nd, .inl ?_⟩
    simp only [List.all_eq_true, List.mem_map] at o2 ⊢
    rintro x ⟨y, hy, rfl⟩
    have := o2 y hy
    split <;> exact this
  · rw [if_neg z]
    have hn : findD es nk = none := by simpa using z
    refine ⟨?_, .inl ?_⟩
    · rw [List.map_append, List.map_cons, List.map_nil, ek]
      refine List.nodup_append.mpr ⟨ok.nd, by simp, ?_⟩
      intro x hx y hy
      obtain ⟨e, he, rfl⟩ := List.mem_map.mp hx
      simp only [List.mem_cons, List.not_mem_nil, or_false] at hy
      subst hy
      exact findD_none hn e he
    · rw [List.all_append, o2]
      simp [o1]
section
variable {X : Cx}
theorem setD_dict (hu : X.A.units + 64 < cLine) : SetD X setDct := by
  intro pins s σ H o i v ov iv u Q I ro ri rv h
  obtain ⟨σ', ρ, env, st, a, b, d, at_, ra, rb, rd, q⟩ := h
  cases eo : setDct st a b d with
  | none => rw [eo] at q; exact q.elim
  | some st' =>
    rw [eo] at q
    obtain ⟨n, es, nk, rfl, h1, h2, h3, h4, rfl⟩ := setDct_some eo
    obtain ⟨p, l, k, xs, rfl, rfl, rfl, hp, hl, el, hk, hD, hP, ok, hR, rk, hn⟩ := dct_key I at_.st ra rb ro ri h1 h2 h3
    obtain ⟨er, eh⟩ := hn n rfl
    have hlen : es.length = xs.length := Paired.length hP
    have hll : l.length = xs.length := by rw [el, List.length_map]
    refine wpAny_setItem_heap (hsz := by omega) (room_in1 hu) hk hD fun h' hD' hs => ?_
    obtain ⟨o, es', ep, ho, hx, hd, he, hi, hnn⟩ := hD'
    have raw : RawD p es'.toList h' := ⟨o, ep, ho, hx, by rw [hd]⟩
    have mu : Mut (H p) := by rw [eh]; trivial
    have I' : Inv X pins σ (upd H p (.ext (RawD p es'.toList))) { s with heap := h', toks := s.toks + (nestedKind X.prog X.w).draws nk } :=
      I.write (x := p) (e := p) mu (.inl rfl) (fun b q hb z => (hs.2 b hb).trans z) ⟨o, ho⟩ (raw_ok raw)
    refine ⟨_, I', q _ (Aft.write at_.st er mu ?_)⟩
    have stay : ∀ {d : D} {v : V}, Rep X.K X.w H ρ d v → Rep X.K X.w (upd H p (.ext (RawD p es'.toList))) ρ d v := fun r => r.stay (Stays.mut mu) (List.prefix_refl _)
    have ok3 := (keyOk_some h3).2.2
    refine ⟨es'.toList, hp, ?_, upd_same, ?_, putD_ok ok h2 h3⟩
    · rw [he, List.length_map]
      have := storedH_length (xs := xs) (k := nk) (a := k) (v := u)
      omega
    · have hR' : RepEs X.K X.w (upd H p (.ext (RawD p es'.toList))) ρ es (xs.map (entryOfKey (nestedKind X.prog X.w))) := RepEs.stay (Stays.mut mu) (List.prefix_refl _) (el ▸ hR)
      have hP' : Paired (fun (e : D × D) (x : NestedKey × Addr × Value) => keyOf e.1 = some x.1 ∧ Rep X.K X.w (upd H p (.ext (RawD p es'.toList))) ρ e.1 (.ref x.2.1) ∧ ∃ dv, RelV dv x.2.2 ∧ Rep X.K X.w (upd H p (.ext (RawD p es'.toList))) ρ e.2 dv) es xs :=
        Paired.mapP hP fun _ _ z => ⟨z.1, stay z.2.1, let ⟨dv, z1, z2⟩ := z.2.2; ⟨dv, z1, stay z2⟩⟩
      have rk' := stay rk
      have rd' := stay rd
      generalize upd H p (.ext (RawD p es'.toList)) = H2 at hR' hP' rk' rd' ⊢
      rw [he]
      rcases find_get hP nk with ⟨z1, z2⟩ | ⟨d', pp, dv, z1, z2, _, _⟩
      · have ep : putD es b d nk = es ++ [(b, d)] := by unfold putD; rw [z1]; rfl
        rw [storedH_new z2, ep, List.map_append]
        refine repEs_snoc (r := []) ?_ hR'
        unfold RepEs
        exact ⟨_, _, .ref k, v, nk, rfl, h2, rfl, ok3, rfl, rk', rv, rd', by unfold RepEs; rfl⟩
      · have ep : putD es b d nk = es.map fun e => if keyOf e.1 = some nk then (e.1, d) else e := by unfold putD; rw [z1]; rfl
        rw [storedH_old z2, ep]
        exact repEs_put rv rd' hP' hR'
/-! ### list(d), len(d) -/
def oListD (st : Sto) : List D → Option D
  | [d] => (dctOf st d).map fun es => .lst (es.map (·.1))
  | _ => none
theorem reps_keys {K : PySem.W.Frag} {w : World} {H : Hp} {ρ : List Addr} : ∀ {es : List (D × D)} {l : List DictEntry}, RepEs K w H ρ es l → ∃ vs, Vals vs (l.map (·.key)) ∧ Reps K w H ρ (es.map (·.1)) vs
  | [], l, q => by
    unfold RepEs at q
    subst q
    exact ⟨[], .nil, Reps.nil⟩
  | (k, d) :: es, l, q => by
    unfold RepEs at q
    obtain ⟨e, rr, kv, dv, nk, rfl, h1, h2, h3, h4, h5, h6, h7, h8⟩ := q
    obtain ⟨vs, r1, r2⟩ := reps_keys h8
    exact ⟨kv :: vs, .cons h4 r1, Reps.cons h5 r2⟩
theorem cd_listD (hc : X.calm = true) : CallD X (.type "list") oListD := by
  intro pins s σ H ρ st xs us as d I hs rv ra e
  match as, e, ra with
  | [b], e, ra =>
    obtain ⟨v, rfl, r⟩ := ra.oneD
    obtain ⟨u, rfl, rx⟩ := rv.one
    have e' : (dctOf st b).map (fun es => D.lst (es.map (·.1))) = some d := e
    obtain ⟨es, e1, rfl⟩ := map_some e'
    obtain ⟨p, l, rfl, hp, hl, ⟨o, ep, ho, hx, hd⟩, h4, h5, h6⟩ := dct_at I hs r e1
    cases rx
    obtain ⟨vs, rvs, rps⟩ := reps_keys h4
    have hle : es.length = l.length := by
      have h1 := rvs.length
      have h2 := rps.length
      rw [List.length_map] at h1 h2
      omega
    refine PySem.W.kdl_call (kdl_raw hp hx hd) (I.ok.hd hc) ho (by simpa using hl) fun h' tk acc' c' kp e it => ?_
    have ea : acc'.toList = l.map (·.key) := by
      have hlen : acc'.toList.length = l.length := by rw [Array.length_toList, it.1]; simp
      apply List.ext_getElem?
      intro j
      rw [List.getElem?_map]
      cases hj : acc'.toList[j]? with
      | none =>
        have h1 := List.getElem?_eq_none_iff.mp hj
        rw [List.getElem?_eq_none (by omega)]
        rfl
      | some v =>
        obtain ⟨en, hen, hv⟩ := it.2 j v (by rw [← Array.getElem?_toList]; exact hj)
        rw [List.getElem?_toArray] at hen
        rw [hen, hv]
        rfl
    have rvl : Vals vs acc'.toList := by rw [ea]; exact rvs
    have hz : vs.length ≤ sizeLine := by rw [rvs.length, List.length_map]; exact hl
    have hf : H s.heap.objs.size = none := I.hok.fresh (Nat.le_refl _)
    have I' : Inv X pins σ (upd H s.heap.objs.size (.frz { cls := .type "list", dict := none, data := .seq acc' c', slots := #[] } (.lst vs))) { s with heap := h', toks := tk } :=
      I.laid kp (Nat.le_refl _) ⟨e, hz, acc'.toList, c', rvl, by rw [Array.toArray_toList]; exact e⟩
    refine ⟨.ref s.heap.objs.size, _, I', rfl, Aft.fresh hs hf, ?_⟩
    unfold Rep
    exact ⟨_, vs, rfl, .inl ⟨_, upd_same⟩, by rw [List.length_map, hle]; exact hl, rps.stay (Stays.new hf) (List.prefix_refl _)⟩
end
/-! ### tuples, some of them empty, are sorted too -/
section
open PySem.W PySem.Calls PySem.SeqAt
variable {prog : Program} {w : World} {A : Around} {E : Value → Shared → Prop} {s : Shared}
def Sortable2 (ds : List PyData) : Prop := PySem.W.Sortable ds ∨ ∀ d ∈ ds, ∃ xs, d = .tuple xs
theorem call_tup_lt {Q : Value → Shared → Prop} {l b : Addr} {xs ys : Array Value} {e r : Nat → Bool} (hl : s.heap.IsTuple l xs) (hb : s.heap.IsTuple b ys)
    (he : ∀ j (h1 : j < xs.size) (h2 : j < ys.size), EqAt A.in1 s xs[j] ys[j] (e j)) (hr : ∀ j (h1 : j < xs.size) (h2 : j < ys.size), e j = false → RcLt A.in1 s xs[j] ys[j] (r j))
    (h : Q (.bool (firstLt e r (decide (xs.size < ys.size)) (List.range (min xs.size ys.size)))) s) : wpAny (model prog w) A (call (.builtin "tuple.__lt__") [.ref l, .ref b]) Q E s := by
  obtain ⟨⟨c1, d1, t1, s1⟩, ho1, hc1, n1, hd1⟩ := id hl
  obtain ⟨⟨c2, d2, t2, s2⟩, ho2, hc2, n2, hd2⟩ := id hb
  simp only at hc1 hd1 hc2 hd2
  subst hc1 hd1 hc2 hd2
  exact call_meets F.slot_tuple_lt ⟨_, ho1, rfl⟩ F.entry_tuple_lt (F.args_tuple_lt_2 _ _) (tuple_ltAt l b xs ys n1 n2 d1 d2 s1 s2 e r) ⟨ho1, ho2, he, hr, h⟩
theorem oneLt_tup {f : Bool} {xs ys : List PyData} {a b : Value} {as bs : List Addr} {Q : Bool → Shared → Prop} (ra : Reads s.heap a (.tuple xs) as) (rb : Reads s.heap b (.tuple ys) bs) (h : alike (.tuple xs) (.tuple ys) = true)
    (hu : A.units + min (PyData.depth (.tuple xs)) (PyData.depth (.tuple ys)) < cLine) (hq : Q (dataLt (.tuple xs) (.tuple ys)) s) : wpAny (model prog w) A (oneLt' f a b) Q E s := by
  cases f with
  | false => exact oneLt_alike (fun z => by cases z) ra rb h (fun z => by cases z) hu hq
  | true =>
    have hal : alikeAll xs ys = true := by simpa [alike] using h
    cases ra with
    | @tuple l o vs n _ as1 h1 h2 h3 h4 =>
      cases rb with
      | @tuple l' o' vs' n' _ bs1 k1 k2 k3 k4 =>
        have e1 : vs.size = xs.length := by simpa using ReadsAll.length _ _ _ h4
        have e2 : vs'.size = ys.length := by simpa using ReadsAll.length _ _ _ k4
        rw [dataLt_tuple, ← firstLt_toks xs ys hal, ← e1, ← e2] at hq
        rw [oneLt'_eq]
        simp only [if_true]
        refine wpAny_bind (wpAny_cRoomFor (room_here hu) ?_)
        refine wpAny_bind (wpAny_callSpecialIfBound?_slot (T := "tuple") ⟨_, h1, h2⟩ F.slot_tuple_lt (call_tup_lt (e := pairEq xs ys) (r := fun j => dataLt (xs.getD j .none) (ys.getD j .none)) ⟨_, h1, h2, _, h3⟩ ⟨_, k1, k2, _, k3⟩ (fun j j1 j2 => ?_) (fun j j1 j2 hj => ?_) ?_))
        · have := eqAt_alikeAll xs ys A.in1 s vs.toList vs'.toList _ _ h4 k4 hal (room_in hu) j (by simpa using j1) (by simpa using j2)
          simpa using this
        · have := rcLt_alikeAll xs ys A.in1 s vs.toList vs'.toList _ _ h4 k4 hal (room_in hu) j (by simpa using j1) (by simpa using j2) hj
          simpa using this
        · exact wpAny_truthy_bool hq
def isNE : PyData → Bool
  | .tuple (_ :: _) => true
  | _ => false
theorem firsts_tup {M : Model} : ∀ {vs : List Value} {ds : List PyData} {Q : List (Option Value) → Shared → Prop}, EachIs (fun v d => ∃ as, Reads s.heap v d as) vs ds → (∀ d ∈ ds, ∃ xs, d = .tuple xs) → (∀ os : List (Option Value), os.map (·.isSome) = ds.map isNE → Q os s) → wpAny M A (vs.mapM firstOfTuple') Q E s
  | _, _, Q, .nil, _, h => by
    rw [List.mapM_nil]
    exact wpAny_pure (h [] rfl)
  | _, _, Q, .cons (a := v) (b := d) (as := vs) (bs := ds) ⟨as, r⟩ t, ht, h => by
    obtain ⟨xs, rfl⟩ := ht d (List.mem_cons_self ..)
    rw [List.mapM_cons]
    refine wpAny_bind ?_
    rw [kas_first_eq]
    cases r with
    | @tuple a o items n _ _ h1 h2 h3 h4 =>
      refine wpAny_bind (Looks.here (show Looks M s.heap (typeOf (.ref a)) o.cls from (Looks.ld h1).andThen .now) ?_)
      rw [h2, if_neg (by first | decide | simp)]
      refine wpAny_bind (listItems_at h1 h3 (wpAny_pure ?_))
      refine wpAny_bind (firsts_tup t (fun d hd => ht d (List.mem_cons_of_mem _ hd)) fun os ho => wpAny_pure (h (_ :: os) ?_))
      rw [List.map_cons, List.map_cons, ho]
      congr 1
      have hl : items.size = xs.length := by simpa using ReadsAll.length _ _ _ h4
      cases xs with
      | nil => rw [Array.getElem?_eq_none (by rw [hl]; exact Nat.le_refl _)]; rfl
      | cons x xs => rw [Array.getElem?_eq_getElem (by rw [hl]; exact Nat.succ_pos _)]; rfl
theorem sortsAt_tup {vs : List Value} {ds : List PyData} (e : EachIs (fun v d => ∃ as, Reads s.heap v d as) vs ds) (hal : AllAlike ds) (ht : ∀ d ∈ ds, ∃ xs, d = .tuple xs) (hm : ∃ d ∈ ds, isNE d = false) (hu : ∀ d, d ∈ ds → A.units + d.depth < cLine) : SortsAt prog w A s (dataKind s.heap ds) vs := by
  have lt : ∀ f : Bool, ∀ (E : Value → Shared → Prop) (x y : Value) (a b : List (Int ⊕ List Nat)) (Q : Bool → Shared → Prop), (dataKind s.heap ds).keyOf x = some a → (dataKind s.heap ds).keyOf y = some b → Q ((dataKind s.heap ds).blt a b) s → wpAny (model prog w) A (oneLt' f x y) Q E s := by
    intro f E x y a b Q ha hb hq
    obtain ⟨d, as, hd, ra, rfl⟩ := dataKind_inv ha
    obtain ⟨d', as', hd', rb, rfl⟩ := dataKind_inv hb
    have hdd := hal d hd d' hd'
    obtain ⟨xs, rfl⟩ := ht d hd
    obtain ⟨ys, rfl⟩ := ht d' hd'
    exact oneLt_tup ra rb hdd (Nat.lt_of_le_of_lt (Nat.add_le_add_left (Nat.min_le_left _ _) _) (hu _ hd)) hq
  refine ⟨fun v hv => ?_, ?_⟩
  · obtain ⟨d, hd, as, r⟩ := e.left v hv
    exact ⟨_, dataKind_some hal hd r⟩
  · have hT : ∀ v ∈ vs, ∀ M : Model, Looks M s.heap (typeOf v) (.type "tuple") := fun v hv M => by
      obtain ⟨d, hd, as, r⟩ := e.left v hv
      obtain ⟨xs, rfl⟩ := ht d hd
      exact looks_reads r
    have kind : ∀ (h2 : 2 ≤ vs.length) (E : Value → Shared → Prop) (Q : SortKind → Shared → Prop), Q (if (ds.head?.map isNE).getD false = true then general' else oneType') s → wpAny (model prog w) A (keyKind' vs.toArray) Q E s := by
      intro h2 E Q hq
      rw [kat_kind_eq, List.mapM_toArray, map_eq_pure_bind]
      refine wpAny_bind (wpAny_bind (firsts_tup e ht fun os ho => wpAny_pure ?_))
      have hall : ¬ (os.toArray.all fun x => x.isSome) = true := by
        obtain ⟨d, hd, hn⟩ := hm
        have : false ∈ os.map (·.isSome) := by rw [ho]; exact List.mem_map.mpr ⟨d, hd, hn⟩
        obtain ⟨o, h1, h2⟩ := List.mem_map.mp this
        intro z
        rw [List.all_toArray, List.all_eq_true] at z
        have := z o h1
        rw [h2] at this
        cases this
      rw [if_neg hall]
      have h0 : (os.toArray[0]?.bind id).isSome = (ds.head?.map isNE).getD false := by
        cases os with
        | nil =>
          cases ds with
          | nil => rfl
          | cons d ds => cases ho
        | cons o os =>
          cases ds with
          | nil => cases ho
          | cons d ds =>
            rw [List.map_cons, List.map_cons] at ho
            obtain ⟨h1, _⟩ := List.cons.inj ho
            show (Option.bind (some o) id).isSome = isNE d
            rw [← h1]
            rfl
      rw [h0]
      by_cases hz : (ds.head?.map isNE).getD false = true
      · rw [if_pos hz] at hq ⊢
        exact wpAny_pure hq
      · rw [if_neg hz] at hq ⊢
        obtain ⟨v1, rest, rfl⟩ : ∃ v1 rest, vs = v1 :: rest := by
          cases vs with
          | nil => simp at h2
          | cons a b => exact ⟨a, b, rfl⟩
        rw [oneTypeOnly'_eq, List.mapM_toArray, map_eq_pure_bind]
        refine wpAny_bind (wpAny_bind (wpAny_bind (kas_mapM (r := Value.type "tuple") _ (fun v hv Q' hq => (hT v hv _).here hq) (wpAny_pure ?_))))
        have hall : ((List.map (fun _ => Value.type "tuple") (v1 :: rest)).toArray.all fun x => x == Value.type "tuple") = true := by
          simp only [List.all_toArray, List.all_map, List.all_eq_true]
          intro _ _
          exact beq_self_eq_true _
        have h0 : (List.map (fun _ => Value.type "tuple") (v1 :: rest)).toArray[0]? = some (Value.type "tuple") := by simp
        rw [h0]
        simp only [hall, if_true]
        exact wpAny_pure (wpAny_pure hq)
    by_cases hz : (ds.head?.map isNE).getD false = true
    · refine ⟨general', fun E x y a b Q ha hb hq => lt false E x y a b Q ha hb hq, fun h2 E Q hq => kind h2 E Q ?_⟩
      rw [if_pos hz]
      exact hq
    · refine ⟨oneType', fun E x y a b Q ha hb hq => lt true E x y a b Q ha hb hq, fun h2 E Q hq => kind h2 E Q ?_⟩
      rw [if_neg hz]
      exact hq
theorem sortsAt2 {vs : List Value} {ds : List PyData} (e : EachIs (fun v d => ∃ as, Reads s.heap v d as) vs ds) (hal : AllAlike ds) (hk : Sortable2 ds) (hu : ∀ d, d ∈ ds → A.units + d.depth < cLine) : SortsAt prog w A s (dataKind s.heap ds) vs := by
  rcases hk with hk | ht
  · exact SortsAt.data e hal hk hu
  · by_cases hm : ∃ d ∈ ds, isNE d = false
    · exact sortsAt_tup e hal ht hm hu
    · refine SortsAt.data e hal (.inl fun d hd => ?_) hu
      obtain ⟨xs, rfl⟩ := ht d hd
      cases xs with
      | nil => exact absurd ⟨_, hd, rfl⟩ hm
      | cons x xs => exact ⟨x, xs, rfl⟩
theorem sorted_data2 {β : Type} {vs : List Value} {bs : List β} {enc : β → PyData} {R : Value → β → Prop} {l : Addr} {Q : Value → Shared → Prop} (hl : s.heap.IsList l vs.toArray) (e : EachIs R vs bs) (er : EachIs (fun v b => ∃ as, Reads s.heap v (enc b) as) vs bs) (hal : AllAlike (bs.map enc)) (hk : Sortable2 (bs.map enc)) (hL : bs.length ≤ sizeLine)
    (hu : ∀ b, b ∈ bs → A.units + 2 + (enc b).depth < cLine) (h : ∀ out, out.length = bs.length → EachIs R out (bs.mergeSort (dataLe false enc)) → Q (.ref (s.heap.objs.size + 1)) { s with heap := sortedAll s.heap vs (List.toArray out) }) :
    wpAny (model prog w) A (call (.builtin "sorted") [.ref l]) Q E s := by
  have er' : EachIs (fun v b => ∃ as, Reads (sortingHeap (copyHeap s.heap vs) (s.heap.objs.size + 1) vs) v (enc b) as) vs bs := er.mono fun _ _ ⟨as, r⟩ => ⟨as, PyProof.Rows.Reads.keeps (fun _ _ => sorting_copy_old) r⟩
  refine sorted_vals hl (sortsAt2 (s := { s with heap := sortingHeap (copyHeap s.heap vs) (s.heap.objs.size + 1) vs }) (each_map (R := fun v d => ∃ as, Reads (sortingHeap (copyHeap s.heap vs) (s.heap.objs.size + 1) vs) v d as) enc er') hal hk (bound_map hu)) (by rw [e.length]; exact hL) ?_
  exact h _ (by rw [sortVals_length false rfl]; exact e.length) (sortVals_data false e er' hal)
end
def encD (d : D) : PyData := (pyOf d).getD .none
def SortOk (ds : List D) : Prop := (∀ x ∈ ds, (pyOf x).isSome = true ∧ (encD x).depth ≤ 20) ∧ PySem.W.AllAlike (ds.map encD) ∧ Sortable2 (ds.map encD)
open Classical in
noncomputable def oSorted (st : Sto) : List D → Option D
  | [d] => (listOf st d).bind fun ds => if SortOk ds then some (.lst (ds.mergeSort (PySem.W.dataLe false encD))) else none
  | _ => none
section
variable {X : Cx} {H : Hp} {ρ : List Addr}
theorem each_of : ∀ {ds : List D} {vs : List V} {us : List Value}, Reps X.K X.w H ρ ds vs → Vals vs us → PySem.W.EachIs (fun u d => ∃ x, RelV x u ∧ Rep X.K X.w H ρ d x) us ds
  | [], vs, us, r, rv => by
    unfold Reps at r
    subst r
    cases rv
    exact .nil
  | d :: ds, vs, us, r, rv => by
    unfold Reps at r
    obtain ⟨v, vr, rfl, r1, r2⟩ := r
    cases rv with
    | cons x1 x2 => exact .cons ⟨v, x1, r1⟩ (each_of r2 x2)
theorem of_each : ∀ {ds : List D} {us : List Value}, PySem.W.EachIs (fun u d => ∃ x, RelV x u ∧ Rep X.K X.w H ρ d x) us ds → ∃ vs, Vals vs us ∧ Reps X.K X.w H ρ ds vs
  | [], _, .nil => ⟨[], .nil, Reps.nil⟩
  | d :: ds, _, .cons ⟨x, h1, h2⟩ t => by
    obtain ⟨vs, a, b⟩ := of_each t
    exact ⟨x :: vs, .cons h1 a, Reps.cons h2 b⟩
theorem each_imp {α β : Type} {R R' : α → β → Prop} : ∀ {us : List α} {ds : List β}, PySem.W.EachIs R us ds → (∀ u d, d ∈ ds → R u d → R' u d) → PySem.W.EachIs R' us ds
  | _, _, .nil, _ => .nil
  | _, _, .cons h t, k => .cons (k _ _ (List.mem_cons_self ..) h) (each_imp t fun u d hd => k u d (List.mem_cons_of_mem _ hd))
theorem cd_sorted (hc : X.calm = true) (hu : X.A.units + 64 < cLine) : CallD X (.builtin "sorted") oSorted := by
  intro pins s σ H ρ st xs us as d I hs rv ra e
  match as, e, ra with
  | [b], e, ra =>
    obtain ⟨v, rfl, r⟩ := ra.oneD
    obtain ⟨u, rfl, rx⟩ := rv.one
    unfold oSorted at e
    dsimp only at e
    cases el : listOf st b with
    | none => rw [el] at e; cases e
    | some ds =>
      rw [el] at e
      dsimp only [Option.bind] at e
      by_cases ok : SortOk ds
      · rw [if_pos ok] at e
        cases e
        obtain ⟨p, vs, rfl, hq, z, rs⟩ := listOf_ok hs r el
        cases rx
        obtain ⟨its, ri, pl, hz⟩ := I.list hq
        have ea := each_of (X := X) rs ri
        have er : PySem.W.EachIs (fun v b => ∃ as, Reads s.heap v (encD b) as) its ds := each_imp ea fun u d hd ⟨x, h1, h2⟩ => by
          obtain ⟨x', hx⟩ := Option.isSome_iff_exists.mp (ok.1 d hd).1
          have : encD d = x' := by unfold encD; rw [hx]; rfl
          rw [this]
          refine rep_reads I hs h2 (x := x') ?_ h1
          cases d with
          | ref n => simp [pyOf] at hx
          | _ => exact hx
        refine sorted_data2 pl.isList ea er ok.2.1 ok.2.2 z (fun b hb => ?_) fun out hl eo => ?_
        · have := (ok.1 b hb).2
          omega
        · obtain ⟨vs', rv', rs'⟩ := of_each (X := X) eo
          obtain ⟨ep, he'⟩ := PyProof.Rows.sortedAll_at s.heap its out.toArray
          have hf : H (s.heap.objs.size + 1) = none := I.hok.fresh (Nat.le_succ _)
          have hz' : vs'.length ≤ sizeLine := by rw [rv'.length, hl]; exact z
          refine ⟨.ref (s.heap.objs.size + 1), upd H (s.heap.objs.size + 1) (.frz _ (.lst vs')), I.laid (t' := s.toks) (fun _ _ => PyProof.Rows.sortedAll_old) (Nat.le_succ _) ⟨he', hz', out, ep, rv', he'⟩, rfl, Aft.fresh hs hf, ?_⟩
          unfold Rep
          exact ⟨_, vs', rfl, .inl ⟨_, upd_same⟩, by rw [List.length_mergeSort]; exact z, rs'.stay (Stays.new hf) (List.prefix_refl _)⟩
      · rw [if_neg ok] at e
        cases e
/-! ### [..] * n, (..) * n -/
def sRepL (fs : SemA) (g : SemE) : SemE := fun env st => (fs env st).bind fun ds st1 => if ds.length ≤ sizeLine then (g env st1).bind fun k st2 => match k with
  | .int i => if 0 ≤ i ∧ i < 2 ^ 63 ∧ ds.length * i.toNat ≤ sizeLine then .ok (.lst (List.replicate i.toNat ds).flatten) st2 else .bad
  | _ => .bad else .bad
theorem Reps.rep {K : PySem.W.Frag} {w : World} {H : Hp} {ρ : List Addr} {ds : List D} {vs : List V} (h : Reps K w H ρ ds vs) : ∀ n : Nat, Reps K w H ρ (List.replicate n ds).flatten (List.replicate n vs).flatten
  | 0 => Reps.nil
  | n + 1 => by
    rw [List.replicate_succ, List.replicate_succ, List.flatten_cons, List.flatten_cons]
    exact h.append (Reps.rep h n)
theorem rep_len {α : Type} (xs : List α) : ∀ n : Nat, (List.replicate n xs).flatten.length = xs.length * n := fun n => by simp [Nat.mul_comm]
theorem de_repL {es : List Expr} {b : Expr} {fs : SemA} {g : SemE} {pos p1 : Pos} (h : DA X es fs) (hb : DE X b g) : DE X (.BinOp (.List es p1) .Mult b pos) (sRepL fs g) :=
  PE.weak (pe_op (OpR.lock op_rep) (pe_lst h) hb) fun σ H Q ⟨ρ, env, st, at_, h⟩ => by
    refine ⟨ρ, env, st, at_, (RR.bind h).mono fun ds st1 H1 ρ1 a1 ⟨_, k⟩ vs rs => ?_⟩
    by_cases z : ds.length ≤ sizeLine
    · rw [if_pos z] at k
      refine ⟨by rw [rs.length]; exact z, fun p hp => ?_⟩
      have a2 : Aft X.K X.w H1 ρ1 st1 (upd H1 p (.lst vs)) ρ1 := Aft.fresh a1.r hp
      have at2 := (at_.aft a1).aft a2
      refine ⟨ρ1, env, st1, at2, (RR.bind (RR.aftR a2 k)).mono fun k3 st3 H3 ρ3 a3 ⟨_, q⟩ v3 r3 => ?_⟩
      cases k3 with
      | int i =>
        dsimp only at q
        by_cases c : 0 ≤ i ∧ i < 2 ^ 63 ∧ ds.length * i.toNat ≤ sizeLine
        · rw [if_pos c] at q
          have np : p ∉ ρ1 := fun z => by
            obtain ⟨o, ho⟩ := a1.r.here p z
            rw [hp] at ho
            cases ho
          have hp3 : H3 p = some (.lst vs) := a3.u p _ upd_same np
          have rs3 := (rs.stay a2.s a2.p).stay a3.s a3.p
          unfold Rep at r3
          subst r3
          refine ⟨p, i, vs, rfl, rfl, hp3, by omega, c.2.1, by rw [rs.length]; exact c.2.2, fun p4 hp4 => ?_⟩
          obtain h4 | h4 := new_lst (X := X) a3.r hp4 (rs3.rep i.toNat) (by rw [rep_len]; exact c.2.2)
          · exact .inl (q _ _ h4.1 _ h4.2)
          · obtain ⟨a, u, e1, e2, e3, e4⟩ := h4
            exact .inr ⟨a, u, e1, e2, e3, fun od => q _ _ (e4 od).1 _ (e4 od).2⟩
        · rw [if_neg c] at q
          exact q.elim
      | _ => exact q.elim
    · rw [if_neg z] at k
      exact k.elim
def oRepT : Sto → D → D → Option D
  | _, .tup ds, .int k => if ds ≠ [] ∧ 2 ≤ k ∧ k ≤ 1000 ∧ ds.length ≤ 1000 then some (.tup (List.replicate k.toNat ds).flatten) else none
  | _, _, _ => none
theorem od_repT : OpD X (binaryOp .Mult) oRepT := OpD.of op_repT fun H ρ st x y a b d hs ra rb e => by
  cases a with
  | tup ds =>
    cases b with
    | int k =>
      unfold oRepT at e
      dsimp only at e
      by_cases c : ds ≠ [] ∧ 2 ≤ k ∧ k ≤ 1000 ∧ ds.length ≤ 1000
      · rw [if_pos c] at e
        cases e
        unfold Rep at ra rb
        obtain ⟨p, vs, rfl, hq, z, rs⟩ := ra
        subst rb
        have hl := rs.length
        have hz : (List.replicate k.toNat ds).flatten.length ≤ sizeLine := by
          rw [rep_len, sizeLine_eq]
          have : ds.length * k.toNat ≤ 1000 * 1000 := Nat.mul_le_mul c.2.2.2 (by omega)
          omega
        refine ⟨p, k, vs, rfl, rfl, hq, fun z => ?_, c.2.1, c.2.2.1, by omega, fun q hq' => new_tup hs hq' (rs.rep k.toNat) hz⟩
        subst z
        exact c.1 (List.eq_nil_of_length_eq_zero hl.symm)
      · rw [if_neg c] at e; cases e
    | _ => cases e
  | _ => cases e
end
section
variable {fs : SemA} {g : SemE} {env : En} {st : Sto} {Q : D → Sto → Prop}
theorem WR_sDctM : WR (sDctM env st) Q = Q (.ref st.length) (st ++ [.dct []]) := (rfl)
theorem WR_sRepL : WR (sRepL fs g env st) Q = WR (fs env st) fun ds s1 => ds.length ≤ sizeLine ∧ WR (g env s1) fun k s2 => match k with
    | .int i => (0 ≤ i ∧ i < 2 ^ 63 ∧ ds.length * i.toNat ≤ sizeLine) ∧ Q (.lst (List.replicate i.toNat ds).flatten) s2
    | _ => False := by
  unfold sRepL
  rw [WR_bind]
  congr
  funext ds s1
  by_cases z : ds.length ≤ sizeLine
  · rw [if_pos z, WR_bind]
    refine propext ⟨fun h => ⟨z, ?_⟩, fun h => ?_⟩
    · refine h.mono fun k s2 q => ?_
      cases k with
      | int i =>
        dsimp only at q ⊢
        by_cases c : 0 ≤ i ∧ i < 2 ^ 63 ∧ ds.length * i.toNat ≤ sizeLine
        · rw [if_pos c] at q; exact ⟨c, q⟩
        · rw [if_neg c] at q; exact q.elim
      | _ => exact q
    · refine h.2.mono fun k s2 q => ?_
      cases k with
      | int i =>
        dsimp only at q ⊢
        rw [if_pos q.1]; exact q.2
      | _ => exact q
  · rw [if_neg z]
    exact propext ⟨fun h => h.elim, fun h => z h.1⟩
end
/-! ### words in order -/
theorem dataLt_words (w v : List Int) : PySem.W.dataLt (.tuple (w.map .int)) (.tuple (v.map .int)) = decide (w < v) := by
  rw [← PySem.W.dataLt_ints]
  rfl
theorem encD_wd (w : List Int) : encD (.tup (w.map .int)) = .tuple (w.map .int) := by
  unfold encD
  have : pyOf (.tup (w.map D.int)) = some (.tuple (w.map .int)) := by
    simp only [pyOf]
    rw [pysOf_ints]
    rfl
  rw [this]
  rfl
theorem o_ltW {st : Sto} (w v : List Int) : oLt st (.tup (w.map .int)) (.tup (v.map .int)) = some (.bl (decide (w < v))) := by
  unfold oLt oOrd
  rw [py2_words]
  show (if PySem.W.alikeAll (w.map PyData.int) (v.map PyData.int) = true ∧ false = false then some (D.bl (PySem.W.dataLt (.tuple (w.map .int)) (.tuple (v.map .int)))) else none) = _
  rw [if_pos ⟨PySem.W.alike_ints w v, rfl⟩, dataLt_words]
/-- words sorted -/
def sortW (ws : List (List Int)) : List (List Int) := ws.mergeSort fun a b => !decide (b < a)
theorem sortW_perm (ws : List (List Int)) : (sortW ws).Perm ws := List.mergeSort_perm ..
theorem lt_tri (a b : List Int) (h : ¬ a < b) (h2 : ¬ b < a) : a = b := by
  have h1 : b ≤ a := List.not_lt.mp h
  have h3 : a ≤ b := List.not_lt.mp h2
  exact List.le_antisymm h3 h1
theorem sortW_sorted (ws : List (List Int)) (nd : ws.Nodup) : (sortW ws).Pairwise (· < ·) := by
  have h1 : (sortW ws).Pairwise (fun a b => (!decide (b < a)) = true) := by
    refine List.pairwise_mergeSort (fun a b c h1 h2 => ?_) (fun a b => ?_) ws
    · simp only [Bool.not_eq_true', decide_eq_false_iff_not, List.not_lt] at *
      exact List.le_trans h1 h2
    · simp only [Bool.or_eq_true, Bool.not_eq_true', decide_eq_false_iff_not, List.not_lt]
      exact List.le_total a b
  have h2 : (sortW ws).Nodup := (sortW_perm ws).nodup_iff.mpr nd
  refine (h1.and h2).imp fun {a b} h => ?_
  obtain ⟨q1, q2⟩ := h
  simp only [Bool.not_eq_true', decide_eq_false_iff_not] at q1
  by_cases z : a < b
  · exact z
  · exact absurd (lt_tri a b z q1) q2
theorem sortOkW (ws : List (List Int)) : SortOk (ws.map fun w => .tup (w.map .int)) := by
  have hp : ∀ w : List Int, pyOf (.tup (w.map D.int)) = some (.tuple (w.map .int)) := fun w => by
    simp only [pyOf]
    rw [pysOf_ints]
    rfl
  have he : (ws.map fun w => D.tup (w.map .int)).map encD = ws.map fun w => PyData.tuple (w.map .int) := by
    rw [List.map_map]
    exact List.map_congr_left fun w _ => encD_wd w
  refine ⟨fun x hx => ?_, ?_, ?_⟩
  · obtain ⟨w, _, rfl⟩ := List.mem_map.mp hx
    rw [encD_wd]
    refine ⟨by rw [hp]; rfl, ?_⟩
    show PyData.depthAll _ + 1 ≤ 20
    rw [PySem.W.depth_ints]
    decide
  · rw [he]
    exact PySem.W.AllAlike.of fun b b' => PySem.W.alike_ints b b'
  · rw [he]
    refine .inr fun d hd => ?_
    obtain ⟨w, hw, rfl⟩ := List.mem_map.mp hd
    exact ⟨_, rfl⟩
theorem mergeW (ws : List (List Int)) : (ws.map fun w => D.tup (w.map .int)).mergeSort (PySem.W.dataLe false encD) = (sortW ws).map fun w => .tup (w.map .int) := by
  refine (List.map_mergeSort fun a _ b _ => ?_).symm
  show _ = (!PySem.W.dataLt (encD (.tup (b.map .int))) (encD (.tup (a.map .int))))
  rw [encD_wd, encD_wd, dataLt_words]
theorem o_sortedW2 {st : Sto} (ws : List (List Int)) : oSorted st [.lst (ws.map fun w => .tup (w.map .int))] = some (.lst ((sortW ws).map fun w => .tup (w.map .int))) := by
  unfold oSorted
  dsimp only [listOf, Option.bind]
  rw [if_pos (sortOkW ws), mergeW]
theorem o_sortedW {st : Sto} (ws : List (List Int)) (hn : ∀ w ∈ ws, w ≠ []) : oSorted st [.lst (ws.map fun w => .tup (w.map .int))] = some (.lst ((sortW ws).map fun w => .tup (w.map .int))) := o_sortedW2 ws
/-! ### dicts from words to bits -/
def wk (w : List Int) : NestedKey := .tup (w.map .num)
theorem keysOf_ints : ∀ w : List Int, keysOf (w.map D.int) = some (w.map .num)
  | [] => rfl
  | i :: w => by
    rw [List.map_cons, List.map_cons]
    simp only [keysOf, keyOf]
    rw [keysOf_ints w]
theorem keyOf_wd (w : List Int) : keyOf (.tup (w.map .int)) = some (wk w) := by
  simp only [keyOf]
  rw [keysOf_ints]
  rfl
theorem wk_inj {v w : List Int} (h : wk v = wk w) : v = w := by
  have : v.map NestedKey.num = w.map NestedKey.num := NestedKey.tup.inj h
  exact (List.map_inj_right fun a b e => NestedKey.num.inj e).mp this
theorem depth_nums : ∀ w : List Int, NestedKey.depthAll (w.map .num) = 0
  | [] => rfl
  | i :: w => by
    rw [List.map_cons]
    show max (NestedKey.depth (.num i)) (NestedKey.depthAll (w.map .num)) = 0
    rw [depth_nums w]
    rfl
theorem wk_depth (w : List Int) : (wk w).depth ≤ 8 := by
  show NestedKey.depthAll (w.map .num) + 1 ≤ 8
  rw [depth_nums]
  decide
/-- a dict from words -/
def kvD {α : Type} (f : α → D) (kvs : List (List Int × α)) : List (D × D) := kvs.map fun p => (.tup (p.1.map .int), f p.2)
section
variable {α : Type} {f : α → D} {kvs : List (List Int × α)}
theorem kvD_keyOk (w : List Int) : keyOk (kvD f kvs) (.tup (w.map .int)) (wk w) = true := by
  unfold keyOk kvD
  simp only [isT, Bool.true_and, Bool.and_eq_true, decide_eq_true_eq, List.all_eq_true]
  refine ⟨fun e he => ?_, wk_depth w⟩
  obtain ⟨p, _, rfl⟩ := List.mem_map.mp he
  rfl
def getW (kvs : List (List Int × α)) (w : List Int) : Option α := (kvs.find? fun p => decide (p.1 = w)).map (·.2)
theorem findD_kvD (w : List Int) : findD (kvD f kvs) (wk w) = (getW kvs w).map f := by
  induction kvs with
  | nil => rfl
  | cons p r ih =>
    by_cases z : p.1 = w
    · have e1 : keyOf (.tup (p.1.map D.int)) = some (wk w) := by rw [keyOf_wd, z]
      have h1 : findD (kvD f (p :: r)) (wk w) = some (f p.2) := by
        show ((List.find? (fun e : D × D => decide (keyOf e.1 = some (wk w))) ((.tup (p.1.map D.int), f p.2) :: kvD f r)).map (·.2)) = _
        rw [List.find?_cons_of_pos (by simp only [decide_eq_true_eq]; exact e1)]
        rfl
      have h2 : getW (p :: r) w = some p.2 := by simp [getW, List.find?_cons, z]
      rw [h1, h2]
      rfl
    · have e1 : ¬ keyOf (.tup (p.1.map D.int)) = some (wk w) := by
        rw [keyOf_wd]
        exact fun q => z (wk_inj (Option.some.inj q))
      have h1 : findD (kvD f (p :: r)) (wk w) = findD (kvD f r) (wk w) := by simp [findD, kvD, List.find?_cons, e1]
      have h2 : getW (p :: r) w = getW r w := by simp [getW, List.find?_cons, z]
      rw [h1, h2]
      exact ih
def putW (kvs : List (List Int × α)) (w : List Int) (x : α) : List (List Int × α) := if (getW kvs w).isSome then kvs.map fun p => if p.1 = w then (p.1, x) else p else kvs ++ [(w, x)]
theorem putD_kvD (w : List Int) (x : α) : putD (kvD f kvs) (.tup (w.map .int)) (f x) (wk w) = kvD f (putW kvs w x) := by
  unfold putD putW
  rw [findD_kvD, Option.isSome_map]
  by_cases z : (getW kvs w).isSome = true
  · rw [if_pos z, if_pos z]
    unfold kvD
    rw [List.map_map, List.map_map]
    refine List.map_congr_left fun p _ => ?_
    simp only [Function.comp]
    by_cases q : p.1 = w
    · rw [if_pos (by rw [keyOf_wd, q]), if_pos q]
    · rw [if_neg (by rw [keyOf_wd]; exact fun e => q (wk_inj (Option.some.inj e))), if_neg q]
  · rw [if_neg z, if_neg z]
    unfold kvD
    rw [List.map_append]
    rfl
theorem getW_none {w : List Int} (h : getW kvs w = none) : w ∉ kvs.map (·.1) := by
  unfold getW at h
  simp only [Option.map_eq_none_iff, List.find?_eq_none, decide_eq_true_eq] at h
  intro q
  obtain ⟨p, hp, e⟩ := List.mem_map.mp q
  exact h p hp e
theorem getW_mem {w : List Int} (h : w ∈ kvs.map (·.1)) : ∃ x, getW kvs w = some x ∧ (w, x) ∈ kvs := by
  cases e : getW kvs w with
  | none => exact absurd h (getW_none e)
  | some x =>
    refine ⟨x, rfl, ?_⟩
    unfold getW at e
    obtain ⟨p, hp, rfl⟩ := Option.map_eq_some_iff.mp e
    have h1 := List.find?_some hp
    simp only [decide_eq_true_eq] at h1
    rw [← h1]
    exact List.mem_of_find?_eq_some hp
theorem putW_keys (w : List Int) (x : α) : (putW kvs w x).map (·.1) = if (getW kvs w).isSome then kvs.map (·.1) else kvs.map (·.1) ++ [w] := by
  unfold putW
  by_cases z : (getW kvs w).isSome = true
  · rw [if_pos z, if_pos z, List.map_map]
    refine List.map_congr_left fun p _ => ?_
    simp only [Function.comp]
    split <;> rfl
  · rw [if_neg z, if_neg z, List.map_append]
    rfl
theorem putW_nodup {w : List Int} {x : α} (nd : (kvs.map (·.1)).Nodup) : ((putW kvs w x).map (·.1)).Nodup := by
  rw [putW_keys]
  by_cases z : (getW kvs w).isSome = true
  · rw [if_pos z]; exact nd
  · rw [if_neg z]
    have hn : getW kvs w = none := by simpa using z
    refine List.nodup_append.mpr ⟨nd, by simp, fun a ha b hb => ?_⟩
    simp only [List.mem_cons, List.not_mem_nil, or_false] at hb
    subst hb
    exact fun e => getW_none hn (e ▸ ha)
theorem putW_mem {w v : List Int} {x y : α} (h : (v, y) ∈ putW kvs w x) : (v, y) ∈ kvs ∨ (v = w ∧ y = x) := by
  unfold putW at h
  by_cases z : (getW kvs w).isSome = true
  · rw [if_pos z] at h
    obtain ⟨p, hp, e⟩ := List.mem_map.mp h
    by_cases q : p.1 = w
    · rw [if_pos q] at e
      cases e
      exact .inr ⟨q, rfl⟩
    · rw [if_neg q] at e
      exact .inl (e ▸ hp)
  · rw [if_neg z] at h
    rcases List.mem_append.mp h with h | h
    · exact .inl h
    · simp only [List.mem_cons, List.not_mem_nil, or_false] at h
      cases h
      exact .inr ⟨rfl, rfl⟩
theorem putW_len (w : List Int) (x : α) : (putW kvs w x).length ≤ kvs.length + 1 := by
  unfold putW
  split
  · simp
  · simp
end
section
variable {α : Type} {f : α → D} {kvs : List (List Int × α)} {st : Sto} {n : Nat}
theorem dix_W (h : st[n]? = some (.dct (kvD f kvs))) (w : List Int) : oDIx st (.ref n) (.tup (w.map .int)) = (getW kvs w).map f := by
  unfold oDIx
  have e : dctOf st (.ref n) = some (kvD f kvs) := by simp only [dctOf, h]
  rw [e, keyOf_wd]
  dsimp only
  rw [if_pos (kvD_keyOk w), findD_kvD]
theorem set_W (h : st[n]? = some (.dct (kvD f kvs))) (hl : kvs.length < sizeLine) (w : List Int) (x : α) : setDct st (.ref n) (.tup (w.map .int)) (f x) = some (st.set n (.dct (kvD f (putW kvs w x)))) := by
  unfold setDct
  have e : dctOf st (.ref n) = some (kvD f kvs) := by simp only [dctOf, h]
  dsimp only
  rw [e, keyOf_wd]
  dsimp only
  rw [if_pos ⟨kvD_keyOk w, by unfold kvD; rw [List.length_map]; exact hl⟩, putD_kvD]
theorem list_W (h : st[n]? = some (.dct (kvD f kvs))) : oListD st [.ref n] = some (.lst ((kvs.map (·.1)).map fun w => .tup (w.map .int))) := by
  have e : dctOf st (.ref n) = some (kvD f kvs) := by simp only [dctOf, h]
  show (dctOf st (.ref n)).map _ = _
  rw [e]
  unfold kvD
  simp only [Option.map_some, List.map_map]
  rfl
theorem in_W (h : st[n]? = some (.dct (kvD f kvs))) (w : List Int) : oDIn st (.tup (w.map .int)) (.ref n) = some (.bl (getW kvs w).isSome) := by
  unfold oDIn
  have e : dctOf st (.ref n) = some (kvD f kvs) := by simp only [dctOf, h]
  rw [e, keyOf_wd]
  dsimp only
  rw [if_pos (kvD_keyOk w), findD_kvD, Option.isSome_map]
theorem notin_W (h : st[n]? = some (.dct (kvD f kvs))) (w : List Int) : oDNotIn st (.tup (w.map .int)) (.ref n) = some (.bl (!(getW kvs w).isSome)) := by
  unfold oDNotIn
  have e : dctOf st (.ref n) = some (kvD f kvs) := by simp only [dctOf, h]
  rw [e, keyOf_wd]
  dsimp only
  rw [if_pos (kvD_keyOk w), findD_kvD, Option.isSome_map]
end
theorem mul_one_meets (l : Addr) (items : Array Value) (n : Nat) (dd : Option Addr) (sl : Array (Option Value)) (u : Tok) :
    Meets (Builtin.«tuple.__mul__» ⟨[.ref l, .int 1 u], []⟩) (fun _ R s => s.heap.get? l = some { cls := .type "tuple", dict := dd, data := .seq items n, slots := sl } ∧ R (.ok (.ret (Value.ref l))) s) :=
  .of_wp fun prog w A R s h => by
    obtain ⟨hp, g, d, tk, os⟩ := s
    obtain ⟨hl, h⟩ := h
    have f1 := AutoSeq1.idx_int
    wp_walk using wpAny_loadPart' hl
    exact ⟨_, rfl, h⟩
section
variable {X : Cx}
theorem op_rep1 : OpR X (binaryOp .Mult) fun x y H Q => ∃ l xs, x = .ref l ∧ y = .int 1 ∧ SqT X.K H l xs ∧ Q (.ref l) H := by
  intro pins s σ H x y v u Q I rx ry ⟨l, xs, ex, ey, hT, q⟩
  subst ex ey
  cases rx
  obtain ⟨tk, rfl⟩ := ry
  obtain ⟨its, r, ⟨⟨oc, od, dt, os⟩, hob, hcl, nn, hdt⟩, hsz⟩ := I.tuple hT
  simp only at hcl hdt
  subst hcl hdt
  have a1 := int_rmul_tuple 1 tk l its.toArray nn od os
  have a2 := mul_one_meets l its.toArray nn od os tk
  refine wpAny_binaryOp_repeat_ref (T := "tuple") (U := "int") (by decide) ⟨_, hob, rfl⟩ (fun s1 => typeIs_int s1 1 tk) noFill_tuple_mul F.fills_int_mul F.slot_int_rmul repeat_tuple
    F.slot_int_index.lookup (call_meets F.slot_int_rmul (typeIs_int s 1 tk) F.entry_int_rmul (F.args_int_rmul_2 _ _) a1 ⟨hob, rfl, ⟨_, hob, rfl⟩,
      call_meets F.slot_tuple_mul ⟨_, hob, rfl⟩ F.entry_tuple_mul (F.args_tuple_mul_2 _ _) a2 ⟨hob, ?_⟩⟩)
  exact ⟨.ref l, H, I, rfl, q⟩
/-- a tuple n times -/
def oRepD : Sto → D → D → Option D
  | _, .tup ds, .int k => if k = 1 then some (.tup ds) else if ds ≠ [] ∧ 2 ≤ k ∧ k ≤ 1000 ∧ ds.length ≤ 1000 then some (.tup (List.replicate k.toNat ds).flatten) else none
  | _, _, _ => none
def oRep1 : Sto → D → D → Option D
  | _, .tup ds, .int k => if k = 1 then some (.tup ds) else none
  | _, _, _ => none
theorem od_rep1 : OpD X (binaryOp .Mult) oRep1 := OpD.of op_rep1 fun H ρ st x y a b d hs ra rb e => by
  cases a with
  | tup ds =>
    cases b with
    | int k =>
      unfold oRep1 at e
      dsimp only at e
      by_cases c : k = 1
      · rw [if_pos c] at e
        cases e
        subst c
        have ra' := ra
        unfold Rep at ra rb
        obtain ⟨p, vs, rfl, hq, z, rs⟩ := ra
        subst rb
        exact ⟨p, vs, rfl, rfl, hq, Aft.refl hs, ra'⟩
      · rw [if_neg c] at e; cases e
    | _ => cases e
  | _ => cases e
theorem oRepD_eq (st : Sto) (a b : D) : oRepD st a b = (oRep1 st a b).or (oRepT st a b) := by
  cases a with
  | tup ds =>
    cases b with
    | int k =>
      unfold oRepD oRep1 oRepT
      dsimp only
      by_cases c : k = 1
      · rw [if_pos c, if_pos c]; rfl
      · rw [if_neg c, if_neg c]; rfl
    | _ => rfl
  | _ => rfl
theorem od_repD : OpD X (binaryOp .Mult) oRepD := by
  have e : oRepD = fun st a b => (oRep1 st a b).or (oRepT st a b) := by
    funext st a b
    exact oRepD_eq st a b
  rw [e]
  exact OpD.orElse od_rep1 od_repT
/-- ints and tuples times an int -/
def oMulA (st : Sto) (a b : D) : Option D := (oMulI st a b).or (oRepD st a b)
theorem od_mulA : OpD X (binaryOp .Mult) oMulA := OpD.orElse od_mulI od_repD
end
theorem o_mulA_T {st : Sto} {ds : List D} {k : Int} : oMulA st (.tup ds) (.int k) = oRepD st (.tup ds) (.int k) := (rfl)
section
variable {X : Cx}
def oIsB : Sto → D → D → Option D
  | _, .bl a, .bl b => some (.bl (decide (a = b)))
  | _, _, _ => none
def oNotB : Sto → D → D → Option D
  | _, .bl a, .bl b => some (.bl (!decide (a = b)))
  | _, _, _ => none
theorem od_isB : OpD X (compareOp .Is) oIsB := OpD.of op_is_bl fun H ρ st x y a b d hs ra rb e => by
  cases a with
  | bl a =>
    cases b with
    | bl b =>
      cases e
      unfold Rep at ra rb
      exact ⟨a, b, ra, rb, Aft.refl hs, by unfold Rep; rfl⟩
    | _ => cases e
  | _ => cases e
theorem od_notB : OpD X (compareOp .IsNot) oNotB := OpD.of op_isnot_bl fun H ρ st x y a b d hs ra rb e => by
  cases a with
  | bl a =>
    cases b with
    | bl b =>
      cases e
      unfold Rep at ra rb
      exact ⟨a, b, ra, rb, Aft.refl hs, by unfold Rep; rfl⟩
    | _ => cases e
  | _ => cases e
theorem o_isB {st : Sto} {a b : Bool} : oIsB st (.bl a) (.bl b) = some (.bl (decide (a = b))) := (rfl)
theorem o_notB {st : Sto} {a b : Bool} : oNotB st (.bl a) (.bl b) = some (.bl (!decide (a = b))) := (rfl)
end
section
variable {X : Cx}
def sDct1 (f g : SemE) : SemE := fun env st => (sDctM env st).bind fun o st0 => (f env st0).bind fun k st1 => (g env st1).bind fun v st2 => match setDct st2 o k v with
  | some st3 => .ok o st3
  | none => .bad
theorem de_dct1 {a b : Expr} {f g : SemE} {pos : Pos} (hu : X.A.units + 64 < cLine) (ha : DE X a f) (hb : DE X b g) : DE X (.Dict [some a] [b] pos) (sDct1 f g) := by
  refine ⟨fun pins s σ H Q I q => ?_⟩
  obtain ⟨ρ, env, st, at_, q⟩ := q
  have hn := I.hok.fresh (Nat.le_refl s.heap.objs.size)
  have hsys : (s.heap.objs.size == sysModules) = false := beq_eq_false_iff_ne.mpr (Ne.symm (Nat.ne_of_lt I.big))
  have I1 := I.laid (a := s.heap.objs.size) (o := .ext (RawD s.heap.objs.size [])) (h' := s.heap.push { cls := .type "dict", data := .dict #[] }) (t' := s.toks) (fun _ _ q => Heap.get?_push_of_some _ q) (Nat.le_refl _) (raw_ok ⟨_, 0, Heap.get?_push_size _ rfl, ⟨rfl, rfl, rfl⟩, rfl⟩)
  have af : Aft X.K X.w H ρ (st ++ [.dct []]) (upd H s.heap.objs.size (.ext (RawD s.heap.objs.size []))) (ρ ++ [s.heap.objs.size]) := Aft.grow at_.st hn (so := .dct []) ⟨[], hsys, Nat.zero_le _, upd_same, by unfold RepEs; rfl, ⟨List.nodup_nil, .inl rfl⟩⟩
  have hr : st.length < (ρ ++ [s.heap.objs.size]).length ∧ (ρ ++ [s.heap.objs.size])[st.length]? = some s.heap.objs.size := by
    rw [← at_.st.len]
    simp
  obtain ⟨_, q1⟩ := RR.bind (r := sDctM env st) q _ _ af
  refine wpAny_Dict_any rfl rfl (by simp) (by simp) (thn ((pps_cons ha hb pps_nil).run pins _ σ _ (fun ps H3 => ∃ x y st2 ρ3 k v, ps = [(x, y)] ∧ Aft X.K X.w H ρ st2 H3 ρ3 ∧ (ρ ++ [s.heap.objs.size]) <+: ρ3 ∧ Rep X.K X.w H3 ρ3 k x ∧ Rep X.K X.w H3 ρ3 v y ∧
      RR X σ H3 ρ3 (match setDct st2 (.ref st.length) k v with
        | some st3 => .ok (D.ref st.length) st3
        | none => .bad) fun d _ H' ρ' => ∀ v, Rep X.K X.w H' ρ' d v → Q v H') I1 ?_) fun vs s2 ⟨ps, H3, I3, rel, x, y, st2, ρ3, k, v, ep, a3, pre, rk, rv, q3⟩ => ?_)
  · refine ⟨_, env, _, at_.aft af, (RR.bind q1).mono fun k st1 H1 ρ1 a1 ⟨_, q2⟩ x rx => ?_⟩
    refine ⟨_, env, _, (at_.aft af).aft a1, (RR.bind q2).mono fun v st2 H2 ρ2 a2 ⟨_, q3⟩ y ry => ?_⟩
    exact ⟨x, y, st2, ρ2, k, v, rfl, (af.trans a1).trans a2, a1.p.trans a2.p, rx.stay a2.s a2.p, ry, q3⟩
  · subst ep
    cases rel with
    | @cons p q ps qs h t =>
      cases t
      obtain ⟨h1, h2⟩ := h
      obtain ⟨u, w⟩ := q
      dsimp only at h1 h2
      cases eo : setDct st2 (.ref st.length) k v with
      | none => rw [eo] at q3; exact q3.elim
      | some st' =>
        rw [eo] at q3
        obtain ⟨n, es, nk, en, e1, e2, e3, e4, rfl⟩ := setDct_some eo
        cases en
        have hr3 : ρ3[st.length]? = some s.heap.objs.size := by
          obtain ⟨t, rfl⟩ := pre
          rw [List.getElem?_append_left hr.1]
          exact hr.2
        have ro : Rep X.K X.w H3 ρ3 (.ref st.length) (.ref s.heap.objs.size) := by
          unfold Rep
          exact ⟨_, hr3, rfl⟩
        obtain ⟨p, l, ka, xs, epx, epv, rfl, hp, hl, el, hk, hD, hP, ok, hR, rkk, hnn⟩ := dct_key (v := .ref s.heap.objs.size) I3 a3.r ro rk rfl h1 e1 e2 e3
        cases epx
        obtain ⟨er, eh⟩ := hnn _ rfl
        have hlen : es.length = xs.length := Paired.length hP
        have hll : l.length = xs.length := by rw [el, List.length_map]
        unfold storeAll
        rw [List.forIn_cons]
        refine wpAny_bind (wpAny_bind (wpAny_dictSet_heap (hsz := by omega) (room_in0 hu) hk hD fun h' hD' hs => wpAny_pure ?_))
        dsimp only
        rw [List.forIn_nil]
        refine wpAny_pure ?_
        dsimp only at hD' hs
        obtain ⟨o, es', epp, ho, hx, hd, he, hi, hnd⟩ := hD'
        have raw : RawD s.heap.objs.size es'.toList h' := ⟨o, epp, ho, hx, by rw [hd]⟩
        have mu : Mut (H3 s.heap.objs.size) := by rw [eh]; trivial
        have I' := I3.write (x := s.heap.objs.size) (e := s.heap.objs.size) (t' := s2.toks + (nestedKind X.prog X.w).draws nk) mu (.inl rfl) (fun b q hb z => (hs.2 b hb).trans z) ⟨o, ho⟩ (raw_ok raw)
        have stay : ∀ {d : D} {v : V}, Rep X.K X.w H3 ρ3 d v → Rep X.K X.w (upd H3 s.heap.objs.size (.ext (RawD s.heap.objs.size es'.toList))) ρ3 d v := fun r => r.stay (Stays.mut mu) (List.prefix_refl _)
        have ok3 := (keyOk_some e3).2.2
        refine ⟨.ref s.heap.objs.size, _, I', rfl, q3 _ _ (Aft.write a3.r er mu ?_) _ (stay ro)⟩
        refine ⟨es'.toList, hp, ?_, upd_same, ?_, putD_ok ok e2 e3⟩
        · rw [he, List.length_map]
          have := storedH_length (xs := xs) (k := nk) (a := ka) (v := w)
          omega
        · have hR' : RepEs X.K X.w (upd H3 s.heap.objs.size (.ext (RawD s.heap.objs.size es'.toList))) ρ3 es (xs.map (entryOfKey (nestedKind X.prog X.w))) := RepEs.stay (Stays.mut mu) (List.prefix_refl _) (el ▸ hR)
          have hP' : Paired (fun (e : D × D) (x : NestedKey × Addr × Value) => keyOf e.1 = some x.1 ∧ Rep X.K X.w (upd H3 s.heap.objs.size (.ext (RawD s.heap.objs.size es'.toList))) ρ3 e.1 (.ref x.2.1) ∧ ∃ dv, RelV dv x.2.2 ∧ Rep X.K X.w (upd H3 s.heap.objs.size (.ext (RawD s.heap.objs.size es'.toList))) ρ3 e.2 dv) es xs :=
            Paired.mapP hP fun _ _ z => ⟨z.1, stay z.2.1, let ⟨dv, z1, z2⟩ := z.2.2; ⟨dv, z1, stay z2⟩⟩
          have rk' := stay rkk
          have rd' := stay rv
          generalize upd H3 s.heap.objs.size (.ext (RawD s.heap.objs.size es'.toList)) = H2 at hR' hP' rk' rd' ⊢
          rw [he]
          rcases find_get hP nk with ⟨z1, z2⟩ | ⟨d', pp, dv, z1, z2, _, _⟩
          · have ep : putD es k v nk = es ++ [(k, v)] := by unfold putD; rw [z1]; rfl
            rw [storedH_new z2, ep, List.map_append]
            refine repEs_snoc (r := []) ?_ hR'
            unfold RepEs
            exact ⟨_, _, .ref ka, _, nk, rfl, e2, rfl, ok3, rfl, rk', h2, rd', by unfold RepEs; rfl⟩
          · have ep : putD es k v nk = es.map fun e => if keyOf e.1 = some nk then (e.1, v) else e := by unfold putD; rw [z1]; rfl
            rw [storedH_old z2, ep]
            exact repEs_put h2 rd' hP' hR'
end
section
open PySem.W PySem.Calls PyProof.V
variable {prog : Program} {w : World} {A : Around} {E : Value → Shared → Prop} {s : Shared} {T : String} {r d : Addr} {n : Nat} {P : Nat → Value → Prop} {OK : Heap → Prop}
/-- what a source gives, gathered; the place of the new list lies behind what stood -/
theorem gather {R : List Value → Shared → Prop} (K : KdlSrc prog w T r d n P OK) (hh : A.handled = none) (hok : OK s.heap) (hn : n ≤ sizeLine)
    (h : ∀ (g : Heap) (tk : Nat) (acc : Array Value), (∀ b o, s.heap.get? b = some o → g.get? b = some o) → s.heap.objs.size ≤ g.objs.size → ItemsOf P acc n → R acc.toList { s with heap := g, toks := tk }) :
    wpAny (model prog w) A (collect (.ref r)) R E s := by
  obtain ⟨lt1, lt2⟩ := K.there _ hok
  unfold collect
  refine wpAny_bind (wpAny_runValue (codeAny_builtin entry_proto_collect' ?_))
  rw [Around.under_plainId PySem.F.plain_proto_collect _]
  show wpAny _ A.in1 (newList [] >>= fun z => again (.builtin "list.__iadd__" ⟨[z, .ref r], []⟩)) _ _ s
  refine wpAny_bind (wpAny_newObj_type ?_)
  refine wpAny_pure ⟨plainId_quiet PySem.F.plain_list_iadd _, codeAny_builtin entry_list_iadd' ?_⟩
  rw [Around.under_plainId PySem.F.plain_list_iadd _]
  have at0 : (s.heap.push { cls := .type "list", data := .seq ([] : List Value).toArray }).get? s.heap.objs.size = some { cls := .type "list", data := .seq #[] } := Heap.get?_push_size _ rfl
  show wpAny _ A.in1 (Builtin.List.listExtendWith (.ref s.heap.objs.size) (.ref r) (.ref s.heap.objs.size)) _ _ _
  have big := kdl_extend (A := A) (s := { s with heap := s.heap.push { cls := .type "list", data := .seq ([] : List Value).toArray } })
    (R := fun (q : Result) (t : Shared) => ∃ (g : Heap) (tk : Nat) (acc : Array Value) (c : Nat), q = .ok (.ret (.ref s.heap.objs.size)) ∧ t = { s with heap := g, toks := tk } ∧
      (∀ b o, s.heap.get? b = some o → g.get? b = some o) ∧ g.get? s.heap.objs.size = some { cls := .type "list", dict := none, data := .seq acc c, slots := #[] } ∧ ItemsOf P acc n)
    K hh (K.keep _ _ hok fun b _ o e => Heap.get?_push_of_some _ e) s.heap.objs.size (Nat.ne_of_gt lt1) (Nat.ne_of_gt lt2) (.ref s.heap.objs.size) 0 at0
    (fun g tk acc c k1 k2 k3 => ⟨g, tk, acc, c, rfl, rfl, fun b o e => k1 b o (Nat.ne_of_lt (Heap.lt_size e)) (Heap.get?_push_of_some _ e), k2, k3⟩) hn
  have fin : ∀ (g : Heap) (tk : Nat) (acc : Array Value) (c : Nat), (∀ b o, s.heap.get? b = some o → g.get? b = some o) → g.get? s.heap.objs.size = some { cls := .type "list", dict := none, data := .seq acc c, slots := #[] } → ItemsOf P acc n → R acc.toList { s with heap := g, toks := tk } :=
    fun g tk acc c k1 k2 k3 => h g tk acc k1 (Nat.le_of_lt (Heap.lt_size k2)) k3
  refine wpAny_mono big (fun f t x => ?_) fun e t ⟨_, _, _, _, z, _⟩ => by cases z
  cases f with
  | done f =>
    obtain ⟨g, tk, acc, c, e, rfl, k1, k2, k3⟩ := x
    cases e
    show wpAny _ A (load s.heap.objs.size >>= _) _ _ _
    exact wpAny_bind (wpAny_load k2 (wpAny_pure (fin g tk acc c k1 k2 k3)))
  | again c1 =>
    refine ⟨x.1, codeAny_mono x.2 fun q t y => ?_⟩
    obtain ⟨g, tk, acc, c, rfl, rfl, k1, k2, k3⟩ := y
    show wpAny _ A (load s.heap.objs.size >>= _) _ _ _
    exact wpAny_bind (wpAny_load k2 (wpAny_pure (fin g tk acc c k1 k2 k3)))
theorem sorted_src {Q : Value → Shared → Prop} (K : KdlSrc prog w T r d n P OK) (hh : A.handled = none) (hok : OK s.heap) (hn : n ≤ sizeLine)
    (h : ∀ (g : Heap) (tk : Nat) (acc : Array Value), (∀ b o, s.heap.get? b = some o → g.get? b = some o) → s.heap.objs.size ≤ g.objs.size → ItemsOf P acc n → ∀ E' : Value → Shared → Prop,
      wpAny (model prog w) A.in1.in1 (Builtin.«list.sort» ⟨[.ref g.objs.size], []⟩) (fun f t => f = .done (.ret .none) ∧ Q (.ref g.objs.size) t) E' { s with heap := g.push (seqObj "list" acc.toList.toArray 0), toks := tk }) :
    wpAny (model prog w) A (call (.builtin "sorted") [.ref r]) Q E s := by
  refine call_function_entry kind_sorted plain_sorted entry_sorted (args_sorted1 _) ?_
  unfold Builtin.«sorted»
  refine wpAny_bind (m := checkCount "sorted" 1 1 _) (wpAny_pure ?_)
  refine wpAny_bind (gather (A := A.in1) K hh hok hn fun g tk acc k1 k2 k3 => ?_)
  refine wpAny_bind (wpAny_newList ?_ (by rw [Array.length_toList, k3.1]; exact hn))
  have at1 : (g.push (seqObj "list" acc.toList.toArray 0)).get? g.objs.size = some (seqObj "list" acc.toList.toArray 0) := Heap.get?_push_size _ rfl
  refine wpAny_bind (wpAny_holding (wpAny_call_entry_kw slot_list_sort ⟨_, at1, rfl⟩ entry_list_sort ?body (args_list_sort _)))
  case body =>
    show wpAny (model prog w) A.in1.in1 (Builtin.«list.sort» ⟨[.ref g.objs.size], []⟩) _ _ _
    refine wpAny_mono (h g tk acc k1 k2 k3 _) (fun f t hf => ?_) fun _ _ e => e
    obtain ⟨rfl, hq⟩ := hf
    exact ⟨_, rfl, wpAny_pure ⟨_, rfl, hq⟩⟩
end
open Classical in
noncomputable def oSortedD (st : Sto) : List D → Option D
  | [d] => (dctOf st d).bind fun es => if SortOk (es.map (·.1)) then some (.lst ((es.map (·.1)).mergeSort (PySem.W.dataLe false encD))) else none
  | _ => none
section
open PySem.W PySem.Calls PyProof.V
variable {X : Cx}
theorem sortedD_core {pins : List (Addr × Obj)} {s : Shared} {σ : L2.St} {H : Hp} {ρ : List Addr} {st : Sto} {v : V} {u : Value} {b : D} {es : List (D × D)} (hc : X.calm = true) (hu : X.A.units + 64 < cLine) (I : Inv X pins σ H s) (hs : RelSt X.K X.w H ρ st) (rx : RelV v u) (r : Rep X.K X.w H ρ b v) (el : dctOf st b = some es) (ok : SortOk (es.map (·.1))) :
    wpAny (model X.prog X.w) X.A (call (.builtin "sorted") [u]) (fun r t => ∃ (D0 : Addr) (g : Heap) (tk : Nat) (out : List Value) (e2 : Nat) (vs : List V), r = .ref D0 ∧ t = { s with heap := g, toks := tk } ∧ (∀ b o, s.heap.get? b = some o → g.get? b = some o) ∧ s.heap.objs.size ≤ D0 ∧
      g.get? D0 = some (seqObj "list" out.toArray e2) ∧ Vals vs out ∧ Reps X.K X.w H ρ ((es.map (·.1)).mergeSort (PySem.W.dataLe false encD)) vs ∧ vs.length ≤ sizeLine) X.xe s := by
  obtain ⟨p, l, rfl, hp, hl, ⟨o, ep, ho, hx, hd⟩, h4, h5, h6⟩ := dct_at I hs r el
  cases rx
  obtain ⟨vs, rvs, rps⟩ := reps_keys h4
  have hle : es.length = l.length := by
    have h1 := rvs.length
    have h2 := rps.length
    rw [List.length_map] at h1 h2
    omega
  refine sorted_src (kdl_raw hp hx hd) (I.ok.hd hc) ho (by simpa using hl) fun g tk acc k1 k2 it E' => ?_
  have ea : acc.toList = l.map (·.key) := by
    have hlen : acc.toList.length = l.length := by rw [Array.length_toList, it.1]; simp
    apply List.ext_getElem?
    intro j
    rw [List.getElem?_map]
    cases hj : acc.toList[j]? with
    | none =>
      have h1 := List.getElem?_eq_none_iff.mp hj
      rw [List.getElem?_eq_none (by omega)]
      rfl
    | some v =>
      obtain ⟨en, hen, hv⟩ := it.2 j v (by rw [← Array.getElem?_toList]; exact hj)
      rw [List.getElem?_toArray] at hen
      rw [hen, hv]
      rfl
  rw [ea]
  have eo0 := each_of (X := X) rps rvs
  have er : PySem.W.EachIs (fun v b => ∃ as, Reads s.heap v (encD b) as) (l.map (·.key)) (es.map (·.1)) := each_imp eo0 fun u d hd ⟨x, h1, h2⟩ => by
    obtain ⟨x', hx⟩ := Option.isSome_iff_exists.mp (ok.1 d hd).1
    have : encD d = x' := by unfold encD; rw [hx]; rfl
    rw [this]
    refine rep_reads I hs h2 (x := x') ?_ h1
    cases d with
    | ref n => simp [pyOf] at hx
    | _ => exact hx
  have at1 : (g.push (seqObj "list" (l.map (·.key)).toArray 0)).get? g.objs.size = some (seqObj "list" (l.map (·.key)).toArray 0) := Heap.get?_push_size _ rfl
  have kk : ∀ b o, s.heap.get? b = some o → (sortingHeap (g.push (seqObj "list" (l.map (·.key)).toArray 0)) g.objs.size (l.map (·.key))).get? b = some o := fun b o e =>
    sortingHeap_old (Nat.ne_of_lt (Heap.lt_size (k1 b o e))) (Heap.get?_push_of_some _ (k1 b o e))
  have er' : PySem.W.EachIs (fun v b => ∃ as, Reads (sortingHeap (g.push (seqObj "list" (l.map (·.key)).toArray 0)) g.objs.size (l.map (·.key))) v (encD b) as) (l.map (·.key)) (es.map (·.1)) := er.mono fun _ _ ⟨as, r⟩ => ⟨as, PyProof.Rows.Reads.keeps kk r⟩
  have hz : (l.map (·.key)).length ≤ sizeLine := by rw [List.length_map]; exact hl
  have eo := sortVals_data false eo0 er' ok.2.1
  have hol := sortVals_length (vs := l.map (·.key)) (κ := dataKind (sortingHeap (g.push (seqObj "list" (l.map (·.key)).toArray 0)) g.objs.size (l.map (·.key))) ((es.map (·.1)).map encD)) false rfl
  refine list_sort_vals (n := 0) at1 (sortsAt2 (s := { s with heap := sortingHeap (g.push (seqObj "list" (l.map (·.key)).toArray 0)) g.objs.size (l.map (·.key)), toks := tk }) (each_map (R := fun v d => ∃ as, Reads (sortingHeap (g.push (seqObj "list" (l.map (·.key)).toArray 0)) g.objs.size (l.map (·.key))) v d as) encD er') ok.2.1 ok.2.2 (bound_map fun b hb => ?_)) hz ⟨rfl, ?_⟩
  · have := (ok.1 b hb).2
    show X.A.units + 2 + _ < _
    omega
  · generalize sortVals _ false (l.map (·.key)) (l.map (·.key)) = out at eo hol
    obtain ⟨vs', rv', rs'⟩ := of_each (X := X) eo
    obtain ⟨e2, he'⟩ := sortedHeap_at (h := g.push (seqObj "list" (l.map (·.key)).toArray 0)) (out := out.toArray) at1
    have hz' : vs'.length ≤ sizeLine := by rw [rv'.length, hol]; exact hz
    refine ⟨g.objs.size, _, tk, out, e2, vs', rfl, rfl, fun b o e => ?_, k2, he', rv', rs', hz'⟩
    have hb := Heap.lt_size (k1 b o e)
    rw [sortedHeap_old (Nat.ne_of_lt hb) (by rw [Heap.size_push]; exact Nat.lt_succ_of_lt hb)]
    exact Heap.get?_push_of_some _ (k1 b o e)
theorem len_rep {H : Hp} {ρ : List Addr} {ds : List D} {vs : List V} (h : Reps X.K X.w H ρ ds vs) (z : vs.length ≤ sizeLine) : ds.length ≤ sizeLine := by rw [← h.length]; exact z
theorem cd_sortedD (hc : X.calm = true) (hu : X.A.units + 64 < cLine) : CallD X (.builtin "sorted") oSortedD := by
  intro pins s σ H ρ st xs us as d I hs rv ra e
  match as, e, ra with
  | [b], e, ra =>
    obtain ⟨v, rfl, r⟩ := ra.oneD
    obtain ⟨u, rfl, rx⟩ := rv.one
    unfold oSortedD at e
    dsimp only at e
    cases el : dctOf st b with
    | none => rw [el] at e; cases e
    | some es =>
      rw [el] at e
      dsimp only [Option.bind] at e
      by_cases ok : SortOk (es.map (·.1))
      · rw [if_pos ok] at e
        cases e
        refine thn (sortedD_core hc hu I hs rx r el ok) fun r t ⟨D0, g, tk, out, e2, vs, er, et, k1, k2, h1, rv, rs, hz⟩ => ?_
        subst er et
        have hf : H D0 = none := I.hok.fresh k2
        refine ⟨.ref D0, upd H D0 (.frz _ (.lst vs)), I.laid (t' := tk) k1 k2 ⟨h1, hz, out, e2, rv, h1⟩, rfl, Aft.fresh hs hf, ?_⟩
        unfold Rep
        exact ⟨_, vs, rfl, .inl ⟨_, upd_same⟩, len_rep rs hz, rs.stay (Stays.new hf) (List.prefix_refl _)⟩
      · rw [if_neg ok] at e
        cases e
/-! ### what gives a new list of the store -/
def CallM (X : Cx) (f : Value) (op : Sto → List D → Option (D × Sto)) : Prop :=
  ∀ (pins : List (Addr × Obj)) (s : Shared) (σ : L2.St) (H : Hp) (ρ : List Addr) (st : Sto) (xs : List V) (us : List Value) (as : List D) (p : D × Sto), Inv X pins σ H s → RelSt X.K X.w H ρ st → Vals xs us →
    Reps X.K X.w H ρ as xs → op st as = some p → wpAny (model X.prog X.w) X.A (call f us) (fun r t => ∃ z H' ρ', Inv X pins σ H' t ∧ RelV z r ∧ Aft X.K X.w H ρ p.2 H' ρ' ∧ Rep X.K X.w H' ρ' p.1 z) X.xe s
def resM (o : Option (D × Sto)) : Res D := match o with
  | some p => .ok p.1 p.2
  | none => .bad
def sCM (op : Sto → List D → Option (D × Sto)) (fs : SemA) : SemE := fun env st => (fs env st).bind fun as st1 => resM (op st1 as)
theorem CallM.r {fv : Value} {op : Sto → List D → Option (D × Sto)} (h : CallM X fv op) : CallR X fv fun xs H Q => ∃ σ' ρ as env st, At X σ' H ρ env st ∧ Reps X.K X.w H ρ as xs ∧
    RR X σ' H ρ (resM (op st as)) fun d _ H' ρ' => ∀ v, Rep X.K X.w H' ρ' d v → Q v H' := by
  intro pins s σ H xs us Q I rx q
  obtain ⟨σ', ρ, as, env, st, at_, ra, q⟩ := q
  cases e : op st as with
  | none =>
    rw [e] at q
    exact q.elim
  | some p =>
    rw [e] at q
    exact thn (h pins s σ H ρ st xs us as p I at_.st rx ra e) fun r s' hv => by
      obtain ⟨z, H', ρ', I', rv, af, rz⟩ := hv
      exact ⟨z, H', I', rv, q H' ρ' af z rz⟩
theorem de_callM {x : Str} {e : Expr} {es : List Expr} {fs : SemA} {pos p : Pos} {id : String} {op : Sto → List D → Option (D × Sto)} (hc : CallM X (.builtin id) op) (hm : X.mg x = none) (hv : bootBuiltins x = some (.builtin id)) (ha : DA X (e :: es) fs) (hg : Gl X x := by rfl) (hn : x ≠ "__name__" := by decide) (hdb : (x == ("__debug__" : Str)) = false := by decide)
    (he : starEach (e :: es) X.env = (false, eval e X.env) :: starEach es X.env := by rfl) (hpl : (backTo pos (starEach es X.env)).any (·.1) = false := by rfl) : DE X (.Call (.Name x p) (e :: es) [] pos) (sCM op fs) :=
  PE.weak (pe_callB hc.r hg hm hv ha hn hdb he hpl) fun σ H Q h => by
    obtain ⟨ρ, env, st, at_, h⟩ := h
    exact ⟨ρ, env, st, at_, (RR.bind h).mono fun as st1 H1 ρ1 a1 ⟨_, k⟩ vs rs => ⟨σ, ρ1, as, env, st1, at_.aft a1, rs, k⟩⟩
noncomputable def oSortedDM (st : Sto) (as : List D) : Option (D × Sto) := match oSortedD st as with
  | some (.lst ds) => some (.ref st.length, st ++ [.lst ds])
  | _ => none
theorem cd_sortedDM (hc : X.calm = true) (hu : X.A.units + 64 < cLine) : CallM X (.builtin "sorted") oSortedDM := by
  intro pins s σ H ρ st xs us as d I hs rv ra e
  match as, e, ra with
  | [b], e, ra =>
    obtain ⟨v, rfl, r⟩ := ra.oneD
    obtain ⟨u, rfl, rx⟩ := rv.one
    unfold oSortedDM oSortedD at e
    dsimp only at e
    cases el : dctOf st b with
    | none => rw [el] at e; cases e
    | some es =>
      rw [el] at e
      dsimp only [Option.bind] at e
      by_cases ok : SortOk (es.map (·.1))
      · rw [if_pos ok] at e
        cases e
        refine thn (sortedD_core hc hu I hs rx r el ok) fun r t ⟨D0, g, tk, out, e2, vs, er, et, k1, k2, h1, rv, rs, hz⟩ => ?_
        subst er et
        have hf : H D0 = none := I.hok.fresh k2
        refine ⟨.ref D0, upd H D0 (.lst vs), ρ ++ [D0], I.laid (t' := tk) k1 k2 ⟨hz, out, e2, rv, h1⟩, rfl, Aft.grow hs hf ⟨vs, upd_same, len_rep rs hz, rs.stay (Stays.new hf) (List.prefix_append _ _)⟩, ?_⟩
        unfold Rep
        exact ⟨D0, by rw [← hs.len]; simp, rfl⟩
      · rw [if_neg ok] at e
        cases e
end
section
variable {Q : D → Sto → Prop} {env : En} {st : Sto}
theorem WR_sCM {op : Sto → List D → Option (D × Sto)} {fs : SemA} : WR (sCM op fs env st) Q = WR (fs env st) fun as s => WO (op s as) fun p => Q p.1 p.2 := by
  unfold sCM
  rw [WR_bind]
  congr
  funext as s
  cases op s as <;> rfl
theorem WR_sDct1 {f g : SemE} : WR (sDct1 f g env st) Q = WR (f env (st ++ [.dct []])) fun k s => WR (g env s) fun v s => WO (setDct s (.ref st.length) k v) fun s => Q (.ref st.length) s := by
  unfold sDct1
  rw [WR_bind]
  show WR ((f env (st ++ [.dct []])).bind _) Q = _
  rw [WR_bind]
  congr
  funext k s
  rw [WR_bind]
  congr
  funext v s
  cases setDct s (.ref st.length) k v <;> rfl
end
/-! ### a def by its address -/
structure FnO (P : Program) (w : World) (K : PySem.W.Frag) (mg : Str → Option Value) (base : Heap) (k : Nat) (ps : List Str) (g : SemF) (f : Addr) (fd : FuncData) : Prop where
  kp : PySem.W.keepIn K (.ref f) = true
  bd : Binds K fd ps []
  ok : FnOk P w K mg base (L2.CX P w) k f fd ps (spD K w g)
section
variable {P : Program} {w : World} {K : PySem.W.Frag} {mg : Str → Option Value} {base : Heap}
theorem FnO.mono {j k : Nat} {ps : List Str} {g : SemF} {f : Addr} {fd : FuncData} (F : FnO P w K mg base j ps g f fd) (h : j ≤ k) : FnO P w K mg base k ps g f fd := ⟨F.kp, F.bd, F.ok.mono h⟩
theorem fnO_mk {x q : Str} {params : Arguments} {body : List Stmt} {scope : Scope} {f : Addr} {fd : FuncData} {N ps : List Str} {k : Nat} {g : SemS} (F : FunD K x q params body scope [] [] f fd) (S : FnScope N ps scope)
    (hb : ∀ (kV doc pm : Value) (an : Option Addr) (cdv ct : Value) (us : List Value), us.length = ps.length → bindArgs (PySem.W.fnOf x q params body scope .none kV doc pm an cdv ct) ⟨us, []⟩ = pure (ps.zip us))
    (h : ∀ (cdv : Value) (A : Around) (outer : List Env) (s : Shared) (H : Hp) (E : XK), Room k (A.deeper (envOfC q scope s.heap.objs.size f cdv)) → DSs (cxOf (L2.CX P w) P w K mg base N q scope f cdv A outer s H E) body g) :
    FnO P w K mg base (k + 1) ps (mkF ps.length N.length g) f fd := by
  refine ⟨F.kp, F.bindsN hb, F.ok S (fun vs H Q E q => ?_) fun cdv A outer s H vs Q E hr hsp => ⟨_, h cdv A outer s H E hr, ?_⟩⟩
  · obtain ⟨ρ, as, st, r, rs, q⟩ := q
    rw [rs.length]
    unfold mkF at q
    by_cases z : as.length = ps.length
    · exact z
    · rw [if_neg z] at q
      exact q.elim
  · obtain ⟨ρ, as, st, r, rs, q⟩ := hsp
    unfold mkF at q
    by_cases z : as.length = ps.length
    · rw [if_pos z] at q
      have en := RelEn.begin_ (N := N) rs
      rw [z] at en
      refine ⟨ρ, _, st, ⟨r, en⟩, ?_⟩
      cases e : g (as.map some ++ List.replicate (N.length - ps.length) none) st with
      | nx env' st' => rw [e] at q; exact fun σ' H' ρ' a _ => q .non H' ρ' a (by unfold Rep; rfl)
      | ret d st' => rw [e] at q; exact fun v H' ρ' a rv => q v H' ρ' a rv
      | exc x env' st' =>
        rw [e] at q
        exact fun cls dd σ' H' ρ' a _ rx => ⟨_, takes_of rfl rfl rfl rfl, q cls dd H' ρ' a rx⟩
      | brk env' st' => rw [e] at q; exact q.elim
      | cnt env' st' => rw [e] at q; exact q.elim
      | bad => rw [e] at q; exact q.elim
    · rw [if_neg z] at q
      exact q.elim
/-! ### what a class has -/
structure FnM (P : Program) (w : World) (K : PySem.W.Frag) (mg : Str → Option Value) (base : Heap) (k : Nat) (C m : Str) (ps : List Str) (g : SemF) : Prop where
  cls : Cls K (He.ga K C)
  ex : ∃ (f : Addr) (fd : FuncData), Meth K (He.ga K C) m f ∧ FnO P w K mg base k ps g f fd
structure FnP (P : Program) (w : World) (K : PySem.W.Frag) (mg : Str → Option Value) (base : Heap) (k : Nat) (C m : Str) (g : SemF) : Prop where
  cls : Cls K (He.ga K C)
  ex : ∃ (p f : Addr) (fd : FuncData), PropOf K (He.ga K C) m p f ∧ FnO P w K mg base k ["self"] g f fd
structure FnI (P : Program) (w : World) (K : PySem.W.Frag) (mg : Str → Option Value) (base : Heap) (k : Nat) (C : Str) (ps : List Str) (g : SemF) : Prop where
  glo : mg C = some (.ref (He.ga K C))
  own : Own K (He.ga K C)
  ex : ∃ (f : Addr) (fd : FuncData), Mk K (He.ga K C) f ∧ FnO P w K mg base k ps g f fd
structure FnS (P : Program) (w : World) (K : PySem.W.Frag) (mg : Str → Option Value) (base : Heap) (k : Nat) (C m : Str) (ps : List Str) (g : SemF) : Prop where
  ex : ∃ (f : Addr) (fd : FuncData), PySem.W.findIn K (.ref (He.ga K C)) m = some (some (.ref f)) ∧ PySem.W.isFn K (.ref f) = true ∧ FnO P w K mg base k ps g f fd
end
/-! ### an instance of the store -/
def insOf (st : Sto) : D → Option (Nat × Str × List (Str × D))
  | .ref n => match st[n]? with
    | some (.ins c fs) => some (n, c, fs)
    | _ => none
  | _ => none
def noX {α : Type} : Res α → Res α
  | .exc _ _ => .bad
  | r => r
section
variable {X : Cx} {σ : L2.St} {H : Hp} {ρ : List Addr} {st : Sto}
theorem insOf_some {o : D} {n : Nat} {c : Str} {fs : List (Str × D)} (e : insOf st o = some (n, c, fs)) : o = .ref n ∧ st[n]? = some (.ins c fs) := by
  cases o with
  | ref m =>
    unfold insOf at e
    dsimp only at e
    cases q : st[m]? with
    | none => rw [q] at e; cases e
    | some so =>
      rw [q] at e
      cases so with
      | ins c' fs' => cases e; exact ⟨rfl, q⟩
      | _ => cases e
  | _ => cases e
theorem ins_atO {o : D} {v : V} {n : Nat} {c : Str} {fs : List (Str × D)} (hs : RelSt X.K X.w H ρ st) (r : Rep X.K X.w H ρ o v) (e : insOf st o = some (n, c, fs)) : ∃ a dx vs, v = .ref a ∧ ρ[n]? = some a ∧ H a = some (.ins (He.ga X.K c) dx vs) ∧ RepFs X.K X.w H ρ fs vs ∧ Own X.K (He.ga X.K c) := by
  obtain ⟨rfl, e0⟩ := insOf_some e
  unfold Rep at r
  obtain ⟨a, e1, rfl⟩ := r
  obtain ⟨dx, vs, h1, h2⟩ := (show RepO X.K X.w H ρ a (.ins c fs) from hs.obj n _ a e0 e1)
  exact ⟨a, dx, vs, rfl, e1, h1, h2⟩
theorem ins_at {o : D} {v : V} {n : Nat} {c : Str} {fs : List (Str × D)} (hs : RelSt X.K X.w H ρ st) (r : Rep X.K X.w H ρ o v) (e : insOf st o = some (n, c, fs)) : ∃ a dx vs, v = .ref a ∧ ρ[n]? = some a ∧ H a = some (.ins (He.ga X.K c) dx vs) ∧ RepFs X.K X.w H ρ fs vs := by
  obtain ⟨a, dx, vs, h0, h1, h2, h3, _⟩ := ins_atO hs r e
  exact ⟨a, dx, vs, h0, h1, h2, h3⟩
theorem repFs_get {f : Str} : ∀ {fs : List (Str × D)} {vs : List (Str × V)} {d : D}, RepFs X.K X.w H ρ fs vs → fs.lookup f = some d → ∃ v, vs.lookup f = some v ∧ Rep X.K X.w H ρ d v
  | [], _, _, _, e => by cases e
  | (g, x) :: fs, _, d, h, e => by
    unfold RepFs at h
    cases h with
    | @cons p q ps qs h1 h2 =>
      obtain ⟨g', y⟩ := q
      obtain ⟨hg, hr⟩ := h1
      dsimp only at hg hr
      subst hg
      rw [List.lookup_cons] at e ⊢
      cases hq : (f == g) with
      | true =>
        rw [hq] at e
        cases e
        exact ⟨y, rfl, hr⟩
      | false =>
        rw [hq] at e
        exact repFs_get h2 e
theorem repFs_none {f : Str} : ∀ {fs : List (Str × D)} {vs : List (Str × V)}, RepFs X.K X.w H ρ fs vs → fs.lookup f = none → vs.lookup f = none
  | [], _, h, _ => by
    unfold RepFs at h
    cases h
    rfl
  | (g, x) :: fs, _, h, e => by
    unfold RepFs at h
    cases h with
    | @cons p q ps qs h1 h2 =>
      obtain ⟨g', y⟩ := q
      obtain ⟨hg, hr⟩ := h1
      dsimp only at hg hr
      subst hg
      rw [List.lookup_cons] at e ⊢
      cases hq : (f == g) with
      | true => rw [hq] at e; cases e
      | false =>
        rw [hq] at e
        exact repFs_none h2 e
theorem repFs_len {fs : List (Str × D)} {vs : List (Str × V)} (h : RepFs X.K X.w H ρ fs vs) : fs.length = vs.length := Paired.length h
def putFD (f : Str) (v : D) : List (Str × D) → List (Str × D)
  | [] => [(f, v)]
  | (g, x) :: r => if g = f then (g, v) :: r else (g, x) :: putFD f v r
theorem repFs_put {f : Str} {d : D} {v : V} (rd : Rep X.K X.w H ρ d v) : ∀ {fs : List (Str × D)} {vs : List (Str × V)}, RepFs X.K X.w H ρ fs vs → RepFs X.K X.w H ρ (putFD f d fs) (putF f v vs)
  | [], _, h => by
    unfold RepFs at h
    cases h
    exact .cons ⟨rfl, rd⟩ .nil
  | (g, x) :: fs, _, h => by
    unfold RepFs at h
    cases h with
    | @cons p q ps qs h1 h2 =>
      obtain ⟨g', y⟩ := q
      obtain ⟨hg, hr⟩ := h1
      dsimp only at hg hr
      subst hg
      by_cases c : g = f
      · rw [show putFD f d ((g, x) :: fs) = (g, d) :: fs from if_pos c, show putF f v ((g, y) :: qs) = (g, v) :: qs from if_pos c]
        exact .cons ⟨rfl, rd⟩ h2
      · rw [show putFD f d ((g, x) :: fs) = (g, x) :: putFD f d fs from if_neg c, show putF f v ((g, y) :: qs) = (g, y) :: putF f v qs from if_neg c]
        exact .cons ⟨rfl, hr⟩ (repFs_put rd h2)
theorem repFs_stay {H' : Hp} {ρ' : List Addr} (s : Stays H H') (p : ρ <+: ρ') {fs : List (Str × D)} {vs : List (Str × V)} (h : RepFs X.K X.w H ρ fs vs) : RepFs X.K X.w H' ρ' fs vs := Paired.mapP h fun _ _ z => ⟨z.1, z.2.stay s p⟩
end
section
variable {X : Cx} {e o value : Expr} {es : List Expr} {pos p apos pos' : Pos} {k : Nat} {C f m : Str} {ps : List Str} {g : SemF} {fo fv : SemE} {fs : SemA}
/-! ### o.f -/
def sFld (C f : Str) (fo : SemE) : SemE := fun env st => (fo env st).bind fun o st1 => match insOf st1 o with
  | some (_, c, fs) => if c = C then ofO (fs.lookup f) st1 else .bad
  | none => .bad
theorem de_fld (hc : Cls X.K (He.ga X.K C)) (hn : NoAttr X.K (He.ga X.K C) f) (ha : DE X e fo) (hb : attributeBase e f X.env (eval e X.env) = eval e X.env := by rfl) : DE X (.Attribute e f pos) (sFld C f fo) :=
  PE.weak (pe_fld ha hb) fun σ H Q ⟨ρ, env, st, at_, h⟩ => by
    refine ⟨ρ, env, st, at_, (RR.bind h).mono fun d st1 H1 ρ1 a1 ⟨_, q⟩ v r => ?_⟩
    cases ei : insOf st1 d with
    | none => rw [ei] at q; exact q.elim
    | some t =>
      obtain ⟨n, c, fs⟩ := t
      rw [ei] at q
      dsimp only at q
      by_cases hcc : c = C
      · subst hcc
        rw [if_pos rfl] at q
        obtain ⟨a, dx, vs, rfl, e1, e2, rf⟩ := ins_at a1.r r ei
        cases el : fs.lookup f with
        | none => rw [el] at q; exact q.elim
        | some x =>
          rw [el] at q
          obtain ⟨y, ey, ry⟩ := repFs_get rf el
          exact ⟨a, _, dx, vs, y, rfl, e2, hc, hn, ey, q _ _ (Aft.refl a1.r) y ry⟩
      · rw [if_neg hcc] at q
        exact q.elim
/-! ### o.f = v -/
def sSetF (C f : Str) (fv fo : SemE) : SemS := fun env st => (fv env st).bindS env fun v st1 => (fo env st1).bindS env fun o st2 => match insOf st2 o with
  | some (n, c, fs) => if c = C ∧ fs.length < 1000 then .nx env (st2.set n (.ins c (putFD f v fs))) else .bad
  | none => .bad
theorem ds_setf (hc : Cls X.K (He.ga X.K C)) (hn : NoAttr X.K (He.ga X.K C) f) (hv : DE X value fv) (ha : DE X o fo) (hs : swapsWith value (some (.Attribute o f pos')) pos.line X.env = pure false := by rfl) : DS X (.Assign [.Attribute o f pos'] value pos) (sSetF C f fv fo) :=
  PS.weak (ps_fld ha hv hs) fun D σ H ⟨ρ, env, st, at_, h⟩ => by
    refine ⟨ρ, env, st, at_, (RS.bindE at_ h).mono fun v st1 H1 ρ1 a1 ⟨_, q⟩ y ry => ?_⟩
    refine ⟨ρ1, env, st1, at_.aft a1, (RS.bindE (at_.aft a1) q).mono fun d st2 H2 ρ2 a2 ⟨_, q2⟩ x rx => ?_⟩
    cases ei : insOf st2 d with
    | none => rw [ei] at q2; exact q2.elim
    | some t =>
      obtain ⟨n, c, fs⟩ := t
      rw [ei] at q2
      dsimp only at q2
      by_cases hcc : c = C ∧ fs.length < 1000
      · rw [if_pos hcc] at q2
        obtain ⟨rfl, hl⟩ := hcc
        obtain ⟨a, dx, vs, rfl, e1, e2, rf, ow⟩ := ins_atO a2.r rx ei
        refine ⟨a, _, dx, vs, rfl, e2, hc, hn, by rw [← repFs_len rf]; exact hl, ?_⟩
        have mu : Mut (H2 a) := by rw [e2]; trivial
        have st' : Stays H2 (upd H2 a (.ins (He.ga X.K c) dx (putF f y vs))) := Stays.mut mu
        have a3 : Aft X.K X.w H2 ρ2 (st2.set n (.ins c (putFD f v fs))) (upd H2 a (.ins (He.ga X.K c) dx (putF f y vs))) ρ2 :=
          Aft.write a2.r e1 mu ⟨dx, _, upd_same, repFs_stay st' (List.prefix_refl _) (repFs_put (ry.stay a2.s a2.p) rf), ow⟩
        exact q2 σ _ _ a3 (((at_.aft a1).aft a2).en.stay a3.s a3.p)
      · rw [if_neg hcc] at q2
        exact q2.elim
/-! ### o.m(..) -/
def sMeth (C m : Str) (g : SemF) (fo : SemE) (fs : SemA) : SemE := fun env st => (fo env st).bind fun o st1 => match insOf st1 o with
  | some (_, c, fds) => if c = C ∧ fds.lookup m = none then (fs env st1).bind fun as st2 => g (o :: as) st2 else .bad
  | none => .bad
theorem de_meth {pl : Sem Bool} (F : FnM X.prog X.w X.K X.mg X.base k C m ps g) (hr : Room k X.A) (ho : DE X o fo) (ha : DA X (e :: es) fs)
    (hst : starEach (e :: es) X.env = (false, eval e X.env) :: starEach es X.env := by rfl) (hpl : (backTo pos (starEach es X.env)).any (·.1) = false := by rfl)
    (ht : eval (.Call (.Attribute o m apos) (e :: es) [] pos) X.env = (do
      let ov ← eval o X.env
      standAt apos.atName
      let (f, first) ← holding [ov] (getMethod ov m pl)
      callWith pos f first (backTo pos (starEach (e :: es) X.env)) (backToKw pos (keywordEach [] X.env))) := by rfl) :
    DE X (.Call (.Attribute o m apos) (e :: es) [] pos) (sMeth C m g fo fs) := by
  obtain ⟨fa, fd, hm, F'⟩ := F.ex
  refine ⟨fun pins s σ H Q I h => ?_⟩
  obtain ⟨ρ, env, st, at_, h⟩ := h
  refine PySem.W.methodCall_KW (pl := pl) (thn (ho.run pins s σ H (fun x H1 => ∃ a dx vs ρ1 st1 n d, x = V.ref a ∧ H1 a = some (.ins (He.ga X.K C) dx vs) ∧ vs.lookup m = none ∧ Aft X.K X.w H ρ st1 H1 ρ1 ∧ d = D.ref n ∧ Rep X.K X.w H1 ρ1 d x ∧ RR X σ H1 ρ1 ((fs env st1).bind fun as st2 => g (d :: as) st2) fun d _ H' ρ' => ∀ v, Rep X.K X.w H' ρ' d v → Q v H') I ⟨ρ, env, st, at_, (RR.bind h).mono fun d st1 H1 ρ1 a1 ⟨_, q⟩ v r => ?_⟩) fun u s1 ⟨x, H1, I1, rx, a, dx, vs, ρ1, st1, n, d, ex, ea, l, a1, ed, rd, q⟩ => ?_) ht
  · cases ei : insOf st1 d with
    | none => rw [ei] at q; exact q.elim
    | some t =>
      obtain ⟨n, c, fs'⟩ := t
      rw [ei] at q
      dsimp only at q
      by_cases hcc : c = C ∧ fs'.lookup m = none
      · rw [if_pos hcc] at q
        obtain ⟨rfl, hl⟩ := hcc
        obtain ⟨a, dx, vs, rfl, e1, e2, rf⟩ := ins_at a1.r r ei
        exact ⟨a, dx, vs, ρ1, st1, n, d, rfl, e2, repFs_none rf hl, a1, (insOf_some ei).1, r, q⟩
      · rw [if_neg hcc] at q
        exact q.elim
  · subst ex
    obtain rfl : u = Value.ref a := rx
    refine getmeth_ok I1 ea F.cls hm l ?_
    refine PySem.W.callWith_K (first := [.ref a]) (h₀ := X.base) I1.ok.mod.kin hm.kp (thn (ha.run pos pins s1 σ H1 (fun vs H2 => spD X.K X.w g (.ref a :: vs) H2 Q fun cls d H' => WT X cls d σ H') I1 ⟨ρ1, env, st1, at_.aft a1, (RR.bind q).mono fun as st2 H2 ρ2 a2 ⟨_, q⟩ vs rs => ?_⟩) fun us s2 ⟨vs, H2, I2, r, q2⟩ => ⟨I2.kIn, ?_⟩) hst hpl
    · exact spD_of ((at_.aft a1).aft a2) (Reps.cons (rd.stay a2.s a2.p) rs) q
    · exact run_fnS (us := .ref a :: us) (vs := .ref a :: vs) (E := fun σ cls d H => WT X cls d σ H) F'.ok hr F'.bd (passAt (takes_WT X) σ) I2 (.cons rfl r) q2
theorem de_meth0 {pl : Sem Bool} (F : FnM X.prog X.w X.K X.mg X.base k C m ps g) (hr : Room k X.A) (ho : DE X o fo)
    (ht : eval (.Call (.Attribute o m apos) [] [] pos) X.env = (do
      let ov ← eval o X.env
      standAt apos.atName
      let (f, first) ← holding [ov] (getMethod ov m pl)
      callWith pos f first (backTo pos (starEach [] X.env)) (backToKw pos (keywordEach [] X.env))) := by rfl) :
    DE X (.Call (.Attribute o m apos) [] [] pos) (sMeth C m g fo sNil) := by
  obtain ⟨fa, fd, hm, F'⟩ := F.ex
  refine ⟨fun pins s σ H Q I h => ?_⟩
  obtain ⟨ρ, env, st, at_, h⟩ := h
  refine PySem.W.methodCall_KW (pl := pl) (thn (ho.run pins s σ H (fun x H1 => ∃ a dx vs, x = V.ref a ∧ H1 a = some (.ins (He.ga X.K C) dx vs) ∧ vs.lookup m = none ∧ spD X.K X.w g [.ref a] H1 Q fun cls d H' => WT X cls d σ H') I ⟨ρ, env, st, at_, (RR.bind h).mono fun d st1 H1 ρ1 a1 ⟨_, q⟩ v r => ?_⟩) fun u s1 ⟨x, H1, I1, rx, a, dx, vs, ex, ea, l, q⟩ => ?_) ht
  · cases ei : insOf st1 d with
    | none => rw [ei] at q; exact q.elim
    | some t =>
      obtain ⟨n, c, fs'⟩ := t
      rw [ei] at q
      dsimp only at q
      by_cases hcc : c = C ∧ fs'.lookup m = none
      · rw [if_pos hcc] at q
        obtain ⟨rfl, hl⟩ := hcc
        obtain ⟨a, dx, vs, rfl, e1, e2, rf⟩ := ins_at a1.r r ei
        exact ⟨a, dx, vs, rfl, e2, repFs_none rf hl, spD_of (at_.aft a1) (Reps.cons r Reps.nil) q⟩
      · rw [if_neg hcc] at q
        exact q.elim
  · subst ex
    obtain rfl : u = Value.ref a := rx
    refine getmeth_ok I1 ea F.cls hm l ?_
    exact PySem.W.callWith_K0 (first := [.ref a]) I1.kIn hm.kp (run_fnS (us := [.ref a]) (vs := [.ref a]) (E := fun σ cls d H => WT X cls d σ H) F'.ok hr F'.bd (passAt (takes_WT X) σ) I1 (.cons rfl .nil) q)
/-! ### o.f, a property -/
def sProp (C f : Str) (g : SemF) (fo : SemE) : SemE := fun env st => (fo env st).bind fun o st1 => match insOf st1 o with
  | some (_, c, _) => if c = C then noX (g [o] st1) else .bad
  | none => .bad
theorem spD_noX {σ : L2.St} {H : Hp} {Q : VK} {vs : List V} {ρ : List Addr} {as : List D} {st : Sto} (hs : RelSt X.K X.w H ρ st) (rs : Reps X.K X.w H ρ as vs) (h : RR X σ H ρ (noX (g as st)) fun d _ H' ρ' => ∀ v, Rep X.K X.w H' ρ' d v → Q v H') :
    spD X.K X.w g vs H Q (fun _ _ _ => False) := by
  refine ⟨ρ, as, st, hs, rs, ?_⟩
  cases q : g as st with
  | ok d st' => rw [q] at h; exact fun v H' ρ' a r => h H' ρ' a v r
  | exc e st' => rw [q] at h; exact h.elim
  | bad => rw [q] at h; exact h.elim
theorem passNo {Y : Cx} : Passes (L2.CX X.prog X.w) Y (fun _ _ _ => False) := fun pins σ H s e s' I c => by
  obtain ⟨_, _, _, _, _, _, _, _, _, _, _, _, z⟩ := c
  exact z.elim
theorem de_prop (F : FnP X.prog X.w X.K X.mg X.base k C f g) (hr : Room (k + 1) X.A) (ho : DE X o fo) (hab : attributeBase o f X.env (eval o X.env) = eval o X.env := by rfl) : DE X (.Attribute o f pos) (sProp C f g fo) := by
  obtain ⟨pa, fa, fd, hp, F'⟩ := F.ex
  refine PE.weak (pe_prop (dvs := []) (ds := []) (E := fun _ _ _ => False) ho F.cls hp F'.ok hr F'.bd .nil passNo hab) fun σ H Q ⟨ρ, env, st, at_, h⟩ => ?_
  refine ⟨ρ, env, st, at_, (RR.bind h).mono fun d st1 H1 ρ1 a1 ⟨_, q⟩ v r => ?_⟩
  cases ei : insOf st1 d with
  | none => rw [ei] at q; exact q.elim
  | some t =>
    obtain ⟨n, c, fs'⟩ := t
    rw [ei] at q
    dsimp only at q
    by_cases hcc : c = C
    · subst hcc
      rw [if_pos rfl] at q
      obtain ⟨a, dx, vs, rfl, e1, e2, rf⟩ := ins_at a1.r r ei
      exact ⟨a, dx, vs, rfl, e2, spD_noX a1.r (Reps.cons r Reps.nil) q⟩
    · rw [if_neg hcc] at q
      exact q.elim
/-! ### C(..) -/
def sMake (C : Str) (g : SemF) (fs : SemA) : SemE := fun env st => (fs env st).bind fun as st1 => (noX (g (.ref st1.length :: as) (st1 ++ [.ins C []]))).bind fun d st2 => match d with
  | .non => .ok (.ref st1.length) st2
  | _ => .bad
theorem de_make (F : FnI X.prog X.w X.K X.mg X.base k C ps g) (hr : Room (k + 1) X.A) (ha : DA X (e :: es) fs) (hg : Gl X C := by rfl) (hdb : (C == ("__debug__" : Str)) = false := by decide)
    (he : starEach (e :: es) X.env = (false, eval e X.env) :: starEach es X.env := by rfl) (hpl : (backTo pos (starEach es X.env)).any (·.1) = false := by rfl) : DE X (.Call (.Name C p) (e :: es) [] pos) (sMake C g fs) := by
  obtain ⟨fa, fd, M, F'⟩ := F.ex
  refine PE.weak (pe_make (dvs := []) (ds := []) (E := fun _ _ _ => False) M F'.ok hr hg F.glo F'.bd .nil passNo ha hdb he hpl) fun σ H Q ⟨ρ, env, st, at_, h⟩ => ?_
  refine ⟨ρ, env, st, at_, (RR.bind h).mono fun as st1 H1 ρ1 a1 ⟨_, q⟩ vs rs x dx hx hdx hne => ?_⟩
  have f1 : Aft X.K X.w H1 ρ1 st1 (upd H1 dx (.own x)) ρ1 := Aft.fresh a1.r hdx
  have hx2 : (upd H1 dx (.own x)) x = none := by rw [upd_ne hne.symm]; exact hx
  have f2 : Aft X.K X.w (upd H1 dx (.own x)) ρ1 (st1 ++ [.ins C []]) (upd (upd H1 dx (.own x)) x (.ins (He.ga X.K C) dx [])) (ρ1 ++ [x]) := Aft.grow f1.r hx2 (so := .ins C []) ⟨dx, [], upd_same, .nil, F.own⟩
  have f3 := f1.trans f2
  have hlen : (ρ1 ++ [x])[st1.length]? = some x := by
    rw [← a1.r.len]
    simp
  have rr : Rep X.K X.w (upd (upd H1 dx (.own x)) x (.ins (He.ga X.K C) dx [])) (ρ1 ++ [x]) (.ref st1.length) (.ref x) := by
    unfold Rep
    exact ⟨x, hlen, rfl⟩
  rw [List.append_nil]
  refine spD_noX (σ := σ) f2.r (Reps.cons rr (rs.stay f3.s f3.p)) ?_
  refine (RR.bind (RR.aftR f3 q)).mono fun d st2 H2 ρ2 a2 ⟨_, q2⟩ v rv => ?_
  cases d with
  | non =>
    unfold Rep at rv
    refine ⟨rv, q2 _ _ (Aft.refl a2.r) _ ?_⟩
    exact rr.stay a2.s a2.p
  | _ => exact q2.elim
/-! ### len(o) -/
def oLenI (C : Str) (g : SemF) (st : Sto) : List D → Option (D × Sto)
  | [o] => (match insOf st o with
    | some (_, c, _) => if c = C then (match g [o] st with
      | .ok (.int i) st' => if 0 ≤ i ∧ i < 2 ^ 63 then some (.int i, st') else none
      | _ => none) else none
    | none => none)
  | _ => none
theorem cd_lenI (F : FnS X.prog X.w X.K X.mg X.base k C "__len__" ["self"] g) (hr : Room (k + 1) X.A) : CallM X (.builtin "len") (oLenI C g) := by
  obtain ⟨fa, fd, hs', hf, F'⟩ := F.ex
  intro pins s σ H ρ st xs us as p I hs rv ra e
  match as, e, ra with
  | [b], e, ra =>
    obtain ⟨v, rfl, r⟩ := ra.oneD
    obtain ⟨u, rfl, rx⟩ := rv.one
    unfold oLenI at e
    dsimp only at e
    cases ei : insOf st b with
    | none => rw [ei] at e; cases e
    | some t =>
      obtain ⟨n, c, fs⟩ := t
      rw [ei] at e
      dsimp only at e
      by_cases hcc : c = C
      · subst hcc
        rw [if_pos rfl] at e
        cases eg : g [b] st with
        | ok d st' =>
          rw [eg] at e
          cases d with
          | int i =>
            dsimp only at e
            by_cases hi : 0 ≤ i ∧ i < 2 ^ 63
            · rw [if_pos hi] at e
              cases e
              obtain ⟨a, dx, vs, rfl, e1, e2, rf⟩ := ins_at hs r ei
              cases rx
              obtain ⟨mA, J, _⟩ := ins_get I.hok e2
              obtain ⟨od, J, _⟩ := J.look
              obtain ⟨m, hF⟩ := I.fr
              refine PySem.W.len_K hF I.ok.mod.kin J hs' hf ?_
              have hsp : spD X.K X.w g [.ref a] H (fun v H' => ∃ ρ', v = .int i ∧ Aft X.K X.w H ρ st' H' ρ') (fun _ _ _ => False) := by
                refine ⟨ρ, [b], st, hs, Reps.cons r Reps.nil, ?_⟩
                rw [eg]
                intro v H' ρ' af rv
                unfold Rep at rv
                exact ⟨ρ', rv, af⟩
              have hl : ([Value.ref a] ++ []).length = ["self"].length := rfl
              refine wpAny_call (codeAny_mono (F'.ok.run X.A.in1 X.stack s H ⟨[.ref a], []⟩ [.ref a] [.ref a] _ _ hr.in1 I.env0.in1 (F'.bd s [.ref a] I.kIn hl) (.cons rfl .nil) hsp) fun r s' hq => ?_)
              cases r with
              | error er => exact passNo (Y := X) pins σ H s er s' I hq
              | ok fl =>
                cases fl with
                | ret u =>
                  obtain ⟨v, H', I3, rv, ρ', ev, af⟩ := I.after hq
                  subst ev
                  obtain ⟨tk, rfl⟩ := rv
                  exact ⟨hi, .int i, H', ρ', I3.tok _, ⟨_, rfl⟩, af, by unfold Rep; rfl⟩
                | next => exact False.elim hq
                | brk => exact False.elim hq
                | cont => exact False.elim hq
            · rw [if_neg hi] at e
              cases e
          | _ => cases e
        | exc _ _ => rw [eg] at e; cases e
        | bad => rw [eg] at e; cases e
      · rw [if_neg hcc] at e
        cases e
/-! ### o == p -/
def OpM (X : Cx) (F : Value → Value → Sem Value) (op : Sto → D → D → Option (D × Sto)) : Prop :=
  ∀ (pins : List (Addr × Obj)) (s : Shared) (σ : L2.St) (H : Hp) (ρ : List Addr) (st : Sto) (x y : V) (v u : Value) (a b : D) (p : D × Sto), Inv X pins σ H s → RelSt X.K X.w H ρ st → RelV x v → RelV y u →
    Rep X.K X.w H ρ a x → Rep X.K X.w H ρ b y → op st a b = some p → wpAny (model X.prog X.w) X.A (F v u) (fun r t => ∃ z H' ρ', Inv X pins σ H' t ∧ RelV z r ∧ Aft X.K X.w H ρ p.2 H' ρ' ∧ Rep X.K X.w H' ρ' p.1 z) X.xe s
def sOpM (op : Sto → D → D → Option (D × Sto)) (f g : SemE) : SemE := fun env st => (f env st).bind fun a st1 => (g env st1).bind fun b st2 => resM (op st2 a b)
theorem OpM.r {F : Value → Value → Sem Value} {op : Sto → D → D → Option (D × Sto)} (h : OpM X F op) : OpR X F fun x y H Q => ∃ σ' ρ a b env st, At X σ' H ρ env st ∧ Rep X.K X.w H ρ a x ∧ Rep X.K X.w H ρ b y ∧
    RR X σ' H ρ (resM (op st a b)) fun d _ H' ρ' => ∀ v, Rep X.K X.w H' ρ' d v → Q v H' := by
  intro pins s σ H x y v u Q I rx ry q
  obtain ⟨σ', ρ, a, b, env, st, at_, ra, rb, q⟩ := q
  cases e : op st a b with
  | none => rw [e] at q; exact q.elim
  | some p =>
    rw [e] at q
    exact thn (h pins s σ H ρ st x y v u a b p I at_.st rx ry ra rb e) fun r t ⟨z, H', ρ', I', rv, af, rz⟩ => ⟨z, H', I', rv, q H' ρ' af z rz⟩
theorem de_cmpM {f2 : SemE} {e2 : Expr} {op : CmpOp} {F : Sto → D → D → Option (D × Sto)} (ho : OpM X (compareOp op) F) (ha : DE X e fo) (hb : DE X e2 f2) (hm : behindInMarks op e2 = false := by first | exact nomark _ | with_unfolding_all rfl) : DE X (.Compare e [op] [e2] pos) (sOpM F fo f2) :=
  PE.weak (pe_cmpR ho.r ha hb hm) fun σ H Q ⟨ρ, env, st, at_, h⟩ =>
    ⟨ρ, env, st, at_, (RR.bind h).mono fun a st1 H1 ρ1 a1 ⟨_, q⟩ x rx => ⟨ρ1, env, st1, at_.aft a1, (RR.bind q).mono fun b st2 H2 ρ2 a2 ⟨_, q2⟩ y ry => ⟨σ, ρ2, a, b, env, st2, (at_.aft a1).aft a2, rx.stay a2.s a2.p, ry, q2⟩⟩⟩
def oEqI (C : Str) (g : SemF) (st : Sto) (a b : D) : Option (D × Sto) := match insOf st a, insOf st b with
  | some (_, c, _), some (_, c2, _) => if c = C ∧ c2 = C then (match g [a, b] st with
    | .ok (.bl k) st' => some (.bl k, st')
    | _ => none) else none
  | _, _ => none
theorem od_eqI (F : FnS X.prog X.w X.K X.mg X.base k C "__eq__" ps g) (hr : Room k X.A) : OpM X (compareOp .Eq) (oEqI C g) := by
  obtain ⟨fa, fd, hs', hf, F'⟩ := F.ex
  intro pins s σ H ρ st x y v u a b p I hs rx ry ra rb e
  unfold oEqI at e
  cases ea : insOf st a with
  | none => rw [ea] at e; cases e
  | some t =>
    cases eb : insOf st b with
    | none => rw [ea, eb] at e; cases e
    | some t2 =>
      obtain ⟨n, c, fs⟩ := t
      obtain ⟨n2, c2, fs2⟩ := t2
      rw [ea, eb] at e
      dsimp only at e
      by_cases hcc : c = C ∧ c2 = C
      · rw [if_pos hcc] at e
        obtain ⟨rfl, rfl⟩ := hcc
        cases eg : g [a, b] st with
        | ok d st' =>
          rw [eg] at e
          cases d with
          | bl kk =>
            cases e
            obtain ⟨A1, dx, vs, rfl, e1, e2, rf⟩ := ins_at hs ra ea
            obtain ⟨B1, dy, ws, rfl, g1, g2, rg⟩ := ins_at hs rb eb
            cases rx
            cases ry
            obtain ⟨mA, J, _⟩ := ins_get I.hok e2
            obtain ⟨mB, J', _⟩ := ins_get I.hok g2
            obtain ⟨od, J, _⟩ := J.look
            obtain ⟨od', J', _⟩ := J'.look
            obtain ⟨m, hF⟩ := I.fr
            have hsp : spD X.K X.w g [.ref A1, .ref B1] H (fun v H' => ∃ ρ', v = .bl kk ∧ Aft X.K X.w H ρ st' H' ρ') (fun _ _ _ => False) := by
              refine ⟨ρ, [a, b], st, hs, Reps.cons ra (Reps.cons rb Reps.nil), ?_⟩
              rw [eg]
              intro v H' ρ' af rv
              unfold Rep at rv
              exact ⟨ρ', rv, af⟩
            have hl := F'.ok.len _ _ _ _ hsp
            refine PySem.W.cmp_K (op := .Eq) (tb := .ref _) hr.units0 hF I.ok.mod.kin J J'.type (by simp [PySem.W.notFirst]) hs' hf ?_
            refine wpAny_call (codeAny_mono (F'.ok.run X.A X.stack s H ⟨[.ref A1, .ref B1], []⟩ [.ref A1, .ref B1] [.ref A1, .ref B1] _ _ hr I.env0 (by
              have := F'.bd s [.ref A1, .ref B1] I.kIn (by simpa using hl)
              simpa using this) (.cons rfl (.cons rfl .nil)) hsp) fun r s' hq => ?_)
            cases r with
            | error er => exact passNo (Y := X) pins σ H s er s' I hq
            | ok fl =>
              cases fl with
              | ret u =>
                obtain ⟨v, H', I3, rv, ρ', ev, af⟩ := I.after hq
                subst ev
                cases rv
                exact ⟨.bl kk, H', ρ', I3, rfl, af, by unfold Rep; rfl⟩
              | next => exact False.elim hq
              | brk => exact False.elim hq
              | cont => exact False.elim hq
          | _ => cases e
        | exc _ _ => rw [eg] at e; cases e
        | bad => rw [eg] at e; cases e
      · rw [if_neg hcc] at e
        cases e
theorem dt_cmpM {f2 : SemE} {e2 : Expr} {op : CmpOp} {F : Sto → D → D → Option (D × Sto)} (ho : OpM X (compareOp op) F) (ha : DE X e fo) (hb : DE X e2 f2) (hm : behindInMarks op e2 = false := by first | exact nomark _ | with_unfolding_all rfl) : DT X (.Compare e [op] [e2] pos) (sB (sOpM F fo f2)) :=
  PT.weak (pt_cmpR ho.r ha hb hm) fun σ H Q h => by
    obtain ⟨ρ, env, st, at_, h⟩ := tB_of h
    exact ⟨ρ, env, st, at_, (RR.bind h).mono fun a st1 H1 ρ1 a1 ⟨_, q⟩ x rx => ⟨ρ1, env, st1, at_.aft a1, (RR.bind q).mono fun b st2 H2 ρ2 a2 ⟨_, q2⟩ y ry => ⟨σ, ρ2, a, b, env, st2, (at_.aft a1).aft a2, rx.stay a2.s a2.p, ry, q2⟩⟩⟩
/-! ### isinstance(o, C) -/
structure ClsT (K : PySem.W.Frag) (mg : Str → Option Value) (C : Str) : Prop where
  glo : mg C = some (.ref (He.ga K C))
  cl : Cls K (He.ga K C)
  ha : PySem.W.findIn K (.ref (He.ga K C)) "__class__" = some (some (.builtin "object.__class__"))
  hn : PySem.W.specialIn K (.builtin "object.__class__") "__get__" = some (some (.builtin "getset_descriptor.__get__"))
  htk : PySem.W.takesIn K (.builtin "object.__class__") = some true
  hm : PySem.W.mroIn K (He.ga K C) (.type "object") = some true
theorem de_gcls (T : ClsT X.K X.mg C) (hg : Gl X C := by rfl) (hd : (C == ("__debug__" : Str)) = false := by decide) : DE X (.Name C pos) (sC (.cls C)) :=
  PE.weak (pe_glob (v := .ref (He.ga X.K C)) hg T.glo rfl hd) fun σ H Q h => tC_of h fun H ρ => by unfold Rep; rfl
def oIsiC (C : Str) (st : Sto) : List D → Option D
  | [o, .cls c'] => if c' = C then (match insOf st o with
    | some (_, c, _) => if c = C then some (.bl true) else none
    | none => none) else none
  | _ => none
theorem cd_isiC (T : ClsT X.K X.mg C) : CallD X (.builtin "isinstance") (oIsiC C) := by
  intro pins s σ H ρ st xs us as d I hs rv ra e
  match as, e, ra with
  | [o, .cls c'], e, ra =>
    have e0 : (if c' = C then (match insOf st o with
      | some (_, c, _) => if c = C then some (D.bl true) else none
      | none => none) else none) = some d := e
    clear e
    by_cases h1 : c' = C
    · rw [if_pos h1] at e0
      subst h1
      cases ei : insOf st o with
      | none => rw [ei] at e0; cases e0
      | some t =>
        obtain ⟨n, c, fs⟩ := t
        rw [ei] at e0
        dsimp only at e0
        by_cases h2 : c = c'
        · rw [if_pos h2] at e0
          subst h2
          obtain rfl : D.bl true = d := Option.some.inj e0
          unfold Reps at ra
          obtain ⟨v, r, rfl, r1, ra⟩ := ra
          unfold Reps at ra
          obtain ⟨v2, r', rfl, r2, ra⟩ := ra
          unfold Reps at ra
          subst ra
          unfold Rep at r2
          subst r2
          obtain ⟨a, dx, vs, rfl, e1, e2, rf⟩ := ins_at hs r1 ei
          refine thn (call_isi pins s σ H _ us (fun v H' => v = .bl true ∧ H' = H) I rv ⟨_, _, _, _, true, rfl, .own _, .base (.ins e2 T.cl T.ha T.hn T.htk T.hm), ?_, rfl, rfl⟩) fun r t ⟨z, H', I', rz, ez, eh⟩ => ?_
          · unfold PySem.W.kitOne
            rw [if_pos (by simp)]
          · subst ez eh
            exact ⟨_, H', I', rz, Aft.refl hs, by unfold Rep; rfl⟩
        · rw [if_neg h2] at e0
          cases e0
    · rw [if_neg h1] at e0
      cases e0
end
/-! ### what is to be shown -/
section
variable {Q : D → Sto → Prop} {env : En} {st : Sto} {C f m : Str} {g : SemF} {fo fv : SemE} {fs : SemA}
theorem WR_noX {α : Type} {r : Res α} {Q : α → Sto → Prop} : WR (noX r) Q = WR r Q := by
  cases r <;> rfl
def fldOf (st : Sto) (o : D) (C f : Str) : Option D := match insOf st o with
  | some (_, c, fs) => if c = C then fs.lookup f else none
  | none => none
def setFd (st : Sto) (o : D) (C f : Str) (v : D) : Option Sto := match insOf st o with
  | some (n, c, fs) => if c = C ∧ fs.length < 1000 then some (st.set n (.ins c (putFD f v fs))) else none
  | none => none
def hasM (st : Sto) (o : D) (C m : Str) : Bool := match insOf st o with
  | some (_, c, fs) => decide (c = C ∧ fs.lookup m = none)
  | none => false
def isCl (st : Sto) (o : D) (C : Str) : Bool := match insOf st o with
  | some (_, c, _) => decide (c = C)
  | none => false
theorem WR_sFld : WR (sFld C f fo env st) Q = WR (fo env st) fun o s => WO (fldOf s o C f) fun d => Q d s := by
  unfold sFld
  rw [WR_bind]
  congr
  funext o s
  unfold fldOf
  cases insOf s o with
  | none => rfl
  | some t =>
    obtain ⟨n, c, fs⟩ := t
    dsimp only
    by_cases h : c = C
    · rw [if_pos h, if_pos h, WR_ofO]
    · rw [if_neg h, if_neg h]
      rfl
theorem WS_sSetF {N : En → Sto → Prop} {R : D → Sto → Prop} {B : En → Sto → Prop} : WS (sSetF C f fv fo env st) N R B = WR (fv env st) fun v s1 => WR (fo env s1) fun o s2 => WO (setFd s2 o C f v) fun s3 => N env s3 := by
  unfold sSetF
  cases fv env st with
  | ok v s1 =>
    show WS ((fo env s1).bindS env _) N R B = WR (fo env s1) _
    cases fo env s1 with
    | ok o s2 =>
      show WS (match insOf s2 o with
        | some (n, c, fs) => if c = C ∧ fs.length < 1000 then .nx env (s2.set n (.ins c (putFD f v fs))) else .bad
        | none => .bad) N R B = WO (setFd s2 o C f v) _
      unfold setFd
      cases insOf s2 o with
      | none => rfl
      | some t =>
        obtain ⟨n, c, fs⟩ := t
        dsimp only
        by_cases h : c = C ∧ fs.length < 1000
        · rw [if_pos h, if_pos h]
          rfl
        · rw [if_neg h, if_neg h]
          rfl
    | _ => rfl
  | _ => rfl
theorem WR_sMeth : WR (sMeth C m g fo fs env st) Q = WR (fo env st) fun o s => hasM s o C m = true ∧ WR (fs env s) fun as s2 => WR (g (o :: as) s2) Q := by
  unfold sMeth
  rw [WR_bind]
  congr
  funext o s
  unfold hasM
  cases insOf s o with
  | none => simp [WR]
  | some t =>
    obtain ⟨n, c, fds⟩ := t
    dsimp only
    by_cases h : c = C ∧ fds.lookup m = none
    · rw [if_pos h, decide_eq_true h, WR_bind]
      simp
    · rw [if_neg h, decide_eq_false h]
      simp [WR]
theorem WR_sProp : WR (sProp C f g fo env st) Q = WR (fo env st) fun o s => isCl s o C = true ∧ WR (g [o] s) Q := by
  unfold sProp
  rw [WR_bind]
  congr
  funext o s
  unfold isCl
  cases insOf s o with
  | none => simp [WR]
  | some t =>
    obtain ⟨n, c, fds⟩ := t
    dsimp only
    by_cases h : c = C
    · rw [if_pos h, decide_eq_true h, WR_noX]
      simp
    · rw [if_neg h, decide_eq_false h]
      simp [WR]
theorem WR_sMake : WR (sMake C g fs env st) Q = WR (fs env st) fun as s => WR (g (.ref s.length :: as) (s ++ [.ins C []])) fun d s2 => d = .non ∧ Q (.ref s.length) s2 := by
  unfold sMake
  rw [WR_bind]
  congr
  funext as s
  rw [WR_bind, WR_noX]
  congr
  funext d s2
  cases d <;> simp [WR]
theorem WR_sOpM {op : Sto → D → D → Option (D × Sto)} : WR (sOpM op fo fv env st) Q = WR (fo env st) fun a s => WR (fv env s) fun b s2 => WO (op s2 a b) fun p => Q p.1 p.2 := by
  unfold sOpM
  rw [WR_bind]
  congr
  funext a s
  rw [WR_bind]
  congr
  funext b s2
  cases op s2 a b <;> rfl
theorem WO_eqI {a b : D} {Q : D × Sto → Prop} (h1 : isCl st a C = true) (h2 : isCl st b C = true) (h : WR (g [a, b] st) fun d s => ∃ k, d = .bl k ∧ Q (.bl k, s)) : WO (oEqI C g st a b) Q := by
  unfold oEqI
  unfold isCl at h1 h2
  cases ea : insOf st a with
  | none => rw [ea] at h1; cases h1
  | some t =>
    cases eb : insOf st b with
    | none => rw [eb] at h2; cases h2
    | some t2 =>
      obtain ⟨n, c, fs⟩ := t
      obtain ⟨n2, c2, fs2⟩ := t2
      rw [ea] at h1
      rw [eb] at h2
      dsimp only at h1 h2 ⊢
      rw [if_pos ⟨of_decide_eq_true h1, of_decide_eq_true h2⟩]
      obtain ⟨d, s, e, k, rfl, hq⟩ := h.get
      rw [e]
      exact hq
theorem WO_lenI {o : D} {Q : D × Sto → Prop} (h1 : isCl st o C = true) (h : WR (g [o] st) fun d s => ∃ i : Int, d = .int i ∧ 0 ≤ i ∧ i < 2 ^ 63 ∧ Q (.int i, s)) : WO (oLenI C g st [o]) Q := by
  unfold oLenI
  unfold isCl at h1
  dsimp only
  cases ea : insOf st o with
  | none => rw [ea] at h1; cases h1
  | some t =>
    obtain ⟨n, c, fs⟩ := t
    rw [ea] at h1
    dsimp only at h1 ⊢
    rw [if_pos (of_decide_eq_true h1)]
    obtain ⟨d, s, e, i, rfl, h2, h3, hq⟩ := h.get
    rw [e]
    dsimp only
    rw [if_pos ⟨h2, h3⟩]
    exact hq
end
open Classical in
/-- the inner loop, behind what is there -/
noncomputable def lcI (ok : Sto → Prop) (g : SemG) (t : SemB) (e : SemE) (env : En) : List D → List D → Sto → Res (List D)
  | [], acc, st => if ok st then .ok acc st else .bad
  | d :: ds, acc, st => if ok st ∧ acc.length < sizeLine then (match g d env st with
    | none => .bad
    | some env1 => (t env1 st).bindN fun b st1 => if b = true then (e env1 st1).bindN fun y st2 => lcI ok g t e env ds (acc ++ [y]) st2 else lcI ok g t e env ds acc st1) else .bad
open Classical in
noncomputable def lc2L (ok : Sto → Prop) (g : SemG) (t : SemB) (fi1 : SemI) (g1 : SemG) (t1 : SemB) (e : SemE) (vs1 : List Nat) (env : En) : List D → List D → Sto → Res (List D)
  | [], acc, st => if ok st then .ok acc st else .bad
  | d :: ds, acc, st => if ok st then (match g d env st with
    | none => .bad
    | some env1 => (t env1 st).bindN fun b st1 => if b = true then (fi1 env1 st1).bindN fun p st2 => (lcI (srcOk p.2 p.1) g1 t1 e (wipeD env1 vs1) p.1 acc st2).bindN fun acc2 st3 => lc2L ok g t fi1 g1 t1 e vs1 env ds acc2 st3
      else lc2L ok g t fi1 g1 t1 e vs1 env ds acc st1) else .bad
noncomputable def sLc2 (fi : SemI) (g : SemG) (t : SemB) (fi1 : SemI) (g1 : SemG) (t1 : SemB) (e : SemE) (vs vs1 : List Nat) : SemE := fun env st => (fi env st).bind fun p st1 => (lc2L (srcOk p.2 p.1) g t fi1 g1 t1 e vs1 (wipeD env vs) p.1 [] st1).bindN fun acc st2 => .ok (.lst acc) st2
section
variable {X : Cx} {elt tg iter tg1 iter1 : Expr} {ifs ifs1 : List Expr} {scope : Scope} {own : List (Str × Nat)} {vs1 : List Nat} {pos : Pos} {fi fi1 : SemI} {g g1 : SemG} {t t1 : SemB} {e : SemE}
def tIn (X : Cx) (f : SemI) : TI := fun σ H R => ∃ ρ env st, At X σ H ρ env st ∧ RN X.K X.w H ρ (f env st) fun p _ H' ρ' => ∀ J, JW X.K X.w H' ρ' J p.1 p.2 → R J H'
def LcP2 (X : Cx) (fi : SemI) (g : SemG) (t : SemB) (fi1 : SemI) (g1 : SemG) (t1 : SemB) (e : SemE) (vs0 vs1 : List Nat) (σ : L2.St) (H : Hp) (Q : VK) : Prop := ∃ ρ env st, At X σ H ρ env st ∧ RR X σ H ρ ((fi env st).bind fun p st1 => (lc2L (srcOk p.2 p.1) g t fi1 g1 t1 e vs1 (wipeD env vs0) p.1 [] st1).bindN fun acc st2 => .ok acc st2) fun acc st2 H2 ρ2 =>
      ∀ L vs, L ∉ ρ2 → (∀ o, Aft X.K X.w H ρ st2 (upd H2 L o) ρ2) → H2 L = some (.lst vs) → acc.length ≤ sizeLine → Reps X.K X.w H2 ρ2 acc vs → Q (.ref L) H2
theorem RN.assoc {α β γ : Type} {K : PySem.W.Frag} {w : World} {H : Hp} {ρ : List Addr} {r : Res α} {f : α → Sto → Res β} {k : β → Sto → Res γ} {P : γ → Sto → Hp → List Addr → Prop} (h : RN K w H ρ ((r.bindN f).bindN k) P) : RN K w H ρ (r.bindN fun a s => (f a s).bindN k) P := by
  cases r <;> exact h
theorem LcP2.tLc2 {vs0 : List Nat} {σ : L2.St} {H0 : Hp} {Q : VK} (h : LcP2 X fi g t fi1 g1 t1 e vs0 vs1 σ H0 Q) : L2.tLc2 (tI X fi) (tGw X vs0 g) (tTn X t) (tIn X fi1) (tGw X vs1 g1) (tTn X t1) (tDn X e) vs0 vs1 σ H0 Q := by
  obtain ⟨ρ0, env0, st0, at0, q0⟩ := h
  refine ⟨ρ0, env0, st0, at0, (RR.bind q0).mono fun p st1 H1 ρ1 a1 ⟨_, k⟩ J jw L hL => ?_⟩
  obtain ⟨ds, src⟩ := p
  have k' : RN X.K X.w H1 ρ1 (lc2L (srcOk src ds) g t fi1 g1 t1 e vs1 (wipeD env0 vs0) ds [] st1) _ := RR.rn k
  clear k
  have atw : At X (L2.wipe σ vs0) H1 ρ1 (wipeD env0 vs0) st1 := ⟨a1.r, ((at0.aft a1).en).wipe _⟩
  have nL1 : L ∉ ρ1 := a1.r.notin hL
  refine ⟨fun i m H => ∃ ρ st acc vs, At X (L2.wipe σ vs0) H ρ (wipeD env0 vs0) st ∧ Aft X.K X.w H1 ρ1 st H ρ ∧ L ∉ ρ ∧ H L = some (.lst vs) ∧ Reps X.K X.w H ρ acc vs ∧ acc.length ≤ sizeLine ∧ m = ds.length - i ∧ i ≤ ds.length ∧
      RN X.K X.w H1 ρ1 (lc2L (srcOk src ds) g t fi1 g1 t1 e vs1 (wipeD env0 vs0) (ds.drop i) acc st) fun acc st2 H2 ρ2 => ∀ L vs, L ∉ ρ2 → (∀ o, Aft X.K X.w H0 ρ0 st2 (upd H2 L o) ρ2) → H2 L = some (.lst vs) → acc.length ≤ sizeLine → Reps X.K X.w H2 ρ2 acc vs → Q (.ref L) H2,
    ⟨ds.length, ρ1, st1, [], [], atw.mine (Aft.refl a1.r) hL nL1 (.inl hL), (Aft.refl a1.r).mine hL nL1 (.inl hL), nL1, upd_same, Reps.nil, Nat.zero_le _, by simp, Nat.zero_le _, ?_⟩, ?_⟩
  · have z : ds.drop 0 = ds := by simp
    rw [z]
    exact k'
  · rintro i m H ⟨ρ, st, acc, vs, at_, af, nL, eL, rs, hacc, rfl, hi', q⟩
    have mu : Mut (H L) := by rw [eL]; trivial
    by_cases hlt : i < ds.length
    · rw [List.drop_eq_getElem_cons hlt] at q
      unfold lc2L at q
      by_cases ok : srcOk src ds st
      · rw [if_pos ok] at q
        refine .inr ⟨jw.go H ρ st st af.lat at_.st ok i hlt, fun H => ∃ ρ st acc vs, At X (L2.wipe σ vs0) H ρ (wipeD env0 vs0) st ∧ Aft X.K X.w H1 ρ1 st H ρ ∧ L ∉ ρ ∧ H L = some (.lst vs) ∧ Reps X.K X.w H ρ acc vs ∧ acc.length ≤ sizeLine ∧
          RN X.K X.w H1 ρ1 (lc2L (srcOk src ds) g t fi1 g1 t1 e vs1 (wipeD env0 vs0) (ds.drop (i + 1)) acc st) fun acc st2 H2 ρ2 => ∀ L vs, L ∉ ρ2 → (∀ o, Aft X.K X.w H0 ρ0 st2 (upd H2 L o) ρ2) → H2 L = some (.lst vs) → acc.length ≤ sizeLine → Reps X.K X.w H2 ρ2 acc vs → Q (.ref L) H2,
          fun H' hN => ?_, fun x H' y => ?_⟩
        · obtain ⟨ρ', st', acc', vs', h1, h2, h3, h4, h5, h6, h7⟩ := hN
          exact ⟨ds.length - (i + 1), by omega, ρ', st', acc', vs', h1, h2, h3, h4, h5, h6, rfl, hlt, h7⟩
        · obtain ⟨af2, rx⟩ := jw.yld H ρ st st af.lat at_.st ok i ds[i] (List.getElem?_eq_getElem hlt) x H' y
          have q2 := q
          cases eg : g ds[i] (wipeD env0 vs0) st with
          | none => rw [eg] at q2; exact q2.elim
          | some env1 =>
            rw [eg] at q2
            refine ⟨ρ, _, st, ds[i], env1, at_.aft af2, rx, eg, fun σ2 H3 af3 re3 we => ⟨by rw [we, wipe_wipe (fun _ h => h)], ?_⟩⟩
            dsimp only at q2
            refine ⟨ρ, env1, st, ⟨af3.r, re3⟩, (RN.bindC q2).mono fun b st4 H4 ρ4 af4 q4 => ?_⟩
            have afx := ((af.trans af2).trans af3).trans af4
            have afy := (af2.trans af3).trans af4
            have nL4 : L ∉ ρ4 := afy.notin eL nL
            have eL4 : H4 L = some (.lst vs) := afy.u L _ eL nL
            cases b with
            | false =>
              simp only [Bool.false_eq_true, if_false] at q4 ⊢
              exact ⟨ρ4, st4, acc, vs, at_.aft afy, afx, nL4, eL4, rs.stay afy.s afy.p, hacc, q4⟩
            | true =>
              simp only [if_true] at q4 ⊢
              have re4 := re3.stay af4.s af4.p
              refine ⟨ρ4, env1, st4, ⟨af4.r, re4⟩, (RN.bindC q4).mono fun p5 st5 H5 ρ5 af5 q5 J1 jw1 => ?_⟩
              obtain ⟨ds1, src1⟩ := p5
              dsimp only at q5
              have afx5 := afx.trans af5
              have afy5 := afy.trans af5
              have nL5 : L ∉ ρ5 := afy5.notin eL nL
              have eL5 : H5 L = some (.lst vs) := afy5.u L _ eL nL
              have at5 : At X (L2.wipe σ2 vs1) H5 ρ5 (wipeD env1 vs1) st5 := ⟨af5.r, (re4.stay af5.s af5.p).wipe _⟩
              refine ⟨fun j k H => ∃ ρ st acc vs, At X (L2.wipe σ2 vs1) H ρ (wipeD env1 vs1) st ∧ Lat H5 ρ5 H ρ ∧ Aft X.K X.w H1 ρ1 st H ρ ∧ At X (L2.wipe σ vs0) H ρ (wipeD env0 vs0) st ∧ L ∉ ρ ∧ H L = some (.lst vs) ∧ Reps X.K X.w H ρ acc vs ∧ acc.length ≤ sizeLine ∧ k = ds1.length - j ∧ j ≤ ds1.length ∧
                  RN X.K X.w H1 ρ1 ((lcI (srcOk src1 ds1) g1 t1 e (wipeD env1 vs1) (ds1.drop j) acc st).bindN fun acc2 st3 => lc2L (srcOk src ds) g t fi1 g1 t1 e vs1 (wipeD env0 vs0) (ds.drop (i + 1)) acc2 st3) fun acc st2 H2 ρ2 => ∀ L vs, L ∉ ρ2 → (∀ o, Aft X.K X.w H0 ρ0 st2 (upd H2 L o) ρ2) → H2 L = some (.lst vs) → acc.length ≤ sizeLine → Reps X.K X.w H2 ρ2 acc vs → Q (.ref L) H2,
                ⟨ds1.length, ρ5, st5, acc, vs, at5, (Aft.refl af5.r).lat, afx5, at_.aft afy5, nL5, eL5, rs.stay afy5.s afy5.p, hacc, by simp, Nat.zero_le _, ?_⟩, ?_⟩
              · have z : ds1.drop 0 = ds1 := by simp
                rw [z]
                exact q5
              · rintro j m2 H6 ⟨ρ6, st6, acc6, vs6, at6, af6, afz6, ato6, nL6, eL6, rs6, hacc6, rfl, hj, q6⟩
                have mu6 : Mut (H6 L) := by rw [eL6]; trivial
                by_cases hlt1 : j < ds1.length
                · rw [List.drop_eq_getElem_cons hlt1] at q6
                  unfold lcI at q6
                  by_cases ok1 : srcOk src1 ds1 st6 ∧ acc6.length < sizeLine
                  · rw [if_pos ok1] at q6
                    obtain ⟨ok1, hz6⟩ := ok1
                    refine .inr ⟨jw1.go H6 ρ6 st6 st6 af6 at6.st ok1 j hlt1, fun H => ∃ ρ st acc vs, At X (L2.wipe σ2 vs1) H ρ (wipeD env1 vs1) st ∧ Lat H5 ρ5 H ρ ∧ Aft X.K X.w H1 ρ1 st H ρ ∧ At X (L2.wipe σ vs0) H ρ (wipeD env0 vs0) st ∧ L ∉ ρ ∧ H L = some (.lst vs) ∧ Reps X.K X.w H ρ acc vs ∧ acc.length ≤ sizeLine ∧
                      RN X.K X.w H1 ρ1 ((lcI (srcOk src1 ds1) g1 t1 e (wipeD env1 vs1) (ds1.drop (j + 1)) acc st).bindN fun acc2 st3 => lc2L (srcOk src ds) g t fi1 g1 t1 e vs1 (wipeD env0 vs0) (ds.drop (i + 1)) acc2 st3) fun acc st2 H2 ρ2 => ∀ L vs, L ∉ ρ2 → (∀ o, Aft X.K X.w H0 ρ0 st2 (upd H2 L o) ρ2) → H2 L = some (.lst vs) → acc.length ≤ sizeLine → Reps X.K X.w H2 ρ2 acc vs → Q (.ref L) H2,
                      fun H' hN => ?_, fun x H' y => ?_⟩
                    · obtain ⟨ρ', st', acc', vs', h1, h2, h3, h4, h5, h6, h7, h8, h9⟩ := hN
                      exact ⟨ds1.length - (j + 1), by omega, ρ', st', acc', vs', h1, h2, h3, h4, h5, h6, h7, h8, rfl, hlt1, h9⟩
                    · obtain ⟨af7, rx7⟩ := jw1.yld H6 ρ6 st6 st6 af6 at6.st ok1 j ds1[j] (List.getElem?_eq_getElem hlt1) x H' y
                      cases eg1 : g1 ds1[j] (wipeD env1 vs1) st6 with
                      | none => rw [eg1] at q6; exact q6.elim
                      | some env2 =>
                        rw [eg1] at q6
                        refine ⟨ρ6, _, st6, ds1[j], env2, at6.aft af7, rx7, eg1, fun σ3 H8 af8 re8 we8 => ⟨by rw [we8, wipe_wipe (fun _ h => h)], ?_⟩⟩
                        dsimp only at q6
                        have q7 := RN.assoc q6
                        refine ⟨ρ6, env2, st6, ⟨af8.r, re8⟩, (RN.bindC q7).mono fun b9 st9 H9 ρ9 af9 q9 => ?_⟩
                        have afw := (af7.trans af8).trans af9
                        have nL9 : L ∉ ρ9 := afw.notin eL6 nL6
                        have eL9 : H9 L = some (.lst vs6) := afw.u L _ eL6 nL6
                        cases b9 with
                        | false =>
                          simp only [Bool.false_eq_true, if_false] at q9 ⊢
                          exact ⟨ρ9, st9, acc6, vs6, at6.aft afw, af6.then afw, afz6.trans afw, ato6.aft afw, nL9, eL9, rs6.stay afw.s afw.p, hacc6, q9⟩
                        | true =>
                          simp only [if_true] at q9 ⊢
                          have q10 := RN.assoc q9
                          refine ⟨ρ9, env2, st9, ⟨af9.r, re8.stay af9.s af9.p⟩, (RN.bindC q10).mono fun d st10 H10 ρ10 af10 q11 v rv => ?_⟩
                          have afv := afw.trans af10
                          have nL10 : L ∉ ρ10 := afv.notin eL6 nL6
                          have eL10 : H10 L = some (.lst vs6) := afv.u L _ eL6 nL6
                          have mu10 : Mut (H10 L) := by rw [eL10]; trivial
                          have hl := rs6.length
                          have hL5 : H5 L ≠ none := by rw [eL5]; simp
                          refine ⟨vs6, eL10, by omega, ρ10, st10, acc6 ++ [d], vs6 ++ [v], ?_, ?_, ?_, ?_, nL10, upd_same, ?_, by simp; omega, q11⟩
                          · exact (at6.aft afv).mine (afz6.trans afv) hL nL10 (.inr mu10)
                          · exact ⟨(af6.then afv).s.trans (Stays.mut mu10), (af6.then afv).p⟩
                          · exact (afz6.trans afv).mine hL nL10 (.inr mu10)
                          · exact (ato6.aft afv).mine (afz6.trans afv) hL nL10 (.inr mu10)
                          · exact ((rs6.stay afv.s afv.p).append (Reps.cons rv Reps.nil)).stay (Stays.mut mu10) (List.prefix_refl _)
                  · rw [if_neg ok1] at q6
                    exact q6.elim
                · have ei : ds1.drop j = [] := List.drop_eq_nil_of_le (by omega)
                  rw [ei] at q6
                  unfold lcI at q6
                  by_cases ok1 : srcOk src1 ds1 st6
                  · rw [if_pos ok1] at q6
                    exact .inl ⟨jw1.stop H6 ρ6 st6 st6 af6 at6.st ok1 j (Nat.le_of_not_lt hlt1), ρ6, st6, acc6, vs6, ato6, afz6, nL6, eL6, rs6, hacc6, q6⟩
                  · rw [if_neg ok1] at q6
                    exact q6.elim
      · rw [if_neg ok] at q
        exact q.elim
    · have ei : ds.drop i = [] := List.drop_eq_nil_of_le (by omega)
      rw [ei] at q
      unfold lc2L at q
      by_cases ok : srcOk src ds st
      · rw [if_pos ok] at q
        have h0L : H0 L = none := by
          cases e0 : H0 L with
          | none => rfl
          | some o =>
            have : L ∉ ρ0 := fun z => nL1 (a1.p.subset z)
            rw [a1.u L o e0 this] at hL
            cases hL
        exact .inl ⟨jw.stop H ρ st st af.lat at_.st ok i (Nat.le_of_not_lt hlt), q H ρ af L vs nL (fun o => (a1.trans af).mine h0L nL (.inr mu)) eL hacc rs⟩
      · rw [if_neg ok] at q
        exact q.elim
theorem lc2F_of {vs0 : List Nat} {σ : L2.St} {H : Hp} {ρ : List Addr} {env : En} {st : Sto} {P : D → Sto → Hp → List Addr → Prop} (at_ : At X σ H ρ env st) (q : RR X σ H ρ (sLc2 fi g t fi1 g1 t1 e vs0 vs1 env st) P) :
    LcP2 X fi g t fi1 g1 t1 e vs0 vs1 σ H fun v H' => ∃ a u, v = .ref a ∧ H' a = some u ∧ Mut (some u) ∧ ∀ od, ∃ d st' ρ', Aft X.K X.w H ρ st' (upd H' a (.frz od u)) ρ' ∧ Rep X.K X.w (upd H' a (.frz od u)) ρ' d v ∧ P d st' (upd H' a (.frz od u)) ρ' := by
  refine ⟨ρ, env, st, at_, (RR.conv q).mono fun acc s2 H2 ρ2 a2 k L vs nL hA eL hz rs => ⟨L, _, rfl, eL, trivial, fun od => ?_⟩⟩
  refine ⟨_, _, ρ2, hA _, ?_, k _ ρ2 (hA _)⟩
  have mu : Mut (H2 L) := by rw [eL]; trivial
  unfold Rep
  exact ⟨L, vs, rfl, (.inl ⟨od, upd_same⟩), hz, rs.stay (Stays.mut mu) (List.prefix_refl _)⟩
theorem LcP2.mono {vs0 : List Nat} {σ : L2.St} {H : Hp} {Q Q' : VK} (h : LcP2 X fi g t fi1 g1 t1 e vs0 vs1 σ H Q) (i : ∀ v H', Q v H' → Q' v H') : LcP2 X fi g t fi1 g1 t1 e vs0 vs1 σ H Q' := by
  obtain ⟨ρ, env, st, at_, q⟩ := h
  exact ⟨ρ, env, st, at_, q.mono fun acc s2 H2 ρ2 a2 k L vs nL hA eL hz rs => i _ _ (k L vs nL hA eL hz rs)⟩
section
variable (hc : X.calm = true) (hN : X.N.Nodup) (hi : DI X tg iter fi) (ok : BlkOk X.N X.env.scope scope own) (hv : ∀ i ∈ vs1, i ∈ own.map (·.2))
    (hg : ∀ (s : Shared) (H : Hp) (C : Addr) (cl : List (Str × Addr)) (fp : List Addr), DGw (X.blk s H scope (compEnvC scope cl C X.env) fp) (own.map (fun x : Str × Nat => x.2)) tg g)
    (ht : ∀ (s : Shared) (H : Hp) (C : Addr) (cl : List (Str × Addr)) (fp : List Addr), DTs (X.blk s H scope (compEnvC scope cl C X.env) fp) ifs t)
    (hi1 : ∀ (s : Shared) (H : Hp) (C : Addr) (cl : List (Str × Addr)) (fp : List Addr), DI (X.blk s H scope (compEnvC scope cl C X.env) fp) tg1 iter1 fi1)
    (hg1 : ∀ (s : Shared) (H : Hp) (C : Addr) (cl : List (Str × Addr)) (fp : List Addr), DGw (X.blk s H scope (compEnvC scope cl C X.env) fp) vs1 tg1 g1)
    (ht1 : ∀ (s : Shared) (H : Hp) (C : Addr) (cl : List (Str × Addr)) (fp : List Addr), DTs (X.blk s H scope (compEnvC scope cl C X.env) fp) ifs1 t1)
    (he : ∀ (s : Shared) (H : Hp) (C : Addr) (cl : List (Str × Addr)) (fp : List Addr), DE (X.blk s H scope (compEnvC scope cl C X.env) fp) elt e)
include hc hN hi ok hv hg ht hi1 hg1 ht1 he
theorem de_lc2 (hs : ∀ x, foldedSetIterable iter X.env x = pure x := by intro _; rfl) (hs1 : ∀ env x, foldedSetIterable iter1 env x = pure x := by intro _ _; rfl) :
    PE X (.ListComp elt [⟨tg, iter, ifs, 0⟩, ⟨tg1, iter1, ifs1, 0⟩] scope pos) (LcP2 X fi g t fi1 g1 t1 e (own.map (fun x : Str × Nat => x.2)) vs1) :=
  PE.weak (pe_lc2 (g := tGw X (own.map (fun x : Str × Nat => x.2)) g) (tt := tTn X t) (wi1 := tIn X fi1) (g1 := tGw X vs1 g1) (tt1 := tTn X t1) (te := tDn X e) hc hN hi ok hv
    (fun s H C cl fp => PG.weak (hg s H C cl fp) fun v σ H Q ⟨ρ, env, st, d, env', at_, r, eg, q⟩ => ⟨ρ, env, st, d, env', ⟨at_.st, at_.en⟩, r, eg, q⟩)
    (fun s H C cl fp => PTs.weak (ht s H C cl fp) fun σ H Q ⟨ρ, env, st, at_, q⟩ => ⟨ρ, env, st, ⟨at_.st, at_.en⟩, RN.rr q⟩)
    (fun s H C cl fp => PI.weak (hi1 s H C cl fp) fun σ H Q ⟨ρ, env, st, at_, q⟩ => ⟨ρ, env, st, ⟨at_.st, at_.en⟩, RN.rr q⟩)
    (fun s H C cl fp => PG.weak (hg1 s H C cl fp) fun v σ H Q ⟨ρ, env, st, d, env', at_, r, eg, q⟩ => ⟨ρ, env, st, d, env', ⟨at_.st, at_.en⟩, r, eg, q⟩)
    (fun s H C cl fp => PTs.weak (ht1 s H C cl fp) fun σ H Q ⟨ρ, env, st, at_, q⟩ => ⟨ρ, env, st, ⟨at_.st, at_.en⟩, RN.rr q⟩)
    (fun s H C cl fp => PE.weak (he s H C cl fp) fun σ H Q ⟨ρ, env, st, at_, q⟩ => ⟨ρ, env, st, ⟨at_.st, at_.en⟩, RN.rr q⟩) hs hs1) fun σ H Q h => h.tLc2
theorem de_lc2F (hs : ∀ x, foldedSetIterable iter X.env x = pure x := by intro _; rfl) (hs1 : ∀ env x, foldedSetIterable iter1 env x = pure x := by intro _ _; rfl) :
    DE X (.ListComp elt [⟨tg, iter, ifs, 0⟩, ⟨tg1, iter1, ifs1, 0⟩] scope pos) (sLc2 fi g t fi1 g1 t1 e (own.map (fun x : Str × Nat => x.2)) vs1) :=
  PE.weak (pe_lock (de_lc2 hc hN hi ok hv hg ht hi1 hg1 ht1 he hs hs1)) fun σ H Q ⟨ρ, env, st, at_, q⟩ => (lc2F_of at_ q).mono fun v H' ⟨a, u, e1, e2, e3, k⟩ => ⟨a, u, e1, e2, e3, fun od => by
    obtain ⟨d, st', ρ', _, r, p⟩ := k od
    exact p v r⟩
variable {i : Nat} {y : Str} {py spos : Pos}
theorem ds_lc2F (hyl : X.env.scope.names.lookup y = some .local) (hsw : swapsWith (.ListComp elt [⟨tg, iter, ifs, 0⟩, ⟨tg1, iter1, ifs1, 0⟩] scope pos) (some (.Name y py)) spos.line X.env = pure true) (hy : X.N[i]? = some y := by rfl)
    (hs : ∀ x, foldedSetIterable iter X.env x = pure x := by intro _; rfl) (hs1 : ∀ env x, foldedSetIterable iter1 env x = pure x := by intro _ _; rfl) :
    DS X (.Assign [.Name y py] (.ListComp elt [⟨tg, iter, ifs, 0⟩, ⟨tg1, iter1, ifs1, 0⟩] scope pos) spos) (sAsg (sLc2 fi g t fi1 g1 t1 e (own.map (fun x : Str × Nat => x.2)) vs1) (gN i)) := by
  have base : PS X (.Assign [.Name y py] (.ListComp elt [⟨tg, iter, ifs, 0⟩, ⟨tg1, iter1, ifs1, 0⟩] scope pos) spos) fun D σ H => LcP2 X fi g t fi1 g1 t1 e (own.map (fun x : Str × Nat => x.2)) vs1 σ H fun x H1 => D.nx (σ.set i (some x)) H1 :=
    PS.weak (ps_setLc2 (g := tGw X (own.map (fun x : Str × Nat => x.2)) g) (tt := tTn X t) (wi1 := tIn X fi1) (g1 := tGw X vs1 g1) (tt1 := tTn X t1) (te := tDn X e) hc hN hy hyl hsw hi ok hv
      (fun s H C cl fp => PG.weak (hg s H C cl fp) fun v σ H Q ⟨ρ, env, st, d, env', at_, r, eg, q⟩ => ⟨ρ, env, st, d, env', ⟨at_.st, at_.en⟩, r, eg, q⟩)
      (fun s H C cl fp => PTs.weak (ht s H C cl fp) fun σ H Q ⟨ρ, env, st, at_, q⟩ => ⟨ρ, env, st, ⟨at_.st, at_.en⟩, RN.rr q⟩)
      (fun s H C cl fp => PI.weak (hi1 s H C cl fp) fun σ H Q ⟨ρ, env, st, at_, q⟩ => ⟨ρ, env, st, ⟨at_.st, at_.en⟩, RN.rr q⟩)
      (fun s H C cl fp => PG.weak (hg1 s H C cl fp) fun v σ H Q ⟨ρ, env, st, d, env', at_, r, eg, q⟩ => ⟨ρ, env, st, d, env', ⟨at_.st, at_.en⟩, r, eg, q⟩)
      (fun s H C cl fp => PTs.weak (ht1 s H C cl fp) fun σ H Q ⟨ρ, env, st, at_, q⟩ => ⟨ρ, env, st, ⟨at_.st, at_.en⟩, RN.rr q⟩)
      (fun s H C cl fp => PE.weak (he s H C cl fp) fun σ H Q ⟨ρ, env, st, at_, q⟩ => ⟨ρ, env, st, ⟨at_.st, at_.en⟩, RN.rr q⟩) hs hs1) fun D σ H h => h.tLc2
  exact PS.weak (ps_lock' base) fun D σ H ⟨ρ, env, st, at_, q⟩ => (lc2F_of at_ (RS.bindE at_ q)).mono fun v H' ⟨a, u, e1, e2, e3, k⟩ => .inr ⟨a, u, e2, e3, fun od => by
    obtain ⟨d, st', ρ', af, r, _, p⟩ := k od
    exact p _ _ ρ' (Aft.refl af.r) ((at_.aft af).en.set r i)⟩
end
end
/-! ### what is to be shown -/
section
variable {Q : D → Sto → Prop} {env : En} {st : Sto} {fi fi1 : SemI} {g g1 : SemG} {t t1 : SemB} {e : SemE} {vs vs1 : List Nat}
theorem WR_sLc2 : WR (sLc2 fi g t fi1 g1 t1 e vs vs1 env st) Q = WR (fi env st) fun p s => WR (lc2L (srcOk p.2 p.1) g t fi1 g1 t1 e vs1 (wipeD env vs) p.1 [] s) fun acc s2 => Q (.lst acc) s2 := by
  unfold sLc2
  rw [WR_bind]
  congr
  funext p s
  rw [WR_bindN]
  rfl
/-- the inner loop, by an invariant -/
theorem lcI_by {QL : List D → Sto → Prop} {ds : List D} (I : Nat → List D → Sto → Prop) : ∀ (rest : List D) (j : Nat) (acc : List D) (st : Sto), rest = ds.drop j → I j acc st → (∀ m d a s, ds[m]? = some d → I m a s → a.length < sizeLine ∧ WO (g1 d env s) fun e1 => WR (t1 e1 s) fun b s1 => if b = true then WR (e e1 s1) fun y s2 => I (m + 1) (a ++ [y]) s2 else I (m + 1) a s1) →
    (∀ a s, I ds.length a s → QL a s) → j ≤ ds.length → WR (lcI (srcOk .val ds) g1 t1 e env rest acc st) QL
  | [], j, acc, st, hr, h, hs, hd, hj => by
    unfold lcI
    rw [if_pos (show srcOk Src.val ds st from trivial)]
    have : j = ds.length := by
      have := congrArg List.length hr
      rw [List.length_drop, List.length_nil] at this
      omega
    exact hd acc st (this ▸ h)
  | d :: rest, j, acc, st, hr, h, hs, hd, hj => by
    have hlt : j < ds.length := by
      have := congrArg List.length hr
      rw [List.length_drop, List.length_cons] at this
      omega
    rw [List.drop_eq_getElem_cons hlt] at hr
    obtain ⟨h1, h2⟩ := List.cons.inj hr
    subst h1
    obtain ⟨hz, hw⟩ := hs j _ acc st (List.getElem?_eq_getElem hlt) h
    unfold lcI
    rw [if_pos (show srcOk Src.val ds st ∧ acc.length < sizeLine from ⟨trivial, hz⟩)]
    cases eg : g1 ds[j] env st with
    | none => rw [eg] at hw; exact hw.elim
    | some env1 =>
      rw [eg] at hw
      dsimp only
      rw [WR_bindN]
      refine WR.mono (show WR (t1 env1 st) _ from hw) fun b s1 hb => ?_
      cases b with
      | true =>
        simp only [if_true] at hb ⊢
        rw [WR_bindN]
        exact hb.mono fun y s2 hy => lcI_by I rest (j + 1) _ s2 h2 hy hs hd hlt
      | false =>
        simp only [Bool.false_eq_true, if_false] at hb ⊢
        exact lcI_by I rest (j + 1) _ s1 h2 hb hs hd hlt
/-- one list behind the other, the store as it was -/
theorem lc2_flat {QL : List D → Sto → Prop} {ds0 : List D} (F : D → List D) : ∀ (ds acc : List D), acc.length + (ds.flatMap F).length ≤ sizeLine →
    (∀ d ∈ ds, ∀ acc : List D, acc.length + (F d).length ≤ sizeLine → WO (g d env st) fun e1 => WR (t e1 st) fun b s1 => b = true ∧ s1 = st ∧ WR (fi1 e1 st) fun p s2 => s2 = st ∧ WR (lcI (srcOk p.2 p.1) g1 t1 e (wipeD e1 vs1) p.1 acc st) fun acc2 s3 => acc2 = acc ++ F d ∧ s3 = st) →
    QL (acc ++ ds.flatMap F) st → WR (lc2L (srcOk .val ds0) g t fi1 g1 t1 e vs1 env ds acc st) QL
  | [], acc, _, _, hd => by
    unfold lc2L
    rw [if_pos (show srcOk Src.val ds0 st from trivial)]
    rw [List.flatMap_nil, List.append_nil] at hd
    exact hd
  | d :: ds, acc, hl, hs, hd => by
    rw [List.flatMap_cons, List.length_append] at hl
    have h1 := hs d (List.mem_cons_self ..) acc (by omega)
    unfold lc2L
    rw [if_pos (show srcOk Src.val ds0 st from trivial)]
    cases eg : g d env st with
    | none => rw [eg] at h1; exact h1.elim
    | some env1 =>
      rw [eg] at h1
      dsimp only
      rw [WR_bindN]
      refine WR.mono (show WR (t env1 st) _ from h1) fun b s1 ⟨hb, hs1, h2⟩ => ?_
      rw [hb, hs1]
      simp only [if_true]
      rw [WR_bindN]
      refine h2.mono fun p s2 ⟨hs2, h3⟩ => ?_
      rw [hs2, WR_bindN]
      refine h3.mono fun acc2 s3 ⟨ha, hs3⟩ => ?_
      rw [ha, hs3]
      refine lc2_flat F ds (acc ++ F d) (by rw [List.length_append]; omega) (fun d hd => hs d (List.mem_cons_of_mem _ hd)) ?_
      rw [List.flatMap_cons] at hd
      rw [List.append_assoc]
      exact hd
end
/-- where a def stands: a name of the module, a class's method, the getter of a class's property -/
inductive Pl3 where
  | glo (x : Str)
  | meth (C m : Str)
  | prop (C m : Str)
  | stat (C m : Str)
def smAd (K : PySem.W.Frag) (p : Addr) : Addr := match PySem.W.recIn K p "staticmethod" with
  | some (.ref g :: _) => g
  | _ => 0
def prAd (K : PySem.W.Frag) (p : Addr) : Addr := match PySem.W.recIn K p "property" with
  | some (.ref g :: _) => g
  | _ => 0
def adK (K : PySem.W.Frag) : Pl3 → Addr
  | .glo x => He.ga K x
  | .meth C m => He.ma K (He.ga K C) m
  | .prop C m => prAd K (He.ma K (He.ga K C) m)
  | .stat C m => smAd K (He.ma K (He.ga K C) m)
structure DfG where
  at_ : Pl3
  name : Str
  qual : Str
  params : Arguments
  body : List Stmt
  scope : Scope
def DfG.val (d : DfG) : He.FnW := some (d.name, d.qual, d.params, .stmts d.body, d.scope, mainGlobals, [], builtinsNs)
def fnG (K : PySem.W.Frag) (p : Pl3) : He.FnW := match K.lookup (adK K p) with
  | some ⟨_, _, .func fd, _⟩ => some (fd.name, fd.qualname, fd.params, fd.body, fd.scope, fd.globals, fd.closure, fd.builtins)
  | _ => none
def DfG.ok (K : PySem.W.Frag) (d : DfG) : Bool := (match d.at_ with
  | .glo x => gloF K x
  | _ => true) && (PySem.W.keepIn K (.ref (adK K d.at_)) && (match K.lookup (adK K d.at_) with
  | some ⟨_, _, .func fd, _⟩ => PySem.W.codeIn K fd.code d.qual && (He.dflB K fd.defaults [] && He.kwdB K fd.kwdefaults [])
  | _ => false))
theorem DfG.funD {K : PySem.W.Frag} {d : DfG} (e : fnG K d.at_ = d.val) (c : d.ok K = true) : ∃ fd, FunD K d.name d.qual d.params d.body d.scope [] [] (adK K d.at_) fd := by
  obtain ⟨_, c⟩ := He.ba c
  obtain ⟨kp, c2⟩ := He.ba c
  unfold fnG at e
  cases q : K.lookup (adK K d.at_) with
  | none =>
    rw [q] at c2
    cases c2
  | some o =>
    obtain ⟨oc, od, dt, osl⟩ := o
    rw [q] at c2 e
    cases dt with
    | func fd =>
      obtain ⟨n1, n2, n3, n4, n5, n6, n7, n8, n9, n10, n11, n12, n13, n14, n15⟩ := fd
      have e2 : (some (n1, n2, n3, n4, n5, n6, n7, n15) : He.FnW) = some (d.name, d.qual, d.params, .stmts d.body, d.scope, mainGlobals, [], builtinsNs) := e
      simp only [Option.some.injEq, Prod.mk.injEq] at e2
      obtain ⟨h1, h2, h3, h4, h5, h6, h7, h8⟩ := e2
      subst h1 h2 h3 h4 h5 h6 h7 h8
      have c3 : (PySem.W.codeIn K n13 d.qual && (He.dflB K n8 [] && He.kwdB K n9 [])) = true := c2
      obtain ⟨k1, k2⟩ := He.ba c3
      obtain ⟨k3, k4⟩ := He.ba k2
      exact ⟨_, ⟨oc, od, n8, n9, n10, n11, n12, n13, n14, osl, rfl, q, k1, He.dflB_ok k3, He.kwdB_ok k4⟩, kp⟩
    | _ => cases c2
/-! ### facts of classes -/
abbrev FaC := PySem.W.Frag → Bool
def fCls (C : Str) : FaC := fun K => gloF K C && He.Fa.ok K (.cls C)
def fMeth (C m : Str) : FaC := fun K => He.Fa.ok K (.meth C m)
def fMkr (C : Str) : FaC := fun K => He.Fa.ok K (.mkr C)
def fNoat (C f : Str) : FaC := fun K => He.Fa.ok K (.noat C f)
def fSlot (C m : Str) : FaC := fun K => He.eqO (PySem.W.findIn K (.ref (He.ga K C)) m) (some (some (.ref (He.ma K (He.ga K C) m)))) && PySem.W.isFn K (.ref (He.ma K (He.ga K C) m))
def fProp (C m : Str) : FaC := fun K => He.eqO (PySem.W.findIn K (.ref (He.ga K C)) m) (some (some (.ref (He.ma K (He.ga K C) m)))) && (He.eqO (PySem.W.specialIn K (.ref (He.ma K (He.ga K C) m)) "__get__") (some (some (.builtin "property.__get__"))) &&
  (decide (PySem.W.takesIn K (.ref (He.ma K (He.ga K C) m)) = some true) && (match PySem.W.recIn K (He.ma K (He.ga K C) m) "property" with
    | some (.ref _ :: _) => true
    | _ => false)))
def fTst (C : Str) : FaC := fun K => gloF K C && (He.Fa.ok K (.cls C) && (He.eqO (PySem.W.findIn K (.ref (He.ga K C)) "__class__") (some (some (.builtin "object.__class__"))) && (He.eqO (PySem.W.specialIn K (.builtin "object.__class__") "__get__") (some (some (.builtin "getset_descriptor.__get__"))) &&
  (decide (PySem.W.takesIn K (.builtin "object.__class__") = some true) && decide (PySem.W.mroIn K (He.ga K C) (.type "object") = some true)))))
def fOwn (C : Str) : FaC := fun K => fTst C K && (["bool", "int", "str", "tuple", "list", "dict"] : List String).all fun T => decide (PySem.W.mroIn K (He.ga K C) (.type T) = some false)
section
variable {K : PySem.W.Frag} {h : Heap} {mg : Str → Option Value} {C m f : Str}
theorem fOwn_ok (c : fOwn C K = true) : Own K (He.ga K C) := by
  obtain ⟨c0, cn⟩ := He.ba c
  obtain ⟨c1, c⟩ := He.ba c0
  obtain ⟨c2, c⟩ := He.ba c
  obtain ⟨c3, c⟩ := He.ba c
  obtain ⟨c4, c⟩ := He.ba c
  obtain ⟨c5, c6⟩ := He.ba c
  exact ⟨He.cls_ok c2, He.eqO_ok c3, He.eqO_ok c4, of_decide_eq_true c5, of_decide_eq_true c6, fun T hT => of_decide_eq_true (List.all_eq_true.mp cn T hT)⟩
theorem fCls_ok (c : fCls C K = true) : Cls K (He.ga K C) := He.cls_ok (He.ba c).2
theorem fMeth_ok (c : fMeth C m K = true) : Meth K (He.ga K C) m (adK K (.meth C m)) := He.meth_ok c
theorem fMkr_ok (c : fMkr C K = true) : Mk K (He.ga K C) (adK K (.meth C "__init__")) := He.mkr_ok c
theorem fNoat_ok (c : fNoat C f K = true) : NoAttr K (He.ga K C) f := He.noat_ok c
theorem fSlot_ok (c : fSlot C m K = true) : PySem.W.findIn K (.ref (He.ga K C)) m = some (some (.ref (adK K (.meth C m)))) ∧ PySem.W.isFn K (.ref (adK K (.meth C m))) = true := ⟨He.eqO_ok (He.ba c).1, (He.ba c).2⟩
theorem fProp_ok (c : fProp C m K = true) : PropOf K (He.ga K C) m (He.ma K (He.ga K C) m) (adK K (.prop C m)) := by
  obtain ⟨c1, c⟩ := He.ba c
  obtain ⟨c2, c⟩ := He.ba c
  obtain ⟨c3, c4⟩ := He.ba c
  refine ⟨He.eqO_ok c1, He.eqO_ok c2, of_decide_eq_true c3, ?_⟩
  show ∃ rest, PySem.W.recIn K (He.ma K (He.ga K C) m) "property" = some (.ref (prAd K (He.ma K (He.ga K C) m)) :: rest)
  unfold prAd
  cases q : PySem.W.recIn K (He.ma K (He.ga K C) m) "property" with
  | none => rw [q] at c4; cases c4
  | some l =>
    rw [q] at c4
    cases l with
    | nil => cases c4
    | cons v rest =>
      cases v with
      | ref g => exact ⟨rest, rfl⟩
      | _ => cases c4
theorem fTst_ok (X : K.In h) (G : h.Ns mainGlobals mg) (c : fTst C K = true) : ClsT K mg C := by
  obtain ⟨c1, c⟩ := He.ba c
  obtain ⟨c2, c⟩ := He.ba c
  obtain ⟨c3, c⟩ := He.ba c
  obtain ⟨c4, c⟩ := He.ba c
  obtain ⟨c5, c6⟩ := He.ba c
  exact ⟨He.glo_ok X G c1, He.cls_ok c2, He.eqO_ok c3, He.eqO_ok c4, of_decide_eq_true c5, of_decide_eq_true c6⟩
theorem fCls_glo (X : K.In h) (G : h.Ns mainGlobals mg) (c : fCls C K = true) : mg C = some (.ref (He.ga K C)) := He.glo_ok X G (He.ba c).1
end
/-! ### the hook -/
def dgF (x : Str) (s : Stmt) : DfG := ⟨.glo x, x, x, defArgs s, defBody s, defScope s⟩
def dmF (C m : Str) (q : Str) (s : Stmt) : DfG := ⟨.meth C m, m, q, defArgs s, defBody s, defScope s⟩
def dpF (C m : Str) (q : Str) (s : Stmt) : DfG := ⟨.prop C m, m, q, defArgs s, defBody s, defScope s⟩
def dsF (C m : Str) (q : Str) (s : Stmt) : DfG := ⟨.stat C m, m, q, defArgs s, defBody s, defScope s⟩
def obsC (cs : List (Str × D)) (fs : List FaC) (fn : List DfG) (K : PySem.W.Frag) : He.AlD := ((bsN.all (freeF K)) && ((cs.all fun c => gloB K c.1 c.2) && (fs.all (fun f => f K) && fn.all fun d => d.ok K)), fn.map fun d => fnG K d.at_)
def valC (fn : List DfG) : He.AlD := (true, fn.map DfG.val)
def SaysC (cs : List (Str × D)) (fs : List FaC) (fn : List DfG) (K : PySem.W.Frag) : Prop := obsC cs fs fn K = valC fn
def obsCG (n : Nat) (cs : List (Str × D)) (fs : List FaC) (fn : List DfG) (g : Addr → Option Obj) : He.AlD := obsC cs fs fn (He.frG g (He.asD g n))
def hookC (n : Nat) (cs : List (Str × D)) (fs : List FaC) (fn : List DfG) : PySem.W.Hook where
  α := He.AlD
  obs := fun s => obsCG n cs fs fn s.heap.get?
  val := fun _ => valC fn
  says := fun _ h => ∃ K : PySem.W.Frag, K.In h ∧ SaysC cs fs fn K
  of := fun _ _ e => ⟨_, He.frG_in, e⟩
  keeps := fun _ _ _ ⟨K, hK, c⟩ k => ⟨K, PySem.W.Frag.In.keeps hK k, c⟩
theorem obsCG_eq {n : Nat} {cs : List (Str × D)} {fs : List FaC} {fn : List DfG} {g : Addr → Option Obj} {s : Shared} (h : ∀ a, g a = s.heap.get? a) : obsCG n cs fs fn g = (hookC n cs fs fn).obs s := by
  have e : g = s.heap.get? := funext h
  rw [e] <;> rfl
section
variable {cs : List (Str × D)} {fs : List FaC} {fn : List DfG} {K : PySem.W.Frag} {h : Heap} {mg : Str → Option Value}
theorem SaysC.c4 (c : SaysC cs fs fn K) : bsN.all (freeF K) = true ∧ (cs.all fun c => gloB K c.1 c.2) = true ∧ fs.all (fun f => f K) = true ∧ (fn.all fun d => d.ok K) = true := by
  have c1 := He.ba (show (bsN.all (freeF K) && ((cs.all fun c => gloB K c.1 c.2) && (fs.all (fun f => f K) && fn.all fun d => d.ok K))) = true from congrArg (fun z : He.AlD => z.1) c)
  have c2 := He.ba c1.2
  exact ⟨c1.1, c2.1, He.ba c2.2⟩
theorem SaysC.free (X : K.In h) (G : h.Ns mainGlobals mg) (c : SaysC cs fs fn K) (i : Nat) {x : Str} (e : bsN[i]? = some x) : mg x = none :=
  He.free_ok X G (List.all_eq_true.mp c.c4.1 x (List.mem_of_getElem? e))
theorem SaysC.bs (X : K.In h) (G : h.Ns mainGlobals mg) (c : SaysC cs fs fn K) : Bs mg :=
  ⟨c.free X G 0 rfl, c.free X G 1 rfl, c.free X G 2 rfl, c.free X G 3 rfl, c.free X G 4 rfl, c.free X G 5 rfl, c.free X G 6 rfl, c.free X G 7 rfl, c.free X G 8 rfl, c.free X G 9 rfl, c.free X G 10 rfl, c.free X G 11 rfl, c.free X G 12 rfl, c.free X G 13 rfl, c.free X G 14 rfl, c.free X G 15 rfl, c.free X G 16 rfl, c.free X G 17 rfl⟩
theorem SaysC.con (c : SaysC cs fs fn K) (i : Nat) {x : Str} {d : D} (e : cs[i]? = some (x, d) := by rfl) : gloB K x d = true :=
  List.all_eq_true.mp c.c4.2.1 (x, d) (List.mem_of_getElem? e)
theorem SaysC.fact (c : SaysC cs fs fn K) (i : Nat) {f : FaC} (e : fs[i]? = some f) : f K = true := List.all_eq_true.mp c.c4.2.2.1 f (List.mem_of_getElem? e)
theorem SaysC.def_ (c : SaysC cs fs fn K) (i : Nat) {d : DfG} (e : fn[i]? = some d) : (∃ fd, FunD K d.name d.qual d.params d.body d.scope [] [] (adK K d.at_) fd) ∧ d.ok K = true := by
  have c2 := List.all_eq_true.mp c.c4.2.2.2 _ (List.mem_of_getElem? e)
  have em : fn.map (fun d => fnG K d.at_) = fn.map DfG.val := congrArg (fun z : He.AlD => z.2) c
  have e2 : (fn.map fun d => fnG K d.at_)[i]? = (fn.map DfG.val)[i]? := by rw [em]
  rw [List.getElem?_map, List.getElem?_map, e] at e2
  exact ⟨DfG.funD (Option.some.inj e2) c2, c2⟩
theorem SaysC.fun_ (X : K.In h) (G : h.Ns mainGlobals mg) (c : SaysC cs fs fn K) (i : Nat) {x : Str} {s : Stmt} (e : fn[i]? = some (dgF x s) := by rfl) :
    ∃ (f : Addr) (fd : FuncData), FunD K x x (defArgs s) (defBody s) (defScope s) [] [] f fd ∧ mg x = some (.ref f) := by
  obtain ⟨⟨fd, F⟩, k⟩ := c.def_ i e
  exact ⟨_, fd, F, He.glo_ok X G (He.ba k).1⟩
theorem SaysC.meth (c : SaysC cs fs fn K) (i : Nat) {C m q : Str} {s : Stmt} (e : fn[i]? = some (dmF C m q s) := by rfl) : ∃ fd : FuncData, FunD K m q (defArgs s) (defBody s) (defScope s) [] [] (adK K (.meth C m)) fd := (c.def_ i e).1
theorem SaysC.prop (c : SaysC cs fs fn K) (i : Nat) {C m q : Str} {s : Stmt} (e : fn[i]? = some (dpF C m q s) := by rfl) : ∃ fd : FuncData, FunD K m q (defArgs s) (defBody s) (defScope s) [] [] (adK K (.prop C m)) fd := (c.def_ i e).1
theorem SaysC.stat (c : SaysC cs fs fn K) (i : Nat) {C m q : Str} {s : Stmt} (e : fn[i]? = some (dsF C m q s) := by rfl) : ∃ fd : FuncData, FunD K m q (defArgs s) (defBody s) (defScope s) [] [] (adK K (.stat C m)) fd := (c.def_ i e).1
end
section
variable {prog : Program} {w : World} {A : Around} {E : Value → Shared → Prop} {s : Shared}
theorem adjust_rev (n : Nat) : Builtin.Slice.sliceAdjust none none (-1) (n : Int) = ((n : Int) - 1, -1) := rfl
theorem places_rev (n : Nat) : Builtin.Slice.slicePlaces ((n : Int) - 1) (-1) (-1) = n := by
  unfold Builtin.Slice.slicePlaces
  rw [if_neg (by decide)]
  split
  · rw [show (- -1 : Int) = 1 by decide, Int.ediv_one]
    omega
  · omega
theorem sliceApplied_rev {sl : Addr} {t : Tok} {n : Nat} {Q : Int × Int × Nat → Shared → Prop} (hs : s.heap.IsSliceOf sl .none .none (.int (-1) t))
    (h : Q ((n : Int) - 1, -1, n) s) : wpAny (model prog w) A (Builtin.Slice.sliceApplied (.ref sl) (pure (n : Int))) Q E s := by
  obtain ⟨os, hos, hcs, hds⟩ := id hs
  unfold Builtin.Slice.sliceApplied Builtin.Slice.sliceFields
  refine wpAny_bind (wpAny_bind (wpAny_field hos hds (x := .none) rfl (wpAny_bind (wpAny_field hos hds (x := .none) rfl (wpAny_bind (wpAny_field hos hds (x := .int (-1) t) rfl (wpAny_pure ?_)))))))
  refine wpAny_bind (slicePart_int ?_)
  show wpAny _ _ (if ((-1 : Int) == 0) = true then _ else _) _ _ s
  rw [if_neg (by decide)]
  refine wpAny_bind (slicePart_none (wpAny_bind (slicePart_none (wpAny_bind (wpAny_pure ?_)))))
  show wpAny _ _ (match Builtin.Slice.sliceAdjust none none (-1) (n : Int) with | (lo, hi) => pure (lo, (-1 : Int), Builtin.Slice.slicePlaces lo hi (-1))) _ _ s
  rw [adjust_rev n]
  show wpAny _ _ (pure ((n : Int) - 1, (-1 : Int), Builtin.Slice.slicePlaces ((n : Int) - 1) (-1) (-1))) _ _ s
  rw [places_rev]
  exact wpAny_pure h
theorem pick_rev (xs : Array Value) : ((List.range xs.size).filterMap fun (m : Nat) => xs[((xs.size : Int) - 1 + (m : Int) * (-1)).toNat]?).toArray = xs.toList.reverse.toArray := by
  have h := PySem.W.krv_pick xs
  unfold slicePick at h
  rw [PySem.W.krv_bounds] at h
  have h' : ((sliceRange ((xs.size : Int) - 1) (-1) (-1)).filterMap (xs[·]?)).toArray = xs.toList.reverse.toArray := h
  rw [PySem.W.krv_sliceRange, List.filterMap_map] at h'
  rw [← h']
  congr 2
  funext m
  show xs[((xs.size : Int) - 1 + (m : Int) * (-1)).toNat]? = xs[xs.size - 1 - m]?
  congr 1
  omega
theorem getItem_tuple_rev {t sl : Addr} {u : Tok} {items : Array Value} {Q : Value → Shared → Prop} (ht : IsTup s.heap t items) (hs : s.heap.IsSliceOf sl .none .none (.int (-1) u))
    (h : Q (.ref s.heap.objs.size) { s with heap := s.heap.push { cls := .type "tuple", data := .seq items.toList.reverse.toArray } })
    (hsz : items.size ≤ sizeLine) : wpAny (model prog w) A (getItem (.ref t) (.ref sl)) Q E s := by
  have htake : sizeOk (.seq items.toList.reverse.toArray) := by
    show items.toList.reverse.toArray.size ≤ sizeLine
    rw [List.size_toArray, List.length_reverse, Array.length_toList]
    exact hsz
  obtain ⟨os, hos, hcs, hds⟩ := id hs
  have hTs : s.TypeIs (.ref sl) "slice" := ⟨os, hos, hcs⟩
  unfold getItem
  try with_reducible refine wpAny_holding ?_
  first | refine wpAny_bind (wpAny_pure ?_) | skip
  refine wpAny_bind (wpAny_sequenceKey ht.typeIs (by decide) ?_)
  refine wpAny_bind (wpAny_callSpecial?_slot (name := Str.ofString "__getitem__") ht.typeIs PyProof.Rows.slot_tuple_getitem
    (wpAny_call_entry PyProof.Rows.slot_tuple_getitem ht.typeIs entry_tuple_getitem ?_ (args_tuple_getitem _ _)))
  show wpAny _ _ (Builtin.Tuple.tupleItemsOf (.ref t) >>= _) _ _ s
  refine wpAny_bind (tupleItemsOf_ ht ?_)
  refine wpAny_bind (wpAny_typeOf hTs ?_)
  rw [if_pos (by decide)]
  refine wpAny_bind (sliceApplied_rev hs ?_)
  have hno : ¬ ((((items.size : Int) - 1) == 0 && (-1 : Int) == 1 && items.size == items.size) = true) := by
    rw [show ((-1 : Int) == 1) = false by decide, Bool.and_false, Bool.false_and]
    exact Bool.false_ne_true
  show wpAny _ _ (if (((items.size : Int) - 1) == 0 && (-1 : Int) == 1 && items.size == items.size) = true then _ else _) _ _ s
  rw [if_neg hno, pick_rev]
  first
    | exact wpAny_bind (m := Builtin.Tuple.tupleExact _) (wpAny_newObj_type (wpAny_pure ⟨_, rfl, wpAny_pure h⟩) htake)
    | exact wpAny_bind (m := Builtin.Tuple.tupleExact _) (wpAny_newObj_type (wpAny_bind (wpAny_pure (wpAny_pure ⟨_, rfl, wpAny_pure h⟩))) htake)
    | exact wpAny_bind (wpAny_bind (m := Builtin.Tuple.tupleExact _) (wpAny_newObj_type (wpAny_pure (wpAny_pure ⟨_, rfl, wpAny_pure h⟩)) htake))
    | exact wpAny_bind (wpAny_bind (m := Builtin.Tuple.tupleExact _) (wpAny_newObj_type (wpAny_pure ⟨_, rfl, wpAny_pure h⟩) htake))
end
section
variable {X : Cx} {e : Expr} {te : TE} {f : SemE}
def tRevT (K : PySem.W.Frag) (te : TE) : TE := fun σ H Q => te σ H fun x H1 => ∃ a xs, x = .ref a ∧ SqT K H1 a xs ∧ ∀ p, H1 p = none → Q (.ref p) (upd H1 p (.tup xs.reverse))
theorem pe_revT {k : Nat} {p1 p2 p3 pos : Pos} (he : PE X e te) : PE X (.Subscript e (.Slice none none (some (.UnaryOp .USub (.Constant (.int 1) k p1) p2)) p3) pos) (tRevT X.K te) := by
  refine ⟨fun pins s σ H Q I h => ?_⟩
  refine Subscript_ (thn (he.run pins s σ H _ I h) fun v s1 ⟨x, H1, I1, r1, q1⟩ => ?_)
  obtain ⟨a, xs, ex, hx, q⟩ := q1
  subst ex
  cases r1
  have hst : PO X (some (.UnaryOp .USub (.Constant (.int 1) k p1) p2)) (tPart (tUn (rU fun i => .int (-i)) (tC (.int 1)))) := po_some (pe_un un_neg pe_int)
  refine wpAny_Slice (thn (po_none.run pins s1 σ H1 (fun o H2 => o = none ∧ H2 = H1) I1 ⟨rfl, rfl⟩) fun vl s2 ⟨l, H2, I2, pl, el, e2⟩ => ?_)
  subst el e2
  refine thn (po_none.run pins s2 σ H2 (fun o H3 => o = none ∧ H3 = H2) I2 ⟨rfl, rfl⟩) fun vu s3 ⟨u, H3, I3, pu, eu, e3⟩ => ?_
  subst eu e3
  refine thn (hst.run pins s3 σ H3 (fun o H4 => o = some (-1) ∧ H4 = H3) I3 ⟨1, rfl, -1, rfl, rfl, rfl⟩) fun vs s4 ⟨o, H4, I4, ps, eo, e4⟩ => ?_
  subst eo e4
  have I5 : Inv X pins σ H4 { s4 with heap := s4.heap.push { cls := .type "slice", data := .fields #[vl, vu, vs] } } := I4.kept (t' := s4.toks) fun b ob q => Heap.get?_push_of_some _ q
  obtain ⟨its, r, ht, hz⟩ := I5.tuple hx
  have hlen := r.length
  cases pl
  cases pu
  cases ps with
  | int i tk =>
  show wpAny (model X.prog X.w) X.A (subscriptTail e (.Slice none none (some (.UnaryOp .USub (.Constant (.int 1) k p1) p2)) p3) (.ref a) (.ref s4.heap.objs.size)) (EP X pins σ Q) X.xe { s4 with heap := s4.heap.push { cls := .type "slice", data := .fields #[.none, .none, .int (-1) tk] } }
  refine tail_any (ops := [.ref a, .ref s4.heap.objs.size]) ht.typeIs (PyProof.Rows.slot_tuple_getitem.lookup) ?_ (by with_unfolding_all rfl)
  refine getItem_tuple_rev ht (Heap.IsSliceOf.new _ .none .none (.int (-1) tk)) ?_ (by rw [List.size_toArray]; omega)
  refine ⟨.ref _, _, I5.laid (t' := s4.toks) (o := .tup xs.reverse) (fun b ob q => Heap.get?_push_of_some _ q) (Nat.le_refl _) ?_, rfl, q _ (I5.hok.fresh (Nat.le_refl _))⟩
  exact ⟨by rw [List.length_reverse]; exact hz, _, r.reverse, _, Heap.get?_push_size _ rfl, rfl, 0, rfl⟩
/-- t[::-1] -/
def sRevT (f : SemE) : SemE := fun env st => (f env st).bind fun d st1 => match d with
  | .tup ds => .ok (.tup ds.reverse) st1
  | _ => .bad
theorem Reps.reverse {K : PySem.W.Frag} {w : World} {H : Hp} {ρ : List Addr} : ∀ {ds : List D} {vs : List V}, Reps K w H ρ ds vs → Reps K w H ρ ds.reverse vs.reverse
  | [], vs, h => by unfold Reps at h; subst h; exact Reps.nil
  | d :: ds, vs, h => by
    unfold Reps at h
    obtain ⟨v, r, rfl, h1, h2⟩ := h
    rw [List.reverse_cons, List.reverse_cons]
    exact (Reps.reverse h2).append (Reps.cons h1 Reps.nil)
theorem de_revT {k : Nat} {p1 p2 p3 pos : Pos} (ha : DE X e f) : DE X (.Subscript e (.Slice none none (some (.UnaryOp .USub (.Constant (.int 1) k p1) p2)) p3) pos) (sRevT f) :=
  PE.weak (pe_revT ha) fun σ H Q ⟨ρ, env, st, at_, h⟩ => by
    refine ⟨ρ, env, st, at_, (RR.bind h).mono fun d st1 H1 ρ1 a1 ⟨_, k⟩ v r => ?_⟩
    cases d with
    | tup ds =>
      unfold Rep at r
      obtain ⟨p, vs, rfl, hq, z, rs⟩ := r
      refine ⟨p, vs, rfl, hq, fun q hq' => ?_⟩
      obtain ⟨b1, b2⟩ := new_tup (X := X) a1.r hq' rs.reverse (by rw [List.length_reverse]; exact z)
      exact k _ _ b1 _ b2
    | _ => exact k.elim
end
/-! ### what is to be shown -/
theorem WR_sRevT {f : SemE} {env : En} {st : Sto} {Q : D → Sto → Prop} : WR (sRevT f env st) Q = WR (f env st) fun d s => match d with
    | .tup ds => Q (.tup ds.reverse) s
    | _ => False := by
  unfold sRevT
  rw [WR_bind]
  congr
  funext d s
  cases d <;> rfl
/-! ### xs == [], whatever the items are -/
theorem rc_len {prog : Program} {w : World} {A : Around} {s : Shared} {l b : Addr} {items items2 : Array Value} (hl : s.heap.IsList l items) (hb : s.heap.IsList b items2) (hsz : (items.size != items2.size) = true) (hu : A.units < cLine)
    (E Q : Value → Shared → Prop) (h : Q (.bool false) s) : wpAny (model prog w) A (richCompare .Eq (.ref l) (.ref b)) Q E s := by
  obtain ⟨⟨cls, dd, data, sl⟩, ho, hc, n, hd⟩ := id hl
  obtain ⟨⟨cls2, dd2, data2, sl2⟩, ho2, hc2, n2, hd2⟩ := id hb
  simp only at hc hd hc2 hd2
  subst hc hd hc2 hd2
  have ta : s.TypeIs (.ref l) "list" := ⟨_, ho, rfl⟩
  have tb : s.TypeIs (.ref b) "list" := ⟨_, ho2, rfl⟩
  exact wpAny_richCompare_same_room (op := .Eq) ta tb F.slot_list_eq (call_meets F.slot_list_eq ta F.entry_list_eq (F.args_list_eq_2 _ _) (SeqAt.list_eq_lengthsAt l b items items2 n n2 dd dd2 sl sl2 hsz)
    ⟨ho, ho2, show Value.bool false ≠ Value.notImplemented ∧ Q (.bool false) s from ⟨(fun x => nomatch x), h⟩⟩) hu
def oEqL (st : Sto) (a b : D) : Option D := match a, b with
  | .lst (_ :: _), .lst [] => some (.bl false)
  | a, b => oEq st a b
section
variable {X : Cx}
theorem od_eqL (hu : X.A.units + 64 < cLine) : OpD X (compareOp .Eq) oEqL := by
  intro pins s σ H ρ st x y v u a b d I hs rx ry ra rb e
  unfold oEqL at e
  split at e
  · rename_i c cs
    obtain rfl : D.bl false = d := Option.some.inj e
    unfold Rep at ra rb
    obtain ⟨p, vs, rfl, hq, z, rs⟩ := ra
    obtain ⟨p2, vs2, rfl, hq2, z2, rs2⟩ := rb
    cases rx
    cases ry
    obtain ⟨its, r, ht, hz⟩ := I.list hq.sq
    obtain ⟨its2, r2, ht2, hz2⟩ := I.list hq2.sq
    have l1 := rs.length
    have l2 := rs2.length
    have m1 := r.length
    have m2 := r2.length
    exact rc_len ht.isList ht2.isList (by
      rw [List.size_toArray, List.size_toArray]
      simp only [List.length_cons, List.length_nil] at l1 l2
      simp
      omega) (by omega) _ _ (VP.bl I hs _)
  · exact od_eq hu pins s σ H ρ st x y v u _ _ d I hs rx ry ra rb e
end
theorem oEqL_nil {st : Sto} {xs : List D} : oEqL st (.lst xs) (.lst []) = some (.bl xs.isEmpty) := by
  cases xs with
  | nil => rfl
  | cons x xs => rfl
/-! ### types of references -/
theorem ref_ty {st : Sto} {n : Nat} {t : String} (h : tyOf st (.ref n) = some t) : t = "list" ∨ t = "dict" ∨ t = "object" := by
  have e : (match st[n]? with
    | some (.lst _) => some "list"
    | some (.dct _) => some "dict"
    | some (.ins _ _) => some "object"
    | _ => none) = some t := h
  cases es : st[n]? with
  | none => rw [es] at e; cases e
  | some o =>
    rw [es] at e
    cases o with
    | lst ds => cases e; exact .inl rfl
    | dct ds => cases e; exact .inr (.inl rfl)
    | ins c fs => cases e; exact .inr (.inr rfl)
    | dead => cases e
theorem isTy_object_bool : isTy "object" "bool" = false := by decide
theorem isTy_object_int : isTy "object" "int" = false := by decide
theorem isTy_object_str : isTy "object" "str" = false := by decide
theorem isTy_object_tuple : isTy "object" "tuple" = false := by decide
theorem isTy_object_list : isTy "object" "list" = false := by decide
theorem isTy_object_dict : isTy "object" "dict" = false := by decide
/-- an error class of the program's own, without an __init__ -/
structure ExcT (K : PySem.W.Frag) (mg : Str → Option Value) (C : Str) : Prop where
  glo : mg C = some (.ref (He.ga K C))
  ex : PySem.W.excIn K (He.ga K C) He.veBase "ValueError.__new__" = true
  kp : PySem.W.keepIn K (.ref (He.ga K C)) = true
  sub : PySem.W.subIn K (.ref (He.ga K C)) (.type "BaseException") = some true
  ty : PySem.W.typeIn K (.ref (He.ga K C)) = some (.type "type")
section
variable {X : Cx} {C : Addr} {bmB : List Value} {B newId initId : String}
/-- X() -/
theorem pmk_own0 {x : Str} {p pos : Pos} (F : ExcBaseFacts B newId initId bmB) (q : PySem.W.excIn X.K C bmB newId = true) (gC : X.mg x = some (.ref C)) (kC : PySem.W.keepIn X.K (.ref C) = true) (r : Raises X (.ref C)) (hg : Gl X x)
    (hdb : (x == ("__debug__" : Str)) = false := by decide) : PMk X (.Call (.Name x p) [] [] pos) (fun _ H Q => Q (.ref C) none H) := by
  intro pins s σ H Q I h
  refine wpAny_Call_Name_kw (ld_glob I hg gC ?_ hdb)
  refine PySem.W.callWith_K0 I.kIn kC ?_
  show wpAny _ _ (call (.ref C) []) _ _ _
  obtain ⟨bm, N, nm, qn, bs, hdct, sn, sub, ab, col, dd, k0, k1, k2, k3, k5, mN, hC, hN, hni, T⟩ := exc_obj I.kIn q
  refine wpAny_call_exc_subT F T hC hN hni (fun h' e hm => ?_) (Nat.zero_le _)
  exact mk_of I hm r h (I.hok.gone hm.new)
end
def sRaise (C : Str) : SemS := fun env st => .exc ⟨C, .non⟩ env st
section
variable {X : Cx} {C : Str} {p pos pos' : Pos}
theorem ds_raise0 (hc : X.calm = true) (T : ExcT X.K X.mg C) (hg : Gl X C := by rfl) (hdb : (C == ("__debug__" : Str)) = false := by decide) : DS X (.Raise (some (.Call (.Name C p) [] [] pos)) none pos') (sRaise C) :=
  PS.weak (ps_raise hc (takes_WT X) (pmk_own0 PySem.F.excBase_ValueError T.ex T.glo T.kp (raises_own T.sub T.ty) hg hdb)) fun D σ H ⟨ρ, env, st, at_, h⟩ =>
    h (.ref (He.ga X.K C)) none σ H ρ (Aft.refl at_.st) at_.en ⟨rfl, rfl⟩
end
/-! ### what the exception of a suite is an instance of -/
/-- the exception at a, of the class cls, in the slot i; the objects as they lie; Q behind -/
def XH (X : Cx) (i : Nat) (a : Addr) (cls : Value) (d : Option Addr) (Es : List Str) (σ : L2.St) (H : Hp) (R : Str → List Addr → Sto → Prop) : Prop :=
  σ[i]? = some (some (.ref a)) ∧ d = none ∧ ∃ c ∈ Es, cls = .ref (He.ga X.K c) ∧ ∃ ρ st, RelSt X.K X.w H ρ st ∧ R c ρ st
def tXE (X : Cx) (i : Nat) (a : Addr) (cls : Value) (d : Option Addr) (Es : List Str) (f : Str → Bool) : TE := fun σ H Q => XH X i a cls d Es σ H fun c ρ st => ∀ H' ρ', Aft X.K X.w H ρ st H' ρ' → Q (.bl (f c)) H'
def tXA (X : Cx) (i : Nat) (a : Addr) (cls : Value) (d : Option Addr) (Es : List Str) (f : Str → List Bool) : TA := fun σ H Q => XH X i a cls d Es σ H fun c ρ st => ∀ H' ρ', Aft X.K X.w H ρ st H' ρ' → Q ((f c).map .bl) H'
section
variable {X : Cx} {i : Nat} {a : Addr} {oe : Obj} {cls : Value} {d : Option Addr} {pn : List (Addr × Obj)} {Es : List Str} {n C : Str} {p q1 q2 pos : Pos}
theorem pa_xnil : PA (X.suite a ((a, oe) :: pn)) [] (tXA X i a cls d Es fun _ => []) := PA.weak pa_nil fun σ H Q ⟨_, _, c, _, _, ρ, st, hs, q⟩ => q H ρ (Aft.refl hs)
theorem pa_xcons {e : Expr} {es : List Expr} {f : Str → Bool} {g : Str → List Bool} (he : PE (X.suite a ((a, oe) :: pn)) e (tXE X i a cls d Es f)) (hr : PA (X.suite a ((a, oe) :: pn)) es (tXA X i a cls d Es g))
    (hs : starEach (e :: es) X.env = (false, eval e X.env) :: starEach es X.env := by rfl) : PA (X.suite a ((a, oe) :: pn)) (e :: es) (tXA X i a cls d Es fun c => f c :: g c) :=
  PA.weak (pa_cons he hr hs) fun σ H Q ⟨h1, h2, c, hc, ec, ρ, st, rs, q⟩ => ⟨h1, h2, c, hc, ec, ρ, st, rs, fun H1 ρ1 a1 => ⟨h1, h2, c, hc, ec, ρ1, st, a1.r, fun H2 ρ2 a2 => q H2 ρ2 (a1.trans a2)⟩⟩
/-- isinstance(e, C), C a class of the program's own -/
theorem pe_isX (hz : Zc cls d oe) (hf : ∃ vs, oe.data = .fields vs) (hE : ∀ c ∈ Es, ExcC X.K (He.ga X.K c)) {f : Str → Bool} (hT : ∀ c ∈ Es, PySem.W.kitOne X.K (.ref (He.ga X.K c)) (.ref (He.ga X.K C)) = some (f c))
    (hN : X.N[i]? = some n) (hv : Vis X.env.scope n) (hgC : X.mg C = some (.ref (He.ga X.K C))) (hm : X.mg "isinstance" = none) (hg : Gl X "isinstance" := by rfl) (hgl : Gl X C := by rfl)
    (hdn : (n == ("__debug__" : Str)) = false := by decide) (hcn : (n == ("__classdict__" : Str)) = false := by decide) (hdC : (C == ("__debug__" : Str)) = false := by decide)
    (he : starEach [.Name n q1, .Name C q2] X.env = (false, eval (.Name n q1) X.env) :: starEach [.Name C q2] X.env := by rfl) (hpl : (backTo pos (starEach [.Name C q2] X.env)).any (·.1) = false := by rfl) (h1 : starEach [.Name C q2] X.env = (false, eval (.Name C q2) X.env) :: starEach [] X.env := by rfl) :
    PE (X.suite a ((a, oe) :: pn)) (.Call (.Name "isinstance" p) [.Name n q1, .Name C q2] [] pos) (tXE X i a cls d Es f) := by
  refine ⟨fun pins s σ H Q I h => ?_⟩
  obtain ⟨hi, rfl, c, hc, rfl, ρ, st, rs, q⟩ := h
  exact (pe_callB (call_isE (hE c hc) hz hf) hg hm boot_isinstance (pa_cons (pe_var hN hv hdn hcn) (pa_cons (pe_glob (v := .ref (He.ga X.K C)) hgl hgC rfl hdC) pa_nil h1) he) (by decide) (by decide) he hpl).run pins s σ H Q I
    ⟨_, hi, .ref (He.ga X.K C), .ref (He.ga X.K C), f c, rfl, fun u hu => hu, hT c hc, q H ρ (Aft.refl rs)⟩
/-- isinstance(e, T), T a built-in type -/
theorem pe_isXB {Ts : String} (hz : Zc cls d oe) (hf : ∃ vs, oe.data = .fields vs) (hE : ∀ c ∈ Es, ExcC X.K (He.ga X.K c)) {f : Str → Bool} (hT : ∀ c ∈ Es, PySem.W.kitOne X.K (.ref (He.ga X.K c)) (.type Ts) = some (f c))
    (hN : X.N[i]? = some n) (hv : Vis X.env.scope n) (hb : bootBuiltins C = some (.type Ts)) (hgC : X.mg C = none) (hm : X.mg "isinstance" = none) (hg : Gl X "isinstance" := by rfl) (hgl : Gl X C := by rfl)
    (hdn : (n == ("__debug__" : Str)) = false := by decide) (hcn : (n == ("__classdict__" : Str)) = false := by decide) (hnC : C ≠ "__name__" := by decide) (hdC : (C == ("__debug__" : Str)) = false := by decide)
    (he : starEach [.Name n q1, .Name C q2] X.env = (false, eval (.Name n q1) X.env) :: starEach [.Name C q2] X.env := by rfl) (hpl : (backTo pos (starEach [.Name C q2] X.env)).any (·.1) = false := by rfl) (h1 : starEach [.Name C q2] X.env = (false, eval (.Name C q2) X.env) :: starEach [] X.env := by rfl) :
    PE (X.suite a ((a, oe) :: pn)) (.Call (.Name "isinstance" p) [.Name n q1, .Name C q2] [] pos) (tXE X i a cls d Es f) := by
  refine ⟨fun pins s σ H Q I h => ?_⟩
  obtain ⟨hi, rfl, c, hc, rfl, ρ, st, rs, q⟩ := h
  exact (pe_callB (call_isE (hE c hc) hz hf) hg hm boot_isinstance (pa_cons (pe_var hN hv hdn hcn) (pa_cons (pe_bltn (v := .ty Ts) hgl hgC hb rfl hnC hdC) pa_nil h1) he) (by decide) (by decide) he hpl).run pins s σ H Q I
    ⟨_, hi, .ty Ts, .type Ts, f c, rfl, fun u hu => hu, hT c hc, q H ρ (Aft.refl rs)⟩
/-- isinstance(e, (c1, c2, ..)): the tuple that was just laid -/
theorem call_isET {X : Cx} {a D : Addr} {oe : Obj} {pn : List (Addr × Obj)} (C : ExcC X.K D) (hz : Zc (.ref D) none oe) (hf : ∃ vs, oe.data = .fields vs) : CallR (X.suite a ((a, oe) :: pn)) (.builtin "isinstance")
    (fun xs H Q => ∃ (tp : Addr) (cs : List V) (us : List Value) (b : Bool), xs = [.ref a, .ref tp] ∧ H tp = some (.tup cs) ∧ Paired ClsV cs us ∧ PySem.W.kitAny X.K (.ref D) us = some b ∧ Q (.bl b) H) := by
  intro pins s σ H xs us Q I r h
  obtain ⟨tp, cs, ws, b, rfl, hT, k, e, q⟩ := h
  obtain ⟨u1, u2, rfl, r1, r2⟩ := vals2 r
  cases (show u1 = Value.ref a from r1)
  cases (show u2 = Value.ref tp from r2)
  obtain ⟨hget, _⟩ := I.pin (a, oe) (List.mem_append.mpr (.inl List.mem_cons_self))
  obtain ⟨vs, hv⟩ := hf
  have J : PySem.W.InstAt s.heap a oe D none := by
    obtain ⟨oc, od, oda, osl⟩ := oe
    obtain ⟨h1, h2⟩ := hz
    dsimp only at h1 h2 hv
    subst h1 h2 hv
    exact ⟨hget, rfl, rfl, trivial⟩
  obtain ⟨_, its, rv, o, h1, h2, n, h3⟩ := (show ObjOk X.prog X.w H s.heap tp (.tup cs) from I.hok tp _ hT)
  have e3 := ClsV.all k rv
  subst e3
  obtain ⟨oc, od, dt, sl⟩ := o
  simp only at h2 h3
  subst h2 h3
  exact PySem.W.kia_tup (PySem.W.handS_kitx_exc C.hg C.hk C.hs C.hd C.ha C.hn C.ht C.hm) I.kIn J h1 e (fun z => nomatch z) fun tk => ⟨.bl b, H, I.tok tk, rfl, q⟩
/-- the classes of a tuple, by name -/
theorem pa_cls {X : Cx} : ∀ {es : List Expr} {Cs : List Str}, Paired (fun (e : Expr) (C : Str) => PE X e (tC (.ref (He.ga X.K C))) ∧ ∀ es', starEach (e :: es') X.env = (false, eval e X.env) :: starEach es' X.env) es Cs → PA X es (fun _ H Q => Q (Cs.map fun C => V.ref (He.ga X.K C)) H)
  | _, _, .nil => PA.weak pa_nil fun σ H Q q => q
  | _, _, .cons h t => PA.weak (pa_cons h.1 (pa_cls t) (h.2 _)) fun σ H Q q => q
theorem paired_cls {K : PySem.W.Frag} : ∀ Cs : List Str, Paired ClsV (Cs.map fun C => V.ref (He.ga K C)) (Cs.map fun C => Value.ref (He.ga K C))
  | [] => .nil
  | C :: Cs => .cons (.own _) (paired_cls Cs)
theorem pe_isXT {es : List Expr} {Cs : List Str} {k : Nat} (hz : Zc cls d oe) (hf : ∃ vs, oe.data = .fields vs) (hE : ∀ c ∈ Es, ExcC X.K (He.ga X.K c)) {f : Str → Bool} (hT : ∀ c ∈ Es, PySem.W.kitAny X.K (.ref (He.ga X.K c)) (Cs.map fun C => Value.ref (He.ga X.K C)) = some (f c))
    (hes : Paired (fun (e : Expr) (C : Str) => PE (X.suite a ((a, oe) :: pn)) e (tC (.ref (He.ga X.K C))) ∧ ∀ es', starEach (e :: es') X.env = (false, eval e X.env) :: starEach es' X.env) es Cs) (hlen : Cs.length ≤ 1000)
    (hN : X.N[i]? = some n) (hv : Vis X.env.scope n) (hm : X.mg "isinstance" = none) (hg : Gl X "isinstance" := by rfl)
    (hdn : (n == ("__debug__" : Str)) = false := by decide) (hcn : (n == ("__classdict__" : Str)) = false := by decide)
    (he : starEach [.Name n q1, .Tuple es k q2] X.env = (false, eval (.Name n q1) X.env) :: starEach [.Tuple es k q2] X.env := by rfl) (hpl : (backTo pos (starEach [.Tuple es k q2] X.env)).any (·.1) = false := by rfl) (h1 : starEach [.Tuple es k q2] X.env = (false, eval (.Tuple es k q2) X.env) :: starEach [] X.env := by rfl) :
    PE (X.suite a ((a, oe) :: pn)) (.Call (.Name "isinstance" p) [.Name n q1, .Tuple es k q2] [] pos) (tXE X i a cls d Es f) := by
  refine ⟨fun pins s σ H Q I h => ?_⟩
  obtain ⟨hi, rfl, c, hc, rfl, ρ, st, rs, q⟩ := h
  refine (pe_callB (call_isET (hE c hc) hz hf) hg hm boot_isinstance (pa_cons (pe_var hN hv hdn hcn) (pa_cons (pe_tup (pa_cls hes)) pa_nil h1) he) (by decide) (by decide) he hpl).run pins s σ H Q I ?_
  refine ⟨_, hi, by rw [List.length_map, sizeLine_eq]; omega, fun t ht => ?_⟩
  exact ⟨t, _, _, f c, rfl, upd_same, paired_cls Cs, hT c hc, q _ ρ (Aft.fresh rs ht)⟩
/-- n = [..]; n.append(..) -/
theorem pss_marks {m : Nat} {x : Str} {es : List Expr} {e : Expr} {f : Str → List Bool} {g : Str → Bool} {r1 r2 r3 r4 r5 : Pos} {apos cpos : Pos} (him : i ≠ m)
    (hA : PA (X.suite a ((a, oe) :: pn)) es (tXA X i a cls d Es f)) (hB : PE (X.suite a ((a, oe) :: pn)) e (tXE X i a cls d Es g)) (hlen : ∀ c, (f c).length ≤ 1000)
    (hN : X.N.Nodup) (hi : X.N[m]? = some x) (hx : Loc X.env.scope x) (hv : Vis X.env.scope x) (hfn : X.fn x = true ∨ X.env.scope.names.lookup x = some .local := by first | exact .inl rfl | exact .inr rfl)
    (hsw : swapsWith (.List es r1) (some (.Name x r2)) r3.line X.env = pure false := by rfl) (hsx : swapsWith (.Call (.Attribute (.Name x r4) "append" apos) [e] [] cpos) none r5.line X.env = pure false := by rfl)
    (hd : (x == ("__debug__" : Str)) = false := by decide) (hcd : (x == ("__classdict__" : Str)) = false := by decide)
    (hb : attributeBase (.Name x r4) "append" X.env (eval (.Name x r4) X.env) = eval (.Name x r4) X.env := by rfl)
    (hfew : ((backTo cpos (starEach [e] X.env)).all (fun x => !x.1) && (backToKw cpos (keywordEach [] X.env)).all (fun x => x.1.isSome) && decide ([e].length + ([] : List Keyword).length + (if ([] : List Keyword).isEmpty then 0 else 1) < 30)) = true := by rfl)
    (hline : (apos.endLine == cpos.line) = true := by rfl) (hs : starEach [e] X.env = (false, eval e X.env) :: starEach [] X.env := by rfl) (hplain : (backTo cpos (starEach [] X.env)).any (·.1) = false := by rfl) :
    PSs (X.suite a ((a, oe) :: pn)) [.Assign [.Name x r2] (.List es r1) r3, .Expr (.Call (.Attribute (.Name x r4) "append" apos) [e] [] cpos) r5]
      (fun D σ H => m < σ.length ∧ XH X i a cls d Es σ H fun c ρ st => ∀ p H' ρ', Aft X.K X.w H ρ (st ++ [.lst ((f c ++ [g c]).map .bl)]) H' ρ' → ρ'[st.length]? = some p → D.nx (σ.set m (some (.ref p))) H') := by
  refine PSs.weak (pss_cons (ps_set (i := m) hN hi hx (pe_lst hA) hsw hfn) (pss_one (ps_expr (pe_bm PySem.F.plainAttrs_list PySem.F.slot_list_append PySem.F.type_list_append mt_append (pe_var (i := m) hi hv hd hcd) (pa_cons hB pa_nil hs) hb hfew hline hs hplain) hsx))) fun D σ H ⟨hsl, h1, h2, c, hc, ec, ρ, st, rs, q⟩ => ?_
  refine ⟨h1, h2, c, hc, ec, ρ, st, rs, fun H1 ρ1 a1 => ⟨?_, fun p hp => ?_⟩⟩
  · rw [List.length_map]
    have := hlen c
    rw [sizeLine_eq]
    omega
  have hbl : ∀ (bs : List Bool) (H : Hp) (ρ : List Addr), Reps X.K X.w H ρ (bs.map .bl) (bs.map .bl) := fun bs H ρ => by
    induction bs with
    | nil => exact Reps.nil
    | cons b bs ih => exact Reps.cons (by unfold Rep; rfl) ih
  have f2 : Aft X.K X.w H1 ρ1 (st ++ [.lst ((f c).map .bl)]) (upd H1 p (.lst ((f c).map .bl))) (ρ1 ++ [p]) := Aft.grow a1.r hp (so := .lst ((f c).map .bl)) ⟨_, upd_same, by rw [List.length_map, sizeLine_eq]; have := hlen c; omega, hbl _ _ _⟩
  have hml : m < σ.length := hsl
  refine ⟨.ref p, List.getElem?_set_self hml, .inl ⟨rfl, _, SqL.of upd_same⟩, ?_⟩
  refine ⟨by rw [List.getElem?_set_ne him.symm]; exact h1, h2, c, hc, ec, ρ1 ++ [p], st ++ [.lst ((f c).map .bl)], f2.r, fun H3 ρ3 a3 => ?_⟩
  have el : st.length = ρ1.length := a1.r.len.symm
  have ep : ρ3[st.length]? = some p := pre_get a3.p (by rw [el]; exact List.getElem?_concat_length)
  have es : (st ++ [SO.lst ((f c).map .bl)])[st.length]? = some (.lst ((f c).map .bl)) := List.getElem?_concat_length
  obtain ⟨vs, hv3, z3, rs3⟩ := a3.r.lst es ep
  have mu : Mut (H3 p) := by rw [hv3]; trivial
  refine ⟨p, vs, .bl (g c), rfl, rfl, hv3, ?_, ?_⟩
  · rw [rs3.length, List.length_map, sizeLine_eq]
    have := hlen c
    omega
  have a4 := Aft.write (so := .lst ((f c ++ [g c]).map .bl)) a3.r ep mu ⟨vs ++ [.bl (g c)], upd_same, by rw [List.length_map, List.length_append, sizeLine_eq]; have := hlen c; simp; omega, by
    rw [List.map_append]
    exact (rs3.append (Reps.cons (by unfold Rep; rfl) Reps.nil)).stay (Stays.mut mu) (List.prefix_refl _)⟩
  have e5 : (st ++ [SO.lst ((f c).map .bl)]).set st.length (.lst ((f c ++ [g c]).map .bl)) = st ++ [.lst ((f c ++ [g c]).map .bl)] := by
    rw [List.set_append_right _ _ (Nat.le_refl _), Nat.sub_self]
    rfl
  rw [e5] at a4
  exact q p _ _ (((a1.trans f2).trans a3).trans a4) ep
end
/-! ### try: .. except X as e: marks -/
/-- the suite's reading -/
def tMk (X : Cx) (i m : Nat) (Es : List Str) (F : Str → List Bool) (a : Addr) (cls : Value) (d : Option Addr) : TS := fun D σ H => m < σ.length ∧ XH X i a cls d Es σ H fun c ρ st => ∀ p H' ρ', Aft X.K X.w H ρ (st ++ [.lst ((F c).map .bl)]) H' ρ' → ρ'[st.length]? = some p → D.nx (σ.set m (some (.ref p))) H'
def sTryM (i m : Nat) (Es : List Str) (F : Str → List Bool) (f : SemS) : SemS := fun env st => match f env st with
  | .exc e env' st' => if e.cls ∈ Es ∧ e.val.isNon = true ∧ i < env'.length ∧ m < env'.length then .nx ((env'.set m (some (.ref st'.length))).set i none) (st' ++ [.lst ((F e.cls).map .bl)]) else .bad
  | r => r
def RSW (X : Cx) (W : WX) (D : Ends) (H : Hp) (ρ : List Addr) (r : ResS) : Prop := match r with
  | .exc e env' st' => ∀ cls dd σ' H' ρ', Aft X.K X.w H ρ st' H' ρ' → RelEn X.K X.w H' ρ' σ' env' → RepX X.K X.w H' ρ' e cls dd → W cls dd σ' H'
  | r => RS X D H ρ r
section
variable {X : Cx} {i m : Nat} {x n : Str} {Es : List Str} {F : Str → List Bool} {body suite : List Stmt} {b₀ : Stmt} {f : SemS} {np pos pos' : Pos}
theorem ds_tryM (hs : X.stack = X.env :: X.outer) (hf : X.env.frame = some X.env.locals) (hN : X.N.Nodup) (hi : X.N[i]? = some n) (hln : X.env.kindOf n = some .local) (him : i ≠ m) (hgx : Gl X x) (hdx : (x == ("__debug__" : Str)) = false) (hmx : X.mg x = some (.ref (He.ga X.K x)))
    (hx : ∀ c ∈ Es, PySem.W.exmOne X.K (.ref (He.ga X.K c)) (.ref (He.ga X.K x)) = some true)
    (hb : ∀ (pn : List (Addr × Obj)) (xe : Value → Shared → Prop), PassesOwn (model X.prog X.w) X.A X.env xe → DSs (X.tr pn xe) body f)
    (hsu : ∀ (a : Addr) (oe : Obj) (cls : Value) (d : Option Addr) (pn : List (Addr × Obj)), Zc cls d oe → (∃ vs, oe.data = .fields vs) → PSs (X.suite a ((a, oe) :: pn)) (b₀ :: suite) (tMk X i m Es F a cls d)) :
    DS X (.Try body [.ExceptHandler (some (.Name x np)) (some n) (b₀ :: suite) pos'] [] [] pos) (sTryM i m Es F f) := by
  refine PS.weak (ps_try_as (tb := fun W D σ H => ∃ ρ env st, At X σ H ρ env st ∧ RSW X W D H ρ (f env st)) (ts := tMk X i m Es F) hs hf hN hi hln ⟨hgx, hdx, .inl hmx⟩ (takes_WT X) (fun W pn xe tk pa => ?_) hsu) fun D σ H ⟨ρ, env, st, at_, h⟩ => ?_
  · refine PSs.weak (hb pn xe pa) fun D σ H ⟨ρ, env, st, at_, q⟩ => ⟨ρ, env, st, ⟨at_.st, at_.en⟩, ?_⟩
    cases e : f env st with
    | exc x env' st' =>
      rw [e] at q
      exact fun cls dd σ' H' ρ' a en rx => ⟨W, tk, q cls dd σ' H' ρ' a en rx⟩
    | nx e1 s1 => rw [e] at q; exact q
    | ret d s1 => rw [e] at q; exact q
    | brk e1 s1 => rw [e] at q; exact q
    | cnt e1 s1 => rw [e] at q; exact q
    | bad => rw [e] at q; exact q
  · refine ⟨ρ, env, st, at_, ?_⟩
    unfold sTryM at h
    cases e : f env st with
    | exc x env' st' =>
      rw [e] at h
      dsimp only at h
      by_cases hcond : x.cls ∈ Es ∧ x.val.isNon = true ∧ i < env'.length ∧ m < env'.length
      · rw [if_pos hcond] at h
        obtain ⟨c1, c2, c3, c4⟩ := hcond
        intro cls dd σ' H' ρ' a en rx
        obtain ⟨rfl, rd⟩ := rx
        have hdd : dd = none := by
          cases dd with
          | none => rfl
          | some d =>
            refine absurd ?_ rd.1
            cases ev : x.val with
            | non => rfl
            | _ => rw [ev] at c2; cases c2
        subst hdd
        have hsl := en.len
        refine ⟨true, hx _ c1, fun _ ad had => ⟨by rw [List.length_set]; omega, List.getElem?_set_self (by omega), rfl, x.cls, c1, rfl, ρ', st', a.r, fun p H2 ρ2 a2 hp => ?_⟩, fun z => by cases z⟩
        refine h _ H2 ρ2 (a.trans a2) ⟨by simp only [List.length_set]; exact hsl, fun j d hj => ?_⟩
        by_cases ji : j = i
        · subst ji
          rw [List.getElem?_set_self (by rw [List.length_set]; exact c3)] at hj
          cases hj
        · rw [List.getElem?_set_ne (Ne.symm ji)] at hj
          rw [List.getElem?_set_ne (Ne.symm ji)]
          by_cases jm : j = m
          · subst jm
            rw [List.getElem?_set_self c4] at hj
            cases hj
            refine ⟨.ref p, List.getElem?_set_self (by rw [List.length_set]; omega), ?_⟩
            unfold Rep
            exact ⟨p, hp, rfl⟩
          · rw [List.getElem?_set_ne (Ne.symm jm)] at hj
            rw [List.getElem?_set_ne (Ne.symm jm), List.getElem?_set_ne (Ne.symm ji)]
            obtain ⟨v, e1, e2⟩ := en.val j d hj
            exact ⟨v, e1, e2.stay a2.s a2.p⟩
      · rw [if_neg hcond] at h
        exact h.elim
    | nx e1 s1 => rw [e] at h; exact h
    | ret d s1 => rw [e] at h; exact h
    | brk e1 s1 => rw [e] at h; exact h
    | cnt e1 s1 => rw [e] at h; exact h
    | bad => rw [e] at h; exact h
end
/-! ### xs.count(x), xs.index(x): lists of the store -/
def oCount (st : Sto) (a b : D) : Option D := match pyS st a, pyOf b with
  | some (.list xs), some d => if PyData.depthAll xs ≤ 20 ∧ d.depth ≤ 20 then some (.int (xs.countP fun y => PyData.eqv y d : Nat)) else none
  | _, _ => none
def oIndex (st : Sto) (a b : D) : Option D := match pyS st a, pyOf b with
  | some (.list xs), some d => if PyData.depthAll xs ≤ 20 ∧ d.depth ≤ 20 ∧ xs.length ≤ sizeLine then (SeqAt.dataPlace xs d).map fun j => .int (j : Nat) else none
  | _, _ => none
def MtD (X : Cx) (id : String) (op : Sto → D → D → Option D) : Prop := MtR X id fun x xs H Q => ∃ σ ρ env st a b y, At X σ H ρ env st ∧ Rep X.K X.w H ρ a x ∧ xs = [y] ∧ Rep X.K X.w H ρ b y ∧ RR X σ H ρ (ofO (op st a b) st) fun d _ H' ρ' => ∀ v, Rep X.K X.w H' ρ' d v → Q v H'
theorem pyS_of {st : Sto} {b : D} {d : PyData} (h : pyOf b = some d) : pyS st b = some d := by
  cases b with
  | ref n => exact absurd h (by simp [pyOf])
  | _ => exact h
section
variable {X : Cx}
theorem md_count (hu : X.A.units + 64 < cLine) : MtD X "list.count" oCount := by
  intro pins s σ H x xs v us Q I rx rxs h
  obtain ⟨σ', ρ, env, st, a, b, y, at_, ra, rfl, rb, q⟩ := h
  obtain ⟨u, rfl, ru⟩ := rxs.one
  cases ea : pyS st a with
  | none => have : oCount st a b = none := by unfold oCount; rw [ea]
            rw [this] at q; exact q.elim
  | some pa =>
    cases eb : pyOf b with
    | none => have : oCount st a b = none := by unfold oCount; rw [ea, eb]; cases pa <;> rfl
              rw [this] at q; exact q.elim
    | some pb =>
      cases pa with
      | list ys =>
        by_cases hd : PyData.depthAll ys ≤ 20 ∧ pb.depth ≤ 20
        · have : oCount st a b = some (.int (ys.countP fun y => PyData.eqv y pb : Nat)) := by unfold oCount; rw [ea, eb]; dsimp only; rw [if_pos hd]
          rw [this] at q
          obtain ⟨as, r1⟩ := rep_reads I at_.st ra ea rx
          obtain ⟨bs, r2⟩ := rep_reads I at_.st rb (pyS_of eb) ru
          have p1 : PyData.plainAll ys = true := pyS_plain ea
          cases r1 with
          | list h1 h2 h3 h4 =>
            refine SeqAt.count_list_data ⟨_, h1, h2, _, h3⟩ h4 r2 p1 (pyOf_plain eb) (by omega) ?_
            exact ⟨.int _, H, I.tok _, ⟨s.toks, rfl⟩, q H ρ (Aft.refl at_.st) _ (by unfold Rep; rfl)⟩
        · have : oCount st a b = none := by unfold oCount; rw [ea, eb]; dsimp only; rw [if_neg hd]
          rw [this] at q; exact q.elim
      | _ => have : oCount st a b = none := by unfold oCount; rw [ea, eb]
             rw [this] at q; exact q.elim
theorem md_index (hu : X.A.units + 64 < cLine) : MtD X "list.index" oIndex := by
  intro pins s σ H x xs v us Q I rx rxs h
  obtain ⟨σ', ρ, env, st, a, b, y, at_, ra, rfl, rb, q⟩ := h
  obtain ⟨u, rfl, ru⟩ := rxs.one
  cases ea : pyS st a with
  | none => have : oIndex st a b = none := by unfold oIndex; rw [ea]
            rw [this] at q; exact q.elim
  | some pa =>
    cases eb : pyOf b with
    | none => have : oIndex st a b = none := by unfold oIndex; rw [ea, eb]; cases pa <;> rfl
              rw [this] at q; exact q.elim
    | some pb =>
      cases pa with
      | list ys =>
        by_cases hd : PyData.depthAll ys ≤ 20 ∧ pb.depth ≤ 20 ∧ ys.length ≤ sizeLine
        · have e3 : oIndex st a b = (SeqAt.dataPlace ys pb).map fun j => .int (j : Nat) := by unfold oIndex; rw [ea, eb]; dsimp only; rw [if_pos hd]
          rw [e3] at q
          cases ep : SeqAt.dataPlace ys pb with
          | none => rw [ep] at q; exact q.elim
          | some j =>
            rw [ep] at q
            obtain ⟨as, r1⟩ := rep_reads I at_.st ra ea rx
            obtain ⟨bs, r2⟩ := rep_reads I at_.st rb (pyS_of eb) ru
            have p1 : PyData.plainAll ys = true := pyS_plain ea
            cases r1 with
            | list h1 h2 h3 h4 =>
              rename_i o vs n as'
              obtain ⟨hj, hit, hno⟩ := SeqAt.hit_at h4 p1 ep
              have hl := SeqAt.len_at h4
              have hsl := sizeLine_eq
              obtain ⟨cls, dd, dt, sl⟩ := o
              dsimp only at h2 h3
              subst h2 h3
              refine call_meets PySem.F.slot_list_index ⟨_, h1, rfl⟩ PySem.F.entry_list_index (PySem.F.args_list_index_2 _ _)
                (SeqAt.list_indexAt _ vs n dd sl u (fun y => PyData.eqv (SeqAt.readOf s.heap y) pb) j hj (by omega) hit hno) ⟨h1, SeqAt.items_plain h4 r2 p1 (pyOf_plain eb) (by omega), ?_⟩
              exact ⟨.int _, H, I.tok _, ⟨s.toks, rfl⟩, q H ρ (Aft.refl at_.st) _ (by unfold Rep; rfl)⟩
        · have : oIndex st a b = none := by unfold oIndex; rw [ea, eb]; dsimp only; rw [if_neg hd]
          rw [this] at q; exact q.elim
      | _ => have : oIndex st a b = none := by unfold oIndex; rw [ea, eb]
             rw [this] at q; exact q.elim
end
/-- xs.m(x), xs a list of the store -/
def sLm (op : Sto → D → D → Option D) (f g : SemE) : SemE := fun env st => (f env st).bind fun a st1 => match getL st1 a with
  | none => .bad
  | some _ => (g env st1).bind fun b st2 => ofO (op st2 a b) st2
section
variable {X : Cx} {o e : Expr} {f g : SemE} {m : Str} {id : String} {apos cpos : Pos} {op : Sto → D → D → Option D}
theorem de_lm (hmt : MtD X id op) (slot : Slot "list" m id) (hty : typeOf (.builtin id) = pure (.type "method_descriptor")) (ho : DE X o f) (he : DE X e g) (hb : attributeBase o m X.env (eval o X.env) = eval o X.env := by rfl)
    (hfew : ((backTo cpos (starEach [e] X.env)).all (fun x => !x.1) && (backToKw cpos (keywordEach [] X.env)).all (fun x => x.1.isSome) && decide ([e].length + ([] : List Keyword).length + (if ([] : List Keyword).isEmpty then 0 else 1) < 30)) = true := by rfl)
    (hline : (apos.endLine == cpos.line) = true := by rfl) (hs : starEach [e] X.env = (false, eval e X.env) :: starEach [] X.env := by rfl) (hplain : (backTo cpos (starEach [] X.env)).any (·.1) = false := by rfl) : DE X (.Call (.Attribute o m apos) [e] [] cpos) (sLm op f g) :=
  PE.weak (pe_bm PySem.F.plainAttrs_list slot hty hmt ho (pa_cons he pa_nil hs) hb hfew hline hs hplain) fun σ H Q ⟨ρ, env, st, at_, h⟩ => by
    refine ⟨ρ, env, st, at_, (RR.bind h).mono fun d st1 H1 ρ1 a1 ⟨_, k⟩ v r => ?_⟩
    cases eg : getL st1 d with
    | none => rw [eg] at k; exact k.elim
    | some q =>
      rw [eg] at k
      obtain ⟨rfl, e1⟩ := getL_some eg
      have r' := r
      unfold Rep at r'
      obtain ⟨p, ep, rfl⟩ := r'
      obtain ⟨vs, hv, _, _⟩ := a1.r.lst e1 ep
      refine ⟨.inl ⟨rfl, vs, SqL.of hv⟩, ρ1, env, st1, at_.aft a1, (RR.bind k).mono fun y st2 H2 ρ2 a2 ⟨_, k2⟩ v2 r2 => ?_⟩
      exact ⟨σ, ρ2, env, st2, _, y, v2, (at_.aft a1).aft a2, r.stay a2.s a2.p, rfl, r2, k2⟩
end
/-! ### what is to be shown -/
theorem WR_sLm {op : Sto → D → D → Option D} {f g : SemE} {env : En} {st : Sto} {Q : D → Sto → Prop} : WR (sLm op f g env st) Q = WR (f env st) fun a s => (getL s a).isSome = true ∧ WR (g env s) fun b s2 => WO (op s2 a b) fun d => Q d s2 := by
  unfold sLm
  rw [WR_bind]
  congr
  funext a s
  cases getL s a with
  | none => simp [WR]
  | some q =>
    rw [WR_bind]
    simp only [Option.isSome_some, true_and]
    congr
    funext b s2
    rw [WR_ofO]
def XR {α : Type} (r : Res α) (P : Ex → Sto → Prop) : Prop := match r with
  | .exc e st => P e st
  | _ => False
def XS (r : ResS) (P : Ex → En → Sto → Prop) : Prop := match r with
  | .exc e env st => P e env st
  | _ => False
section
variable {env : En} {st : Sto}
theorem XR.mono {α : Type} {r : Res α} {P P' : Ex → Sto → Prop} (h : XR r P) (i : ∀ e s, P e s → P' e s) : XR r P' := by
  cases r with
  | exc e s => exact i e s h
  | _ => exact h
theorem XS.mono {r : ResS} {P P' : Ex → En → Sto → Prop} (h : XS r P) (i : ∀ e n s, P e n s → P' e n s) : XS r P' := by
  cases r with
  | exc e n s => exact i e n s h
  | _ => exact h
theorem XS_sRaise {C : Str} {P : Ex → En → Sto → Prop} (h : P ⟨C, .non⟩ env st) : XS (sRaise C env st) P := h
theorem XS_seq1 {f g : SemS} {P : Ex → En → Sto → Prop} (h : XS (f env st) P) : XS (sSeq f g env st) P := by
  unfold sSeq
  cases e : f env st with
  | exc x n s => rw [e] at h; exact h
  | _ => rw [e] at h; exact h.elim
theorem XS_seq2 {f g : SemS} {P : Ex → En → Sto → Prop} (h : WS (f env st) (fun e s => XS (g e s) P) (fun _ _ => False) (fun _ _ => False)) : XS (sSeq f g env st) P := by
  unfold sSeq
  cases e : f env st with
  | nx n s => rw [e] at h; exact h
  | _ => rw [e] at h; exact h.elim
theorem XR_bind1 {α β : Type} {r : Res α} {k : α → Sto → Res β} {P : Ex → Sto → Prop} (h : XR r P) : XR (r.bind k) P := by
  cases r with
  | exc e s => exact h
  | _ => exact h.elim
theorem XR_bind2 {α β : Type} {r : Res α} {k : α → Sto → Res β} {P : Ex → Sto → Prop} (h : WR r fun a s => XR (k a s) P) : XR (r.bind k) P := by
  cases r with
  | ok a s => exact h
  | _ => exact h.elim
theorem XR_sCall {G : SemF} {fs : SemA} {P : Ex → Sto → Prop} (h : WR (fs env st) fun as s => XR (G as s) P) : XR (sCall G fs env st) P := XR_bind2 h
theorem XR_sCallK {π : List Nat} {G : SemF} {fs : SemA} {P : Ex → Sto → Prop} (h : WR (fs env st) fun as s => as.length = π.length ∧ XR (G (permD π as) s) P) : XR (sCallK π G fs env st) P := by
  refine XR_bind2 (h.mono fun as s q => ?_)
  rw [if_pos q.1]
  exact q.2
theorem XS_bindE {α : Type} {r : Res α} {k : α → Sto → ResS} {P : Ex → En → Sto → Prop} (h : XR r fun e s => P e env s) : XS (r.bindS env k) P := by
  cases r with
  | exc e s => exact h
  | _ => exact h.elim
theorem XS_bindE2 {α : Type} {r : Res α} {k : α → Sto → ResS} {P : Ex → En → Sto → Prop} (h : WR r fun a s => XS (k a s) P) : XS (r.bindS env k) P := by
  cases r with
  | ok a s => exact h
  | _ => exact h.elim
theorem XS_sDrop {f : SemE} {P : Ex → En → Sto → Prop} (h : XR (f env st) fun e s => P e env s) : XS (sDrop f env st) P := XS_bindE h
theorem XS_sRet {f : SemE} {P : Ex → En → Sto → Prop} (h : XR (f env st) fun e s => P e env s) : XS (sRet f env st) P := XS_bindE h
theorem XS_sIfS {c : SemB} {f g : SemS} {P : Ex → En → Sto → Prop} (h : WR (c env st) fun b s => if b = true then XS (f env s) P else XS (g env s) P) : XS (sIfS c f g env st) P := by
  refine XS_bindE2 (h.mono fun b s q => ?_)
  by_cases z : b = true
  · rw [if_pos z] at q ⊢
    exact q
  · rw [if_neg z] at q ⊢
    exact q
theorem XR_mkF {n M : Nat} {body : SemS} {as : List D} {P : Ex → Sto → Prop} (hl : as.length = n) (h : XS (body (as.map some ++ List.replicate (M - n) none) st) fun e _ s => P e s) : XR (mkF n M body as st) P := by
  unfold mkF
  rw [if_pos hl]
  cases e : body (as.map some ++ List.replicate (M - n) none) st with
  | exc x n s => rw [e] at h; exact h
  | _ => rw [e] at h; exact h.elim
variable {N : En → Sto → Prop} {R : D → Sto → Prop} {B : En → Sto → Prop} {i m : Nat} {Es : List Str} {F : Str → List Bool} {f : SemS}
theorem WS_tryM (h : WS (f env st) N R B) : WS (sTryM i m Es F f env st) N R B := by
  unfold sTryM
  cases e : f env st with
  | exc x n s => rw [e] at h; exact h.elim
  | _ => rw [e] at h; exact h
theorem WS_tryX (h : XS (f env st) fun e n s => e.cls ∈ Es ∧ e.val = .non ∧ i < n.length ∧ m < n.length ∧ N ((n.set m (some (.ref s.length))).set i none) (s ++ [.lst ((F e.cls).map .bl)])) : WS (sTryM i m Es F f env st) N R B := by
  unfold sTryM
  cases e : f env st with
  | exc x n s =>
    rw [e] at h
    obtain ⟨h1, h2, h3, h4, h5⟩ := h
    dsimp only
    rw [if_pos ⟨h1, by rw [h2]; rfl, h3, h4⟩]
    exact h5
  | _ => rw [e] at h; exact h.elim
end
def fGlo (C : Str) : FaC := fun K => gloF K C
def fExc (C : Str) : FaC := fun K => gloF K C && He.Fa.ok K (.exc C)
def fFree (x : Str) : FaC := fun K => He.Fa.ok K (.free x)
def fExm (Es : List Str) (x : Str) : FaC := fun K => Es.all fun c => decide (PySem.W.exmOne K (.ref (He.ga K c)) (.ref (He.ga K x)) = some true)
def fKt (Es : List Str) (C : Str) (f : Str → Bool) : FaC := fun K => Es.all fun c => decide (PySem.W.kitOne K (.ref (He.ga K c)) (.ref (He.ga K C)) = some (f c))
def fKb (Es : List Str) (T : String) (f : Str → Bool) : FaC := fun K => Es.all fun c => decide (PySem.W.kitOne K (.ref (He.ga K c)) (.type T) = some (f c))
def fKa (Es : List Str) (Cs : List Str) (f : Str → Bool) : FaC := fun K => Es.all fun c => decide (PySem.W.kitAny K (.ref (He.ga K c)) (Cs.map fun C => Value.ref (He.ga K C)) = some (f c))
def fEC (Es : List Str) : FaC := fun K => Es.all fun c => He.eqO (PySem.W.findIn K (.ref (He.ga K c)) "__getattribute__") (some (some (.builtin "BaseException.__getattribute__"))) && (He.eqO (PySem.W.findIn K (.ref (He.ga K c)) "__getattr__") (some none) &&
  (decide (PySem.W.subIn K (.ref (He.ga K c)) (.type "BaseException") = some true) && (PySem.W.hasDictIn K (He.ga K c) && (He.eqO (PySem.W.findIn K (.ref (He.ga K c)) "__class__") (some (some (.builtin "object.__class__"))) &&
  (He.eqO (PySem.W.specialIn K (.builtin "object.__class__") "__get__") (some (some (.builtin "getset_descriptor.__get__"))) && (decide (PySem.W.takesIn K (.builtin "object.__class__") = some true) && decide (PySem.W.mroIn K (He.ga K c) (.type "object") = some true)))))))
section
variable {K : PySem.W.Frag} {h : Heap} {mg : Str → Option Value} {C x : Str} {Es Cs : List Str} {f : Str → Bool} {T : String}
theorem fGlo_ok (X : K.In h) (G : h.Ns mainGlobals mg) (c : fGlo C K = true) : mg C = some (.ref (He.ga K C)) := He.glo_ok X G c
theorem fFree_ok (X : K.In h) (G : h.Ns mainGlobals mg) (c : fFree x K = true) : mg x = none := He.free_ok X G c
theorem fExc_ok (X : K.In h) (G : h.Ns mainGlobals mg) (c : fExc C K = true) : ExcT K mg C := by
  obtain ⟨c1, c2⟩ := He.ba c
  obtain ⟨e1, e2, e3, e4⟩ := He.exc_ok c2
  exact ⟨He.glo_ok X G c1, e1, e2, e3, e4⟩
theorem fExm_ok (c : fExm Es x K = true) : ∀ e ∈ Es, PySem.W.exmOne K (.ref (He.ga K e)) (.ref (He.ga K x)) = some true := fun e he => of_decide_eq_true (List.all_eq_true.mp c e he)
theorem fKt_ok (c : fKt Es C f K = true) : ∀ e ∈ Es, PySem.W.kitOne K (.ref (He.ga K e)) (.ref (He.ga K C)) = some (f e) := fun e he => of_decide_eq_true (List.all_eq_true.mp c e he)
theorem fKb_ok (c : fKb Es T f K = true) : ∀ e ∈ Es, PySem.W.kitOne K (.ref (He.ga K e)) (.type T) = some (f e) := fun e he => of_decide_eq_true (List.all_eq_true.mp c e he)
theorem fKa_ok (c : fKa Es Cs f K = true) : ∀ e ∈ Es, PySem.W.kitAny K (.ref (He.ga K e)) (Cs.map fun C => Value.ref (He.ga K C)) = some (f e) := fun e he => of_decide_eq_true (List.all_eq_true.mp c e he)
theorem fEC_ok (c : fEC Es K = true) : ∀ e ∈ Es, ExcC K (He.ga K e) := fun e he => by
  have c := List.all_eq_true.mp c e he
  obtain ⟨c1, c⟩ := He.ba c
  obtain ⟨c2, c⟩ := He.ba c
  obtain ⟨c3, c⟩ := He.ba c
  obtain ⟨c4, c⟩ := He.ba c
  obtain ⟨c5, c⟩ := He.ba c
  obtain ⟨c6, c⟩ := He.ba c
  obtain ⟨c7, c8⟩ := He.ba c
  exact ⟨He.eqO_ok c1, He.eqO_ok c2, of_decide_eq_true c3, c4, He.eqO_ok c5, He.eqO_ok c6, of_decide_eq_true c7, of_decide_eq_true c8⟩
end
/-- C.m is a staticmethod: its record at p, its def at g -/
structure SMet (K : PySem.W.Frag) (C : Addr) (mc : Value) (m : Str) (p g : Addr) : Prop where
  at_ : PySem.W.findCls K (.ref C) mc m = some (.get (.builtin "staticmethod.__get__") (.ref p) .none (.ref C))
  rc : ∃ rest, PySem.W.recIn K p "staticmethod" = some (.ref g :: rest)
structure FnZ (P : Program) (w : World) (K : PySem.W.Frag) (mg : Str → Option Value) (base : Heap) (k : Nat) (C m : Str) (ps : List Str) (g : SemF) : Prop where
  glo : mg C = some (.ref (He.ga K C))
  rd : ClX.CRead K (He.ga K C) (.type "type")
  ex : ∃ (p f : Addr) (fd : FuncData), SMet K (He.ga K C) (.type "type") m p f ∧ FnO P w K mg base k ps g f fd
section
variable {X : Cx} {pins : List (Addr × Obj)} {σ : L2.St} {H : Hp} {s : Shared} {C p g : Addr} {mc : Value} {m : Str} {A : Around} {E : Value → Shared → Prop}
theorem getsm_ok {b : Bool} {Q : Value → Shared → Prop} (I : Inv X pins σ H s) (r : ClX.CRead X.K C mc) (k : SMet X.K C mc m p g) (h : ∀ s', Inv X pins σ H s' → Q (.ref g) s') : wpAny (model X.prog X.w) A (getAttr (.ref C) m b) Q E s := by
  obtain ⟨rest, hp⟩ := k.rc
  refine PySem.W.cls_bind I.kIn r.rd k.at_ ?_
  refine wpAny_call (PySem.W.sm_get (s := { s with toks := s.toks + 1 }) I.kIn hp (PySem.W.handed_on rfl ?_))
  exact h _ (I.tok _)
theorem getmethsm_ok {pl : Sem Bool} {Q : Value × List Value → Shared → Prop} (I : Inv X pins σ H s) (r : ClX.CRead X.K C mc) (k : SMet X.K C mc m p g) (h : ∀ s', Inv X pins σ H s' → Q (.ref g, []) s') : wpAny (model X.prog X.w) A (getMethod (.ref C) m pl) Q E s :=
  PySem.W.method_cls I.kIn r.ga (getsm_ok I r k h)
end
section
variable {X : Cx} {k : Nat} {C m : Str} {ps : List Str} {g : SemF} {e : Expr} {es : List Expr} {fs : SemA} {p pos apos : Pos}
theorem de_smeth {pl : Sem Bool} (F : FnZ X.prog X.w X.K X.mg X.base k C m ps g) (hr : Room k X.A) (ha : DA X (e :: es) fs) (hgl : Gl X C := by rfl) (hdC : (C == ("__debug__" : Str)) = false := by decide)
    (hst : starEach (e :: es) X.env = (false, eval e X.env) :: starEach es X.env := by rfl) (hpl : (backTo pos (starEach es X.env)).any (·.1) = false := by rfl)
    (ht : eval (.Call (.Attribute (.Name C p) m apos) (e :: es) [] pos) X.env = (do
      let ov ← eval (.Name C p) X.env
      standAt apos.atName
      let (f, first) ← holding [ov] (getMethod ov m pl)
      callWith pos f first (backTo pos (starEach (e :: es) X.env)) (backToKw pos (keywordEach [] X.env))) := by rfl) :
    DE X (.Call (.Attribute (.Name C p) m apos) (e :: es) [] pos) (sCall g fs) := by
  obtain ⟨q, f, fd, M, F'⟩ := F.ex
  refine ⟨fun pins s σ H Q I h => ?_⟩
  obtain ⟨ρ, env, st, at_, h⟩ := h
  refine PySem.W.methodCall_KW (pl := pl) (thn ((pe_glob (v := .ref (He.ga X.K C)) hgl F.glo rfl hdC).run pins s σ H (fun x H1 => x = .ref (He.ga X.K C) ∧ H1 = H) I ⟨rfl, rfl⟩) fun u s1 ⟨x, H1, I1, rx, ex, eH⟩ => ?_) ht
  subst ex eH
  obtain rfl : u = Value.ref (He.ga X.K C) := rx
  refine getmethsm_ok I1 F.rd M fun s2 I2 => ?_
  refine PySem.W.callWith_K (first := []) (h₀ := X.base) I2.ok.mod.kin F'.kp (thn (ha.run pos pins s2 σ H1 (fun vs H2 => spD X.K X.w g vs H2 Q fun cls d H' => WT X cls d σ H') I2 ⟨ρ, env, st, at_, (RR.bind h).mono fun as st2 H2 ρ2 a2 ⟨_, q⟩ vs rs => ?_⟩) fun us s3 ⟨vs, H2, I3, r, q2⟩ => ⟨I3.kIn, ?_⟩) hst hpl
  · exact spD_of (at_.aft a2) rs q
  · exact run_fnS (E := fun σ cls d H => WT X cls d σ H) F'.ok hr F'.bd (passAt (takes_WT X) σ) I3 r q2
end
/-! ### facts -/
def fStat (C m : Str) : FaC := fun K => gloF K C && (PySem.W.readsIn K (He.ga K C) (.type "type") && (He.eqO (PySem.W.specialIn K (.ref (He.ga K C)) "__getattribute__") (some (some (.builtin "type.__getattribute__"))) &&
  ((match PySem.W.findCls K (.ref (He.ga K C)) (.type "type") m with
    | some (.get a b c d) => decide (a = .builtin "staticmethod.__get__" ∧ b = .ref (He.ma K (He.ga K C) m) ∧ c = .none ∧ d = .ref (He.ga K C))
    | _ => false) && (match PySem.W.recIn K (He.ma K (He.ga K C) m) "staticmethod" with
    | some (.ref _ :: _) => true
    | _ => false))))
theorem fStat_ok {K : PySem.W.Frag} {h : Heap} {mg : Str → Option Value} {C m : Str} (X : K.In h) (G : h.Ns mainGlobals mg) (c : fStat C m K = true) :
    mg C = some (.ref (He.ga K C)) ∧ ClX.CRead K (He.ga K C) (.type "type") ∧ SMet K (He.ga K C) (.type "type") m (He.ma K (He.ga K C) m) (adK K (.stat C m)) := by
  obtain ⟨c1, c⟩ := He.ba c
  obtain ⟨c2, c⟩ := He.ba c
  obtain ⟨c3, c⟩ := He.ba c
  obtain ⟨c4, c5⟩ := He.ba c
  refine ⟨He.glo_ok X G c1, ⟨c2, He.eqO_ok c3⟩, ?_, ?_⟩
  · split at c4
    · rename_i a b d e q
      obtain ⟨rfl, rfl, rfl, rfl⟩ := of_decide_eq_true c4
      exact q
    · cases c4
  · show ∃ rest, PySem.W.recIn K (He.ma K (He.ga K C) m) "staticmethod" = some (.ref (smAd K (He.ma K (He.ga K C) m)) :: rest)
    unfold smAd
    cases q : PySem.W.recIn K (He.ma K (He.ga K C) m) "staticmethod" with
    | none => rw [q] at c5; cases c5
    | some l =>
      rw [q] at c5
      cases l with
      | nil => cases c5
      | cons v rest =>
        cases v with
        | ref g => exact ⟨rest, rfl⟩
        | _ => cases c5
def oCatM (st : Sto) (a b : D) : Option (D × Sto) := match listOf st a, listOf st b with
  | some xs, some ys => if xs.length + ys.length ≤ sizeLine then some (.ref st.length, st ++ [.lst (xs ++ ys)]) else none
  | _, _ => none
section
variable {X : Cx}
theorem de_opM {e e2 : Expr} {fo f2 : SemE} {pos : Pos} {op : Operator} {F : Sto → D → D → Option (D × Sto)} (ho : OpM X (binaryOp op) F) (ha : DE X e fo) (hb : DE X e2 f2) : DE X (.BinOp e op e2 pos) (sOpM F fo f2) :=
  PE.weak (pe_op ho.r ha hb) fun σ H Q ⟨ρ, env, st, at_, h⟩ =>
    ⟨ρ, env, st, at_, (RR.bind h).mono fun a st1 H1 ρ1 a1 ⟨_, q⟩ x rx => ⟨ρ1, env, st1, at_.aft a1, (RR.bind q).mono fun b st2 H2 ρ2 a2 ⟨_, q2⟩ y ry => ⟨σ, ρ2, a, b, env, st2, (at_.aft a1).aft a2, rx.stay a2.s a2.p, ry, q2⟩⟩⟩
theorem od_catM : OpM X (binaryOp .Add) oCatM := by
  intro pins s σ H ρ st x y v u a b p I hs rx ry ra rb e
  unfold oCatM at e
  cases e1 : listOf st a with
  | none => rw [e1] at e; cases e
  | some xs =>
    cases e2 : listOf st b with
    | none => rw [e1, e2] at e; cases e
    | some ys =>
      rw [e1, e2] at e
      dsimp only at e
      by_cases z : xs.length + ys.length ≤ sizeLine
      · rw [if_pos z] at e
        cases e
        obtain ⟨p, vs, rfl, q1, z1, r1⟩ := listOf_ok hs ra e1
        obtain ⟨p2, vs2, rfl, q2, z2, r2⟩ := listOf_ok hs rb e2
        refine thn (op_catL pins s σ H (.ref p) (.ref p2) v u (fun z H' => ∃ ρ', Aft X.K X.w H ρ (st ++ [.lst (xs ++ ys)]) H' ρ' ∧ Rep X.K X.w H' ρ' (.ref st.length) z) I rx ry ⟨p, p2, vs, vs2, rfl, rfl, q1, q2, by rw [r1.length, r2.length]; exact z, fun q hq => ?_⟩) fun r t ⟨z, H', I', rv, ρ', a', r'⟩ => ⟨z, H', ρ', I', rv, a', r'⟩
        refine ⟨ρ ++ [q], Aft.grow hs hq ⟨vs ++ vs2, upd_same, by rw [List.length_append]; exact z, (r1.append r2).stay (Stays.new hq) (List.prefix_append _ _)⟩, ?_⟩
        unfold Rep
        exact ⟨q, by rw [← hs.len]; exact List.getElem?_concat_length, rfl⟩
      · rw [if_neg z] at e; cases e
end
section
variable {prog : Program} {w : World} {K : Type} [DecidableEq K] {knd : HeapKind prog w K} {A : Around} {E : Value → Shared → Prop} {s : Shared}
theorem wpAny_dictPut_heap {d a : Addr} {xs : List (K × Addr × Value)} {k : K} {v : Value} {Q : Unit → Shared → Prop} (hu : knd.room A) (hkey : knd.is s.heap k a) (hm : s.heap.DictOfH knd d xs)
    (hQ : ∀ h', h'.DictOfH knd d (storedH xs k a v) → Heap.SameBut d s.heap h' → Q () { s with heap := h' })
    (hsz : xs.length ≤ sizeLine) :
    wpAny (model prog w) A (dictPut d (knd.hash k) (.ref a) v) Q E s := by
  obtain ⟨o, es, ep, ho, hc, hd, he, his, hn⟩ := hm
  unfold dictPut
  refine wpAny_bind (wpAny_dictFind_heap hu hkey ho hd he his hn ?_ ?_)
  · intro hno
    have hnot : k ∉ xs.map (·.1) := not_mem_keys_of_get hno
    refine wpAny_updateDictKeys (hz := by have e := size_of_entries he; omega) ho hd (hQ _ ⟨_, _, ep + 1, Heap.get?_update_self _ ho (Obj.isFreed_of_dict (Obj.data_mapDictKeys hd _)),
      hc.mapDictKeys _, Obj.data_mapDictKeys hd _, ?_, ?_, ?_⟩ (Heap.SameBut.update ..))
    · rw [storedH_new (atKey_none_of_get hno)]
      simp [he, entryOfKey]
    · rw [storedH_new (atKey_none_of_get hno)]
      intro x hx
      rcases List.mem_append.mp hx with hx | hx
      · exact knd.keeps (his x hx) ho hd (Heap.SameBut.update ..)
      · simp only [List.mem_singleton] at hx
        subst hx
        exact knd.keeps hkey ho hd (Heap.SameBut.update ..)
    · rw [storedH_new (atKey_none_of_get hno)]
      rw [List.map_append, List.nodup_append]
      refine ⟨hn, by simp, ?_⟩
      intro x hx y hy
      simp only [List.map_cons, List.map_nil, List.mem_singleton] at hy
      subst hy
      exact fun e => hnot (e ▸ hx)
  · intro j p hj
    refine wpAny_updateDict ho hd (hQ _ ⟨_, _, ep, Heap.get?_update_self _ ho (Obj.isFreed_of_dict (Obj.data_mapDict hd _)),
      hc.mapDict _, Obj.data_mapDict hd _, ?_, ?_, ?_⟩ (Heap.SameBut.update ..))
    · rw [storedH_old (atKey_of_get hn hj)]
      have := modify_map_putAt (entryOfKey knd) (fun e : DictEntry => { e with val := v }) k v (fun _ _ => rfl) hn hj
      rw [← he] at this
      obtain ⟨l⟩ := es
      simpa using this
    · rw [storedH_old (atKey_of_get hn hj)]
      intro x hx
      obtain ⟨y, hy, rfl⟩ := List.mem_map.mp hx
      unfold putAt
      split <;> exact knd.keeps (his y hy) ho hd (Heap.SameBut.update ..)
    · rw [storedH_old (atKey_of_get hn hj)]
      rw [keys_map_putAt]; exact hn
theorem wpAny_mergeMapping_heap {d o : Addr} {kvs more : List (K × Addr × Value)} {Q : Unit → Shared → Prop} (hu : knd.room A) (hdo : d ≠ o) (hoS : (o == sysModules) = false)
    (hd : s.heap.DictOfH knd d kvs) (ho : s.heap.DictOfH knd o more) (hap : kvs ≠ [] ∨ ((∀ x ∈ more, s.TypeIs (.ref x.2.1) "tuple") ∧ (more.map fun x => knd.hash x.1).Nodup))
    (hQ : ∀ h', h'.DictOfH knd d (storedAllH kvs more) → h'.DictOfH knd o more → Heap.SameBut d s.heap h' → Q () { s with heap := h' })
    (hsz : kvs.length + more.length ≤ sizeLine) :
    wpAny (model prog w) A (mergeMapping d (.ref o) false) Q E s := by
  obtain ⟨od, esd, epd, hod, hcd, hdd, hed, hisd, hnd⟩ := id hd
  obtain ⟨oo, eso, epo, hoo, hco, hdo', heo, hiso, hno⟩ := id ho
  have hlen : eso.size = more.length := size_of_entries heo
  unfold mergeMapping
  refine wpAny_bind (wpAny_isInstance ho.typeIs isSubtype_dict_dict ?_)
  rw [if_pos rfl]
  refine wpAny_bind (wpAny_specialOf ho.typeIs F.slot_dict_iter.lookup ?_)
  refine wpAny_bind (wpAny_pure ?_)
  simp only [beq_self_eq_true]
  rw [if_neg (by rw [hoS]; exact Bool.false_ne_true)]
  refine wpAny_bind (wpAny_dictEntries hod hdd ?_)
  have loop : wpAny (model prog w) A (do
      let l ← dictEntries o
      let epoch ← dictEpoch o
      forIn (List.range l.size) PUnit.unit fun i (_ : PUnit) => (do
          let l' ← dictEntries o
          match l'[i]? with
            | some e => do
              holding [e.key, e.val] (dictPut d e.hash e.key e.val)
              let ep' ← dictEpoch o
              if (ep' != epoch) = true then do
                  (unsupported "dict.changed-during-merge" : Sem PUnit)
                  pure (ForInStep.yield PUnit.unit)
                else pure (ForInStep.yield PUnit.unit)
            | _ => do
              (unsupported "dict.changed-during-merge" : Sem PUnit)
              pure (ForInStep.yield PUnit.unit) : Sem (ForInStep PUnit))
      pure ()) Q E s := by
    refine wpAny_bind (wpAny_dictEntries hoo hdo' ?_)
    refine wpAny_bind (wpAny_dictEpoch hoo hdo' ?_)
    refine wpAny_bind ?_
    rw [List.range_eq_range']
    refine wpAny_forIn_list _
      (fun rest _ s' => ∃ h' i, s' = { s with heap := h' } ∧ rest = List.range' i (eso.size - i) ∧ i ≤ eso.size ∧ h'.DictOfH knd d (storedAllH kvs (more.take i)) ∧ h'.DictOfH knd o more ∧ h'.get? o = some oo ∧ Heap.SameBut d s.heap h')
      _ ?_ ?_ _ _ ⟨s.heap, 0, rfl, by simp, Nat.zero_le _, by simpa [storedAllH] using hd, ho, hoo, Heap.SameBut.refl _ _⟩
    · rintro x rest b s' ⟨h', i, rfl, hr, hi, hd', ho', hoo', hs'⟩
      have hlt : i < eso.size := by
        rcases Nat.lt_or_ge i eso.size with h | h
        · exact h
        · rw [Nat.sub_eq_zero_of_le h] at hr; simp at hr
      obtain ⟨rfl, hrest⟩ : x = i ∧ rest = List.range' (i + 1) (eso.size - (i + 1)) := by
        have e : eso.size - i = (eso.size - (i + 1)) + 1 := by omega
        rw [e, List.range'_succ] at hr
        injection hr with h1 h2
        exact ⟨h1, h2⟩
      refine wpAny_bind (wpAny_dictEntries hoo' hdo' ?_)
      obtain ⟨⟨k, a, v⟩, hkv⟩ : ∃ kv, more[x]? = some kv := ⟨more[x]'(by rw [← hlen]; exact hlt), List.getElem?_eq_getElem _⟩
      rw [entry_at heo x, hkv]
      show wpAny _ _ (holding [.ref a, v] (dictPut d (knd.hash k) (.ref a) v) >>= _) _ _ _
      have hmx : (storedAllH kvs (more.take x)).length ≤ sizeLine := by
        have e1 := storedAllH_length (more.take x) kvs
        have e2 : (more.take x).length ≤ more.length := by rw [List.length_take]; omega
        omega
      have hkey : knd.is h' k a := by
        obtain ⟨_, _, _, _, _, _, _, his', _⟩ := ho'
        exact his' (k, a, v) (List.mem_of_getElem? hkv)
      refine wpAny_bind (wpAny_holding (wpAny_dictPut_heap (s := { s with heap := h' }) (hsz := hmx) hu hkey hd' fun h'' hd'' hs'' => ?_))
      have hoo'' : h''.get? o = some oo := (hs''.2 o (Ne.symm hdo)).trans hoo'
      refine wpAny_bind (wpAny_dictEpoch hoo'' hdo' ?_)
      rw [if_neg (by simp)]
      exact wpAny_pure ⟨h'', x + 1, rfl, hrest, hlt, by rw [storedAllH_take_succ kvs more x (k, a, v) hkv]; exact hd'', ho'.notHere hd' hdo hs'', hoo'', hs'.trans hs''⟩
    · rintro b s' ⟨h', i, rfl, hr, hi, hd', ho', hoo', hs'⟩
      have hin : i = eso.size := by
        rcases Nat.lt_or_ge i eso.size with h | h
        · have e : eso.size - i = (eso.size - (i + 1)) + 1 := by omega
          rw [e, List.range'_succ] at hr; exact nomatch hr
        · exact Nat.le_antisymm hi h
      refine wpAny_pure (hQ h' ?_ ho' hs')
      rw [hin, hlen, List.take_length] at hd'; exact hd'
  split
  · rename_i hemp
    have hkvs : kvs = [] := by
      have h0 : esd = #[] := Array.isEmpty_iff.mp hemp
      have := size_of_entries hed
      rw [h0] at this
      exact List.length_eq_zero_iff.mp (by simpa using this.symm)
    have hap' := hap.resolve_left fun h => h hkvs
    refine wpAny_bind (wpAny_dictEntries hoo hdo' ?_)
    refine wpAny_bind ?_
    rw [← Array.forIn_toList]
    refine wpAny_forIn_list _ (fun rest _ s' => s' = s ∧ ∀ e ∈ rest, KeyApart s eso e) _ ?_ ?_ _ _ ⟨rfl, keysApart heo hap'.1 hap'.2⟩
    · rintro e rest b s' ⟨rfl, hall⟩
      have hrest : ∀ x ∈ rest, KeyApart s' eso x := fun x hx => hall x (List.mem_cons_of_mem _ hx)
      rcases hall e List.mem_cons_self with hv | ⟨a, hk, hT, h1⟩
      · cases hk : e.key with
        | ref a => rw [hk] at hv; simp [carriedByValue] at hv
        | _ => exact wpAny_pure ⟨rfl, hrest⟩
      · rw [hk]
        refine wpAny_bind (wpAny_specialOf hT F.slot_tuple_eq.lookup ?_)
        refine wpAny_ite_split (fun _ => ?_) (fun _ => wpAny_pure ⟨rfl, hrest⟩)
        rw [if_neg (by omega)]
        exact wpAny_pure ⟨rfl, hrest⟩
    · rintro b s' ⟨rfl, _⟩
      exact loop
  · exact loop
end
section
open PySem PySem.W PySem.Calls PySem.Spec PyProof.Rows L2
noncomputable abbrev runE (r : OpenRow) (M : Nat) (w : World) (os : OsState) : Option SharedT := HandSHeadRun.endF (HandSHeadRun.stepQ (HandSHeadRun.denQ HandSHeadRun.tabQ) r.prog w) M r.prog w os
def hookA (as : List Addr) (cs : List (Str × D)) (fs : List FaC) (fn : List DfG) : Hook where
  α := He.AlD
  obs := fun s => obsC cs fs fn (He.frG s.heap.get? as)
  val := fun _ => valC fn
  says := fun _ h => ∃ K : PySem.W.Frag, K.In h ∧ SaysC cs fs fn K
  of := fun _ _ e => ⟨_, He.frG_in, e⟩
  keeps := fun _ _ _ ⟨K, hK, c⟩ k => ⟨K, PySem.W.Frag.In.keeps hK k, c⟩
def obsA (as : List Addr) (cs : List (Str × D)) (fs : List FaC) (fn : List DfG) (s : SharedT) : He.AlD := obsC cs fs fn (He.frG (HandSHeadRun.getT s) as)
theorem obsA_eq {as : List Addr} {cs : List (Str × D)} {fs : List FaC} {fn : List DfG} (s : SharedT) : obsA as cs fs fn s = (hookA as cs fs fn).obs s.abs := by
  have e : HandSHeadRun.getT s = s.abs.heap.get? := funext (HandSHeadRun.getT_eq s)
  unfold obsA
  rw [e] <;> rfl
/-- the parts of what is looked at -/
def partB (as : List Addr) (cs : List (Str × D)) (s : SharedT) : Bool := bsN.all (freeF (He.frG (HandSHeadRun.getT s) as)) && cs.all fun c => gloB (He.frG (HandSHeadRun.getT s) as) c.1 c.2
def partF (as : List Addr) (fs : List FaC) (s : SharedT) : Bool := fs.all fun f => f (He.frG (HandSHeadRun.getT s) as)
def partN (as : List Addr) (fn : List DfG) (s : SharedT) : He.AlD := (fn.all fun d => d.ok (He.frG (HandSHeadRun.getT s) as), fn.map fun d => fnG (He.frG (HandSHeadRun.getT s) as) d.at_)
structure SeesN (r : OpenRow) (M : Nat) (as : List Addr) (fn : List DfG) : Prop where
  h : ∀ w os, (runE r M w os).map (partN as fn) = some (true, fn.map DfG.val)
structure SeesF (r : OpenRow) (M : Nat) (as : List Addr) (fs : List FaC) : Prop where
  h : ∀ w os, (runE r M w os).map (partF as fs) = some true
section
variable {r : OpenRow} {M : Nat} {as : List Addr} {fn fn2 : List DfG} {fs fs2 : List FaC}
theorem SeesN.app (a : SeesN r M as fn) (b : SeesN r M as fn2) : SeesN r M as (fn ++ fn2) := ⟨fun w os => by
  have h1 := a.h w os
  have h2 := b.h w os
  cases e : runE r M w os with
  | none => rw [e] at h1; cases h1
  | some s =>
    rw [e] at h1 h2
    simp only [Option.map_some, Option.some.injEq, partN, Prod.mk.injEq] at h1 h2 ⊢
    refine ⟨by rw [List.all_append, h1.1, h2.1]; rfl, by rw [List.map_append, List.map_append, h1.2, h2.2]⟩⟩
theorem SeesF.app (a : SeesF r M as fs) (b : SeesF r M as fs2) : SeesF r M as (fs ++ fs2) := ⟨fun w os => by
  have h1 := a.h w os
  have h2 := b.h w os
  cases e : runE r M w os with
  | none => rw [e] at h1; cases h1
  | some s =>
    rw [e] at h1 h2
    simp only [Option.map_some, Option.some.injEq, partF] at h1 h2 ⊢
    rw [List.all_append, h1, h2]
    rfl⟩
theorem runEq_parts {q : Program} {cs : List (Str × D)} {loose : List PySem.Str} (w : World)
    (a : ∀ os, (runE r M w os).map (fun s => HandSHeadRun.looksF r.prog (boot_heap w.params) s.abs) = some true)
    (b : ∀ os, (runE r M w os).map (fun s => HandSHeadRun.seenQ q loose (importedModules r.prog.main.body) (fun s => xlAt q [] s && recOk r.toRowW.records s) s.abs) = some (openGood q loose))
    (c : ∀ os, (runE r M w os).map (partB as cs) = some true) (n : SeesN r M as fn) (f : SeesF r M as fs) : HandSHeadRun.RunEq r q (hookA as cs fs fn) (obsA as cs fs fn) M loose w := by
  intro os
  have h1 := a os
  have h2 := b os
  have h3 := c os
  have h4 := n.h w os
  have h5 := f.h w os
  show (runE r M w os).map _ = _
  cases e : runE r M w os with
  | none => rw [e] at h1; cases h1
  | some s =>
    rw [e] at h1 h2 h3 h4 h5
    simp only [Option.map_some, Option.some.injEq] at h1 h2 h3 h4 h5 ⊢
    have h6 : obsA as cs fs fn s = valC fn := by
      unfold partN at h4
      obtain ⟨k1, k2⟩ := He.ba (show (_ && _) = true from h3)
      have k3 := congrArg Prod.fst h4
      have k4 := congrArg Prod.snd h4
      unfold obsA obsC valC
      refine Prod.ext ?_ k4
      show (_ && (_ && (_ && _))) = true
      rw [k1, k2, show fs.all _ = true from h5, show fn.all _ = true from k3]
      rfl
    rw [h1, h2, h6]
    rfl
end
end
def top (i : Nat) : Stmt := PySem.Challenge.pw_onlyflags_k01_rules_and_words_judged.main.body.getD i (.Pass ⟨0, 0, 0, 0⟩)
section
variable {P : Program} {w : World} {K : PySem.W.Frag} {mg : Str → Option Value} {base : Heap}
/-! _law_crate -/
abbrev S__law_crate : Stmt := top 72
abbrev N__law_crate : List Str := ["script", "at", "cell"]
theorem sc__law_crate : FnScope N__law_crate ["script", "at"] (defScope S__law_crate) := ⟨rfl, rfl, rfl, by decide +kernel, rfl, by decide +kernel, by decide +kernel⟩
noncomputable def b__law_crate : SemS := (sSeq (sAsg (sIf (sB (sOp oLt (sVar 1) (sCB oLen (sCons (sVar 0) sNil)))) (sOp oIx (sVar 0) (sVar 1)) (sC (.int 0))) (gN 2))
    (sRet (sLstM (sCons (sCB oMax (sCons (sC (.int 0)) (sCons (sOp oSub (sCB oAbs (sCons (sVar 2) sNil)) (sOp oPow (sC (.int 10)) (sC (.int 18)))) sNil))) (sCons (sOp oAdd (sOp oAdd (sOp oMulI (sOp oMod (sCB oInt1 (sCons (sVar 2) sNil)) (sOp oAdd (sOp oPow (sC (.int 10)) (sC (.int 37))) (sC (.int 91)))) (sC (.int 83))) (sOp oMulI (sC (.int 59)) (sVar 1))) (sC (.int 47))) (sCons (sC (.int 0)) sNil))))))
@[irreducible] noncomputable def g__law_crate : SemF := mkF 2 3 (b__law_crate)
theorem d__law_crate (B : Bs mg) {k : Nat} {f : Addr} {fd : FuncData} (F : FunD K "_law_crate" "_law_crate" (defArgs S__law_crate) (defBody S__law_crate) (defScope S__law_crate) [] [] f fd) (hm : mg "_law_crate" = some (.ref f)) : FnA P w K mg base (k + 1) "_law_crate" ["script", "at"] (g__law_crate) f fd := by
  unfold g__law_crate
  exact fnA_mk F hm sc__law_crate (fun _ _ _ _ _ _ us hl => match us, hl with | [_, _], _ => rfl) fun cdv A outer s H E hr => by
    have hu := hr.units
    exact (dss_cons (ds_set (i := 2) sc__law_crate.nd (de_if (dt_cmp (od_lt hu) (de_var 1) (de_callB cd_len B.len PySem.boot_len (da_cons (de_var 0) da_nil))) (de_ix (de_var 0) (de_var 1)) de_int))
    (dss_one (ds_ret (de_lstM (da_cons (de_callB (cd_max rfl) B.max PyProof.Rows.boot_max (da_cons de_int (da_cons (de_op od_sub (de_callB cd_abs B.abs PyProof.Rows.boot_abs (da_cons (de_var 2) da_nil)) (de_op od_pow de_int de_int)) da_nil))) (da_cons (de_op od_add (de_op od_add (de_op od_mulI (de_op od_mod (de_callTy cd_int B.int PyProof.Rows.boot_int (da_cons (de_var 2) da_nil)) (de_op od_add (de_op od_pow de_int de_int) de_int)) de_int) (de_op od_mulI de_int (de_var 1))) de_int) (da_cons de_int da_nil)))))))
/-! is_integer -/
abbrev S_is_integer : Stmt := top 10
abbrev N_is_integer : List Str := ["value"]
theorem sc_is_integer : FnScope N_is_integer ["value"] (defScope S_is_integer) := ⟨rfl, rfl, rfl, by decide +kernel, rfl, by decide +kernel, by decide +kernel⟩
noncomputable def b_is_integer : SemS := (sRet (sAndV (sIsi ["int"] (sVar 0)) (sNotV (sIsi ["bool"] (sVar 0)))))
@[irreducible] noncomputable def g_is_integer : SemF := mkF 1 1 (b_is_integer)
theorem d_is_integer (B : Bs mg) {k : Nat} {f : Addr} {fd : FuncData} (F : FunD K "is_integer" "is_integer" (defArgs S_is_integer) (defBody S_is_integer) (defScope S_is_integer) [] [] f fd) (hm : mg "is_integer" = some (.ref f)) : FnA P w K mg base (k + 1) "is_integer" ["value"] (g_is_integer) f fd := by
  unfold g_is_integer
  exact fnA_mk F hm sc_is_integer (fun _ _ _ _ _ _ us hl => match us, hl with | [_], _ => rfl) fun cdv A outer s H E hr => by
    have hu := hr.units
    exact (dss_one (ds_ret (de_and (de_isi (by decide) PyProof.Rows.boot_int B.isinstance B.int (de_var 0)) (de_one (de_not (de_isi (by decide) PyProof.Rows.boot_bool B.isinstance B.bool (de_var 0)))))))
/-! is_bit -/
abbrev S_is_bit : Stmt := top 12
abbrev N_is_bit : List Str := ["value"]
theorem sc_is_bit : FnScope N_is_bit ["value"] (defScope S_is_bit) := ⟨rfl, rfl, rfl, by decide +kernel, rfl, by decide +kernel, by decide +kernel⟩
noncomputable def b_is_bit (c_is_integer : SemF) : SemS := (sRet (sAndV (sCall c_is_integer (sCons (sVar 0) sNil)) (sOp oIn (sVar 0) (sTup (sCons (sC (.int 0)) (sCons (sC (.int 1)) sNil))))))
@[irreducible] noncomputable def g_is_bit (c_is_integer : SemF) : SemF := mkF 1 1 (b_is_bit c_is_integer)
theorem d_is_bit (B : Bs mg) {k : Nat} {c_is_integer : SemF} (h_is_integer : FnD P w K mg base k "is_integer" ["value"] c_is_integer) {f : Addr} {fd : FuncData} (F : FunD K "is_bit" "is_bit" (defArgs S_is_bit) (defBody S_is_bit) (defScope S_is_bit) [] [] f fd) (hm : mg "is_bit" = some (.ref f)) : FnA P w K mg base (k + 1) "is_bit" ["value"] (g_is_bit c_is_integer) f fd := by
  unfold g_is_bit
  exact fnA_mk F hm sc_is_bit (fun _ _ _ _ _ _ us hl => match us, hl with | [_], _ => rfl) fun cdv A outer s H E hr => by
    have hu := hr.units
    exact (dss_one (ds_ret (de_and (de_call h_is_integer hr (da_cons (de_var 0) da_nil)) (de_one (de_cmp (od_in hu) (de_var 0) (de_tup (da_cons de_int (da_cons de_int da_nil))))))))
/-! is_word -/
abbrev S_is_word : Stmt := top 13
abbrev N_is_word : List Str := ["value", "bit"]
theorem sc_is_word : FnScope N_is_word ["value"] (defScope S_is_word) := ⟨rfl, rfl, rfl, by decide +kernel, rfl, by decide +kernel, by decide +kernel⟩
noncomputable def b_is_word (c_is_bit : SemF) : SemS := (sRet (sAndV (sIsi ["tuple"] (sVar 0)) (sCB oAll (sCons (sLc (sWalk (sVar 0)) (gN 1) sYes (sCall c_is_bit (sCons (sVar 1) sNil)) [1]) sNil))))
@[irreducible] noncomputable def g_is_word (c_is_bit : SemF) : SemF := mkF 1 2 (b_is_word c_is_bit)
theorem d_is_word (B : Bs mg) {k : Nat} {c_is_bit : SemF} (h_is_bit : FnD P w K mg base k "is_bit" ["value"] c_is_bit) {f : Addr} {fd : FuncData} (F : FunD K "is_word" "is_word" (defArgs S_is_word) (defBody S_is_word) (defScope S_is_word) [] [] f fd) (hm : mg "is_word" = some (.ref f)) : FnA P w K mg base (k + 1) "is_word" ["value"] (g_is_word c_is_bit) f fd := by
  unfold g_is_word
  exact fnA_mk F hm sc_is_word (fun _ _ _ _ _ _ us hl => match us, hl with | [_], _ => rfl) fun cdv A outer s H E hr => by
    have hu := hr.units
    exact (dss_one (ds_ret (de_and (de_isi (by decide) PyProof.Rows.boot_tuple B.isinstance B.tuple (de_var 0)) (de_one (de_callB (cd_all rfl) B.all PyProof.Rows.boot_all (da_cons (de_lcF (own := [("bit", 1)]) rfl sc_is_word.nd (di_seq (de_var 0)) (blkOk_by (N := N_is_word) (sc := defScope S_is_word) (by decide +kernel)) (fun _ _ _ _ _ => (dgw_name sc_is_word.nd)) (fun _ _ _ _ _ => dts_nil) (fun _ _ _ _ _ => (de_call h_is_bit hr (da_cons (de_var 1) da_nil)))) da_nil))))))
/-! is_full_word -/
abbrev S_is_full_word : Stmt := top 14
abbrev N_is_full_word : List Str := ["value"]
theorem sc_is_full_word : FnScope N_is_full_word ["value"] (defScope S_is_full_word) := ⟨rfl, rfl, rfl, by decide +kernel, rfl, by decide +kernel, by decide +kernel⟩
noncomputable def b_is_full_word (c_is_word : SemF) : SemS := (sRet (sAndV (sCall c_is_word (sCons (sVar 0) sNil)) (sOp oNe (sVar 0) (sTup sNil))))
@[irreducible] noncomputable def g_is_full_word (c_is_word : SemF) : SemF := mkF 1 1 (b_is_full_word c_is_word)
theorem d_is_full_word (B : Bs mg) {k : Nat} {c_is_word : SemF} (h_is_word : FnD P w K mg base k "is_word" ["value"] c_is_word) {f : Addr} {fd : FuncData} (F : FunD K "is_full_word" "is_full_word" (defArgs S_is_full_word) (defBody S_is_full_word) (defScope S_is_full_word) [] [] f fd) (hm : mg "is_full_word" = some (.ref f)) : FnA P w K mg base (k + 1) "is_full_word" ["value"] (g_is_full_word c_is_word) f fd := by
  unfold g_is_full_word
  exact fnA_mk F hm sc_is_full_word (fun _ _ _ _ _ _ us hl => match us, hl with | [_], _ => rfl) fun cdv A outer s H E hr => by
    have hu := hr.units
    exact (dss_one (ds_ret (de_and (de_call h_is_word hr (da_cons (de_var 0) da_nil)) (de_one (de_cmp (od_ne hu) (de_var 0) (de_tup da_nil))))))
/-! is_insert -/
abbrev S_is_insert : Stmt := top 15
abbrev N_is_insert : List Str := ["value"]
theorem sc_is_insert : FnScope N_is_insert ["value"] (defScope S_is_insert) := ⟨rfl, rfl, rfl, by decide +kernel, rfl, by decide +kernel, by decide +kernel⟩
noncomputable def b_is_insert (c_is_full_word : SemF) (c_is_bit : SemF) : SemS := (sRet (sAndV (sIsi ["tuple"] (sVar 0)) (sAndV (sOp oEq (sCB oLen (sCons (sVar 0) sNil)) (sC (.int 2))) (sAndV (sCall c_is_full_word (sCons (sOp oIx (sVar 0) (sC (.int 0))) sNil)) (sCall c_is_bit (sCons (sOp oIx (sVar 0) (sC (.int 1))) sNil))))))
@[irreducible] noncomputable def g_is_insert (c_is_full_word : SemF) (c_is_bit : SemF) : SemF := mkF 1 1 (b_is_insert c_is_full_word c_is_bit)
theorem d_is_insert (B : Bs mg) {k : Nat} {c_is_full_word : SemF} {c_is_bit : SemF} (h_is_full_word : FnD P w K mg base k "is_full_word" ["value"] c_is_full_word) (h_is_bit : FnD P w K mg base k "is_bit" ["value"] c_is_bit) {f : Addr} {fd : FuncData} (F : FunD K "is_insert" "is_insert" (defArgs S_is_insert) (defBody S_is_insert) (defScope S_is_insert) [] [] f fd) (hm : mg "is_insert" = some (.ref f)) : FnA P w K mg base (k + 1) "is_insert" ["value"] (g_is_insert c_is_full_word c_is_bit) f fd := by
  unfold g_is_insert
  exact fnA_mk F hm sc_is_insert (fun _ _ _ _ _ _ us hl => match us, hl with | [_], _ => rfl) fun cdv A outer s H E hr => by
    have hu := hr.units
    exact (dss_one (ds_ret (de_and (de_isi (by decide) PyProof.Rows.boot_tuple B.isinstance B.tuple (de_var 0)) (de_and (de_cmp (od_eq hu) (de_callB cd_len B.len PySem.boot_len (da_cons (de_var 0) da_nil)) de_int) (de_and (de_call h_is_full_word hr (da_cons (de_ix (de_var 0) de_int) da_nil)) (de_one (de_call h_is_bit hr (da_cons (de_ix (de_var 0) de_int) da_nil))))))))
/-! are_inserts -/
abbrev S_are_inserts : Stmt := top 16
abbrev N_are_inserts : List Str := ["value", "insert", "after"]
theorem sc_are_inserts : FnScope N_are_inserts ["value"] (defScope S_are_inserts) := ⟨rfl, rfl, rfl, by decide +kernel, rfl, by decide +kernel, by decide +kernel⟩
noncomputable def b_are_inserts (c_is_insert : SemF) : SemS := (sSeq (sIfS (sOr (sNot (sTru (sIsi ["tuple"] (sVar 0)))) (sNot (sTru (sCB oAll (sCons (sLc (sWalk (sVar 0)) (gN 1) sYes (sCall c_is_insert (sCons (sVar 1) sNil)) [1]) sNil)))))
    (sRet (sC (.bl false)))
    sNext)
    (sRet (sCB oAll (sCons (sLc (sZip (sCons (sVar 0) (sCons (sSl (sVar 0) (some (sC (.int 1))) none) sNil))) (gTupD 2 (gConsD (gN 1) (gConsD (gN 2) gNilD))) sYes (sOp oLt (sOp oIx (sVar 1) (sC (.int 0))) (sOp oIx (sVar 2) (sC (.int 0)))) [1, 2]) sNil))))
@[irreducible] noncomputable def g_are_inserts (c_is_insert : SemF) : SemF := mkF 1 3 (b_are_inserts c_is_insert)
theorem d_are_inserts (B : Bs mg) {k : Nat} {c_is_insert : SemF} (h_is_insert : FnD P w K mg base k "is_insert" ["value"] c_is_insert) {f : Addr} {fd : FuncData} (F : FunD K "are_inserts" "are_inserts" (defArgs S_are_inserts) (defBody S_are_inserts) (defScope S_are_inserts) [] [] f fd) (hm : mg "are_inserts" = some (.ref f)) : FnA P w K mg base (k + 1) "are_inserts" ["value"] (g_are_inserts c_is_insert) f fd := by
  unfold g_are_inserts
  exact fnA_mk F hm sc_are_inserts (fun _ _ _ _ _ _ us hl => match us, hl with | [_], _ => rfl) fun cdv A outer s H E hr => by
    have hu := hr.units
    exact (dss_cons (ds_if (DW.dt (dw_or (dt_not (dt_val (de_isi (by decide) PyProof.Rows.boot_tuple B.isinstance B.tuple (de_var 0)))) (dw_or1 (dt_not (dt_val (de_callB (cd_all rfl) B.all PyProof.Rows.boot_all (da_cons (de_lcF (own := [("insert", 1)]) rfl sc_are_inserts.nd (di_seq (de_var 0)) (blkOk_by (N := N_are_inserts) (sc := defScope S_are_inserts) (by decide +kernel)) (fun _ _ _ _ _ => (dgw_name sc_are_inserts.nd)) (fun _ _ _ _ _ => dts_nil) (fun _ _ _ _ _ => (de_call h_is_insert hr (da_cons (de_var 1) da_nil)))) da_nil)))))))
    (dss_one (ds_ret de_bl))
    dss_nil)
    (dss_one (ds_ret (de_callB (cd_all rfl) B.all PyProof.Rows.boot_all (da_cons (de_lcF (own := [("insert", 1), ("after", 2)]) rfl sc_are_inserts.nd (di_zip B.zip (da_cons (de_var 0) (da_cons (de_sl (de_var 0) (dp_some de_int) dp_none) da_nil))) (blkOk_by (N := N_are_inserts) (sc := defScope S_are_inserts) (by decide +kernel)) (fun _ _ _ _ _ => (dgw_tup rfl (dgsw_cons (dgw_name sc_are_inserts.nd) (dgsw_cons (dgw_name sc_are_inserts.nd) dgsw_nil)))) (fun _ _ _ _ _ => dts_nil) (fun _ _ _ _ _ => (de_cmp (od_lt hu) (de_ix (de_var 1) de_int) (de_ix (de_var 2) de_int)))) da_nil)))))
/-! is_at_least -/
abbrev S_is_at_least : Stmt := top 11
abbrev N_is_at_least : List Str := ["value", "least"]
theorem sc_is_at_least : FnScope N_is_at_least ["value", "least"] (defScope S_is_at_least) := ⟨rfl, rfl, rfl, by decide +kernel, rfl, by decide +kernel, by decide +kernel⟩
noncomputable def b_is_at_least (c_is_integer : SemF) : SemS := (sRet (sAndV (sCall c_is_integer (sCons (sVar 0) sNil)) (sOp oGe (sVar 0) (sVar 1))))
@[irreducible] noncomputable def g_is_at_least (c_is_integer : SemF) : SemF := mkF 2 2 (b_is_at_least c_is_integer)
theorem d_is_at_least (B : Bs mg) {k : Nat} {c_is_integer : SemF} (h_is_integer : FnD P w K mg base k "is_integer" ["value"] c_is_integer) {f : Addr} {fd : FuncData} (F : FunD K "is_at_least" "is_at_least" (defArgs S_is_at_least) (defBody S_is_at_least) (defScope S_is_at_least) [] [] f fd) (hm : mg "is_at_least" = some (.ref f)) : FnA P w K mg base (k + 1) "is_at_least" ["value", "least"] (g_is_at_least c_is_integer) f fd := by
  unfold g_is_at_least
  exact fnA_mk F hm sc_is_at_least (fun _ _ _ _ _ _ us hl => match us, hl with | [_, _], _ => rfl) fun cdv A outer s H E hr => by
    have hu := hr.units
    exact (dss_one (ds_ret (de_and (de_call h_is_integer hr (da_cons (de_var 0) da_nil)) (de_one (de_cmp (od_ge hu) (de_var 0) (de_var 1))))))
/-! is_rule -/
abbrev S_is_rule : Stmt := top 17
abbrev N_is_rule : List Str := ["value"]
theorem sc_is_rule : FnScope N_is_rule ["value"] (defScope S_is_rule) := ⟨rfl, rfl, rfl, by decide +kernel, rfl, by decide +kernel, by decide +kernel⟩
noncomputable def b_is_rule (c_is_full_word : SemF) (c_are_inserts : SemF) (c_is_at_least : SemF) : SemS := (sSeq (sIfS (sOr (sNot (sTru (sIsi ["tuple"] (sVar 0)))) (sB (sOp oNe (sCB oLen (sCons (sVar 0) sNil)) (sC (.int 3)))))
    (sRet (sC (.bl false)))
    sNext)
    (sRet (sAndV (sCall c_is_full_word (sCons (sOp oIx (sVar 0) (sC (.int 0))) sNil)) (sAndV (sCall c_are_inserts (sCons (sOp oIx (sVar 0) (sC (.int 1))) sNil)) (sCall c_is_at_least (sCons (sOp oIx (sVar 0) (sC (.int 2))) (sCons (sC (.int 1)) sNil)))))))
@[irreducible] noncomputable def g_is_rule (c_is_full_word : SemF) (c_are_inserts : SemF) (c_is_at_least : SemF) : SemF := mkF 1 1 (b_is_rule c_is_full_word c_are_inserts c_is_at_least)
theorem d_is_rule (B : Bs mg) {k : Nat} {c_is_full_word : SemF} {c_are_inserts : SemF} {c_is_at_least : SemF} (h_is_full_word : FnD P w K mg base k "is_full_word" ["value"] c_is_full_word) (h_are_inserts : FnD P w K mg base k "are_inserts" ["value"] c_are_inserts) (h_is_at_least : FnD P w K mg base k "is_at_least" ["value", "least"] c_is_at_least) {f : Addr} {fd : FuncData} (F : FunD K "is_rule" "is_rule" (defArgs S_is_rule) (defBody S_is_rule) (defScope S_is_rule) [] [] f fd) (hm : mg "is_rule" = some (.ref f)) : FnA P w K mg base (k + 1) "is_rule" ["value"] (g_is_rule c_is_full_word c_are_inserts c_is_at_least) f fd := by
  unfold g_is_rule
  exact fnA_mk F hm sc_is_rule (fun _ _ _ _ _ _ us hl => match us, hl with | [_], _ => rfl) fun cdv A outer s H E hr => by
    have hu := hr.units
    exact (dss_cons (ds_if (DW.dt (dw_or (dt_not (dt_val (de_isi (by decide) PyProof.Rows.boot_tuple B.isinstance B.tuple (de_var 0)))) (dw_or1 (dt_cmp (od_ne hu) (de_callB cd_len B.len PySem.boot_len (da_cons (de_var 0) da_nil)) de_int))))
    (dss_one (ds_ret de_bl))
    dss_nil)
    (dss_one (ds_ret (de_and (de_call h_is_full_word hr (da_cons (de_ix (de_var 0) de_int) da_nil)) (de_and (de_call h_are_inserts hr (da_cons (de_ix (de_var 0) de_int) da_nil)) (de_one (de_call h_is_at_least hr (da_cons (de_ix (de_var 0) de_int) (da_cons de_int da_nil)))))))))
/-! _law_haul -/
abbrev S__law_haul : Stmt := top 73
abbrev N__law_haul : List Str := ["crate", "below", "churn", "digit"]
theorem sc__law_haul : FnScope N__law_haul ["crate", "below"] (defScope S__law_haul) := ⟨rfl, rfl, rfl, by decide +kernel, rfl, by decide +kernel, by decide +kernel⟩
noncomputable def b__law_haul : SemS := (sSeq (sIfS (sB (sOp oGt (sOp oIx (sVar 0) (sC (.int 0))) (sC (.int 0))))
    (sSeq (sAsg (sOp oMod (sCB oInt1 (sCons (sOp oIx (sVar 0) (sC (.int 0))) sNil)) (sVar 1)) (gN 3))
    (sSeq (sSub setL (sOp oDiv (sOp oIx (sVar 0) (sC (.int 0))) (sVar 1)) (sVar 0) (sC (.int 0)))
    (sRet (sVar 3))))
    sNext)
    (sSeq (sSub setL (sOp oAdd (sOp oIx (sVar 0) (sC (.int 2))) (sC (.int 1))) (sVar 0) (sC (.int 2)))
    (sSeq (sAsg (sOp oMod (sOp oPow (sCB oInt1 (sCons (sOp oAdd (sOp oIx (sVar 0) (sC (.int 1))) (sOp oMulI (sC (.int 50021)) (sOp oIx (sVar 0) (sC (.int 2))))) sNil)) (sC (.int 2))) (sOp oAdd (sOp oPow (sC (.int 10)) (sC (.int 39))) (sC (.int 3)))) (gN 2))
    (sSeq (sAsg (sOp oMod (sOp oPow (sCB oInt1 (sCons (sOp oAdd (sVar 2) (sOp oMulI (sC (.int 1100009)) (sOp oIx (sVar 0) (sC (.int 2))))) sNil)) (sC (.int 3))) (sOp oAdd (sOp oPow (sC (.int 10)) (sC (.int 37))) (sC (.int 43)))) (gN 2))
    (sRet (sOp oMod (sOp oDiv (sVar 2) (sC (.int 65536))) (sVar 1)))))))
@[irreducible] noncomputable def g__law_haul : SemF := mkF 2 4 (b__law_haul)
theorem d__law_haul (B : Bs mg) {k : Nat} {f : Addr} {fd : FuncData} (F : FunD K "_law_haul" "_law_haul" (defArgs S__law_haul) (defBody S__law_haul) (defScope S__law_haul) [] [] f fd) (hm : mg "_law_haul" = some (.ref f)) : FnA P w K mg base (k + 1) "_law_haul" ["crate", "below"] (g__law_haul) f fd := by
  unfold g__law_haul
  exact fnA_mk F hm sc__law_haul (fun _ _ _ _ _ _ us hl => match us, hl with | [_, _], _ => rfl) fun cdv A outer s H E hr => by
    have hu := hr.units
    exact (dss_cons (ds_if (dt_cmp (od_gt hu) (de_ix (de_var 0) de_int) de_int)
    (dss_cons (ds_set (i := 3) sc__law_haul.nd (de_op od_mod (de_callTy cd_int B.int PyProof.Rows.boot_int (da_cons (de_ix (de_var 0) de_int) da_nil)) (de_var 1)))
    (dss_cons (ds_sub setD_list (de_op od_div (de_ix (de_var 0) de_int) (de_var 1)) (de_var 0) de_int)
    (dss_one (ds_ret (de_var 3)))))
    dss_nil)
    (dss_cons (ds_sub setD_list (de_op od_add (de_ix (de_var 0) de_int) de_int) (de_var 0) de_int)
    (dss_cons (ds_set (i := 2) sc__law_haul.nd (de_op od_mod (de_op od_pow (de_callTy cd_int B.int PyProof.Rows.boot_int (da_cons (de_op od_add (de_ix (de_var 0) de_int) (de_op od_mulI de_int (de_ix (de_var 0) de_int))) da_nil)) de_int) (de_op od_add (de_op od_pow de_int de_int) de_int)))
    (dss_cons (ds_set (i := 2) sc__law_haul.nd (de_op od_mod (de_op od_pow (de_callTy cd_int B.int PyProof.Rows.boot_int (da_cons (de_op od_add (de_var 2) (de_op od_mulI de_int (de_ix (de_var 0) de_int))) da_nil)) de_int) (de_op od_add (de_op od_pow de_int de_int) de_int)))
    (dss_one (ds_ret (de_op od_mod (de_op od_div (de_var 2) de_int) (de_var 1))))))))
/-! _law_bits -/
abbrev S__law_bits : Stmt := top 75
abbrev N__law_bits : List Str := ["crate", "size", "way", "same", "found", "k", "steady"]
theorem sc__law_bits : FnScope N__law_bits ["crate", "size"] (defScope S__law_bits) := ⟨rfl, rfl, rfl, by decide +kernel, rfl, by decide +kernel, by decide +kernel⟩
noncomputable def b__law_bits (c__law_haul : SemF) : SemS := (sSeq (sPar2 2 3 (sCons (sCall c__law_haul (sCons (sVar 0) (sCons (sC (.int 4)) sNil))) (sCons (sCall c__law_haul (sCons (sVar 0) (sCons (sC (.int 2)) sNil))) sNil)))
    (sSeq (sAsg (sLstM sNil) (gN 4))
    (sSeq (sFor (sRange rangeOf1 (sCons (sVar 1) sNil)) (gN 5)
    (sSeq (sAsg (sOrV (sOp oEq (sVar 2) (sC (.int 0))) (sAndV (sOp oEq (sVar 2) (sC (.int 1))) (sOp oGt (sCall c__law_haul (sCons (sVar 0) (sCons (sC (.int 5)) sNil))) (sC (.int 0))))) (gN 6))
    (sDrop (sApp (sVar 4) (sIf (sTru (sVar 6)) (sVar 3) (sCall c__law_haul (sCons (sVar 0) (sCons (sC (.int 2)) sNil))))))))
    (sRet (sCB oTuple (sCons (sVar 4) sNil))))))
@[irreducible] noncomputable def g__law_bits (c__law_haul : SemF) : SemF := mkF 2 7 (b__law_bits c__law_haul)
theorem d__law_bits (B : Bs mg) {k : Nat} {c__law_haul : SemF} (h__law_haul : FnD P w K mg base k "_law_haul" ["crate", "below"] c__law_haul) {f : Addr} {fd : FuncData} (F : FunD K "_law_bits" "_law_bits" (defArgs S__law_bits) (defBody S__law_bits) (defScope S__law_bits) [] [] f fd) (hm : mg "_law_bits" = some (.ref f)) : FnA P w K mg base (k + 1) "_law_bits" ["crate", "size"] (g__law_bits c__law_haul) f fd := by
  unfold g__law_bits
  exact fnA_mk F hm sc__law_bits (fun _ _ _ _ _ _ us hl => match us, hl with | [_, _], _ => rfl) fun cdv A outer s H E hr => by
    have hu := hr.units
    exact (dss_cons (ds_par2 (i := 2) (j := 3) rfl sc__law_bits.nd rfl rfl rfl (da_cons (de_call h__law_haul hr (da_cons (de_var 0) (da_cons de_int da_nil))) (da_cons (de_call h__law_haul hr (da_cons (de_var 0) (da_cons de_int da_nil))) da_nil)))
    (dss_cons (ds_set (i := 4) sc__law_bits.nd (de_lstM da_nil))
    (dss_cons (ds_for (passes_of rfl) rfl (di_range1 B.range (da_cons (de_var 1) da_nil)) (dg_name sc__law_bits.nd)
    (dss_cons (ds_set (i := 6) sc__law_bits.nd (de_or (de_cmp (od_eq hu) (de_var 2) de_int) (de_one (de_and (de_cmp (od_eq hu) (de_var 2) de_int) (de_one (de_cmp (od_gt hu) (de_call h__law_haul hr (da_cons (de_var 0) (da_cons de_int da_nil))) de_int))))))
    (dss_one (ds_expr (de_append (de_var 4) (de_if (dt_val (de_var 6)) (de_var 3) (de_call h__law_haul hr (da_cons (de_var 0) (da_cons de_int da_nil)))))))))
    (dss_one (ds_ret (de_callTy cd_tuple B.tuple PyProof.Rows.boot_tuple (da_cons (de_var 4) da_nil)))))))
/-! _law_drawn_rule -/
abbrev S__law_drawn_rule : Stmt := top 78
abbrev N__law_drawn_rule : List Str := ["crate", "flag_here", "word_here", "many_here", "top", "flag", "known", "k", "rows", "number", "word"]
theorem sc__law_drawn_rule : FnScope N__law_drawn_rule ["crate", "flag_here", "word_here", "many_here", "top"] (defScope S__law_drawn_rule) := ⟨rfl, rfl, rfl, by decide +kernel, rfl, by decide +kernel, by decide +kernel⟩
noncomputable def b__law_drawn_rule (c__law_bits : SemF) (c__law_haul : SemF) : SemS := (sSeq (sAsg (sTup (sCons (sCall c__law_bits (sCons (sVar 0) (sCons (sOp oAdd (sC (.int 1)) (sCall c__law_haul (sCons (sVar 0) (sCons (sVar 1) sNil)))) sNil))) (sCons sDctM sNil))) (gTupD 2 (gConsD (gN 5) (gConsD (gN 6) gNilD))))
    (sSeq (sFor (sRange rangeOf1 (sCons (sCall c__law_haul (sCons (sVar 0) (sCons (sOp oAdd (sVar 3) (sC (.int 1))) sNil))) sNil)) (gN 7)
    (sSeq (sAsg (sCall c__law_bits (sCons (sVar 0) (sCons (sOp oAdd (sC (.int 1)) (sCall c__law_haul (sCons (sVar 0) (sCons (sVar 2) sNil)))) sNil))) (gN 10))
    (sSeq (sIfS (sB (sOp oEq (sCall c__law_haul (sCons (sVar 0) (sCons (sC (.int 3)) sNil))) (sC (.int 0))))
    (sAsg (sSl (sSl (sVar 5) none (some (sCB oMin (sCons (sCB oLen (sCons (sVar 5) sNil)) (sCons (sVar 2) sNil))))) none (some (sOp oAdd (sC (.int 1)) (sCall c__law_haul (sCons (sVar 0) (sCons (sVar 2) sNil)))))) (gN 10))
    sNext)
    (sSub setDct (sCall c__law_haul (sCons (sVar 0) (sCons (sC (.int 2)) sNil))) (sVar 6) (sVar 10)))))
    (sSeq (sAsg (sCB oTuple (sCons (sLc (sWalk (sCB oSorted (sCons (sCB oListD (sCons (sVar 6) sNil)) sNil))) (gN 10) sYes (sTup (sCons (sVar 10) (sCons (sOp oDIx (sVar 6) (sVar 10)) sNil))) [10]) sNil)) (gN 8))
    (sSeq (sAsg (sOp oIx (sLst (sCons (sC (.int 1)) (sCons (sC (.int 1)) (sCons (sC (.int 2)) (sCons (sOp oAdd (sC (.int 1)) (sCall c__law_haul (sCons (sVar 0) (sCons (sVar 4) sNil)))) sNil))))) (sCall c__law_haul (sCons (sVar 0) (sCons (sC (.int 4)) sNil)))) (gN 9))
    (sRet (sTup (sCons (sVar 5) (sCons (sVar 8) (sCons (sCB oMin (sCons (sVar 9) (sCons (sVar 4) sNil))) sNil)))))))))
@[irreducible] noncomputable def g__law_drawn_rule (c__law_bits : SemF) (c__law_haul : SemF) : SemF := mkF 5 11 (b__law_drawn_rule c__law_bits c__law_haul)
theorem d__law_drawn_rule (B : Bs mg) {k : Nat} {c__law_bits : SemF} {c__law_haul : SemF} (h__law_bits : FnD P w K mg base k "_law_bits" ["crate", "size"] c__law_bits) (h__law_haul : FnD P w K mg base k "_law_haul" ["crate", "below"] c__law_haul) {f : Addr} {fd : FuncData} (F : FunD K "_law_drawn_rule" "_law_drawn_rule" (defArgs S__law_drawn_rule) (defBody S__law_drawn_rule) (defScope S__law_drawn_rule) [] [] f fd) (hm : mg "_law_drawn_rule" = some (.ref f)) : FnA P w K mg base (k + 1) "_law_drawn_rule" ["crate", "flag_here", "word_here", "many_here", "top"] (g__law_drawn_rule c__law_bits c__law_haul) f fd := by
  unfold g__law_drawn_rule
  exact fnA_mk F hm sc__law_drawn_rule (fun _ _ _ _ _ _ us hl => match us, hl with | [_, _, _, _, _], _ => rfl) fun cdv A outer s H E hr => by
    have hu := hr.units
    exact (dss_cons (ds_asg (de_tup (da_cons (de_call h__law_bits hr (da_cons (de_var 0) (da_cons (de_op od_add de_int (de_call h__law_haul hr (da_cons (de_var 0) (da_cons (de_var 1) da_nil)))) da_nil))) (da_cons de_dctM da_nil))) (dg_tup rfl (dgs_cons (dg_name sc__law_drawn_rule.nd) (dgs_cons (dg_name sc__law_drawn_rule.nd) dgs_nil))))
    (dss_cons (ds_for (passes_of rfl) rfl (di_range1 B.range (da_cons (de_call h__law_haul hr (da_cons (de_var 0) (da_cons (de_op od_add (de_var 3) de_int) da_nil))) da_nil)) (dg_name sc__law_drawn_rule.nd)
    (dss_cons (ds_set (i := 10) sc__law_drawn_rule.nd (de_call h__law_bits hr (da_cons (de_var 0) (da_cons (de_op od_add de_int (de_call h__law_haul hr (da_cons (de_var 0) (da_cons (de_var 2) da_nil)))) da_nil))))
    (dss_cons (ds_if (dt_cmp (od_eq hu) (de_call h__law_haul hr (da_cons (de_var 0) (da_cons de_int da_nil))) de_int)
    (dss_one (ds_set (i := 10) sc__law_drawn_rule.nd (de_sl (de_sl (de_var 5) dp_none (dp_some (de_callB (cd_min rfl) B.min PyProof.Rows.boot_min (da_cons (de_callB cd_len B.len PySem.boot_len (da_cons (de_var 5) da_nil)) (da_cons (de_var 2) da_nil))))) dp_none (dp_some (de_op od_add de_int (de_call h__law_haul hr (da_cons (de_var 0) (da_cons (de_var 2) da_nil))))))))
    dss_nil)
    (dss_one (ds_sub (setD_dict hu) (de_call h__law_haul hr (da_cons (de_var 0) (da_cons de_int da_nil))) (de_var 6) (de_var 10))))))
    (dss_cons (ds_set (i := 8) sc__law_drawn_rule.nd (de_callTy cd_tuple B.tuple PyProof.Rows.boot_tuple (da_cons (de_lcF (own := [("word", 10)]) rfl sc__law_drawn_rule.nd (di_seq (de_callB (cd_sorted rfl hu) B.sorted PyProof.Rows.boot_sorted (da_cons (de_callTy (cd_listD rfl) B.list PyProof.Rows.boot_list (da_cons (de_var 6) da_nil)) da_nil))) (blkOk_by (N := N__law_drawn_rule) (sc := defScope S__law_drawn_rule) (by decide +kernel)) (fun _ _ _ _ _ => (dgw_name sc__law_drawn_rule.nd)) (fun _ _ _ _ _ => dts_nil) (fun _ _ _ _ _ => (de_tup (da_cons (de_var 10) (da_cons (de_dix hu (de_var 6) (de_var 10)) da_nil))))) da_nil)))
    (dss_cons (ds_set (i := 9) sc__law_drawn_rule.nd (de_ix (de_lst (da_cons de_int (da_cons de_int (da_cons de_int (da_cons (de_op od_add de_int (de_call h__law_haul hr (da_cons (de_var 0) (da_cons (de_var 4) da_nil)))) da_nil))))) (de_call h__law_haul hr (da_cons (de_var 0) (da_cons de_int da_nil)))))
    (dss_one (ds_ret (de_tup (da_cons (de_var 5) (da_cons (de_var 8) (da_cons (de_callB (cd_min rfl) B.min PyProof.Rows.boot_min (da_cons (de_var 9) (da_cons (de_var 4) da_nil))) da_nil))))))))))
/-! _law_any_rule -/
abbrev S__law_any_rule : Stmt := top 81
abbrev N__law_any_rule : List Str := ["crate", "great"]
theorem sc__law_any_rule : FnScope N__law_any_rule ["crate", "great"] (defScope S__law_any_rule) := ⟨rfl, rfl, rfl, by decide +kernel, rfl, by decide +kernel, by decide +kernel⟩
noncomputable def b__law_any_rule (c__law_drawn_rule : SemF) (c__law_haul : SemF) : SemS := (sSeq (sIfS (sAnd (sTru (sVar 1)) (sB (sOp oEq (sCall c__law_haul (sCons (sVar 0) (sCons (sC (.int 2)) sNil))) (sC (.int 0)))))
    (sRet (sCall c__law_drawn_rule (sCons (sVar 0) (sCons (sC (.int 16)) (sCons (sC (.int 16)) (sCons (sC (.int 8)) (sCons (sC (.int 16)) sNil)))))))
    sNext)
    (sRet (sCall c__law_drawn_rule (sCons (sVar 0) (sCons (sC (.int 6)) (sCons (sC (.int 5)) (sCons (sC (.int 3)) (sCons (sC (.int 4)) sNil))))))))
@[irreducible] noncomputable def g__law_any_rule (c__law_drawn_rule : SemF) (c__law_haul : SemF) : SemF := mkF 2 2 (b__law_any_rule c__law_drawn_rule c__law_haul)
theorem d__law_any_rule (B : Bs mg) {k : Nat} {c__law_drawn_rule : SemF} {c__law_haul : SemF} (h__law_drawn_rule : FnD P w K mg base k "_law_drawn_rule" ["crate", "flag_here", "word_here", "many_here", "top"] c__law_drawn_rule) (h__law_haul : FnD P w K mg base k "_law_haul" ["crate", "below"] c__law_haul) {f : Addr} {fd : FuncData} (F : FunD K "_law_any_rule" "_law_any_rule" (defArgs S__law_any_rule) (defBody S__law_any_rule) (defScope S__law_any_rule) [] [] f fd) (hm : mg "_law_any_rule" = some (.ref f)) : FnA P w K mg base (k + 1) "_law_any_rule" ["crate", "great"] (g__law_any_rule c__law_drawn_rule c__law_haul) f fd := by
  unfold g__law_any_rule
  exact fnA_mk F hm sc__law_any_rule (fun _ _ _ _ _ _ us hl => match us, hl with | [_, _], _ => rfl) fun cdv A outer s H E hr => by
    have hu := hr.units
    exact (dss_cons (ds_if (DW.dt (dw_and (dt_val (de_var 1)) (dw_and1 (dt_cmp (od_eq hu) (de_call h__law_haul hr (da_cons (de_var 0) (da_cons de_int da_nil))) de_int))))
    (dss_one (ds_ret (de_call h__law_drawn_rule hr (da_cons (de_var 0) (da_cons de_int (da_cons de_int (da_cons de_int (da_cons de_int da_nil))))))))
    dss_nil)
    (dss_one (ds_ret (de_call h__law_drawn_rule hr (da_cons (de_var 0) (da_cons de_int (da_cons de_int (da_cons de_int (da_cons de_int da_nil)))))))))
/-! _law_match -/
abbrev S__law_match : Stmt := top 74
abbrev N__law_match : List Str := ["found", "due", "k"]
theorem sc__law_match : FnScope N__law_match ["found", "due"] (defScope S__law_match) := ⟨rfl, rfl, rfl, by decide +kernel, rfl, by decide +kernel, by decide +kernel⟩
noncomputable def b__law_match (c__law_match : SemF) : SemS := (sSeq (sIfS (sOr (sTru (sIsi ["bool"] (sVar 0))) (sTru (sIsi ["bool"] (sVar 1))))
    (sRet (sAndV (sIsi ["bool"] (sVar 0)) (sAndV (sIsi ["bool"] (sVar 1)) (sOp oEq (sVar 0) (sVar 1)))))
    sNext)
    (sSeq (sIfS (sOr (sB (sOp oNe (sIsi ["list"] (sVar 0)) (sIsi ["list"] (sVar 1)))) (sB (sOp oNe (sIsi ["tuple"] (sVar 0)) (sIsi ["tuple"] (sVar 1)))))
    (sRet (sC (.bl false)))
    sNext)
    (sSeq (sIfS (sOr (sB (sOp oNe (sIsi ["str"] (sVar 0)) (sIsi ["str"] (sVar 1)))) (sB (sOp oNe (sIsi ["int"] (sVar 0)) (sIsi ["int"] (sVar 1)))))
    (sRet (sC (.bl false)))
    sNext)
    (sSeq (sIfS (sTru (sIsi ["list", "tuple"] (sVar 1)))
    (sSeq (sIfS (sB (sOp oNe (sCB oLen (sCons (sVar 0) sNil)) (sCB oLen (sCons (sVar 1) sNil))))
    (sRet (sC (.bl false)))
    sNext)
    (sRet (sOp oEq (sLc (sRange rangeOf1 (sCons (sCB oLen (sCons (sVar 1) sNil)) sNil)) (gN 2) (sNot (sTru (sCall c__law_match (sCons (sOp oIx (sVar 0) (sVar 2)) (sCons (sOp oIx (sVar 1) (sVar 2)) sNil))))) (sVar 2) [2]) (sLst sNil))))
    sNext)
    (sRet (sAndV (sOp oEq (sOp oIsN (sVar 0) (sC .non)) (sOp oIsN (sVar 1) (sC .non))) (sOp oEq (sVar 0) (sVar 1))))))))
@[irreducible] noncomputable def g__law_match (c__law_match : SemF) : SemF := mkF 2 3 (b__law_match c__law_match)
theorem d__law_match (B : Bs mg) {k : Nat} {c__law_match : SemF} (h__law_match : FnD P w K mg base k "_law_match" ["found", "due"] c__law_match) {f : Addr} {fd : FuncData} (F : FunD K "_law_match" "_law_match" (defArgs S__law_match) (defBody S__law_match) (defScope S__law_match) [] [] f fd) (hm : mg "_law_match" = some (.ref f)) : FnA P w K mg base (k + 1) "_law_match" ["found", "due"] (g__law_match c__law_match) f fd := by
  unfold g__law_match
  exact fnA_mk F hm sc__law_match (fun _ _ _ _ _ _ us hl => match us, hl with | [_, _], _ => rfl) fun cdv A outer s H E hr => by
    have hu := hr.units
    exact (dss_cons (ds_if (DW.dt (dw_or (dt_val (de_isi (by decide) PyProof.Rows.boot_bool B.isinstance B.bool (de_var 0))) (dw_or1 (dt_val (de_isi (by decide) PyProof.Rows.boot_bool B.isinstance B.bool (de_var 1))))))
    (dss_one (ds_ret (de_and (de_isi (by decide) PyProof.Rows.boot_bool B.isinstance B.bool (de_var 0)) (de_and (de_isi (by decide) PyProof.Rows.boot_bool B.isinstance B.bool (de_var 1)) (de_one (de_cmp (od_eq hu) (de_var 0) (de_var 1)))))))
    dss_nil)
    (dss_cons (ds_if (DW.dt (dw_or (dt_cmp (od_ne hu) (de_isi (by decide) PyProof.Rows.boot_list B.isinstance B.list (de_var 0)) (de_isi (by decide) PyProof.Rows.boot_list B.isinstance B.list (de_var 1))) (dw_or1 (dt_cmp (od_ne hu) (de_isi (by decide) PyProof.Rows.boot_tuple B.isinstance B.tuple (de_var 0)) (de_isi (by decide) PyProof.Rows.boot_tuple B.isinstance B.tuple (de_var 1))))))
    (dss_one (ds_ret de_bl))
    dss_nil)
    (dss_cons (ds_if (DW.dt (dw_or (dt_cmp (od_ne hu) (de_isi (by decide) PyProof.Rows.boot_str B.isinstance B.str (de_var 0)) (de_isi (by decide) PyProof.Rows.boot_str B.isinstance B.str (de_var 1))) (dw_or1 (dt_cmp (od_ne hu) (de_isi (by decide) PyProof.Rows.boot_int B.isinstance B.int (de_var 0)) (de_isi (by decide) PyProof.Rows.boot_int B.isinstance B.int (de_var 1))))))
    (dss_one (ds_ret de_bl))
    dss_nil)
    (dss_cons (ds_if (dt_val (de_isi2 (by decide) (by decide) PyProof.Rows.boot_list PyProof.Rows.boot_tuple B.isinstance B.list B.tuple (de_var 1)))
    (dss_cons (ds_if (dt_cmp (od_ne hu) (de_callB cd_len B.len PySem.boot_len (da_cons (de_var 0) da_nil)) (de_callB cd_len B.len PySem.boot_len (da_cons (de_var 1) da_nil)))
    (dss_one (ds_ret de_bl))
    dss_nil)
    (dss_one (ds_ret (de_cmp (od_eq hu) (de_lcF (own := [("k", 2)]) rfl sc__law_match.nd (di_range1 B.range (da_cons (de_callB cd_len B.len PySem.boot_len (da_cons (de_var 1) da_nil)) da_nil)) (blkOk_by (N := N__law_match) (sc := defScope S__law_match) (by decide +kernel)) (fun _ _ _ _ _ => (dgw_name sc__law_match.nd)) (fun _ _ _ _ _ => (dts_one (dt_not (dt_val (de_call h__law_match hr (da_cons (de_ix (de_var 0) (de_var 2)) (da_cons (de_ix (de_var 1) (de_var 2)) da_nil))))))) (fun _ _ _ _ _ => (de_var 2))) (de_lst da_nil)))))
    dss_nil)
    (dss_one (ds_ret (de_and (de_cmp (od_eq hu) (de_cmp od_isN (de_var 0) de_non) (de_cmp od_isN (de_var 1) de_non)) (de_one (de_cmp (od_eq hu) (de_var 0) (de_var 1))))))))))
/-! _law_bent_rule -/
abbrev S__law_bent_rule : Stmt := top 79
abbrev N__law_bent_rule : List Str := ["crate", "rule_here", "flag", "rows", "top", "odd", "k", "m", "word", "bads", "some", "bad"]
theorem sc__law_bent_rule : FnScope N__law_bent_rule ["crate", "rule_here"] (defScope S__law_bent_rule) := ⟨rfl, rfl, rfl, by decide +kernel, rfl, by decide +kernel, by decide +kernel⟩
noncomputable def b__law_bent_rule (c__law_bits : SemF) (c__law_haul : SemF) : SemS := (sSeq (sAsg (sVar 1) (gTupD 3 (gConsD (gN 2) (gConsD (gN 3) (gConsD (gN 4) gNilD)))))
    (sSeq (sAsg (sOp oIx (sLst (sCons (sC .non) (sCons (sC (.bl true)) (sCons (sC (.bl false)) (sCons (sC (.str "1")) (sCons (sC (.int 2)) (sCons (sUn oNeg (sC (.int 1))) (sCons (sTup (sCons (sC (.int 1)) sNil)) (sCons (sLst (sCons (sC (.int 0)) sNil)) (sCons sDctM (sCons (sC (.str "")) (sCons (sTup (sCons (sC (.int 0)) (sCons (sC (.int 2)) sNil))) sNil)))))))))))) (sCall c__law_haul (sCons (sVar 0) (sCons (sC (.int 11)) sNil)))) (gN 5))
    (sSeq (sAsg (sTup (sCons (sCall c__law_haul (sCons (sVar 0) (sCons (sOp oAdd (sCB oLen (sCons (sVar 2) sNil)) (sC (.int 1))) sNil))) (sCons (sCall c__law_haul (sCons (sVar 0) (sCons (sOp oAdd (sCB oLen (sCons (sVar 3) sNil)) (sC (.int 1))) sNil))) sNil))) (gTupD 2 (gConsD (gN 6) (gConsD (gN 7) gNilD))))
    (sSeq (sAsg (sCall c__law_bits (sCons (sVar 0) (sCons (sCall c__law_haul (sCons (sVar 0) (sCons (sC (.int 4)) sNil))) sNil))) (gN 8))
    (sSeq (sAsg (sLst (sCons (sTup (sCons (sVar 8) (sCons (sVar 5) sNil))) (sCons (sTup (sCons (sVar 8) (sCons (sC (.int 0)) sNil))) (sCons (sTup (sCons (sVar 5) (sCons (sC (.int 1)) sNil))) (sCons (sTup (sCons (sOp oAdd (sVar 8) (sTup (sCons (sVar 5) sNil))) (sCons (sC (.int 1)) sNil))) (sCons (sLst (sCons (sVar 8) (sCons (sC (.int 1)) sNil))) (sCons (sTup (sCons (sVar 8) sNil)) (sCons (sTup (sCons (sVar 8) (sCons (sC (.int 1)) (sCons (sC (.int 1)) sNil)))) (sCons (sVar 5) sNil))))))))) (gN 9))
    (sSeq (sAsg (sLc (sWalk (sVar 9)) (gN 11) sYes (sTup (sCons (sVar 2) (sCons (sOp oAdd (sOp oAdd (sSl (sVar 3) none (some (sVar 7))) (sTup (sCons (sVar 11) sNil))) (sSl (sVar 3) (some (sVar 7)) none)) (sCons (sVar 4) sNil)))) [11]) (gN 10))
    (sSeq (sAsg (sOp oAdd (sVar 10) (sLst (sCons (sTup (sCons (sOp oAdd (sOp oAdd (sSl (sVar 2) none (some (sVar 6))) (sTup (sCons (sVar 5) sNil))) (sSl (sVar 2) (some (sVar 6)) none)) (sCons (sVar 3) (sCons (sVar 4) sNil)))) (sCons (sTup (sCons (sOp oAdd (sOp oAdd (sSl (sVar 2) none (some (sVar 6))) (sTup (sCons (sVar 5) sNil))) (sSl (sVar 2) (some (sOp oAdd (sVar 6) (sC (.int 1)))) none)) (sCons (sVar 3) (sCons (sVar 4) sNil)))) sNil)))) (gN 10))
    (sSeq (sAsg (sOp oAdd (sVar 10) (sLst (sCons (sTup (sCons (sTup sNil) (sCons (sVar 3) (sCons (sVar 4) sNil)))) (sCons (sTup (sCons (sCB oList (sCons (sVar 2) sNil)) (sCons (sVar 3) (sCons (sVar 4) sNil)))) (sCons (sTup (sCons (sVar 2) (sCons (sCB oList (sCons (sVar 3) sNil)) (sCons (sVar 4) sNil)))) (sCons (sTup (sCons (sVar 2) (sCons (sRevT (sVar 3)) (sCons (sVar 4) sNil)))) sNil)))))) (gN 10))
    (sSeq (sAsg (sOp oAdd (sVar 10) (sLst (sCons (sTup (sCons (sVar 2) (sCons (sOp oAdd (sVar 3) (sSl (sVar 3) (some (sUn oNeg (sC (.int 1)))) none)) (sCons (sVar 4) sNil)))) (sCons (sTup (sCons (sVar 2) (sCons (sOp oAdd (sOp oAdd (sSl (sVar 3) none (some (sVar 7))) (sRevT (sSl (sVar 3) (some (sVar 7)) (some (sOp oAdd (sVar 7) (sC (.int 2))))))) (sSl (sVar 3) (some (sOp oAdd (sVar 7) (sC (.int 2)))) none)) (sCons (sVar 4) sNil)))) sNil)))) (gN 10))
    (sSeq (sAsg (sOp oAdd (sVar 10) (sLst (sCons (sTup (sCons (sVar 2) (sCons (sVar 3) (sCons (sVar 5) sNil)))) (sCons (sTup (sCons (sVar 2) (sCons (sVar 3) (sCons (sC (.int 0)) sNil)))) (sCons (sTup (sCons (sVar 2) (sCons (sVar 5) (sCons (sVar 4) sNil)))) (sCons (sTup (sCons (sVar 5) (sCons (sVar 3) (sCons (sVar 4) sNil)))) sNil)))))) (gN 10))
    (sSeq (sAsg (sOp oAdd (sVar 10) (sLst (sCons (sTup (sCons (sVar 2) (sCons (sVar 3) sNil))) (sCons (sTup (sCons (sVar 2) (sCons (sVar 3) (sCons (sVar 4) (sCons (sC (.int 1)) sNil))))) sNil)))) (gN 10))
    (sSeq (sAsg (sOp oAdd (sVar 10) (sLst (sCons (sCB oList (sCons (sVar 1) sNil)) (sCons (sTup sNil) (sCons (sC .non) (sCons (sC (.int 0)) (sCons (sC (.str "")) (sCons sDctM (sCons (sC (.bl true)) (sCons (sTup (sCons (sVar 1) sNil)) (sCons (sVar 2) (sCons (sVar 3) sNil)))))))))))) (gN 10))
    (sRet (sOp oIx (sVar 10) (sCall c__law_haul (sCons (sVar 0) (sCons (sCB oLen (sCons (sVar 10) sNil)) sNil)))))))))))))))))
@[irreducible] noncomputable def g__law_bent_rule (c__law_bits : SemF) (c__law_haul : SemF) : SemF := mkF 2 12 (b__law_bent_rule c__law_bits c__law_haul)
theorem d__law_bent_rule (B : Bs mg) {k : Nat} {c__law_bits : SemF} {c__law_haul : SemF} (h__law_bits : FnD P w K mg base k "_law_bits" ["crate", "size"] c__law_bits) (h__law_haul : FnD P w K mg base k "_law_haul" ["crate", "below"] c__law_haul) {f : Addr} {fd : FuncData} (F : FunD K "_law_bent_rule" "_law_bent_rule" (defArgs S__law_bent_rule) (defBody S__law_bent_rule) (defScope S__law_bent_rule) [] [] f fd) (hm : mg "_law_bent_rule" = some (.ref f)) : FnA P w K mg base (k + 1) "_law_bent_rule" ["crate", "rule_here"] (g__law_bent_rule c__law_bits c__law_haul) f fd := by
  unfold g__law_bent_rule
  exact fnA_mk F hm sc__law_bent_rule (fun _ _ _ _ _ _ us hl => match us, hl with | [_, _], _ => rfl) fun cdv A outer s H E hr => by
    have hu := hr.units
    exact (dss_cons (ds_asg (de_var 1) (dg_tup rfl (dgs_cons (dg_name sc__law_bent_rule.nd) (dgs_cons (dg_name sc__law_bent_rule.nd) (dgs_cons (dg_name sc__law_bent_rule.nd) dgs_nil)))))
    (dss_cons (ds_set (i := 5) sc__law_bent_rule.nd (de_ix (de_lst (da_cons de_non (da_cons de_bl (da_cons de_bl (da_cons de_str (da_cons de_int (da_cons (de_un od_neg de_int) (da_cons (de_tup (da_cons de_int da_nil)) (da_cons (de_lst (da_cons de_int da_nil)) (da_cons de_dctM (da_cons de_str (da_cons (de_tup (da_cons de_int (da_cons de_int da_nil))) da_nil)))))))))))) (de_call h__law_haul hr (da_cons (de_var 0) (da_cons de_int da_nil)))))
    (dss_cons (ds_asg (de_tup (da_cons (de_call h__law_haul hr (da_cons (de_var 0) (da_cons (de_op od_add (de_callB cd_len B.len PySem.boot_len (da_cons (de_var 2) da_nil)) de_int) da_nil))) (da_cons (de_call h__law_haul hr (da_cons (de_var 0) (da_cons (de_op od_add (de_callB cd_len B.len PySem.boot_len (da_cons (de_var 3) da_nil)) de_int) da_nil))) da_nil))) (dg_tup rfl (dgs_cons (dg_name sc__law_bent_rule.nd) (dgs_cons (dg_name sc__law_bent_rule.nd) dgs_nil))))
    (dss_cons (ds_set (i := 8) sc__law_bent_rule.nd (de_call h__law_bits hr (da_cons (de_var 0) (da_cons (de_call h__law_haul hr (da_cons (de_var 0) (da_cons de_int da_nil))) da_nil))))
    (dss_cons (ds_set (i := 9) sc__law_bent_rule.nd (de_lst (da_cons (de_tup (da_cons (de_var 8) (da_cons (de_var 5) da_nil))) (da_cons (de_tup (da_cons (de_var 8) (da_cons de_int da_nil))) (da_cons (de_tup (da_cons (de_var 5) (da_cons de_int da_nil))) (da_cons (de_tup (da_cons (de_op od_add (de_var 8) (de_tup (da_cons (de_var 5) da_nil))) (da_cons de_int da_nil))) (da_cons (de_lst (da_cons (de_var 8) (da_cons de_int da_nil))) (da_cons (de_tup (da_cons (de_var 8) da_nil)) (da_cons (de_tup (da_cons (de_var 8) (da_cons de_int (da_cons de_int da_nil)))) (da_cons (de_var 5) da_nil))))))))))
    (dss_cons (ds_lcF (i := 10) (own := [("bad", 11)]) rfl sc__law_bent_rule.nd (di_seq (de_var 9)) (blkOk_by (N := N__law_bent_rule) (sc := defScope S__law_bent_rule) (by decide +kernel)) (fun _ _ _ _ _ => (dgw_name sc__law_bent_rule.nd)) (fun _ _ _ _ _ => dts_nil) (fun _ _ _ _ _ => (de_tup (da_cons (de_var 2) (da_cons (de_op od_add (de_op od_add (de_sl (de_var 3) dp_none (dp_some (de_var 7))) (de_tup (da_cons (de_var 11) da_nil))) (de_sl (de_var 3) (dp_some (de_var 7)) dp_none)) (da_cons (de_var 4) da_nil))))) rfl (sw_true rfl rfl rfl (by decide +kernel)))
    (dss_cons (ds_set (i := 10) sc__law_bent_rule.nd (de_op od_add (de_var 10) (de_lst (da_cons (de_tup (da_cons (de_op od_add (de_op od_add (de_sl (de_var 2) dp_none (dp_some (de_var 6))) (de_tup (da_cons (de_var 5) da_nil))) (de_sl (de_var 2) (dp_some (de_var 6)) dp_none)) (da_cons (de_var 3) (da_cons (de_var 4) da_nil)))) (da_cons (de_tup (da_cons (de_op od_add (de_op od_add (de_sl (de_var 2) dp_none (dp_some (de_var 6))) (de_tup (da_cons (de_var 5) da_nil))) (de_sl (de_var 2) (dp_some (de_op od_add (de_var 6) de_int)) dp_none)) (da_cons (de_var 3) (da_cons (de_var 4) da_nil)))) da_nil)))))
    (dss_cons (ds_set (i := 10) sc__law_bent_rule.nd (de_op od_add (de_var 10) (de_lst (da_cons (de_tup (da_cons (de_tup da_nil) (da_cons (de_var 3) (da_cons (de_var 4) da_nil)))) (da_cons (de_tup (da_cons (de_callTy cd_list B.list PyProof.Rows.boot_list (da_cons (de_var 2) da_nil)) (da_cons (de_var 3) (da_cons (de_var 4) da_nil)))) (da_cons (de_tup (da_cons (de_var 2) (da_cons (de_callTy cd_list B.list PyProof.Rows.boot_list (da_cons (de_var 3) da_nil)) (da_cons (de_var 4) da_nil)))) (da_cons (de_tup (da_cons (de_var 2) (da_cons (de_revT (de_var 3)) (da_cons (de_var 4) da_nil)))) da_nil)))))))
    (dss_cons (ds_set (i := 10) sc__law_bent_rule.nd (de_op od_add (de_var 10) (de_lst (da_cons (de_tup (da_cons (de_var 2) (da_cons (de_op od_add (de_var 3) (de_sl (de_var 3) (dp_some (de_un od_neg de_int)) dp_none)) (da_cons (de_var 4) da_nil)))) (da_cons (de_tup (da_cons (de_var 2) (da_cons (de_op od_add (de_op od_add (de_sl (de_var 3) dp_none (dp_some (de_var 7))) (de_revT (de_sl (de_var 3) (dp_some (de_var 7)) (dp_some (de_op od_add (de_var 7) de_int))))) (de_sl (de_var 3) (dp_some (de_op od_add (de_var 7) de_int)) dp_none)) (da_cons (de_var 4) da_nil)))) da_nil)))))
    (dss_cons (ds_set (i := 10) sc__law_bent_rule.nd (de_op od_add (de_var 10) (de_lst (da_cons (de_tup (da_cons (de_var 2) (da_cons (de_var 3) (da_cons (de_var 5) da_nil)))) (da_cons (de_tup (da_cons (de_var 2) (da_cons (de_var 3) (da_cons de_int da_nil)))) (da_cons (de_tup (da_cons (de_var 2) (da_cons (de_var 5) (da_cons (de_var 4) da_nil)))) (da_cons (de_tup (da_cons (de_var 5) (da_cons (de_var 3) (da_cons (de_var 4) da_nil)))) da_nil)))))))
    (dss_cons (ds_set (i := 10) sc__law_bent_rule.nd (de_op od_add (de_var 10) (de_lst (da_cons (de_tup (da_cons (de_var 2) (da_cons (de_var 3) da_nil))) (da_cons (de_tup (da_cons (de_var 2) (da_cons (de_var 3) (da_cons (de_var 4) (da_cons de_int da_nil))))) da_nil)))))
    (dss_cons (ds_set (i := 10) sc__law_bent_rule.nd (de_op od_add (de_var 10) (de_lst (da_cons (de_callTy cd_list B.list PyProof.Rows.boot_list (da_cons (de_var 1) da_nil)) (da_cons (de_tup da_nil) (da_cons de_non (da_cons de_int (da_cons de_str (da_cons de_dctM (da_cons de_bl (da_cons (de_tup (da_cons (de_var 1) da_nil)) (da_cons (de_var 2) (da_cons (de_var 3) da_nil)))))))))))))
    (dss_one (ds_ret (de_ix (de_var 10) (de_call h__law_haul hr (da_cons (de_var 0) (da_cons (de_callB cd_len B.len PySem.boot_len (da_cons (de_var 10) da_nil)) da_nil))))))))))))))))))
/-! _law_bent_word -/
abbrev S__law_bent_word : Stmt := top 80
abbrev N__law_bent_word : List Str := ["crate", "word", "odd", "k", "some"]
theorem sc__law_bent_word : FnScope N__law_bent_word ["crate", "word"] (defScope S__law_bent_word) := ⟨rfl, rfl, rfl, by decide +kernel, rfl, by decide +kernel, by decide +kernel⟩
noncomputable def b__law_bent_word (c__law_haul : SemF) : SemS := (sSeq (sAsg (sOp oIx (sLst (sCons (sC .non) (sCons (sC (.bl true)) (sCons (sC (.bl false)) (sCons (sC (.str "1")) (sCons (sC (.int 2)) (sCons (sUn oNeg (sC (.int 1))) (sCons (sTup (sCons (sC (.int 1)) sNil)) (sCons (sLst (sCons (sC (.int 0)) sNil)) (sCons sDctM (sCons (sC (.str "0")) sNil))))))))))) (sCall c__law_haul (sCons (sVar 0) (sCons (sC (.int 10)) sNil)))) (gN 2))
    (sSeq (sAsg (sCall c__law_haul (sCons (sVar 0) (sCons (sOp oAdd (sCB oLen (sCons (sVar 1) sNil)) (sC (.int 1))) sNil))) (gN 3))
    (sSeq (sAsg (sLst (sCons (sOp oAdd (sOp oAdd (sSl (sVar 1) none (some (sVar 3))) (sTup (sCons (sVar 2) sNil))) (sSl (sVar 1) (some (sVar 3)) none)) (sCons (sOp oAdd (sOp oAdd (sSl (sVar 1) none (some (sVar 3))) (sTup (sCons (sVar 2) sNil))) (sSl (sVar 1) (some (sOp oAdd (sVar 3) (sC (.int 1)))) none)) (sCons (sCB oList (sCons (sVar 1) sNil)) (sCons (sC .non) (sCons (sC (.int 0)) (sCons (sC (.str "")) (sCons (sC (.str "01")) (sCons sDctM (sCons (sC (.bl true)) sNil)))))))))) (gN 4))
    (sRet (sOp oIx (sOp oAdd (sVar 4) (sLst (sCons (sTup (sCons (sVar 1) sNil)) (sCons (sLst (sCons (sVar 1) sNil)) (sCons (sVar 1) sNil))))) (sCall c__law_haul (sCons (sVar 0) (sCons (sC (.int 12)) sNil))))))))
@[irreducible] noncomputable def g__law_bent_word (c__law_haul : SemF) : SemF := mkF 2 5 (b__law_bent_word c__law_haul)
theorem d__law_bent_word (B : Bs mg) {k : Nat} {c__law_haul : SemF} (h__law_haul : FnD P w K mg base k "_law_haul" ["crate", "below"] c__law_haul) {f : Addr} {fd : FuncData} (F : FunD K "_law_bent_word" "_law_bent_word" (defArgs S__law_bent_word) (defBody S__law_bent_word) (defScope S__law_bent_word) [] [] f fd) (hm : mg "_law_bent_word" = some (.ref f)) : FnA P w K mg base (k + 1) "_law_bent_word" ["crate", "word"] (g__law_bent_word c__law_haul) f fd := by
  unfold g__law_bent_word
  exact fnA_mk F hm sc__law_bent_word (fun _ _ _ _ _ _ us hl => match us, hl with | [_, _], _ => rfl) fun cdv A outer s H E hr => by
    have hu := hr.units
    exact (dss_cons (ds_set (i := 2) sc__law_bent_word.nd (de_ix (de_lst (da_cons de_non (da_cons de_bl (da_cons de_bl (da_cons de_str (da_cons de_int (da_cons (de_un od_neg de_int) (da_cons (de_tup (da_cons de_int da_nil)) (da_cons (de_lst (da_cons de_int da_nil)) (da_cons de_dctM (da_cons de_str da_nil))))))))))) (de_call h__law_haul hr (da_cons (de_var 0) (da_cons de_int da_nil)))))
    (dss_cons (ds_set (i := 3) sc__law_bent_word.nd (de_call h__law_haul hr (da_cons (de_var 0) (da_cons (de_op od_add (de_callB cd_len B.len PySem.boot_len (da_cons (de_var 1) da_nil)) de_int) da_nil))))
    (dss_cons (ds_set (i := 4) sc__law_bent_word.nd (de_lst (da_cons (de_op od_add (de_op od_add (de_sl (de_var 1) dp_none (dp_some (de_var 3))) (de_tup (da_cons (de_var 2) da_nil))) (de_sl (de_var 1) (dp_some (de_var 3)) dp_none)) (da_cons (de_op od_add (de_op od_add (de_sl (de_var 1) dp_none (dp_some (de_var 3))) (de_tup (da_cons (de_var 2) da_nil))) (de_sl (de_var 1) (dp_some (de_op od_add (de_var 3) de_int)) dp_none)) (da_cons (de_callTy cd_list B.list PyProof.Rows.boot_list (da_cons (de_var 1) da_nil)) (da_cons de_non (da_cons de_int (da_cons de_str (da_cons de_str (da_cons de_dctM (da_cons de_bl da_nil)))))))))))
    (dss_one (ds_ret (de_ix (de_op od_add (de_var 4) (de_lst (da_cons (de_tup (da_cons (de_var 1) da_nil)) (da_cons (de_lst (da_cons (de_var 1) da_nil)) (da_cons (de_var 1) da_nil))))) (de_call h__law_haul hr (da_cons (de_var 0) (da_cons de_int da_nil)))))))))
/-! _law_is_word -/
abbrev S__law_is_word : Stmt := top 76
abbrev N__law_is_word : List Str := ["thing", "least", "bit"]
theorem sc__law_is_word : FnScope N__law_is_word ["thing", "least"] (defScope S__law_is_word) := ⟨rfl, rfl, rfl, by decide +kernel, rfl, by decide +kernel, by decide +kernel⟩
noncomputable def b__law_is_word : SemS := (sSeq (sIfS (sOr (sNot (sTru (sIsi ["tuple"] (sVar 0)))) (sB (sOp oLt (sCB oLen (sCons (sVar 0) sNil)) (sVar 1))))
    (sRet (sC (.bl false)))
    sNext)
    (sRet (sOp oEqL (sLc (sWalk (sVar 0)) (gN 2) (sOr (sNot (sTru (sIsi ["int"] (sVar 2)))) (sOr (sTru (sIsi ["bool"] (sVar 2))) (sOr (sB (sOp oLt (sVar 2) (sC (.int 0)))) (sB (sOp oGt (sVar 2) (sC (.int 1))))))) (sVar 2) [2]) (sLst sNil))))
@[irreducible] noncomputable def g__law_is_word : SemF := mkF 2 3 (b__law_is_word)
theorem d__law_is_word (B : Bs mg) {k : Nat} {f : Addr} {fd : FuncData} (F : FunD K "_law_is_word" "_law_is_word" (defArgs S__law_is_word) (defBody S__law_is_word) (defScope S__law_is_word) [] [] f fd) (hm : mg "_law_is_word" = some (.ref f)) : FnA P w K mg base (k + 1) "_law_is_word" ["thing", "least"] (g__law_is_word) f fd := by
  unfold g__law_is_word
  exact fnA_mk F hm sc__law_is_word (fun _ _ _ _ _ _ us hl => match us, hl with | [_, _], _ => rfl) fun cdv A outer s H E hr => by
    have hu := hr.units
    exact (dss_cons (ds_if (DW.dt (dw_or (dt_not (dt_val (de_isi (by decide) PyProof.Rows.boot_tuple B.isinstance B.tuple (de_var 0)))) (dw_or1 (dt_cmp (od_lt hu) (de_callB cd_len B.len PySem.boot_len (da_cons (de_var 0) da_nil)) (de_var 1)))))
    (dss_one (ds_ret de_bl))
    dss_nil)
    (dss_one (ds_ret (de_cmp (od_eqL hu) (de_lcF (own := [("bit", 2)]) rfl sc__law_is_word.nd (di_seq (de_var 0)) (blkOk_by (N := N__law_is_word) (sc := defScope S__law_is_word) (by decide +kernel)) (fun _ _ _ _ _ => (dgw_name sc__law_is_word.nd)) (fun _ _ _ _ _ => (dts_one (DW.dt (dw_or (dt_not (dt_val (de_isi (by decide) PyProof.Rows.boot_int B.isinstance B.int (de_var 2)))) (dw_or (dt_val (de_isi (by decide) PyProof.Rows.boot_bool B.isinstance B.bool (de_var 2))) (dw_or (dt_cmp (od_lt hu) (de_var 2) de_int) (dw_or1 (dt_cmp (od_gt hu) (de_var 2) de_int)))))))) (fun _ _ _ _ _ => (de_var 2))) (de_lst da_nil)))))
/-! _law_is_rule -/
abbrev S__law_is_rule : Stmt := top 77
abbrev N__law_is_rule : List Str := ["thing", "ahead_here", "row"]
theorem sc__law_is_rule : FnScope N__law_is_rule ["thing"] (defScope S__law_is_rule) := ⟨rfl, rfl, rfl, by decide +kernel, rfl, by decide +kernel, by decide +kernel⟩
noncomputable def b__law_is_rule (c__law_is_word : SemF) : SemS := (sSeq (sIfS (sOr (sNot (sTru (sIsi ["tuple"] (sVar 0)))) (sB (sOp oNe (sCB oLen (sCons (sVar 0) sNil)) (sC (.int 3)))))
    (sRet (sC (.bl false)))
    sNext)
    (sSeq (sIfS (sOr (sNot (sTru (sCall c__law_is_word (sCons (sOp oIx (sVar 0) (sC (.int 0))) (sCons (sC (.int 1)) sNil))))) (sNot (sTru (sIsi ["tuple"] (sOp oIx (sVar 0) (sC (.int 1)))))))
    (sRet (sC (.bl false)))
    sNext)
    (sSeq (sAsg (sTup sNil) (gN 1))
    (sSeq (sFor (sWalk (sOp oIx (sVar 0) (sC (.int 1)))) (gN 2)
    (sSeq (sIfS (sOr (sNot (sTru (sIsi ["tuple"] (sVar 2)))) (sOr (sB (sOp oNe (sCB oLen (sCons (sVar 2) sNil)) (sC (.int 2)))) (sOr (sNot (sTru (sCall c__law_is_word (sCons (sOp oIx (sVar 2) (sC (.int 0))) (sCons (sC (.int 1)) sNil))))) (sNot (sTru (sCall c__law_is_word (sCons (sTup (sCons (sOp oIx (sVar 2) (sC (.int 1))) sNil)) (sCons (sC (.int 1)) sNil))))))))
    (sRet (sC (.bl false)))
    sNext)
    (sSeq (sIfS (sB (sOp oLe (sOp oIx (sVar 2) (sC (.int 0))) (sVar 1)))
    (sRet (sC (.bl false)))
    sNext)
    (sAsg (sOp oIx (sVar 2) (sC (.int 0))) (gN 1)))))
    (sRet (sAndV (sIsi ["int"] (sOp oIx (sVar 0) (sC (.int 2)))) (sAndV (sNotV (sIsi ["bool"] (sOp oIx (sVar 0) (sC (.int 2))))) (sOp oGe (sOp oIx (sVar 0) (sC (.int 2))) (sC (.int 1))))))))))
@[irreducible] noncomputable def g__law_is_rule (c__law_is_word : SemF) : SemF := mkF 1 3 (b__law_is_rule c__law_is_word)
theorem d__law_is_rule (B : Bs mg) {k : Nat} {c__law_is_word : SemF} (h__law_is_word : FnD P w K mg base k "_law_is_word" ["thing", "least"] c__law_is_word) {f : Addr} {fd : FuncData} (F : FunD K "_law_is_rule" "_law_is_rule" (defArgs S__law_is_rule) (defBody S__law_is_rule) (defScope S__law_is_rule) [] [] f fd) (hm : mg "_law_is_rule" = some (.ref f)) : FnA P w K mg base (k + 1) "_law_is_rule" ["thing"] (g__law_is_rule c__law_is_word) f fd := by
  unfold g__law_is_rule
  exact fnA_mk F hm sc__law_is_rule (fun _ _ _ _ _ _ us hl => match us, hl with | [_], _ => rfl) fun cdv A outer s H E hr => by
    have hu := hr.units
    exact (dss_cons (ds_if (DW.dt (dw_or (dt_not (dt_val (de_isi (by decide) PyProof.Rows.boot_tuple B.isinstance B.tuple (de_var 0)))) (dw_or1 (dt_cmp (od_ne hu) (de_callB cd_len B.len PySem.boot_len (da_cons (de_var 0) da_nil)) de_int))))
    (dss_one (ds_ret de_bl))
    dss_nil)
    (dss_cons (ds_if (DW.dt (dw_or (dt_not (dt_val (de_call h__law_is_word hr (da_cons (de_ix (de_var 0) de_int) (da_cons de_int da_nil))))) (dw_or1 (dt_not (dt_val (de_isi (by decide) PyProof.Rows.boot_tuple B.isinstance B.tuple (de_ix (de_var 0) de_int)))))))
    (dss_one (ds_ret de_bl))
    dss_nil)
    (dss_cons (ds_set (i := 1) sc__law_is_rule.nd (de_tup da_nil))
    (dss_cons (ds_for (passes_of rfl) rfl (di_seq (de_ix (de_var 0) de_int)) (dg_name sc__law_is_rule.nd)
    (dss_cons (ds_if (DW.dt (dw_or (dt_not (dt_val (de_isi (by decide) PyProof.Rows.boot_tuple B.isinstance B.tuple (de_var 2)))) (dw_or (dt_cmp (od_ne hu) (de_callB cd_len B.len PySem.boot_len (da_cons (de_var 2) da_nil)) de_int) (dw_or (dt_not (dt_val (de_call h__law_is_word hr (da_cons (de_ix (de_var 2) de_int) (da_cons de_int da_nil))))) (dw_or1 (dt_not (dt_val (de_call h__law_is_word hr (da_cons (de_tup (da_cons (de_ix (de_var 2) de_int) da_nil)) (da_cons de_int da_nil))))))))))
    (dss_one (ds_ret de_bl))
    dss_nil)
    (dss_cons (ds_if (dt_cmp (od_le hu) (de_ix (de_var 2) de_int) (de_var 1))
    (dss_one (ds_ret de_bl))
    dss_nil)
    (dss_one (ds_set (i := 1) sc__law_is_rule.nd (de_ix (de_var 2) de_int))))))
    (dss_one (ds_ret (de_and (de_isi (by decide) PyProof.Rows.boot_int B.isinstance B.int (de_ix (de_var 0) de_int)) (de_and (de_not (de_isi (by decide) PyProof.Rows.boot_bool B.isinstance B.bool (de_ix (de_var 0) de_int))) (de_one (de_cmp (od_ge hu) (de_ix (de_var 0) de_int) de_int))))))))))
/-! check_rule -/
-- dead: raise InvalidRule() | Raise
abbrev S_check_rule : Stmt := top 19
abbrev N_check_rule : List Str := ["rule"]
theorem sc_check_rule : FnScope N_check_rule ["rule"] (defScope S_check_rule) := ⟨rfl, rfl, rfl, by decide +kernel, rfl, by decide +kernel, by decide +kernel⟩
noncomputable def b_check_rule (c_is_rule : SemF) : SemS := (sIfS (sNot (sTru (sCall c_is_rule (sCons (sVar 0) sNil))))
    sDeadS
    sNext)
@[irreducible] noncomputable def g_check_rule (c_is_rule : SemF) : SemF := mkF 1 1 (b_check_rule c_is_rule)
theorem d_check_rule (B : Bs mg) {k : Nat} {c_is_rule : SemF} (h_is_rule : FnD P w K mg base k "is_rule" ["value"] c_is_rule) {f : Addr} {fd : FuncData} (F : FunD K "check_rule" "check_rule" (defArgs S_check_rule) (defBody S_check_rule) (defScope S_check_rule) [] [] f fd) (hm : mg "check_rule" = some (.ref f)) : FnA P w K mg base (k + 1) "check_rule" ["rule"] (g_check_rule c_is_rule) f fd := by
  unfold g_check_rule
  exact fnA_mk F hm sc_check_rule (fun _ _ _ _ _ _ us hl => match us, hl with | [_], _ => rfl) fun cdv A outer s H E hr => by
    have hu := hr.units
    exact (dss_one (ds_if (dt_not (dt_val (de_call h_is_rule hr (da_cons (de_var 0) da_nil))))
    (dss_one ds_dead)
    dss_nil))
/-! Receiver____init__ -/
abbrev S_Receiver____init__ : Stmt := inClass (top 49) 0
abbrev N_Receiver____init__ : List Str := ["self", "rule"]
theorem sc_Receiver____init__ : FnScope N_Receiver____init__ ["self", "rule"] (defScope S_Receiver____init__) := ⟨rfl, rfl, rfl, by decide +kernel, rfl, by decide +kernel, by decide +kernel⟩
noncomputable def b_Receiver____init__ (c_check_rule : SemF) : SemS := (sSeq (sDrop (sCall c_check_rule (sCons (sVar 1) sNil)))
    (sSeq (sSetF "Receiver" "held_rule" (sVar 1) (sVar 0))
    (sSetF "Receiver" "pieces" (sTup sNil) (sVar 0))))
@[irreducible] noncomputable def g_Receiver____init__ (c_check_rule : SemF) : SemF := mkF 2 2 (b_Receiver____init__ c_check_rule)
theorem d_Receiver____init__ (B : Bs mg) {k : Nat} {c_check_rule : SemF} (h_check_rule : FnD P w K mg base k "check_rule" ["rule"] c_check_rule) (cl_Receiver : Cls K (He.ga K "Receiver")) (na_Receiver_pieces : NoAttr K (He.ga K "Receiver") "pieces") (na_Receiver_held_rule : NoAttr K (He.ga K "Receiver") "held_rule") {f : Addr} {fd : FuncData} (F : FunD K "__init__" "Receiver.__init__" (defArgs S_Receiver____init__) (defBody S_Receiver____init__) (defScope S_Receiver____init__) [] [] f fd) : FnO P w K mg base (k + 1) ["self", "rule"] (g_Receiver____init__ c_check_rule) f fd := by
  unfold g_Receiver____init__
  exact fnO_mk F sc_Receiver____init__ (fun _ _ _ _ _ _ us hl => match us, hl with | [_, _], _ => rfl) fun cdv A outer s H E hr => by
    have hu := hr.units
    exact (dss_cons (ds_expr (de_call h_check_rule hr (da_cons (de_var 1) da_nil)))
    (dss_cons (ds_setf cl_Receiver na_Receiver_held_rule (de_var 1) (de_var 0))
    (dss_one (ds_setf cl_Receiver na_Receiver_pieces (de_tup da_nil) (de_var 0)))))
/-! Sender____init__ -/
abbrev S_Sender____init__ : Stmt := inClass (top 48) 0
abbrev N_Sender____init__ : List Str := ["self", "rule"]
theorem sc_Sender____init__ : FnScope N_Sender____init__ ["self", "rule"] (defScope S_Sender____init__) := ⟨rfl, rfl, rfl, by decide +kernel, rfl, by decide +kernel, by decide +kernel⟩
noncomputable def b_Sender____init__ (c_check_rule : SemF) : SemS := (sSeq (sDrop (sCall c_check_rule (sCons (sVar 1) sNil)))
    (sSeq (sSetF "Sender" "held_rule" (sVar 1) (sVar 0))
    (sSetF "Sender" "held" (sTup sNil) (sVar 0))))
@[irreducible] noncomputable def g_Sender____init__ (c_check_rule : SemF) : SemF := mkF 2 2 (b_Sender____init__ c_check_rule)
theorem d_Sender____init__ (B : Bs mg) {k : Nat} {c_check_rule : SemF} (h_check_rule : FnD P w K mg base k "check_rule" ["rule"] c_check_rule) (cl_Sender : Cls K (He.ga K "Sender")) (na_Sender_held : NoAttr K (He.ga K "Sender") "held") (na_Sender_held_rule : NoAttr K (He.ga K "Sender") "held_rule") {f : Addr} {fd : FuncData} (F : FunD K "__init__" "Sender.__init__" (defArgs S_Sender____init__) (defBody S_Sender____init__) (defScope S_Sender____init__) [] [] f fd) : FnO P w K mg base (k + 1) ["self", "rule"] (g_Sender____init__ c_check_rule) f fd := by
  unfold g_Sender____init__
  exact fnO_mk F sc_Sender____init__ (fun _ _ _ _ _ _ us hl => match us, hl with | [_, _], _ => rfl) fun cdv A outer s H E hr => by
    have hu := hr.units
    exact (dss_cons (ds_expr (de_call h_check_rule hr (da_cons (de_var 1) da_nil)))
    (dss_cons (ds_setf cl_Sender na_Sender_held_rule (de_var 1) (de_var 0))
    (dss_one (ds_setf cl_Sender na_Sender_held (de_tup da_nil) (de_var 0)))))
/-! Framing____init__ -/
abbrev S_Framing____init__ : Stmt := inClass (top 70) 0
abbrev N_Framing____init__ : List Str := ["self", "rule"]
theorem sc_Framing____init__ : FnScope N_Framing____init__ ["self", "rule"] (defScope S_Framing____init__) := ⟨rfl, rfl, rfl, by decide +kernel, rfl, by decide +kernel, by decide +kernel⟩
noncomputable def b_Framing____init__ (c_check_rule : SemF) : SemS := (sSeq (sDrop (sCall c_check_rule (sCons (sVar 1) sNil)))
    (sSetF "Framing" "held_rule" (sVar 1) (sVar 0)))
@[irreducible] noncomputable def g_Framing____init__ (c_check_rule : SemF) : SemF := mkF 2 2 (b_Framing____init__ c_check_rule)
theorem d_Framing____init__ (B : Bs mg) {k : Nat} {c_check_rule : SemF} (h_check_rule : FnD P w K mg base k "check_rule" ["rule"] c_check_rule) (cl_Framing : Cls K (He.ga K "Framing")) (na_Framing_held_rule : NoAttr K (He.ga K "Framing") "held_rule") {f : Addr} {fd : FuncData} (F : FunD K "__init__" "Framing.__init__" (defArgs S_Framing____init__) (defBody S_Framing____init__) (defScope S_Framing____init__) [] [] f fd) : FnO P w K mg base (k + 1) ["self", "rule"] (g_Framing____init__ c_check_rule) f fd := by
  unfold g_Framing____init__
  exact fnO_mk F sc_Framing____init__ (fun _ _ _ _ _ _ us hl => match us, hl with | [_, _], _ => rfl) fun cdv A outer s H E hr => by
    have hu := hr.units
    exact (dss_cons (ds_expr (de_call h_check_rule hr (da_cons (de_var 1) da_nil)))
    (dss_one (ds_setf cl_Framing na_Framing_held_rule (de_var 1) (de_var 0))))
/-! law -/
abbrev S_law : Stmt := top 82
abbrev N_law : List Str := ["script", "at", "near", "thing", "crate", "turn", "rule_here", "trial", "word"]
theorem sc_law : FnScope N_law ["script"] (defScope S_law) := ⟨rfl, rfl, rfl, by decide +kernel, rfl, by decide +kernel, by decide +kernel⟩
noncomputable def b_law (c__law_crate : SemF) (c_is_rule : SemF) (c__law_any_rule : SemF) (c__law_bits : SemF) (c_is_word : SemF) (c__law_haul : SemF) (c__law_match : SemF) (c__law_bent_rule : SemF) (c__law_bent_word : SemF) (c__law_is_rule : SemF) (c__law_is_word : SemF) (c_Receiver____init__ : SemF) (c_Sender____init__ : SemF) (c_Framing____init__ : SemF) : SemS := (sSeq (sFor (sRange rangeOf1 (sCons (sCB oMax (sCons (sC (.int 1)) (sCons (sCB oMin (sCons (sC (.int 6)) (sCons (sCB oLen (sCons (sVar 0) sNil)) sNil))) sNil))) sNil)) (gN 1)
    (sSeq (sAsg (sCall c__law_crate (sCons (sVar 0) (sCons (sVar 1) sNil))) (gN 4))
    (sFor (sRange rangeOf1 (sCons (sC (.int 4)) sNil)) (gN 5)
    (sSeq (sAsg (sCall c__law_any_rule (sCons (sVar 4) (sCons (sC (.bl true)) sNil))) (gN 6))
    (sSeq (sIfS (sB (sOp oEq (sCall c__law_haul (sCons (sVar 4) (sCons (sC (.int 5)) sNil))) (sC (.int 0))))
    (sAsg (sOp oAdd (sSl (sVar 6) none (some (sC (.int 2)))) (sTup (sCons (sOp oAdd (sC (.int 1)) (sCall c__law_haul (sCons (sVar 4) (sCons (sOp oPow (sC (.int 10)) (sC (.int 9))) sNil)))) sNil))) (gN 6))
    sNext)
    (sSeq (sIfS (sNot (sTru (sCall c__law_match (sCons (sLst (sCons (sCall c_is_rule (sCons (sVar 6) sNil)) (sCons (sCallK [0] c_is_rule (sCons (sVar 6) sNil)) sNil))) (sCons (sLst (sCons (sC (.bl true)) (sCons (sC (.bl true)) sNil))) sNil)))))
    (sRet (sC (.bl false)))
    sNext)
    (sSeq (sFor (sRange rangeOf1 (sCons (sC (.int 9)) sNil)) (gN 7)
    (sSeq (sAsg (sCall c__law_bent_rule (sCons (sVar 4) (sCons (sVar 6) sNil))) (gN 3))
    (sIfS (sNot (sTru (sCall c__law_match (sCons (sLst (sCons (sCall c_is_rule (sCons (sVar 3) sNil)) (sCons (sCall c_is_word (sCons (sVar 3) sNil)) sNil))) (sCons (sLst (sCons (sCall c__law_is_rule (sCons (sVar 3) sNil)) (sCons (sCall c__law_is_word (sCons (sVar 3) (sCons (sC (.int 0)) sNil))) sNil))) sNil)))))
    (sRet (sC (.bl false)))
    sNext)))
    (sSeq (sAsg (sCall c__law_bits (sCons (sVar 4) (sCons (sCall c__law_haul (sCons (sVar 4) (sCons (sOp oIx (sLst (sCons (sC (.int 12)) (sCons (sC (.int 401)) sNil))) (sCall c__law_haul (sCons (sVar 4) (sCons (sC (.int 2)) sNil)))) sNil))) sNil))) (gN 8))
    (sSeq (sIfS (sNot (sTru (sCall c__law_match (sCons (sLst (sCons (sCall c_is_word (sCons (sVar 8) sNil)) (sCons (sCallK [0] c_is_word (sCons (sVar 8) sNil)) sNil))) (sCons (sLst (sCons (sC (.bl true)) (sCons (sC (.bl true)) sNil))) sNil)))))
    (sRet (sC (.bl false)))
    sNext)
    (sFor (sRange rangeOf1 (sCons (sC (.int 7)) sNil)) (gN 7)
    (sSeq (sAsg (sCall c__law_bent_word (sCons (sVar 4) (sCons (sVar 8) sNil))) (gN 3))
    (sIfS (sNot (sTru (sCall c__law_match (sCons (sLst (sCons (sCall c_is_word (sCons (sVar 3) sNil)) (sCons (sCall c_is_rule (sCons (sVar 3) sNil)) sNil))) (sCons (sLst (sCons (sCall c__law_is_word (sCons (sVar 3) (sCons (sC (.int 0)) sNil))) (sCons (sC (.bl false)) sNil))) sNil)))))
    (sRet (sC (.bl false)))
    sNext))))))))))))
    (sSeq (sAsg (sTup (sCons (sTup (sCons (sC (.int 1)) sNil)) (sCons (sTup sNil) (sCons (sC (.int 1)) sNil)))) (gN 2))
    (sSeq (sFor (sWalk (sTup (sCons (sMake "Framing" c_Framing____init__ (sCons (sVar 2) sNil)) (sCons (sMake "Sender" c_Sender____init__ (sCons (sVar 2) sNil)) (sCons (sMake "Receiver" c_Receiver____init__ (sCons (sVar 2) sNil)) sNil))))) (gN 3)
    (sIfS (sOr (sB (sOp oNotB (sCall c_is_rule (sCons (sVar 3) sNil)) (sC (.bl false)))) (sB (sOp oNotB (sCall c_is_word (sCons (sVar 3) sNil)) (sC (.bl false)))))
    (sRet (sC (.bl false)))
    sNext))
    (sSeq (sIfS (sB (sOp oNotB (sCall c_is_rule (sCons (sTup (sCons (sOp oRepD (sTup (sCons (sC (.int 0)) sNil)) (sC (.int 99))) (sCons (sTup (sCons (sTup (sCons (sOp oRepD (sTup (sCons (sC (.int 1)) sNil)) (sC (.int 99))) (sCons (sC (.int 0)) sNil))) sNil)) (sCons (sC (.int 17)) sNil)))) sNil)) (sC (.bl true))))
    (sRet (sC (.bl false)))
    sNext)
    (sRet (sAndV (sOp oIsB (sCall c_is_word (sCons (sTup sNil) sNil)) (sC (.bl true))) (sAndV (sOp oIsB (sCall c_is_rule (sCons (sTup (sCons (sTup (sCons (sC (.int 0)) sNil)) (sCons (sTup sNil) (sCons (sC (.int 1)) sNil)))) sNil)) (sC (.bl true))) (sOp oIsB (sCall c_is_rule (sCons (sTup (sCons (sTup sNil) (sCons (sTup sNil) (sCons (sC (.int 1)) sNil)))) sNil)) (sC (.bl false))))))))))
@[irreducible] noncomputable def g_law (c__law_crate : SemF) (c_is_rule : SemF) (c__law_any_rule : SemF) (c__law_bits : SemF) (c_is_word : SemF) (c__law_haul : SemF) (c__law_match : SemF) (c__law_bent_rule : SemF) (c__law_bent_word : SemF) (c__law_is_rule : SemF) (c__law_is_word : SemF) (c_Receiver____init__ : SemF) (c_Sender____init__ : SemF) (c_Framing____init__ : SemF) : SemF := mkF 1 9 (b_law c__law_crate c_is_rule c__law_any_rule c__law_bits c_is_word c__law_haul c__law_match c__law_bent_rule c__law_bent_word c__law_is_rule c__law_is_word c_Receiver____init__ c_Sender____init__ c_Framing____init__)
theorem d_law (B : Bs mg) {k : Nat} {c__law_crate : SemF} {c_is_rule : SemF} {c__law_any_rule : SemF} {c__law_bits : SemF} {c_is_word : SemF} {c__law_haul : SemF} {c__law_match : SemF} {c__law_bent_rule : SemF} {c__law_bent_word : SemF} {c__law_is_rule : SemF} {c__law_is_word : SemF} {c_Receiver____init__ : SemF} {c_Sender____init__ : SemF} {c_Framing____init__ : SemF} (h__law_crate : FnD P w K mg base (k + 1) "_law_crate" ["script", "at"] c__law_crate) (h_is_rule : FnD P w K mg base (k + 1) "is_rule" ["value"] c_is_rule) (h__law_any_rule : FnD P w K mg base (k + 1) "_law_any_rule" ["crate", "great"] c__law_any_rule) (h__law_bits : FnD P w K mg base (k + 1) "_law_bits" ["crate", "size"] c__law_bits) (h_is_word : FnD P w K mg base (k + 1) "is_word" ["value"] c_is_word) (h__law_haul : FnD P w K mg base (k + 1) "_law_haul" ["crate", "below"] c__law_haul) (h__law_match : FnD P w K mg base (k + 1) "_law_match" ["found", "due"] c__law_match) (h__law_bent_rule : FnD P w K mg base (k + 1) "_law_bent_rule" ["crate", "rule_here"] c__law_bent_rule) (h__law_bent_word : FnD P w K mg base (k + 1) "_law_bent_word" ["crate", "word"] c__law_bent_word) (h__law_is_rule : FnD P w K mg base (k + 1) "_law_is_rule" ["thing"] c__law_is_rule) (h__law_is_word : FnD P w K mg base (k + 1) "_law_is_word" ["thing", "least"] c__law_is_word) (k_is_rule_value : FnK P w K mg base (k + 1) "is_rule" ["value"] ["value"] [0] c_is_rule) (k_is_word_value : FnK P w K mg base (k + 1) "is_word" ["value"] ["value"] [0] c_is_word) (i_Receiver____init__ : FnI P w K mg base k "Receiver" ["self", "rule"] c_Receiver____init__) (i_Sender____init__ : FnI P w K mg base k "Sender" ["self", "rule"] c_Sender____init__) (i_Framing____init__ : FnI P w K mg base k "Framing" ["self", "rule"] c_Framing____init__) {f : Addr} {fd : FuncData} (F : FunD K "law" "law" (defArgs S_law) (defBody S_law) (defScope S_law) [] [] f fd) (hm : mg "law" = some (.ref f)) : FnA P w K mg base ((k + 1) + 1) "law" ["script"] (g_law c__law_crate c_is_rule c__law_any_rule c__law_bits c_is_word c__law_haul c__law_match c__law_bent_rule c__law_bent_word c__law_is_rule c__law_is_word c_Receiver____init__ c_Sender____init__ c_Framing____init__) f fd := by
  unfold g_law
  exact fnA_mk F hm sc_law (fun _ _ _ _ _ _ us hl => match us, hl with | [_], _ => rfl) fun cdv A outer s H E hr => by
    have hu := hr.units
    exact (dss_cons (ds_for (passes_of rfl) rfl (di_range1 B.range (da_cons (de_callB (cd_max rfl) B.max PyProof.Rows.boot_max (da_cons de_int (da_cons (de_callB (cd_min rfl) B.min PyProof.Rows.boot_min (da_cons de_int (da_cons (de_callB cd_len B.len PySem.boot_len (da_cons (de_var 0) da_nil)) da_nil))) da_nil))) da_nil)) (dg_name sc_law.nd)
    (dss_cons (ds_set (i := 4) sc_law.nd (de_call h__law_crate hr (da_cons (de_var 0) (da_cons (de_var 1) da_nil))))
    (dss_one (ds_for (passes_of rfl) rfl (di_range1 B.range (da_cons de_int da_nil)) (dg_name sc_law.nd)
    (dss_cons (ds_set (i := 6) sc_law.nd (de_call h__law_any_rule hr (da_cons (de_var 4) (da_cons de_bl da_nil))))
    (dss_cons (ds_if (dt_cmp (od_eq hu) (de_call h__law_haul hr (da_cons (de_var 4) (da_cons de_int da_nil))) de_int)
    (dss_one (ds_set (i := 6) sc_law.nd (de_op od_add (de_sl (de_var 6) dp_none (dp_some de_int)) (de_tup (da_cons (de_op od_add de_int (de_call h__law_haul hr (da_cons (de_var 4) (da_cons (de_op od_pow de_int de_int) da_nil)))) da_nil)))))
    dss_nil)
    (dss_cons (ds_if (dt_not (dt_val (de_call h__law_match hr (da_cons (de_lst (da_cons (de_call h_is_rule hr (da_cons (de_var 6) da_nil)) (da_cons (de_callK k_is_rule_value hr (dk_cons (de_var 6) dk_nil)) da_nil))) (da_cons (de_lst (da_cons de_bl (da_cons de_bl da_nil))) da_nil)))))
    (dss_one (ds_ret de_bl))
    dss_nil)
    (dss_cons (ds_for (passes_of rfl) rfl (di_range1 B.range (da_cons de_int da_nil)) (dg_name sc_law.nd)
    (dss_cons (ds_set (i := 3) sc_law.nd (de_call h__law_bent_rule hr (da_cons (de_var 4) (da_cons (de_var 6) da_nil))))
    (dss_one (ds_if (dt_not (dt_val (de_call h__law_match hr (da_cons (de_lst (da_cons (de_call h_is_rule hr (da_cons (de_var 3) da_nil)) (da_cons (de_call h_is_word hr (da_cons (de_var 3) da_nil)) da_nil))) (da_cons (de_lst (da_cons (de_call h__law_is_rule hr (da_cons (de_var 3) da_nil)) (da_cons (de_call h__law_is_word hr (da_cons (de_var 3) (da_cons de_int da_nil))) da_nil))) da_nil)))))
    (dss_one (ds_ret de_bl))
    dss_nil))))
    (dss_cons (ds_set (i := 8) sc_law.nd (de_call h__law_bits hr (da_cons (de_var 4) (da_cons (de_call h__law_haul hr (da_cons (de_var 4) (da_cons (de_ix (de_lst (da_cons de_int (da_cons de_int da_nil))) (de_call h__law_haul hr (da_cons (de_var 4) (da_cons de_int da_nil)))) da_nil))) da_nil))))
    (dss_cons (ds_if (dt_not (dt_val (de_call h__law_match hr (da_cons (de_lst (da_cons (de_call h_is_word hr (da_cons (de_var 8) da_nil)) (da_cons (de_callK k_is_word_value hr (dk_cons (de_var 8) dk_nil)) da_nil))) (da_cons (de_lst (da_cons de_bl (da_cons de_bl da_nil))) da_nil)))))
    (dss_one (ds_ret de_bl))
    dss_nil)
    (dss_one (ds_for (passes_of rfl) rfl (di_range1 B.range (da_cons de_int da_nil)) (dg_name sc_law.nd)
    (dss_cons (ds_set (i := 3) sc_law.nd (de_call h__law_bent_word hr (da_cons (de_var 4) (da_cons (de_var 8) da_nil))))
    (dss_one (ds_if (dt_not (dt_val (de_call h__law_match hr (da_cons (de_lst (da_cons (de_call h_is_word hr (da_cons (de_var 3) da_nil)) (da_cons (de_call h_is_rule hr (da_cons (de_var 3) da_nil)) da_nil))) (da_cons (de_lst (da_cons (de_call h__law_is_word hr (da_cons (de_var 3) (da_cons de_int da_nil))) (da_cons de_bl da_nil))) da_nil)))))
    (dss_one (ds_ret de_bl))
    dss_nil)))))))))))))))
    (dss_cons (ds_set (i := 2) sc_law.nd (de_tup (da_cons (de_tup (da_cons de_int da_nil)) (da_cons (de_tup da_nil) (da_cons de_int da_nil)))))
    (dss_cons (ds_for (passes_of rfl) rfl (di_seq (de_tup (da_cons (de_make i_Framing____init__ hr (da_cons (de_var 2) da_nil)) (da_cons (de_make i_Sender____init__ hr (da_cons (de_var 2) da_nil)) (da_cons (de_make i_Receiver____init__ hr (da_cons (de_var 2) da_nil)) da_nil))))) (dg_name sc_law.nd)
    (dss_one (ds_if (DW.dt (dw_or (dt_cmp od_notB (de_call h_is_rule hr (da_cons (de_var 3) da_nil)) de_bl) (dw_or1 (dt_cmp od_notB (de_call h_is_word hr (da_cons (de_var 3) da_nil)) de_bl))))
    (dss_one (ds_ret de_bl))
    dss_nil)))
    (dss_cons (ds_if (dt_cmp od_notB (de_call h_is_rule hr (da_cons (de_tup (da_cons (de_op od_repD (de_tup (da_cons de_int da_nil)) de_int) (da_cons (de_tup (da_cons (de_tup (da_cons (de_op od_repD (de_tup (da_cons de_int da_nil)) de_int) (da_cons de_int da_nil))) da_nil)) (da_cons de_int da_nil)))) da_nil)) de_bl)
    (dss_one (ds_ret de_bl))
    dss_nil)
    (dss_one (ds_ret (de_and (de_cmp od_isB (de_call h_is_word hr (da_cons (de_tup da_nil) da_nil)) de_bl) (de_and (de_cmp od_isB (de_call h_is_rule hr (da_cons (de_tup (da_cons (de_tup (da_cons de_int da_nil)) (da_cons (de_tup da_nil) (da_cons de_int da_nil)))) da_nil)) de_bl) (de_one (de_cmp od_isB (de_call h_is_rule hr (da_cons (de_tup (da_cons (de_tup da_nil) (da_cons (de_tup da_nil) (da_cons de_int da_nil)))) da_nil)) de_bl))))))))))
end
noncomputable abbrev P__law_crate : SemF := g__law_crate
noncomputable abbrev P_is_integer : SemF := g_is_integer
noncomputable abbrev P_is_bit : SemF := g_is_bit P_is_integer
noncomputable abbrev P_is_word : SemF := g_is_word P_is_bit
noncomputable abbrev P_is_full_word : SemF := g_is_full_word P_is_word
noncomputable abbrev P_is_insert : SemF := g_is_insert P_is_full_word P_is_bit
noncomputable abbrev P_are_inserts : SemF := g_are_inserts P_is_insert
noncomputable abbrev P_is_at_least : SemF := g_is_at_least P_is_integer
noncomputable abbrev P_is_rule : SemF := g_is_rule P_is_full_word P_are_inserts P_is_at_least
noncomputable abbrev P__law_haul : SemF := g__law_haul
noncomputable abbrev P__law_bits : SemF := g__law_bits P__law_haul
noncomputable abbrev P__law_drawn_rule : SemF := g__law_drawn_rule P__law_bits P__law_haul
noncomputable abbrev P__law_any_rule : SemF := g__law_any_rule P__law_drawn_rule P__law_haul
noncomputable def P__law_match : Nat → SemF
  | 0 => botF
  | n + 1 => g__law_match (P__law_match n)
noncomputable abbrev P__law_bent_rule : SemF := g__law_bent_rule P__law_bits P__law_haul
noncomputable abbrev P__law_bent_word : SemF := g__law_bent_word P__law_haul
noncomputable abbrev P__law_is_word : SemF := g__law_is_word
noncomputable abbrev P__law_is_rule : SemF := g__law_is_rule P__law_is_word
noncomputable abbrev P_check_rule : SemF := g_check_rule P_is_rule
noncomputable abbrev P_Receiver____init__ : SemF := g_Receiver____init__ P_check_rule
noncomputable abbrev P_Sender____init__ : SemF := g_Sender____init__ P_check_rule
noncomputable abbrev P_Framing____init__ : SemF := g_Framing____init__ P_check_rule
noncomputable abbrev P_law (m : Nat) : SemF := g_law P__law_crate P_is_rule P__law_any_rule P__law_bits P_is_word P__law_haul (P__law_match m) P__law_bent_rule P__law_bent_word P__law_is_rule P__law_is_word P_Receiver____init__ P_Sender____init__ P_Framing____init__
local macro_rules | `(tactic| walk_at "wp") => `(tactic| simp only [WR_mkF, WR_bind, WR_ok, WO_some, WR_ofO, WO_map, WR_sVar, WR_sC, WR_sOp, WR_sUn, WR_sTru, WR_sB, WR_sAnd, WR_sOr, WR_sNot, WR_sAndV, WR_sOrV, WR_sNotV, WR_sIf, WR_sNil, WR_sCons, WR_sStar, WR_sTup, WR_sLst, WR_sLstM, WR_sCM, WR_sDct1, WR_sFld, WS_sSetF, WR_sMeth, WR_sProp, WR_sMake, WR_sOpM, WR_sLc2, WR_sRevT, WR_sLm, WR_sFrz, WR_sCall, WR_sCallK, WR_sCB, WR_sIsi, WR_sDctM, WR_sRepL, WR_sPart0, WR_sPart1, WR_sSl, WR_sApp, WR_sPop, WR_sChain,
  WS_nx, WS_ret, WS_sNext, WS_sSeq, WS_sDrop, WS_sRet, WS_sRetN, WS_sIfS, WS_sAsg, WO_gN, WO_gTup, WO_gCons, WO_gNil, WS_sPar2, WS_sPar3, WS_sSub, WR_sWalk, WR_sRange, WR_sZip, WS_sFor, WR_sLc, WR_sLcM, WR_sYes, WS_sWhile, WS_sBrk,
  getE_zero, getE_succ, setE_zero, setE_succ, unsE_zero, unsE_succ, wipeD_nil, wipeD_cons, List.map_cons, List.map_nil, List.cons_append, List.nil_append, List.length_cons, List.length_nil, List.replicate_succ, List.replicate_zero, List.append_nil, Nat.reduceAdd, Nat.reduceSub, Nat.zero_add,
  sz0, sz1, sz2, sz3, sz4, sz5, sz6, sz7, sz8, sz9, sz10, sz11, sz12, true_and, and_true, if_true, if_false, Bool.false_eq_true, Bool.not_true, Bool.not_false, Bool.not_eq_true, decide_eq_true_eq, Option.some.injEq])
local macro_rules | `(tactic| walk_at "op") => `(tactic| simp only [WO_some, WO_ite, asB_bl, tru_bl, o_add, o_sub, o_eqI, o_neI, o_ltI, o_gtI, o_leI, o_geI, o_eqB, o_neB, o_eqS, o_neS, o_eqNN, o_isN, o_notN, D.isNon, ix_tup, ix_lst, atI_0, atI_1, atI_2, atI_3, len_tup, len_lst, items_tup, items_lst, tuple_lst, o_in01, walk_tup, walk_lst, tyOf, List.any_cons, List.any_nil, Bool.or_false, Bool.false_or, Bool.or_self, Bool.or_true, Bool.true_or, isTy_NoneType_bool, isTy_NoneType_int, isTy_NoneType_str, isTy_NoneType_tuple, isTy_NoneType_list, isTy_NoneType_dict, isTy_bool_bool, isTy_bool_int, isTy_bool_str, isTy_bool_tuple, isTy_bool_list, isTy_bool_dict, isTy_int_bool, isTy_int_int, isTy_int_str, isTy_int_tuple, isTy_int_list, isTy_int_dict, isTy_str_bool, isTy_str_int, isTy_str_str, isTy_str_tuple, isTy_str_list, isTy_str_dict, isTy_tuple_bool, isTy_tuple_int, isTy_tuple_str, isTy_tuple_tuple, isTy_tuple_list, isTy_tuple_dict, isTy_list_bool, isTy_list_int, isTy_list_str, isTy_list_tuple, isTy_list_list, isTy_list_dict, isTy_dict_bool, isTy_dict_int, isTy_dict_str, isTy_dict_tuple, isTy_dict_list, isTy_dict_dict, isTy_object_bool, isTy_object_int, isTy_object_str, isTy_object_tuple, isTy_object_list, isTy_object_dict, List.getElem?_cons_zero, List.getElem?_cons_succ, decide_eq_true_eq, if_true, if_false, Bool.false_eq_true, Bool.not_true, Bool.not_false, decide_true, decide_false, reduceCtorEq, List.length_cons, List.length_nil, Nat.reduceAdd, Int.cast_ofNat_Int, Int.reduceLT, Int.reduceLE, Int.reduceEq, Int.reduceNe, Int.reduceAdd, Int.reduceSub, Bool.not_eq_true])
local macro_rules | `(tactic| walk_at "wpl") => `(tactic| simp (config := {maxSteps := 4000000}) only [WR_mkF, WR_bind, WR_ok, WO_some, WR_ofO, WO_map, WR_sVar, WR_sC, WR_sOp, WR_sUn, WR_sTru, WR_sB, WR_sAnd, WR_sOr, WR_sNot, WR_sAndV, WR_sOrV, WR_sNotV, WR_sIf, WR_sNil, WR_sCons, WR_sStar, WR_sTup, WR_sLst, WR_sLstM, WR_sCM, WR_sDct1, WR_sFld, WS_sSetF, WR_sMeth, WR_sProp, WR_sMake, WR_sOpM, WR_sLc2, WR_sRevT, WR_sLm, WR_sFrz, WR_sCall, WR_sCallK, WR_sCB, WR_sIsi, WR_sDctM, WR_sRepL, WR_sPart0, WR_sPart1, WR_sSl, WR_sApp, WR_sPop, WR_sChain,
  WS_nx, WS_ret, WS_sNext, WS_sSeq, WS_sDrop, WS_sRet, WS_sRetN, WS_sIfS, WS_sAsg, WO_gN, WO_gTup, WO_gCons, WO_gNil, WS_sPar2, WS_sPar3, WS_sSub, WR_sWalk, WR_sRange, WR_sZip, WS_sFor, WR_sLc, WR_sLcM, WR_sYes, WS_sWhile, WS_sBrk,
  getE_zero, getE_succ, setE_zero, setE_succ, unsE_zero, unsE_succ, wipeD_nil, wipeD_cons, List.map_cons, List.map_nil, List.cons_append, List.nil_append, List.length_cons, List.length_nil, List.replicate_succ, List.replicate_zero, List.append_nil, Nat.reduceAdd, Nat.reduceSub, Nat.zero_add,
  sz0, sz1, sz2, sz3, sz4, sz5, sz6, sz7, sz8, sz9, sz10, sz11, sz12, true_and, and_true, if_true, if_false, Bool.false_eq_true, Bool.not_true, Bool.not_false, Bool.not_eq_true, decide_eq_true_eq, Option.some.injEq])

/-! ### the crate -/
def crD (a b j : Int) : SO := .lst [.int a, .int b, .int j]
structure CrOk (a b j : Int) (J : Nat) : Prop where
  b0 : 0 ≤ b
  b1 : b < 10 ^ 40
  j0 : 0 ≤ j
  j1 : j ≤ J
theorem w_haul {st : Sto} {n J : Nat} {a b j below : Int} (hn : st[n]? = some (crD a b j)) (ok : CrOk a b j J) (hJ : J ≤ 10 ^ 9) (h0 : 0 < below) (hb : below < 2 ^ 60) {Q : D → Sto → Prop}
    (hQ : ∀ d a' j', 0 ≤ d → d < below → CrOk a' b j' (J + 1) → Q (.int d) (st.set n (crD a' b j'))) : WR (g__law_haul [.ref n, .int below] st) Q := by
  have hlt : n < st.length := (List.getElem?_eq_some_iff.mp hn).1
  unfold crD at hn
  have hs : ∀ ds : List D, (st.set n (.lst ds))[n]? = some (.lst ds) := fun ds => List.getElem?_set_self hlt
  unfold g__law_haul b__law_haul
  walk_at "wp"
  simp only [ix_ref hn, set_ref hn, ix_ref (hs _), set_ref (hs _), List.length_cons, List.length_nil, Nat.reduceAdd, ixN_30, ixN_31, ixN_32, Option.map_some, List.set_cons_zero, List.set_cons_succ, atI_0, atI_1, atI_2, List.getElem?_cons_zero, List.getElem?_cons_succ, WO_some, o_gtI, asB_bl, decide_eq_true_eq, oInt1, o_mod, o_div, o_add, o_mul, o_pow]
  have hj := ok.j0
  have hj1 := ok.j1
  have hb0 := ok.b0
  have hb1 := ok.b1
  split
  · refine ⟨h0, ⟨h0, log2_small h0 hb⟩, ?_⟩
    exact hQ _ _ _ (Int.emod_nonneg _ (by omega)) (Int.emod_lt_of_pos _ h0) ⟨hb0, hb1, hj, by omega⟩
  · have e1 : ((39 : Int)).toNat = 39 := rfl
    have e2 : ((37 : Int)).toNat = 37 := rfl
    have e3 : ((2 : Int)).toNat = 2 := rfl
    have e4 : ((3 : Int)).toNat = 3 := rfl
    rw [e1, e2, e3, e4]
    have hx : (b + 50021 * (j + 1)).natAbs < 2 ^ 200 := by omega
    have hy0 : 0 ≤ (b + 50021 * (j + 1)) ^ 2 % (10 ^ 39 + 3) := Int.emod_nonneg _ (by decide)
    have hy1 : (b + 50021 * (j + 1)) ^ 2 % (10 ^ 39 + 3) < 10 ^ 39 + 3 := Int.emod_lt_of_pos _ (by decide)
    generalize (b + 50021 * (j + 1)) ^ 2 % (10 ^ 39 + 3) = y at *
    have hz : (y + 1100009 * (j + 1)).natAbs < 2 ^ 200 := by omega
    refine ⟨mulOk_of (m := 20) (n := 60) (by decide) (by omega) (by decide) (by decide) (by decide), powOk_of hx (by decide) (by decide), by decide +kernel, by decide, ?_⟩
    refine ⟨mulOk_of (m := 21) (n := 60) (by decide) (by omega) (by decide) (by decide) (by decide), powOk_of hz (by decide) (by decide), by decide +kernel, by decide, ⟨by decide, log2_small (by decide) (by decide)⟩, h0, ?_⟩
    exact hQ _ _ _ (Int.emod_nonneg _ (by omega)) (Int.emod_lt_of_pos _ h0) ⟨hb0, hb1, by omega, by omega⟩

/-! ### a crate is made -/
theorem w_crate {ns : List Int} {at_ : Nat} {st : Sto} (hz : ns.length ≤ 1000) (ha : at_ ≤ 1000) {Q : D → Sto → Prop} (hQ : ∀ a b, CrOk a b 0 0 → Q (.ref st.length) (st ++ [crD a b 0])) : WR (g__law_crate [.lst (ns.map .int), .int at_] st) Q := by
  unfold g__law_crate b__law_crate
  walk_at "wp"
  have hl : oLen st [.lst (ns.map D.int)] = some (.int ns.length) := by
    show ((some (ns.map D.int)).map fun ds => D.int ds.length) = _
    simp
  simp only [hl, WO_some, o_ltI, asB_bl, decide_eq_true_eq, ix_lst, atI_nn]
  have key : ∀ cell : Int, WO (oAbs st [D.int cell]) fun d => WO (oPow st (D.int 10) (D.int 18)) fun d_1 => WO (oSub st d d_1) fun d => WO (oMax st [D.int 0, d]) fun d => WO (oInt1 st [D.int cell]) fun d_2 =>
      WO (oPow st (D.int 10) (D.int 37)) fun d_3 => WO (oAdd st d_3 (D.int 91)) fun d_4 => WO (oMod st d_2 d_4) fun d_2 => WO (oMulI st d_2 (D.int 83)) fun d_2 => WO (oMulI st (D.int 59) (D.int at_)) fun d_5 => WO (oAdd st d_2 d_5) fun d_2 =>
      WO (oAdd st d_2 (D.int 47)) fun d_2 => Q (D.ref st.length) (st ++ [SO.lst [d, d_2, D.int 0]]) := by
    intro cell
    have e1 : ((18 : Int)).toNat = 18 := rfl
    have e2 : ((37 : Int)).toNat = 37 := rfl
    simp only [oAbs, oMax, oInt1, o_pow, o_sub, o_add, o_mod, o_mul, WO_some, e1, e2]
    have hy0 : 0 ≤ cell % (10 ^ 37 + 91) := Int.emod_nonneg _ (by decide)
    have hy1 : cell % (10 ^ 37 + 91) < 10 ^ 37 + 91 := Int.emod_lt_of_pos _ (by decide)
    generalize cell % (10 ^ 37 + 91) = y at *
    refine ⟨by decide +kernel, by decide +kernel, by decide, mulOk_of (m := 130) (n := 10) (by omega) (by decide) (by decide) (by decide) (by decide), mulOk_of (m := 10) (n := 20) (by decide) (by omega) (by decide) (by decide) (by decide), ?_⟩
    exact hQ _ _ ⟨by omega, by omega, by decide, by decide⟩
  split
  · rename_i h
    have hk : at_ < ns.length := by omega
    rw [List.getElem?_map, List.getElem?_eq_getElem hk]
    exact key _
  · exact key 0

/-! ### two data are one -/
noncomputable abbrev matchF : Nat → SemF := P__law_match
inductive Pl : Nat → D → Prop
  | non {n : Nat} : Pl (n + 1) .non
  | bl {n : Nat} (b : Bool) : Pl (n + 1) (.bl b)
  | int {n : Nat} (i : Int) : Pl (n + 1) (.int i)
  | str {n : Nat} (x : Str) : Pl (n + 1) (.str x)
  | tup {n : Nat} {ds : List D} (h : ∀ d ∈ ds, Pl n d) (z : ds.length ≤ 1000000) : Pl (n + 1) (.tup ds)
  | lst {n : Nat} {ds : List D} (h : ∀ d ∈ ds, Pl n d) (z : ds.length ≤ 1000000) : Pl (n + 1) (.lst ds)
theorem w_match : ∀ (n : Nat) (d : D) (st : Sto) (Q : D → Sto → Prop), Pl n d → Q (.bl true) st → WR (matchF n [d, d] st) Q
  | 0, d, st, Q, h, hQ => by cases h
  | n + 1, d, st, Q, h, hQ => by
    show WR (g__law_match (matchF n) [d, d] st) Q
    unfold g__law_match b__law_match
    walk_at "wp"
    have key : ∀ ds : List D, (∀ d ∈ ds, Pl n d) → ds.length ≤ 1000000 → ∀ e : D, e = .tup ds ∨ e = .lst ds → WR (lcL (srcOk Src.val ((List.range ds.length).map fun i => D.int (i : Nat))) (gN 2) (sNot (sTru (sCall (matchF n) (sCons (sOp oIx (sVar 0) (sVar 2)) (sCons (sOp oIx (sVar 1) (sVar 2)) sNil))))) (sVar 2)
        [some e, some e, none] ((List.range ds.length).map fun i => D.int (i : Nat)) [] st) fun acc s2 => WO (oEq s2 (.lst acc) (.lst [])) fun d => Q d s2 := by
      intro ds hd hz e he
      refine lc_map (fun _ => false) id trivial (fun x hx => ?_) ?_
      · obtain ⟨k, hk, rfl⟩ := List.mem_map.mp hx
        have hk := List.mem_range.mp hk
        walk_at "wp"
        have hix : oIx st e (.int (k : Nat)) = some ds[k] := by
          rcases he with rfl | rfl
          · rw [ix_tup, atI_nn, List.getElem?_eq_getElem hk]
          · rw [ix_lst, atI_nn, List.getElem?_eq_getElem hk]
        simp only [hix, WO_some]
        exact w_match n _ st _ (hd _ (List.getElem_mem hk)) (by
          walk_at "op"
          exact ⟨trivial, trivial, fun z => by cases z⟩)
      · rw [List.filter_eq_nil_iff.mpr (fun _ _ h => by cases h)]
        show WO (some (D.bl true)) _
        exact hQ
    cases h with
    | non => walk_at "op"; exact hQ
    | bl b => walk_at "op"; exact hQ
    | int i => walk_at "op"; exact hQ
    | str x => walk_at "op"; exact hQ
    | @tup _ ds h z =>
      walk_at "op"
      rw [rng1 (by omega), WO_some]
      exact key ds h z _ (.inl rfl)
    | @lst _ ds h z =>
      walk_at "op"
      rw [rng1 (by omega), WO_some]
      exact key ds h z _ (.inr rfl)


/-! ### bits are drawn -/
abbrev wd (w : List Int) : D := .tup (w.map .int)
def Bits (w : List Int) : Prop := ∀ x ∈ w, x = 0 ∨ x = 1
theorem bit_of {d : Int} (h0 : 0 ≤ d) (h1 : d < 2) : d = 0 ∨ d = 1 := by omega
theorem crSet {st t : Sto} {n : Nat} {x : SO} (h : n < st.length) : (st.set n x ++ t)[n]? = some x := by
  rw [List.getElem?_append_left (by rw [List.length_set]; exact h), List.getElem?_set_self h]
theorem crSet2 {st t : Sto} {n : Nat} {x y : SO} (h : n < st.length) : (st.set n x ++ t).set n y = st.set n y ++ t := by
  rw [List.set_append_left _ _ (by rw [List.length_set]; exact h), List.set_set]
theorem lastGet {st : Sto} {n : Nat} {x y : SO} : (st.set n x ++ [y])[st.length]? = some y := by
  have h : st.length = (st.set n x).length := by rw [List.length_set]
  rw [h, List.getElem?_concat_length]
theorem lastSet {st : Sto} {n : Nat} {x y z : SO} : (st.set n x ++ [y]).set st.length z = st.set n x ++ [z] := by
  rw [List.set_append_right _ _ (by rw [List.length_set]; exact Nat.le_refl _), List.length_set, Nat.sub_self]
  rfl
def BitsI (st : Sto) (n size : Nat) (way same b : Int) (J : Nat) (k : Nat) (e : En) (s : Sto) : Prop := ∃ (w : List Int) (a' j' : Int) (o1 o2 : Option D), e = [some (D.ref n), some (D.int size), some (D.int way), some (D.int same), some (D.ref st.length), o1, o2] ∧ s = st.set n (crD a' b j') ++ [SO.lst (w.map D.int)] ∧ w.length = k ∧ Bits w ∧ CrOk a' b j' (J + 2 * k + 2)
theorem bits_app {st : Sto} {n size J k : Nat} {way same b a' j' y : Int} {w : List Int} {o1 o2 : Option D} (hw : w.length = k) (hk : k < 1000) (hb : Bits w) (hy : y = 0 ∨ y = 1) (ok : CrOk a' b j' (J + 2 * (k + 1) + 2)) :
    (w.map D.int).length < sizeLine ∧ BitsI st n size way same b J (k + 1) [some (D.ref n), some (D.int size), some (D.int way), some (D.int same), some (D.ref st.length), o1, o2] ((st.set n (crD a' b j') ++ [SO.lst (w.map D.int)]).set st.length (SO.lst (w.map D.int ++ [D.int y]))) := by
  refine ⟨by rw [List.length_map, hw, sizeLine_eq]; omega, w ++ [y], a', j', o1, o2, rfl, ?_, by simp [hw], ?_, ok⟩
  · rw [lastSet, List.map_append]; rfl
  · intro x hx
    rcases List.mem_append.mp hx with hx | hx
    · exact hb x hx
    · simp at hx; subst hx; exact hy
theorem CrOk.le {a b j : Int} {J J' : Nat} (h : CrOk a b j J) (hJ : J ≤ J') : CrOk a b j J' := ⟨h.b0, h.b1, h.j0, by have := h.j1; omega⟩
theorem tup_of {s : Sto} {n : Nat} {ds : List D} (h : s[n]? = some (.lst ds)) : oTuple s [.ref n] = some (.tup ds) := by
  show (itemsOf s (.ref n)).map _ = _
  simp only [itemsOf, h]; rfl
theorem w_bits {st : Sto} {n J size : Nat} {a b j : Int} (hn : st[n]? = some (crD a b j)) (ok : CrOk a b j J) (hJ : J + 2 * size + 2 ≤ 10 ^ 9) (hs : size ≤ 1000) {Q : D → Sto → Prop}
    (hQ : ∀ (w : List Int) a' j' t, w.length = size → Bits w → CrOk a' b j' (J + 2 * size + 2) → Q (wd w) (st.set n (crD a' b j') ++ t)) : WR (g__law_bits g__law_haul [.ref n, .int size] st) Q := by
  have hlt : n < st.length := (List.getElem?_eq_some_iff.mp hn).1
  unfold g__law_bits b__law_bits
  walk_at "wp"
  refine w_haul hn ok (by omega) (by decide) (by decide) fun way a1 j1 w0 w1 ok1 => ?_
  refine w_haul (List.getElem?_set_self hlt) ok1 (by omega) (by decide) (by decide) fun same a2 j2 s0 s1 ok2 => ?_
  rw [List.set_set]
  rw [rng1 (by omega)]
  walk_at "wp"
  rw [List.length_set]
  refine for_byB (BitsI st n size way same b J) ⟨[], a2, j2, none, none, rfl, rfl, rfl, fun _ h => by simp at h, ok2⟩ ?_ ?_
  · rintro k d e s hd ⟨w, a', j', o1, o2, rfl, rfl, hw, hb, ok'⟩
    have hk : k < size := by
      have := (List.getElem?_eq_some_iff.mp hd).1
      simpa using this
    walk_at "wp"
    rw [getL_ref lastGet]
    have more : ∀ (x : Option D) (j'' a'' : Int), CrOk a'' b j'' (J + 2 * k + 3) → WR (g__law_haul [D.ref n, D.int 2] (st.set n (crD a'' b j'') ++ [SO.lst (w.map D.int)])) fun b_1 s2 => WO (getL s2 (D.ref st.length)) fun p => p.2.length < sizeLine ∧ BitsI st n size way same b J (k + 1) [some (D.ref n), some (D.int size), some (D.int way), some (D.int same), some (D.ref st.length), some d, x] (s2.set p.1 (SO.lst (p.2 ++ [b_1]))) := by
      intro x j'' a'' ok''
      refine w_haul (crSet hlt) ok'' (by omega) (by decide) (by decide) fun y a3 j3 y0 y1 ok3 => ?_
      rw [crSet2 hlt, getL_ref lastGet]
      exact bits_app hw (by omega) hb (bit_of y0 y1) (ok3.le (by omega))
    walk_at "op"
    by_cases hway : way = 0
    · simp only [hway, decide_true, if_true]
      rw [← hway]
      exact bits_app hw (by omega) hb (bit_of s0 s1) (ok'.le (by omega))
    · simp only [hway, decide_false, if_false]
      by_cases h1 : way = 1
      · simp only [h1, if_true]
        rw [← h1]
        refine w_haul (crSet hlt) ok' (by omega) (by decide) (by decide) fun y a3 j3 y0 y1 ok3 => ?_
        rw [crSet2 hlt, getL_ref lastGet]
        walk_at "op"
        split
        · exact bits_app hw (by omega) hb (bit_of s0 s1) (ok3.le (by omega))
        · exact more _ _ _ (ok3.le (by omega))
      · simp only [h1, if_false, decide_false, Bool.false_eq_true]
        exact more _ _ _ (ok'.le (by omega))
  · rintro e s ⟨w, a', j', o1, o2, rfl, rfl, hw, hb, ok'⟩
    walk_at "wp"
    rw [tup_of lastGet]
    have e1 : ((List.range size).map fun i => D.int (i : Nat)).length = size := by simp
    rw [e1] at hw ok'
    exact hQ w a' j' _ hw hb ok'
/-! ### words, integers, bits -/
def isI : D → Bool
  | .int _ => true
  | _ => false
def isBitD : D → Bool
  | .int i => decide (i = 0 ∨ i = 1)
  | _ => false
def isWordD : D → Bool
  | .tup ds => ds.all isBitD
  | _ => false
theorem w_is_integer {st : Sto} {d : D} {t : String} (ht : tyOf st d = some t) {Q : D → Sto → Prop} (hQ : Q (.bl (isI d)) st) : WR (g_is_integer [d] st) Q := by
  unfold g_is_integer b_is_integer
  walk_at "wp"
  cases d with
  | ref n =>
    rw [ht]
    rcases ref_ty ht with rfl | rfl | rfl <;> (walk_at "op"; exact hQ)
  | cls c => cases ht
  | _ => walk_at "op"; exact hQ
theorem isI_eq {d : D} (h : isI d = true) : ∃ i, d = .int i := by
  cases d with
  | int i => exact ⟨i, rfl⟩
  | _ => cases h
theorem w_is_bit {st : Sto} {d : D} {t : String} (ht : tyOf st d = some t) {Q : D → Sto → Prop} (hQ : Q (.bl (isBitD d)) st) : WR (g_is_bit g_is_integer [d] st) Q := by
  unfold g_is_bit b_is_bit
  walk_at "wp"
  refine w_is_integer ht ?_
  walk_at "op"
  split
  · rename_i h
    obtain ⟨i, rfl⟩ := isI_eq h
    walk_at "op"
    exact hQ
  · rename_i h
    have e : isBitD d = isI d := by
      cases d with
      | int i => exact absurd rfl h
      | _ => rfl
    rw [e] at hQ
    exact hQ
theorem w_is_word {st : Sto} {d : D} {t : String} (ht : tyOf st d = some t) (hd : ∀ ds, d = .tup ds → ∀ x ∈ ds, ∃ u, tyOf st x = some u) {Q : D → Sto → Prop} (hQ : Q (.bl (isWordD d)) st) : WR (g_is_word (g_is_bit g_is_integer) [d] st) Q := by
  unfold g_is_word b_is_word
  walk_at "wp"
  cases d with
  | tup ds =>
    walk_at "op"
    refine lc_map (fun _ => true) (fun x => .bl (isBitD x)) trivial (fun x hx => ?_) ?_
    · obtain ⟨u, hu⟩ := hd ds rfl x hx
      walk_at "wp"
      exact fun _ => w_is_bit hu ⟨rfl, rfl⟩
    · rw [List.filter_eq_self.mpr (fun _ _ => rfl), o_all]
      exact hQ
  | ref n =>
    rw [ht]
    rcases ref_ty ht with rfl | rfl | rfl <;> (walk_at "op"; exact hQ)
  | cls c => cases ht
  | _ => walk_at "op"; exact hQ
theorem isWord_wd {w : List Int} (h : Bits w) : isWordD (wd w) = true := by
  show (w.map D.int).all isBitD = true
  rw [List.all_map, List.all_eq_true]
  intro x hx
  exact decide_eq_true (h x hx)
theorem w_is_word1 {st : Sto} {w : List Int} (h : Bits w) {Q : D → Sto → Prop} (hQ : Q (.bl true) st) : WR (g_is_word (g_is_bit g_is_integer) [wd w] st) Q := by
  refine w_is_word (t := "tuple") rfl (fun ds e x hx => ?_) (by rw [isWord_wd h]; exact hQ)
  cases e
  obtain ⟨i, _, rfl⟩ := List.mem_map.mp hx
  exact ⟨"int", rfl⟩
theorem w_is_at_least {st : Sto} {i j : Int} {Q : D → Sto → Prop} (hQ : Q (.bl (decide (j ≤ i))) st) : WR (g_is_at_least g_is_integer [.int i, .int j] st) Q := by
  unfold g_is_at_least b_is_at_least
  walk_at "wp"
  refine w_is_integer (t := "int") rfl ?_
  simp only [isI]
  walk_at "op"
  exact hQ
/-! ### changes -/
inductive Ch where
  | flip (k : Nat) | lose (k : Nat) | add (k : Nat) (b : Int)
def chD : Ch → D
  | .flip k => .tup [.str "flip", .int k]
  | .lose k => .tup [.str "lose", .int k]
  | .add k b => .tup [.str "add", .int k, .int b]
def chOk (n : Nat) : Ch → Prop
  | .flip k => k < n
  | .lose k => k < n
  | .add k b => k ≤ n ∧ (b = 0 ∨ b = 1)
def chW (w : List Int) : Ch → List Int
  | .flip k => w.take k ++ (1 - w.getD k 0) :: w.drop (k + 1)
  | .lose k => w.take k ++ w.drop (k + 1)
  | .add k b => w.take k ++ b :: w.drop k
theorem s_fa : (("flip" : Str) = "add") = False := eq_false (by decide)
theorem s_fl : (("flip" : Str) = "lose") = False := eq_false (by decide)
theorem s_la : (("lose" : Str) = "add") = False := eq_false (by decide)
theorem s_lf : (("lose" : Str) = "flip") = False := eq_false (by decide)
theorem s_af : (("add" : Str) = "flip") = False := eq_false (by decide)
theorem s_al : (("add" : Str) = "lose") = False := eq_false (by decide)
theorem wd_at {w : List Int} {k : Nat} (h : k < w.length) : (w.map D.int)[k]? = some (.int (w.getD k 0)) := by
  rw [List.getElem?_map, List.getElem?_eq_getElem h, List.getD_eq_getElem?_getD, List.getElem?_eq_getElem h]
  rfl
theorem sz_of {n : Nat} (h : n ≤ 1000000) : n ≤ sizeLine := by rw [sizeLine_eq]; omega
theorem o_notInK {st : Sto} {x : Str} : oNotIn st (.str x) (.tup [.str "flip", .str "lose", .str "add"]) = some (.bl (!decide (x = "flip" ∨ x = "lose" ∨ x = "add"))) := by
  have e : ∀ k : Str, PyData.eqv (.str k) (.str x) = decide (x = k) := fun k => by
    show (k == x) = _
    rw [PySem.W.beq_decide]
    exact decide_eq_decide.mpr eq_comm
  show some (D.bl (!(([PyData.str "flip", PyData.str "lose", PyData.str "add"] : List PyData).any fun y => PyData.eqv y (.str x)))) = _
  simp only [List.any_cons, List.any_nil, e, Bool.or_false, Bool.decide_or]
/-! ### the crate, the rest of the store as it was -/
def FrC (n : Nat) (s s' : Sto) : Prop := s.length ≤ s'.length ∧ ∀ k, k < s.length → k ≠ n → s'[k]? = s[k]?
theorem FrC.refl (n : Nat) (s : Sto) : FrC n s s := ⟨Nat.le_refl _, fun _ _ _ => rfl⟩
theorem FrC.trans {n : Nat} {s s1 s2 : Sto} (h : FrC n s s1) (k : FrC n s1 s2) : FrC n s s2 := ⟨Nat.le_trans h.1 k.1, fun j h1 h2 => (k.2 j (Nat.lt_of_lt_of_le h1 h.1) h2).trans (h.2 j h1 h2)⟩
theorem FrC.at {n m : Nat} {s s' : Sto} (h : FrC n s s') {o : SO} (e : s[m]? = some o) (hm : m ≠ n) : s'[m]? = some o := (h.2 m (List.getElem?_eq_some_iff.mp e).1 hm).trans e
theorem FrC.set {n : Nat} {s : Sto} (x : SO) (t : Sto) : FrC n s (s.set n x ++ t) := ⟨by simp, fun k hk hn => by
  rw [List.getElem?_append_left (by simpa using hk), List.getElem?_set_ne (Ne.symm hn)]⟩
theorem FrC.set0 {n : Nat} {s : Sto} (x : SO) : FrC n s (s.set n x) := by
  have := FrC.set (n := n) (s := s) x []
  rwa [List.append_nil] at this
theorem FrC.app {n : Nat} {s : Sto} (t : Sto) : FrC n s (s ++ t) := ⟨by simp, fun k hk _ => List.getElem?_append_left hk⟩
def HasCr (s : Sto) (n : Nat) (b : Int) (J : Nat) : Prop := ∃ a j, s[n]? = some (crD a b j) ∧ CrOk a b j J
theorem HasCr.lt {s : Sto} {n J : Nat} {b : Int} (h : HasCr s n b J) : n < s.length := let ⟨_, _, e, _⟩ := h; (List.getElem?_eq_some_iff.mp e).1
theorem HasCr.set {s t : Sto} {n J J' : Nat} {b a' j' : Int} (h : HasCr s n b J) (ok : CrOk a' b j' J') : HasCr (s.set n (crD a' b j') ++ t) n b J' := ⟨a', j', crSet h.lt, ok⟩
theorem HasCr.set0 {s : Sto} {n J J' : Nat} {b a' j' : Int} (h : HasCr s n b J) (ok : CrOk a' b j' J') : HasCr (s.set n (crD a' b j')) n b J' := by
  have := h.set (t := []) ok
  rwa [List.append_nil] at this
theorem HasCr.le {s : Sto} {n J J' : Nat} {b : Int} (h : HasCr s n b J) (hJ : J ≤ J') : HasCr s n b J' := let ⟨a, j, e, ok⟩ := h; ⟨a, j, e, ok.le hJ⟩
theorem HasCr.other {s : Sto} {n m J : Nat} {b : Int} (h : HasCr s n b J) (hm : m ≠ n) (x : SO) : HasCr (s.set m x) n b J := let ⟨a, j, e, ok⟩ := h; ⟨a, j, by rw [List.getElem?_set_ne hm]; exact e, ok⟩
theorem HasCr.app {s t : Sto} {n J : Nat} {b : Int} (h : HasCr s n b J) : HasCr (s ++ t) n b J := let ⟨a, j, e, ok⟩ := h; ⟨a, j, by rw [List.getElem?_append_left h.lt]; exact e, ok⟩
theorem wc_haul {st : Sto} {n J : Nat} {b below : Int} (h : HasCr st n b J) (hJ : J ≤ 10 ^ 9) (h0 : 0 < below) (hb : below < 2 ^ 60) {Q : D → Sto → Prop}
    (hQ : ∀ d s, 0 ≤ d → d < below → HasCr s n b (J + 1) → FrC n st s → Q (.int d) s) : WR (g__law_haul [.ref n, .int below] st) Q := by
  obtain ⟨a, j, hn, ok⟩ := id h
  exact w_haul hn ok hJ h0 hb fun d a' j' d0 d1 ok' => hQ d _ d0 d1 (h.set0 ok') (FrC.set0 _)
theorem wc_bits {st : Sto} {n J size : Nat} {b : Int} (h : HasCr st n b J) (hJ : J + 2 * size + 2 ≤ 10 ^ 9) (hs : size ≤ 1000) {Q : D → Sto → Prop}
    (hQ : ∀ (w : List Int) s, w.length = size → Bits w → HasCr s n b (J + 2 * size + 2) → FrC n st s → Q (wd w) s) : WR (g__law_bits g__law_haul [.ref n, .int size] st) Q := by
  obtain ⟨a, j, hn, ok⟩ := id h
  exact w_bits hn ok hJ hs fun w a' j' t hw hb ok' => hQ w _ hw hb (h.set ok') (FrC.set _ _)
theorem wc_bitsI {st : Sto} {n J : Nat} {size : Int} {b : Int} (h : HasCr st n b J) (h0 : 0 ≤ size) (hs : size ≤ 1000) (hJ : J + 2 * 1000 + 2 ≤ 10 ^ 9) {Q : D → Sto → Prop}
    (hQ : ∀ (w : List Int) s, (w.length : Int) = size → Bits w → HasCr s n b (J + 2 * w.length + 2) → FrC n st s → Q (wd w) s) : WR (g__law_bits g__law_haul [.ref n, .int size] st) Q := by
  obtain ⟨k, rfl⟩ := Int.eq_ofNat_of_zero_le h0
  exact wc_bits h (by omega) (by omega) fun w s hw hb hc hf => hQ w s (by omega) hb (hw ▸ hc) hf
theorem wc_crate {ns : List Int} {k : Nat} {st : Sto} (hz : ns.length ≤ 1000) (ha : k ≤ 1000) {Q : D → Sto → Prop} (hQ : ∀ n s b, HasCr s n b 0 → Q (.ref n) s) : WR (g__law_crate [.lst (ns.map .int), .int k] st) Q :=
  w_crate hz ha fun a b ok => hQ _ _ b ⟨a, 0, List.getElem?_concat_length, ok⟩
/-! ### rules -/
structure Rule where
  flag : List Int
  rows : List (List Int × Int)
  top : Nat
abbrev rowD (p : List Int × Int) : D := .tup [wd p.1, .int p.2]
abbrev ruleD (r : Rule) : D := .tup [wd r.flag, .tup (r.rows.map rowD), .int r.top]
structure RowOk (wh : Nat) (p : List Int × Int) : Prop where
  b : Bits p.1
  n0 : 1 ≤ p.1.length
  n1 : p.1.length ≤ wh
  v : p.2 = 0 ∨ p.2 = 1
structure RuleOk (fh wh mh top : Nat) (r : Rule) : Prop where
  fb : Bits r.flag
  f0 : 1 ≤ r.flag.length
  f1 : r.flag.length ≤ fh
  rows : ∀ p ∈ r.rows, RowOk wh p
  ord : r.rows.Pairwise fun p q => p.1 < q.1
  rn : r.rows.length ≤ mh
  t0 : 1 ≤ r.top
  t1 : r.top ≤ top
theorem w_is_full_word {st : Sto} {w : List Int} (h : Bits w) (hn : 1 ≤ w.length) {Q : D → Sto → Prop} (hQ : Q (.bl true) st) : WR (P_is_full_word [wd w] st) Q := by
  unfold P_is_full_word g_is_full_word b_is_full_word
  walk_at "wp"
  refine w_is_word1 h ?_
  have e : oNe st (D.tup (w.map D.int)) (D.tup []) = some (.bl (!decide (w = []))) := o_neW w []
  have hw : w ≠ [] := fun z => by rw [z] at hn; simp at hn
  walk_at "op"
  simp only [e, WO_some, truthy, if_true]
  rw [decide_eq_false hw]
  exact hQ
theorem w_is_insert {st : Sto} {wh : Nat} {p : List Int × Int} (h : RowOk wh p) {Q : D → Sto → Prop} (hQ : Q (.bl true) st) : WR (P_is_insert [rowD p] st) Q := by
  unfold P_is_insert g_is_insert b_is_insert
  walk_at "wp"
  walk_at "op"
  refine w_is_full_word h.b h.n0 ?_
  simp only [tru_bl, WO_some, if_true]
  refine w_is_bit (t := "int") rfl ?_
  have e : isBitD (D.int p.2) = true := by
    rcases h.v with v | v <;> rw [v] <;> rfl
  rw [e]
  exact hQ
theorem zipD_mem : ∀ {as bs : List D} {x : D}, x ∈ zipD as bs → ∃ (k : Nat) (a b : D), as[k]? = some a ∧ bs[k]? = some b ∧ x = .tup [a, b]
  | [], _, x, h => by simp [zipD] at h
  | _ :: _, [], x, h => by simp [zipD] at h
  | a :: as, b :: bs, x, h => by
    have h' : x ∈ D.tup [a, b] :: zipD as bs := h
    rcases List.mem_cons.mp h' with rfl | h'
    · exact ⟨0, a, b, rfl, rfl, rfl⟩
    · obtain ⟨k, c, d, e1, e2, e3⟩ := zipD_mem h'
      exact ⟨k + 1, c, d, e1, e2, e3⟩
theorem zip_adj {rows : List (List Int × Int)} (ho : rows.Pairwise fun p q => p.1 < q.1) {x : D} (h : x ∈ zipD (rows.map rowD) ((rows.map rowD).drop 1)) : ∃ p q, x = .tup [rowD p, rowD q] ∧ p.1 < q.1 := by
  obtain ⟨k, a, b, e1, e2, rfl⟩ := zipD_mem h
  rw [List.getElem?_drop, List.getElem?_map] at e2
  rw [List.getElem?_map] at e1
  obtain ⟨p, hp, rfl⟩ := Option.map_eq_some_iff.mp e1
  obtain ⟨q, hq, rfl⟩ := Option.map_eq_some_iff.mp e2
  obtain ⟨h1, h2⟩ := List.getElem?_eq_some_iff.mp hp
  obtain ⟨h3, h4⟩ := List.getElem?_eq_some_iff.mp hq
  refine ⟨p, q, rfl, ?_⟩
  have := List.pairwise_iff_getElem.mp ho k (1 + k) h1 h3 (by omega)
  rw [h2, h4] at this
  exact this
theorem w_are_inserts {st : Sto} {wh : Nat} {rows : List (List Int × Int)} (h : ∀ p ∈ rows, RowOk wh p) (ho : rows.Pairwise fun p q => p.1 < q.1) (hl : rows.length ≤ 1000) {Q : D → Sto → Prop} (hQ : Q (.bl true) st) : WR (P_are_inserts [.tup (rows.map rowD)] st) Q := by
  unfold P_are_inserts g_are_inserts b_are_inserts
  walk_at "wp"
  walk_at "op"
  refine lc_map (fun _ => true) (fun x => .bl true) trivial (fun x hx => ?_) ?_
  · obtain ⟨p, hp, rfl⟩ := List.mem_map.mp hx
    walk_at "wp"
    exact fun _ => w_is_insert (h p hp) ⟨rfl, rfl⟩
  · rw [List.filter_eq_self.mpr (fun _ _ => rfl), o_all]
    have e : (rows.map rowD).all (fun _ => true) = true := by simp
    simp only [e, WO_some, tru_bl, Bool.not_true, Bool.false_eq_true, if_false]
    rw [show oSl st (.tup (rows.map rowD)) (some 1) none = some (.tup ((rows.map rowD).drop 1)) from sl_from 1]
    simp only [WO_some]
    show WO (some (zipD (rows.map rowD) ((rows.map rowD).drop 1), Src.val)) _
    simp only [WO_some]
    refine lc_map (fun _ => true) (fun x => .bl true) trivial (fun x hx => ?_) ?_
    · obtain ⟨p, q, rfl, hlt⟩ := zip_adj ho hx
      walk_at "wp"
      intro _
      walk_at "op"
      simp only [o_ltW, WO_some, decide_eq_true hlt]
    · rw [List.filter_eq_self.mpr (fun _ _ => rfl), o_all]
      simp only [List.all_eq_true.mpr (fun _ _ => rfl : ∀ x ∈ zipD (rows.map rowD) ((rows.map rowD).drop 1), (fun _ => true) x = true), WO_some]
      exact hQ
theorem w_is_rule {st : Sto} {r : Rule} {fh wh mh top : Nat} (h : RuleOk fh wh mh top r) (hm : mh ≤ 1000) {Q : D → Sto → Prop} (hQ : Q (.bl true) st) : WR (P_is_rule [ruleD r] st) Q := by
  have h1 := h.rn
  unfold P_is_rule g_is_rule b_is_rule
  walk_at "wp"
  walk_at "op"
  refine w_is_full_word h.fb h.f0 ?_
  simp only [tru_bl, WO_some, if_true]
  refine w_are_inserts h.rows h.ord (by omega) ?_
  simp only [tru_bl, WO_some, if_true]
  refine w_is_at_least ?_
  have h2 := h.t0
  rw [decide_eq_true (show (1 : Int) ≤ (r.top : Int) by omega)]
  exact hQ
theorem w_check_rule {st : Sto} {r : Rule} {fh wh mh top : Nat} (h : RuleOk fh wh mh top r) (hm : mh ≤ 1000) {Q : D → Sto → Prop} (hQ : Q .non st) : WR (P_check_rule [ruleD r] st) Q := by
  unfold P_check_rule g_check_rule b_check_rule
  walk_at "wp"
  refine w_is_rule h hm ?_
  walk_at "op"
  exact hQ
/-! ### a rule drawn -/
theorem o_min2 {st : Sto} {a b : Int} : oMin st [.int a, .int b] = some (.int (if b < a then b else a)) := (rfl)
theorem flat_wd {st : Sto} {w : List Int} (k : Nat) : oSl st (wd w) none (some (k : Int)) = some (wd (w.take k)) := by
  rw [show wd w = D.tup (w.map D.int) from rfl, sl_to, ← List.map_take]
def DrI (n m : Nat) (fh wh mh top : Nat) (flag : List Int) (b : Int) (J : Nat) (st0 : Sto) (k : Nat) (e : En) (s : Sto) : Prop := ∃ (kvs : List (List Int × Int)) (o7 o8 o9 o10 : Option D),
  e = [some (.ref n), some (.int fh), some (.int wh), some (.int mh), some (.int top), some (wd flag), some (.ref m), o7, o8, o9, o10] ∧ HasCr s n b (J + 400 + k * 400) ∧ FrC n st0 s ∧ s[m]? = some (.dct (kvD .int kvs)) ∧ kvs.length ≤ k ∧ (∀ p ∈ kvs, RowOk wh p) ∧ (kvs.map (·.1)).Nodup
theorem FrC.setO {n m : Nat} {s s' : Sto} (h : FrC n s s') (hm : s.length ≤ m) (x : SO) : FrC n s (s'.set m x) := ⟨by simpa using h.1, fun k hk hn => by
  rw [List.getElem?_set_ne (by omega)]; exact h.2 k hk hn⟩
theorem Bits.take {w : List Int} (h : Bits w) (k : Nat) : Bits (w.take k) := fun x hx => h x (List.mem_of_mem_take hx)
theorem w_drawn_rule {st : Sto} {n J fh wh mh top : Nat} {b : Int} (h : HasCr st n b J) (h1 : 1 ≤ fh) (h2 : 1 ≤ wh) (h4 : 1 ≤ top) (hf : fh ≤ 100) (hw : wh ≤ 100) (hm : mh ≤ 100) (ht : top ≤ 100) (hJ : J + 300000 ≤ 10 ^ 9) {Q : D → Sto → Prop}
    (hQ : ∀ r s, RuleOk fh wh mh top r → HasCr s n b (J + 300000) → FrC n st s → Q (ruleD r) s) : WR (P__law_drawn_rule [.ref n, .int fh, .int wh, .int mh, .int top] st) Q := by
  unfold P__law_drawn_rule g__law_drawn_rule b__law_drawn_rule
  walk_at "wp"
  refine wc_haul h (by omega) (by omega) (by omega) fun d s d0 d1 hc1 f1 => ?_
  walk_at "op"
  refine wc_bitsI hc1 (by omega) (by omega) (by omega) fun flag s2 hl hb hc2 f2 => ?_
  have fl1 : flag.length ≤ fh := by omega
  have ff : FrC n st (s2 ++ [SO.dct []]) := (f1.trans f2).trans (FrC.app _)
  refine wc_haul (hc2.app (t := [SO.dct []])) (by omega) (by omega) (by omega) fun many s3 m0 m1 hc3 f3 => ?_
  obtain ⟨many, rfl⟩ := Int.eq_ofNat_of_zero_le m0
  rw [rng1 (by omega)]
  simp only [WO_some]
  have hms : st.length ≤ s2.length := (f1.trans f2).1
  have hnm : s2.length ≠ n := fun z => by have := hc2.lt; omega
  refine for_byB (DrI n s2.length fh wh mh top flag b J st) ⟨[], none, none, none, none, rfl, hc3.le (by omega), ff.trans f3, f3.at (by simp [kvD]) hnm, Nat.le_refl _, fun _ z => by simp at z, by simp⟩ ?_ ?_
  · rintro k d e s4 hd ⟨kvs, o7, o8, o9, o10, rfl, hc, hfr, hm4, hlen, hok, hnd⟩
    obtain ⟨hk1, hk2⟩ := List.getElem?_eq_some_iff.mp hd
    simp only [List.length_map, List.length_range] at hk1
    simp only [List.getElem_map, List.getElem_range] at hk2
    subst hk2
    walk_at "wp"
    refine wc_haul hc (by omega) (by omega) (by omega) fun d s5 d0 d1 hc5 f5 => ?_
    walk_at "op"
    refine wc_bitsI hc5 (by omega) (by omega) (by omega) fun word s6 wl wb hc6 f6 => ?_
    refine wc_haul hc6 (by omega) (by omega) (by omega) fun d2 s7 d20 d21 hc7 f7 => ?_
    have fin : ∀ (w : List Int) (o9 : Option D) (s8 : Sto) (J8 : Nat), Bits w → 1 ≤ w.length → w.length ≤ wh → HasCr s8 n b J8 → J8 + 1 ≤ J + 400 + (k + 1) * 400 → FrC n s4 s8 →
        WR (P__law_haul [D.ref n, D.int 2] s8) fun v s => WO (setDct s (D.ref s2.length) (wd w) v) fun s4 =>
          DrI n s2.length fh wh mh top flag b J st (k + 1) [some (D.ref n), some (D.int ↑fh), some (D.int ↑wh), some (D.int ↑mh), some (D.int ↑top), some (wd flag), some (D.ref s2.length), some (D.int ↑k), o8, o9, some (wd w)] s4 := by
      intro w o9 s8 J8 w1 w2 w3 c8 j8 f8
      refine wc_haul c8 (by omega) (by omega) (by omega) fun v s9 v0 v1 c9 f9 => ?_
      rw [set_W ((f8.trans f9).at hm4 hnm) (by rw [sizeLine_eq]; omega) w v]
      simp only [WO_some]
      have hbit := bit_of v0 v1
      have hset : SO.dct (kvD D.int (putW kvs w v)) = SO.dct (kvD D.int (putW kvs w v)) := rfl
      refine ⟨putW kvs w v, _, _, _, _, rfl, (c9.le (by omega)).other hnm _, ((hfr.trans f8).trans f9).setO hms _, ?_, ?_, ?_, putW_nodup hnd⟩
      · rw [List.getElem?_set_self]
        exact (List.getElem?_eq_some_iff.mp ((f8.trans f9).at hm4 hnm)).1
      · have := putW_len (kvs := kvs) w v
        omega
      · intro p hp
        rcases putW_mem (v := p.1) (y := p.2) hp with h | ⟨h1, h2⟩
        · exact hok p h
        · exact ⟨h1 ▸ w1, h1 ▸ w2, h1 ▸ w3, h2 ▸ hbit⟩
    walk_at "op"
    by_cases hz : d2 = 0
    · rw [if_pos hz, o_min2]
      simp only [WO_some]
      have hmin : ∃ q : Nat, (if (wh : Int) < ((flag.map D.int).length : Nat) then (wh : Int) else ((flag.map D.int).length : Nat)) = (q : Int) ∧ 1 ≤ q ∧ q ≤ wh ∧ q ≤ flag.length := by
        rw [List.length_map]
        by_cases z : (wh : Int) < (flag.length : Nat)
        · rw [if_pos z]; exact ⟨wh, rfl, h2, Nat.le_refl _, by omega⟩
        · rw [if_neg z]; exact ⟨flag.length, rfl, by omega, by omega, Nat.le_refl _⟩
      obtain ⟨q, hq, q1, q2, q3⟩ := hmin
      rw [hq]
      simp only [flat_wd, WO_some]
      refine wc_haul hc7 (by omega) (by omega) (by omega) fun d3 s8 d30 d31 hc8 f8 => ?_
      obtain ⟨t, rfl⟩ := Int.eq_ofNat_of_zero_le d30
      simp only [o_add, WO_some]
      rw [show (1 + (t : Int)) = ((1 + t : Nat) : Int) by omega, flat_wd]
      simp only [WO_some]
      refine fin _ _ s8 _ ((hb.take q).take (1 + t)) ?_ ?_ hc8 (by omega) (((f5.trans f6).trans f7).trans f8)
      · rw [List.length_take, List.length_take]; omega
      · rw [List.length_take, List.length_take]; omega
    · rw [if_neg hz]
      exact fin word _ s7 _ wb (by omega) (by omega) hc7 (by omega) ((f5.trans f6).trans f7)
  · rintro e s4 ⟨kvs, o7, o8, o9, o10, rfl, hc, hfr, hm4, hlen, hok, hnd⟩
    simp only [List.length_map, List.length_range] at hc hlen
    walk_at "wp"
    rw [list_W hm4]
    simp only [WO_some]
    have hne : ∀ w ∈ kvs.map (·.1), w ≠ [] := fun w hw z => by
      obtain ⟨p, hp, rfl⟩ := List.mem_map.mp hw
      have := (hok p hp).n0
      rw [z] at this
      simp at this
    rw [o_sortedW _ hne]
    simp only [WO_some, walk_lst]
    refine lc_map (fun _ => true) (fun x => .tup [x, (oDIx s4 (.ref s2.length) x).getD .non]) trivial (fun x hx => ?_) ?_
    · obtain ⟨w, hw, rfl⟩ := List.mem_map.mp hx
      obtain ⟨v, e1, _⟩ := getW_mem ((sortW_perm _).mem_iff.mp hw)
      walk_at "wp"
      intro _
      rw [dix_W hm4, e1]
      simp only [Option.map_some, WO_some, Option.getD_some, true_and]
    · rw [List.filter_eq_self.mpr (fun _ _ => rfl), List.map_map]
      have erow : ((sortW (kvs.map (·.1))).map ((fun x => D.tup [x, (oDIx s4 (.ref s2.length) x).getD .non]) ∘ fun w => D.tup (w.map .int))) = ((sortW (kvs.map (·.1))).map fun w => (w, (getW kvs w).getD 0)).map rowD := by
        rw [List.map_map]
        refine List.map_congr_left fun w hw => ?_
        obtain ⟨v, e1, _⟩ := getW_mem ((sortW_perm _).mem_iff.mp hw)
        simp only [Function.comp]
        rw [dix_W hm4, e1]
        rfl
      rw [erow]
      refine wc_haul hc (by omega) (by omega) (by omega) fun d1 s5 d10 d11 hc5 f5 => ?_
      simp only [o_add, WO_some]
      refine wc_haul hc5 (by omega) (by omega) (by omega) fun d3 s6 d30 d31 hc6 f6 => ?_
      have hnum : ∃ z : Nat, oIx s6 (D.lst [D.int 1, D.int 1, D.int 2, D.int (1 + d1)]) (.int d3) = some (.int z) ∧ 1 ≤ z := by
        have hd : d3 = 0 ∨ d3 = 1 ∨ d3 = 2 ∨ d3 = 3 := by omega
        rcases hd with rfl | rfl | rfl | rfl
        · exact ⟨1, rfl, by omega⟩
        · exact ⟨1, rfl, by omega⟩
        · exact ⟨2, rfl, by omega⟩
        · exact ⟨(1 + d1).toNat, by rw [show (((1 + d1).toNat : Nat) : Int) = 1 + d1 by omega]; rfl, by omega⟩
      obtain ⟨z, e1, z1⟩ := hnum
      rw [e1]
      simp only [WO_some, o_min2]
      have htop : ∃ u : Nat, (if (top : Int) < (z : Int) then (top : Int) else (z : Int)) = (u : Int) ∧ 1 ≤ u ∧ u ≤ top := by
        by_cases q : (top : Int) < (z : Int)
        · rw [if_pos q]; exact ⟨top, rfl, h4, Nat.le_refl _⟩
        · rw [if_neg q]; exact ⟨z, rfl, z1, by omega⟩
      obtain ⟨u, e2, u1, u2⟩ := htop
      rw [e2]
      refine hQ ⟨flag, (sortW (kvs.map (·.1))).map fun w => (w, (getW kvs w).getD 0), u⟩ s6 ⟨hb, (by show 1 ≤ flag.length; omega), fl1, ?_, ?_, ?_, u1, u2⟩ (hc6.le (by omega)) ((hfr.trans f5).trans f6)
      · intro p hp
        obtain ⟨w, hw, rfl⟩ := List.mem_map.mp hp
        obtain ⟨v, e3, hv⟩ := getW_mem ((sortW_perm _).mem_iff.mp hw)
        show RowOk wh (w, (getW kvs w).getD 0)
        rw [e3]
        exact hok (w, v) hv
      · rw [List.pairwise_map]
        exact sortW_sorted _ hnd
      · show (List.map _ (sortW (kvs.map (·.1)))).length ≤ mh
        rw [List.length_map, (sortW_perm _).length_eq, List.length_map]
        omega
/-! ### any values judged -/
inductive Fine (n : Nat) (s : Sto) : D → Prop
  | atom {d : D} {t : String} (h : ∀ s, tyOf s d = some t) (no : ∀ ds, d ≠ .tup ds) : Fine n s d
  | ref {m : Nat} {o : SO} (hm : m ≠ n) (h : s[m]? = some o) (ho : o = .dct [] ∨ ∃ c fs, o = .ins c fs) : Fine n s (.ref m)
  | tup {ds : List D} (h : ∀ d ∈ ds, Fine n s d) : Fine n s (.tup ds)
section
variable {n : Nat} {s s' : Sto} {d : D} {ds : List D}
theorem Fine.ty (h : Fine n s d) : ∃ t, tyOf s d = some t := by
  cases h with
  | atom h _ => exact ⟨_, h s⟩
  | tup h => exact ⟨"tuple", rfl⟩
  | @ref m o hm h ho =>
    rcases ho with rfl | ⟨c, fs, rfl⟩
    · exact ⟨"dict", by show (match s[m]? with
        | some (.lst _) => some "list"
        | some (.dct _) => some "dict"
        | some (.ins _ _) => some "object"
        | _ => none) = _; rw [h]⟩
    · exact ⟨"object", by show (match s[m]? with
        | some (.lst _) => some "list"
        | some (.dct _) => some "dict"
        | some (.ins _ _) => some "object"
        | _ => none) = _; rw [h]⟩
theorem Fine.sub (h : Fine n s (.tup ds)) : ∀ d ∈ ds, Fine n s d := by
  cases h with
  | atom h no => exact absurd rfl (no _)
  | tup h => exact h
theorem Fine.keep (f : FrC n s s') : Fine n s d → Fine n s' d := fun h => by
  induction h with
  | atom h no => exact .atom h no
  | ref hm h ho => exact .ref hm (f.at h hm) ho
  | tup h ih => exact .tup fun d hd => ih d hd
def toI : D → Int
  | .int i => i
  | _ => 0
theorem toI_map (w : List Int) : (w.map D.int).map toI = w := by
  rw [List.map_map]
  exact (List.map_congr_left fun _ _ => rfl).trans (List.map_id w)
theorem bits_of : ∀ {ds : List D}, ds.all isBitD = true → ∃ w, Bits w ∧ ds = w.map D.int
  | [], _ => ⟨[], fun x hx => by simp at hx, rfl⟩
  | d :: ds, h => by
    rw [List.all_cons, Bool.and_eq_true] at h
    obtain ⟨w, hw, rfl⟩ := bits_of h.2
    cases d with
    | int i =>
      refine ⟨i :: w, fun x hx => ?_, rfl⟩
      rcases List.mem_cons.mp hx with rfl | hx
      · exact of_decide_eq_true h.1
      · exact hw x hx
    | _ => cases h.1
theorem word_of (h : isWordD d = true) : ∃ w, Bits w ∧ d = wd w := by
  cases d with
  | tup ds =>
    obtain ⟨w, hw, rfl⟩ := bits_of h
    exact ⟨w, hw, rfl⟩
  | _ => cases h
def fullB : D → Bool
  | .tup ds => ds.all isBitD && !ds.isEmpty
  | _ => false
theorem full_no (h : isWordD d = false) : fullB d = false := by
  cases d with
  | tup ds =>
    have h' : ds.all isBitD = false := h
    show (ds.all isBitD && _) = false
    rw [h']
    rfl
  | _ => rfl
theorem w_word_any (h : Fine n s d) {Q : D → Sto → Prop} (hQ : Q (.bl (isWordD d)) s) : WR (P_is_word [d] s) Q := by
  obtain ⟨t, ht⟩ := h.ty
  refine w_is_word ht (fun ds e x hx => ?_) hQ
  subst e
  exact (h.sub x hx).ty
theorem w_full_any (h : Fine n s d) {Q : D → Sto → Prop} (hQ : Q (.bl (fullB d)) s) : WR (P_is_full_word [d] s) Q := by
  unfold P_is_full_word g_is_full_word b_is_full_word
  walk_at "wp"
  refine w_word_any h ?_
  walk_at "op"
  cases e : isWordD d with
  | false =>
    rw [full_no e] at hQ
    simpa using hQ
  | true =>
    obtain ⟨w, hw, rfl⟩ := word_of e
    have e2 : oNe s (D.tup (w.map D.int)) (D.tup []) = some (.bl (!decide (w = []))) := o_neW w []
    have : fullB (wd w) = !decide (w = []) := by
      show ((w.map D.int).all isBitD && !(w.map D.int).isEmpty) = _
      have : (w.map D.int).all isBitD = true := e
      rw [this, Bool.true_and]
      cases w <;> rfl
    rw [this] at hQ
    simp only [if_true, e2, WO_some]
    exact hQ
def insB : D → Bool
  | .tup [a, b] => fullB a && isBitD b
  | _ => false
theorem w_bit_any (h : Fine n s d) {Q : D → Sto → Prop} (hQ : Q (.bl (isBitD d)) s) : WR (P_is_bit [d] s) Q := by
  obtain ⟨t, ht⟩ := h.ty
  exact w_is_bit ht hQ
theorem w_insert_any (h : Fine n s d) {Q : D → Sto → Prop} (hQ : Q (.bl (insB d)) s) : WR (P_is_insert [d] s) Q := by
  obtain ⟨t, ht⟩ := h.ty
  unfold P_is_insert g_is_insert b_is_insert
  walk_at "wp"
  cases d with
  | tup ds =>
    walk_at "op"
    match ds, h, hQ with
    | [], h, hQ => walk_at "op"; exact hQ
    | [a], h, hQ => walk_at "op"; exact hQ
    | [a, b], h, hQ =>
      walk_at "op"
      refine w_full_any (h.sub a (by simp)) ?_
      simp only [tru_bl, WO_some]
      cases ea : fullB a with
      | false =>
        have : insB (.tup [a, b]) = false := by show (fullB a && isBitD b) = false; rw [ea]; rfl
        rw [this] at hQ
        simpa using hQ
      | true =>
        have : insB (.tup [a, b]) = isBitD b := by show (fullB a && isBitD b) = _; rw [ea]; rfl
        rw [this] at hQ
        simp only [if_true]
        exact w_bit_any (h.sub b (by simp)) hQ
    | a :: b :: c :: ds, h, hQ =>
      have hl : ¬ ((ds.length + 1 + 1 + 1 : Nat) : Int) = 2 := by omega
      simp only [List.length_cons, decide_eq_false hl]
      walk_at "op"
      exact hQ
  | ref m =>
    rw [ht]
    rcases ref_ty ht with rfl | rfl | rfl <;> (walk_at "op"; exact hQ)
  | cls c => cases ht
  | _ => walk_at "op"; exact hQ
end
/-! ### any values judged: rules -/
def wordOf : D → List Int
  | .tup [.tup a, _] => a.map toI
  | _ => []
def lessD : D → Bool
  | .tup [a, b] => decide (wordOf a < wordOf b)
  | _ => false
def areB : D → Bool
  | .tup ds => ds.all insB && (zipD ds (ds.drop 1)).all lessD
  | _ => false
def atB : D → Bool
  | .int i => decide (1 ≤ i)
  | _ => false
def ruleB : D → Bool
  | .tup [f, r, t] => fullB f && (areB r && atB t)
  | _ => false
theorem ins_of {d : D} (h : insB d = true) : ∃ (w : List Int) (i : Int), Bits w ∧ w ≠ [] ∧ d = .tup [wd w, .int i] := by
  match d, h with
  | .tup [a, b], h =>
    have h' : (fullB a && isBitD b) = true := h
    rw [Bool.and_eq_true] at h'
    have ha : isWordD a = true := by
      cases e : isWordD a with
      | true => rfl
      | false => rw [full_no e] at h'; cases h'.1
    obtain ⟨w, hw, rfl⟩ := word_of ha
    refine ⟨w, ?_⟩
    cases b with
    | int i =>
      refine ⟨i, hw, ?_, rfl⟩
      rintro rfl
      cases h'.1
    | _ => cases h'.2
section
variable {n : Nat} {s s' : Sto} {d : D} {ds : List D}
theorem w_are_any (h : Fine n s d) {Q : D → Sto → Prop} (hQ : Q (.bl (areB d)) s) : WR (P_are_inserts [d] s) Q := by
  obtain ⟨t, ht⟩ := h.ty
  unfold P_are_inserts g_are_inserts b_are_inserts
  walk_at "wp"
  cases d with
  | tup ds =>
    walk_at "op"
    refine lc_map (fun _ => true) (fun x => .bl (insB x)) trivial (fun x hx => ?_) ?_
    · walk_at "wp"
      exact fun _ => w_insert_any (h.sub x hx) ⟨rfl, rfl⟩
    · rw [List.filter_eq_self.mpr (fun _ _ => rfl), o_all]
      simp only [WO_some, tru_bl]
      cases ea : ds.all insB with
      | false =>
        have : areB (.tup ds) = false := by show (ds.all insB && _) = false; rw [ea]; rfl
        rw [this] at hQ
        simp only [Bool.not_false, if_true]
        exact hQ
      | true =>
        have : areB (.tup ds) = (zipD ds (ds.drop 1)).all lessD := by show (ds.all insB && _) = _; rw [ea]; rfl
        rw [this] at hQ
        simp only [Bool.not_true, Bool.false_eq_true, if_false]
        rw [show oSl s (.tup ds) (some 1) none = some (.tup (ds.drop 1)) from sl_from 1]
        simp only [WO_some]
        show WO (some (zipD ds (ds.drop 1), Src.val)) _
        simp only [WO_some]
        refine lc_map (fun _ => true) (fun x => .bl (lessD x)) trivial (fun x hx => ?_) ?_
        · obtain ⟨k, a, b, e1, e2, rfl⟩ := zipD_mem hx
          have ma := List.mem_of_getElem? e1
          have mb := List.mem_of_mem_drop (List.mem_of_getElem? e2)
          obtain ⟨w, i, _, _, rfl⟩ := ins_of (List.all_eq_true.mp ea a ma)
          obtain ⟨v, j, _, _, rfl⟩ := ins_of (List.all_eq_true.mp ea b mb)
          walk_at "wp"
          intro _
          walk_at "op"
          simp only [o_ltW, WO_some]
          show D.bl (decide (w < v)) = D.bl (decide ((w.map D.int).map toI < (v.map D.int).map toI))
          rw [toI_map, toI_map]
        · rw [List.filter_eq_self.mpr (fun _ _ => rfl), o_all]
          simp only [WO_some]
          exact hQ
  | ref m =>
    rw [ht]
    rcases ref_ty ht with rfl | rfl | rfl <;> (walk_at "op"; exact hQ)
  | cls c => cases ht
  | _ => walk_at "op"; exact hQ
theorem w_at_any (h : Fine n s d) {Q : D → Sto → Prop} (hQ : Q (.bl (atB d)) s) : WR (P_is_at_least [d, .int 1] s) Q := by
  obtain ⟨t, ht⟩ := h.ty
  unfold P_is_at_least g_is_at_least b_is_at_least
  walk_at "wp"
  refine w_is_integer ht ?_
  walk_at "op"
  cases d with
  | int i =>
    simp only [isI, if_true]
    walk_at "op"
    exact hQ
  | _ =>
    simp only [isI, Bool.false_eq_true, if_false]
    exact hQ
theorem w_rule_any (h : Fine n s d) {Q : D → Sto → Prop} (hQ : Q (.bl (ruleB d)) s) : WR (P_is_rule [d] s) Q := by
  obtain ⟨t, ht⟩ := h.ty
  unfold P_is_rule g_is_rule b_is_rule
  walk_at "wp"
  cases d with
  | tup ds =>
    walk_at "op"
    match ds, h, hQ with
    | [], h, hQ => walk_at "op"; exact hQ
    | [a], h, hQ => walk_at "op"; exact hQ
    | [a, b], h, hQ => walk_at "op"; exact hQ
    | [f, r, t], h, hQ =>
      walk_at "op"
      refine w_full_any (h.sub f (by simp)) ?_
      simp only [tru_bl, WO_some]
      have e : ruleB (.tup [f, r, t]) = (fullB f && (areB r && atB t)) := rfl
      rw [e] at hQ
      cases ea : fullB f with
      | false => rw [ea] at hQ; simpa using hQ
      | true =>
        rw [ea] at hQ
        simp only [if_true]
        refine w_are_any (h.sub r (by simp)) ?_
        simp only [tru_bl, WO_some]
        cases eb : areB r with
        | false => rw [eb] at hQ; simpa using hQ
        | true =>
          rw [eb] at hQ
          simp only [if_true]
          exact w_at_any (h.sub t (by simp)) hQ
    | a :: b :: c :: x :: ds, h, hQ =>
      have hl : ¬ ((ds.length + 1 + 1 + 1 + 1 : Nat) : Int) = 3 := by omega
      simp only [List.length_cons, decide_eq_false hl]
      walk_at "op"
      exact hQ
  | ref m =>
    rw [ht]
    rcases ref_ty ht with rfl | rfl | rfl <;> (walk_at "op"; exact hQ)
  | cls c => cases ht
  | _ => walk_at "op"; exact hQ
/-! ### .. by the law -/
def lenD : D → Nat
  | .tup ds => ds.length
  | _ => 0
theorem filter_all (p : D → Bool) : ∀ ds : List D, (ds.filter fun x => !p x).isEmpty = ds.all p
  | [] => rfl
  | d :: ds => by
    rw [List.all_cons, List.filter_cons]
    cases e : p d with
    | true => simp only [Bool.not_true, Bool.false_eq_true, if_false, Bool.true_and]; exact filter_all p ds
    | false => rfl
theorem w_law_word {k : Nat} (h : Fine n s d) {Q : D → Sto → Prop} (hQ : Q (.bl (decide (k ≤ lenD d) && isWordD d)) s) : WR (P__law_is_word [d, .int k] s) Q := by
  obtain ⟨t, ht⟩ := h.ty
  unfold P__law_is_word g__law_is_word b__law_is_word
  walk_at "wp"
  cases d with
  | tup ds =>
    walk_at "op"
    by_cases hk : ds.length < k
    · have e : decide (((ds.length : Nat) : Int) < (k : Int)) = true := decide_eq_true (by omega)
      have e2 : (decide (k ≤ lenD (.tup ds)) && isWordD (.tup ds)) = false := by
        rw [decide_eq_false (show ¬ k ≤ lenD (.tup ds) from by show ¬ k ≤ ds.length; omega), Bool.false_and]
      rw [e2] at hQ
      rw [if_pos (by omega)]
      exact hQ
    · rw [if_neg (by omega)]
      have e2 : (decide (k ≤ lenD (.tup ds)) && isWordD (.tup ds)) = isWordD (.tup ds) := by
        rw [decide_eq_true (show k ≤ lenD (.tup ds) from by show k ≤ ds.length; omega), Bool.true_and]
      rw [e2] at hQ
      refine lc_map (fun x => !isBitD x) (fun x => x) trivial (fun x hx => ?_) ?_
      · obtain ⟨u, hu⟩ := (h.sub x hx).ty
        walk_at "wp"
        cases x with
        | int i =>
          walk_at "op"
          have e3 : (!isBitD (.int i)) = (decide (i < 0) || decide (i > 1)) := by
            show (!decide (i = 0 ∨ i = 1)) = _
            by_cases a : i < 0
            · rw [decide_eq_true a, decide_eq_false (by omega)]; rfl
            · by_cases b : i > 1
              · rw [decide_eq_true b, decide_eq_false (by omega), Bool.or_true]; rfl
              · rw [decide_eq_false a, decide_eq_false b, decide_eq_true (by omega)]; rfl
          rw [e3]

          by_cases a : i < 0
          · simp [a]
          · simp [a]
        | ref m =>
          rw [hu]
          rcases ref_ty hu with rfl | rfl | rfl <;> (walk_at "op"; exact ⟨rfl, fun _ => trivial⟩)
        | cls c => cases hu
        | _ => walk_at "op"; exact ⟨rfl, fun _ => trivial⟩
      · rw [List.map_id'' (fun _ => rfl), oEqL_nil, filter_all]
        simp only [WO_some]
        exact hQ
  | ref m =>
    rw [ht]
    rcases ref_ty ht with rfl | rfl | rfl <;> (walk_at "op"; simpa [isWordD] using hQ)
  | cls c => cases ht
  | _ => walk_at "op"; simpa [isWordD] using hQ
end
/-! ### the law's own judge of rules -/
def chainB : List Int → List D → Bool
  | _, [] => true
  | a, d :: ds => insB d && (decide (a < wordOf d) && chainB (wordOf d) ds)
theorem wordOf_row (w : List Int) (b : D) : wordOf (.tup [wd w, b]) = w := toI_map w
theorem nil_lt {w : List Int} (h : w ≠ []) : ([] : List Int) < w := by
  cases w with
  | nil => exact absurd rfl h
  | cons x xs => exact List.nil_lt_cons x xs
theorem zip_tail (d : D) : ∀ ds : List D, (zipD (d :: ds) ds).all lessD = true → True := fun _ _ => trivial
theorem chain_zip : ∀ (d : D) (ds : List D), chainB (wordOf d) ds = (ds.all insB && (zipD (d :: ds) ds).all lessD)
  | d, [] => rfl
  | d, e :: ds => by
    show (insB e && (decide (wordOf d < wordOf e) && chainB (wordOf e) ds)) = ((insB e && ds.all insB) && (decide (wordOf d < wordOf e) && (zipD (e :: ds) ds).all lessD))
    rw [chain_zip e ds]
    cases insB e <;> cases decide (wordOf d < wordOf e) <;> cases ds.all insB <;> rfl
theorem are_chain (ds : List D) : areB (.tup ds) = chainB [] ds := by
  cases ds with
  | nil => rfl
  | cons d ds =>
    show ((insB d && ds.all insB) && (zipD (d :: ds) ds).all lessD) = (insB d && (decide ([] < wordOf d) && chainB (wordOf d) ds))
    rw [chain_zip]
    cases e : insB d with
    | false => rfl
    | true =>
      obtain ⟨w, i, _, hw, rfl⟩ := ins_of e
      rw [wordOf_row, decide_eq_true (nil_lt hw)]
      cases ds.all insB <;> rfl
theorem o_leW {st : Sto} (w v : List Int) : oLe st (.tup (w.map .int)) (.tup (v.map .int)) = some (.bl (!decide (v < w))) := by
  unfold oLe oOrd
  rw [py2_words]
  show (if PySem.W.alikeAll (w.map PyData.int) (v.map PyData.int) = true ∧ false = false then some (D.bl (!PySem.W.dataLt (.tuple (v.map .int)) (.tuple (w.map .int)))) else none) = _
  rw [if_pos ⟨PySem.W.alike_ints w v, rfl⟩, dataLt_words]
section
variable {n : Nat} {s s' : Sto} {d : D} {ds : List D}
theorem full_len (d : D) : (decide (1 ≤ lenD d) && isWordD d) = fullB d := by
  cases d with
  | tup ds =>
    cases ds with
    | nil => rfl
    | cons x xs =>
      show (decide (1 ≤ xs.length + 1) && (x :: xs).all isBitD) = ((x :: xs).all isBitD && true)
      rw [decide_eq_true (by omega), Bool.true_and, Bool.and_true]
  | _ => rfl
theorem w_law_is_rule (h : Fine n s d) {Q : D → Sto → Prop} (hQ : Q (.bl (ruleB d)) s) : WR (P__law_is_rule [d] s) Q := by
  obtain ⟨t, ht⟩ := h.ty
  unfold P__law_is_rule g__law_is_rule b__law_is_rule
  walk_at "wp"
  cases d with
  | tup ds =>
    walk_at "op"
    match ds, h, hQ with
    | [], h, hQ => walk_at "op"; exact hQ
    | [a], h, hQ => walk_at "op"; exact hQ
    | [a, b], h, hQ => walk_at "op"; exact hQ
    | [f, r, t], h, hQ =>
      walk_at "op"
      refine w_law_word (k := 1) (h.sub f (by simp)) ?_
      rw [full_len]
      simp only [tru_bl, WO_some]
      have e : ruleB (.tup [f, r, t]) = (fullB f && (areB r && atB t)) := rfl
      rw [e] at hQ
      cases ea : fullB f with
      | false => rw [ea] at hQ; simpa using hQ
      | true =>
        rw [ea, Bool.true_and] at hQ
        have hr := h.sub r (by simp)
        obtain ⟨u, hu⟩ := hr.ty
        simp only [Bool.not_true, Bool.false_eq_true, if_false]
        have no : ∀ {P : Prop}, areB r = false → Q (.bl false) s := fun e => by rw [e] at hQ; exact hQ
        cases r with
        | tup rs =>
          walk_at "op"
          rw [are_chain] at hQ
          refine for_byB (fun k e s1 => s1 = s ∧ ∃ a o2, chainB [] rs = chainB a (rs.drop k) ∧ e = [some (.tup [f, .tup rs, t]), some (wd a), o2]) ⟨rfl, [], none, rfl, rfl⟩ ?_ ?_
          · rintro k d e s1 hd ⟨rfl, a, o2, hc, rfl⟩
            obtain ⟨hk1, hk2⟩ := List.getElem?_eq_some_iff.mp hd
            rw [List.drop_eq_getElem_cons hk1, hk2] at hc
            have hdm : Fine n s1 d := hr.sub d (List.mem_of_getElem? hd)
            obtain ⟨u2, hu2⟩ := hdm.ty
            have bad : insB d = false → Q (.bl false) s1 := fun eb => by
              have : chainB a (d :: rs.drop (k + 1)) = false := by
                show (insB d && _) = false
                rw [eb]
                rfl
              rw [hc, this] at hQ
              exact hQ
            walk_at "wp"
            cases d with
            | tup xs =>
              walk_at "op"
              match xs, hdm, bad, hc with
              | [], hdm, bad, hc => walk_at "op"; exact bad rfl
              | [x], hdm, bad, hc => walk_at "op"; exact bad rfl
              | [x, y], hdm, bad, hc =>
                walk_at "op"
                refine w_law_word (k := 1) (hdm.sub x (by simp)) ?_
                rw [full_len]
                simp only [tru_bl, WO_some]
                have ei : insB (.tup [x, y]) = (fullB x && isBitD y) := rfl
                cases ex : fullB x with
                | false =>
                  simp only [Bool.not_false, if_true]
                  exact bad (by rw [ei, ex]; rfl)
                | true =>
                  simp only [Bool.not_true, Bool.false_eq_true, if_false]
                  refine w_law_word (k := 1) (n := n) (.tup fun z hz => hdm.sub z (by simp only [List.mem_singleton] at hz; subst hz; simp)) ?_
                  have ey : (decide (1 ≤ lenD (.tup [y])) && isWordD (.tup [y])) = isBitD y := by
                    show (true && (isBitD y && true)) = _
                    rw [Bool.true_and, Bool.and_true]
                  rw [ey]
                  simp only [tru_bl, WO_some]
                  cases eb : isBitD y with
                  | false =>
                    simp only [Bool.not_false, if_true]
                    exact bad (by rw [ei, ex, eb]; rfl)
                  | true =>
                    simp only [Bool.not_true, Bool.false_eq_true, if_false]
                    have eins : insB (.tup [x, y]) = true := by rw [ei, ex, eb]; rfl
                    obtain ⟨w, i, hw, hw0, ee⟩ := ins_of eins
                    obtain ⟨rfl, rfl⟩ : x = wd w ∧ y = .int i := by
                      injection ee with ee
                      injection ee with e1 e2
                      injection e2 with e2 _
                      exact ⟨e1, e2⟩
                    rw [o_leW]
                    simp only [WO_some, asB_bl]
                    have hc2 : chainB a (.tup [wd w, .int i] :: rs.drop (k + 1)) = (decide (a < w) && chainB w (rs.drop (k + 1))) := by
                      show (insB _ && (decide (a < wordOf _) && chainB (wordOf _) _)) = _
                      rw [eins, wordOf_row, Bool.true_and]
                    rw [hc2] at hc
                    by_cases hlt : a < w
                    · rw [decide_eq_true hlt, Bool.true_and] at hc
                      rw [decide_eq_true hlt]
                      simp only [Bool.not_true, Bool.false_eq_true, if_false]
                      exact ⟨trivial, w, _, hc, rfl⟩
                    · rw [decide_eq_false hlt, Bool.false_and] at hc
                      rw [decide_eq_false hlt]
                      simp only [Bool.not_false, if_true]
                      rw [hc] at hQ
                      exact hQ
              | x :: y :: z :: xs, hdm, bad, hc =>
                have hl : ¬ ((xs.length + 1 + 1 + 1 : Nat) : Int) = 2 := by omega
                simp only [List.length_cons, decide_eq_false hl]
                walk_at "op"
                exact bad rfl
            | ref m =>
              rw [hu2]
              rcases ref_ty hu2 with rfl | rfl | rfl <;> (walk_at "op"; exact bad rfl)
            | cls c => cases hu2
            | _ => walk_at "op"; exact bad rfl
          · rintro e s1 ⟨rfl, a, o2, hc, rfl⟩
            rw [List.drop_length] at hc
            have hc : chainB [] rs = true := hc
            rw [hc, Bool.true_and] at hQ
            walk_at "wp"
            rw [show oIx s1 (.tup [f, .tup rs, t]) (.int 2) = some t from rfl]
            simp only [WO_some]
            obtain ⟨v, hv⟩ := (h.sub t (by simp)).ty
            cases t with
            | int i => walk_at "op"; exact hQ
            | ref m =>
              have hv2 := hv
              simp only [tyOf] at hv2
              dsimp only
              rw [hv2]
              rcases ref_ty hv with rfl | rfl | rfl <;> (walk_at "op"; exact hQ)
            | cls c => cases hv
            | _ => walk_at "op"; exact hQ
        | ref m =>
          have hu2 := hu
          simp only [tyOf] at hu2
          dsimp only
          rw [hu2]
          rcases ref_ty hu with rfl | rfl | rfl <;> (walk_at "op"; exact hQ)
        | cls c => cases hu
        | _ => walk_at "op"; exact hQ
    | a :: b :: c :: x :: ds, h, hQ =>
      have hl : ¬ ((ds.length + 1 + 1 + 1 + 1 : Nat) : Int) = 3 := by omega
      simp only [List.length_cons, decide_eq_false hl]
      walk_at "op"
      exact hQ
  | ref m =>
    rw [ht]
    rcases ref_ty ht with rfl | rfl | rfl <;> (walk_at "op"; exact hQ)
  | cls c => cases ht
  | _ => walk_at "op"; exact hQ
end
/-! ### bent values -/
structure Fines (n : Nat) (s : Sto) (ds : List D) : Prop where
  all : ∀ d ∈ ds, Fine n s d
section
variable {n : Nat} {s s' : Sto} {d : D} {ds es : List D}
theorem fs_nil : Fines n s [] := ⟨fun d h => by simp at h⟩
theorem fs_cons (h : Fine n s d) (k : Fines n s ds) : Fines n s (d :: ds) := ⟨fun e he => by
  rcases List.mem_cons.mp he with rfl | he
  · exact h
  · exact k.all e he⟩
theorem fs_app (h : Fines n s ds) (k : Fines n s es) : Fines n s (ds ++ es) := ⟨fun e he => by
  rcases List.mem_append.mp he with he | he
  · exact h.all e he
  · exact k.all e he⟩
theorem fs_take {k : Nat} (h : Fines n s ds) : Fines n s (ds.take k) := ⟨fun e he => h.all e (List.mem_of_mem_take he)⟩
theorem fs_drop {k : Nat} (h : Fines n s ds) : Fines n s (ds.drop k) := ⟨fun e he => h.all e (List.mem_of_mem_drop he)⟩
theorem fs_rev (h : Fines n s ds) : Fines n s ds.reverse := ⟨fun e he => h.all e (List.mem_reverse.mp he)⟩
theorem fs_cut {lo hi : Option Int} (h : Fines n s ds) : Fines n s (cutD ds lo hi) := fs_take (fs_drop h)
theorem f_int {i : Int} : Fine n s (.int i) := .atom (t := "int") (fun _ => rfl) (fun _ e => nomatch e)
theorem f_str {i : Str} : Fine n s (.str i) := .atom (t := "str") (fun _ => rfl) (fun _ e => nomatch e)
theorem f_non : Fine n s .non := .atom (t := "NoneType") (fun _ => rfl) (fun _ e => nomatch e)
theorem f_bl {b : Bool} : Fine n s (.bl b) := .atom (t := "bool") (fun _ => rfl) (fun _ e => nomatch e)
theorem f_lst {ds : List D} : Fine n s (.lst ds) := .atom (t := "list") (fun _ => rfl) (fun _ e => nomatch e)
theorem f_tup {ds : List D} (h : Fines n s ds) : Fine n s (.tup ds) := .tup h.all
theorem fs_ints {w : List Int} : Fines n s (w.map .int) := ⟨fun e he => by
  obtain ⟨i, _, rfl⟩ := List.mem_map.mp he
  exact f_int⟩
theorem fs_rows {rows : List (List Int × Int)} : Fines n s (rows.map rowD) := ⟨fun e he => by
  obtain ⟨p, _, rfl⟩ := List.mem_map.mp he
  exact f_tup (fs_cons (f_tup fs_ints) (fs_cons f_int fs_nil))⟩
theorem f_dct (h : n < s.length) : Fine n (s ++ [.dct []]) (.ref s.length) := .ref (Nat.ne_of_gt h) List.getElem?_concat_length (.inl rfl)
theorem Fines.keep (f : FrC n s s') (h : Fines n s ds) : Fines n s' ds := ⟨fun d hd => (h.all d hd).keep f⟩
theorem pick_of (h : Fines n s ds) {i : Int} (h0 : 0 ≤ i) (h1 : i < ds.length) : ∃ x, oIx s' (.lst ds) (.int i) = some x ∧ Fine n s x := by
  obtain ⟨k, rfl⟩ := Int.eq_ofNat_of_zero_le h0
  have hk : k < ds.length := by omega
  refine ⟨ds[k], ?_, h.all _ (List.getElem_mem hk)⟩
  rw [ix_lst, atI_nn, List.getElem?_eq_getElem hk]
end
theorem pick_WO {n : Nat} {s s' : Sto} {ds : List D} (h : Fines n s ds) {i : Int} (h0 : 0 ≤ i) (h1 : i < ds.length) {Q : D → Prop} (hQ : ∀ x, Fine n s x → Q x) : WO (oIx s' (.lst ds) (.int i)) Q := by
  obtain ⟨x, e, hx⟩ := pick_of (s' := s') h h0 h1
  rw [e]
  exact hQ x hx
theorem pick_WOm {n : Nat} {s s' : Sto} {ds : List D} (h : Fines n s ds) {i : Int} (h0 : 0 ≤ i) (h1 : i < ds.length) {Q : D → Prop} (hQ : ∀ x, x ∈ ds → Fine n s x → Q x) : WO (oIx s' (.lst ds) (.int i)) Q := by
  obtain ⟨k, rfl⟩ := Int.eq_ofNat_of_zero_le h0
  have hk : k < ds.length := by omega
  rw [ix_lst, atI_nn, List.getElem?_eq_getElem hk]
  exact hQ _ (List.getElem_mem hk) (h.all _ (List.getElem_mem hk))
theorem one_odd {o : D} : ∀ (a c : List Int), ruleB (.tup (a.map .int ++ [o] ++ c.map .int)) = false
  | [], [] => rfl
  | [], [x] => rfl
  | [], [x, y] => by
    show (fullB o && (areB (.int x) && atB (.int y))) = false
    cases fullB o <;> rfl
  | [], x :: y :: z :: c => rfl
  | [x], [] => rfl
  | [x], [y] => rfl
  | [x], y :: z :: c => rfl
  | [x, y], [] => rfl
  | [x, y], z :: c => rfl
  | x :: y :: z :: a, c => by
    cases a <;> rfl
theorem word_no_rule {w : List Int} : ruleB (wd w) = false := by
  match w with
  | [] => rfl
  | [a] => rfl
  | [a, b] => rfl
  | [a, b, c] => rfl
  | a :: b :: c :: d :: w => rfl
theorem some_of {o : Option D} {v : D} (h : WO o fun d => d = v) : o = some v := by
  cases o with
  | none => exact h.elim
  | some d =>
    have h' : d = v := h
    rw [h']
theorem add_tup {st : Sto} {xs ys : List D} (h : xs.length + ys.length ≤ 1000000) : oAdd st (.tup xs) (.tup ys) = some (.tup (xs ++ ys)) := some_of (by rw [o_addT]; exact ⟨sz_of h, rfl⟩)
theorem add_lst {st : Sto} {xs ys : List D} (h : xs.length + ys.length ≤ 1000000) : oAdd st (.lst xs) (.lst ys) = some (.lst (xs ++ ys)) := some_of (by rw [o_addL]; exact ⟨sz_of h, rfl⟩)
theorem len_wd {st : Sto} {w : List Int} : oLen st [wd w] = some (.int (w.length : Nat)) := by
  show oLen st [D.tup (w.map D.int)] = _
  rw [len_tup, List.length_map]
section
variable {st : Sto} {n J : Nat} {b : Int}
theorem w_bent_word {w : List Int} (h : HasCr st n b J) (hJ : J + 100 ≤ 10 ^ 9) (hl : w.length ≤ 1000) {Q : D → Sto → Prop} (hQ : ∀ d s, Fine n s d → ruleB d = false → HasCr s n b (J + 10) → FrC n st s → Q d s) : WR (P__law_bent_word [.ref n, wd w] st) Q := by
  unfold P__law_bent_word g__law_bent_word b__law_bent_word
  walk_at "wp"
  rw [show oNeg st (.int 1) = some (.int (-1)) from rfl]
  simp only [WO_some]
  refine wc_haul h.app (by omega) (by decide) (by decide) fun d1 s1 d10 d11 h1 f1 => ?_
  have g1 : FrC n st s1 := (FrC.app _).trans f1
  have hd := (f_dct h.lt).keep f1
  obtain ⟨o, eo, ho⟩ := pick_of (s' := s1) (show Fines n s1 [.non, .bl true, .bl false, .str "1", .int 2, .int (-1), .tup [.int 1], .lst [.int 0], .ref st.length, .str "0"] by
    repeat' first | exact hd | exact f_non | exact f_bl | exact f_str | exact f_int | exact f_lst | apply f_tup | apply fs_cons | exact fs_nil) d10 (by simpa using d11)
  rw [eo]
  simp only [WO_some]
  rw [len_wd]
  simp only [WO_some, o_add]
  refine wc_haul h1 (by omega) (by omega) (by omega) fun d2 s2 d20 d21 h2 f2 => ?_
  obtain ⟨k, rfl⟩ := Int.eq_ofNat_of_zero_le d20
  have ho2 := ho.keep f2
  dsimp only
  simp only [sl_to, sl_from, WO_some, o_add, ← Int.natCast_one, ← Int.natCast_add]
  rw [add_tup (by simp only [List.length_map, List.length_take, List.length_cons, List.length_nil]; omega)]
  simp only [WO_some]
  rw [add_tup (by simp only [List.length_map, List.length_append, List.length_take, List.length_drop, List.length_cons, List.length_nil]; omega)]
  simp only [WO_some]
  rw [add_tup (by simp only [List.length_map, List.length_append, List.length_take, List.length_drop, List.length_cons, List.length_nil]; omega)]
  simp only [WO_some]
  rw [list_tup (sz_of (by rw [List.length_map]; omega))]
  simp only [WO_some]
  rw [add_lst (by simp)]
  simp only [WO_some]
  refine wc_haul h2.app (by omega) (by decide) (by decide) fun d3 s3 d30 d31 h3 f3 => ?_
  have hd3 := (f_dct h2.lt).keep f3
  have f23 : FrC n s2 s3 := (FrC.app _).trans f3
  have ho3 := ho2.keep f23
  refine pick_WOm (n := n) (s := s3) ?_ d30 (by simpa using d31) fun x hm hx => ?_
  rotate_left
  · refine hQ x s3 hx ?_ (h3.le (by omega)) ((g1.trans f2).trans f23)
    simp only [List.mem_append, List.mem_cons, List.not_mem_nil, or_false] at hm
    rcases hm with (rfl | rfl | rfl | rfl | rfl | rfl | rfl | rfl | rfl) | rfl | rfl | rfl
    · rw [← List.map_take, ← List.map_drop]
      exact one_odd _ _
    · rw [← List.map_take, ← List.map_drop]
      exact one_odd _ _
    all_goals first | rfl | exact word_no_rule
  · repeat' first | exact hd3 | exact ho3 | exact f_non | exact f_bl | exact f_str | exact f_int | exact f_lst | exact fs_ints | exact fs_nil | apply fs_cons | apply fs_app | apply f_tup | apply fs_take | apply fs_drop
end
/-! ### bent rules -/
theorem sl_tupc {st : Sto} {ds : List D} {lo hi : Option Int} : oSl st (.tup ds) lo hi = some (.tup (cutD ds lo hi)) := (rfl)
section
variable {n : Nat} {s st : Sto} {X Y : List D}
theorem sl_fine {lo hi : Option Int} (hX : Fines n s X) {Q : D → Prop} (hQ : ∀ Z, Fines n s Z → Z.length ≤ X.length → Q (.tup Z)) : WO (oSl st (.tup X) lo hi) Q := hQ _ (fs_cut hX) (cutD_len X lo hi)
theorem add_fineT (hX : Fines n s X) (hY : Fines n s Y) (hl : X.length + Y.length ≤ 1000000) {Q : D → Prop} (hQ : ∀ Z, Fines n s Z → Z.length = X.length + Y.length → Q (.tup Z)) : WO (oAdd st (.tup X) (.tup Y)) Q := by
  rw [add_tup hl]
  exact hQ _ (fs_app hX hY) List.length_append
theorem add_fineL (hX : Fines n s X) (hY : Fines n s Y) (hl : X.length + Y.length ≤ 1000000) {Q : D → Prop} (hQ : ∀ Z, Fines n s Z → Z.length = X.length + Y.length → Q (.lst Z)) : WO (oAdd st (.lst X) (.lst Y)) Q := by
  rw [add_lst hl]
  exact hQ _ (fs_app hX hY) List.length_append
theorem lc_fine {g : SemG} {t : SemB} {e : SemE} {env : En} {ds : List D} {src : Src} {QL : List D → Sto → Prop} (F : D → D) (hok : srcOk src ds st) (hs : ∀ d ∈ ds, WO (g d env st) fun e1 => WR (t e1 st) fun b s1 => b = true ∧ s1 = st ∧ (true = true → WR (e e1 st) fun y s2 => y = F d ∧ s2 = st))
    (hX : Fines n s ds) (hF : ∀ x, Fine n s x → Fine n s (F x)) (hd : ∀ Z, Fines n s Z → Z.length = ds.length → QL Z st) : WR (lcL (srcOk src ds) g t e env ds [] st) QL := by
  refine lc_map (fun _ => true) F hok hs ?_
  rw [List.filter_eq_self.mpr (fun _ _ => rfl)]
  refine hd _ ⟨fun z hz => ?_⟩ (List.length_map _)
  obtain ⟨x, hx, rfl⟩ := List.mem_map.mp hz
  exact hF x (hX.all x hx)
end
/-! ### bent rules -/
section
variable {n : Nat} {s st : Sto} {X Y : List D}
end
section
variable {st : Sto} {n J : Nat} {b : Int}
theorem w_bent_rule {r : Rule} (h : HasCr st n b J) (hJ : J + 3000 ≤ 10 ^ 9) (hf : r.flag.length ≤ 1000) (hr : r.rows.length ≤ 1000) {Q : D → Sto → Prop} (hQ : ∀ d s, Fine n s d → HasCr s n b (J + 3000) → FrC n st s → Q d s) : WR (P__law_bent_rule [.ref n, ruleD r] st) Q := by
  unfold P__law_bent_rule g__law_bent_rule b__law_bent_rule
  walk_at "wpl"
  rw [show oNeg st (.int 1) = some (.int (-1)) from rfl]
  simp only [WO_some]
  refine wc_haul h.app (by omega) (by decide) (by decide) fun d1 s1 d10 d11 h1 f1 => ?_
  have g1 : FrC n st s1 := (FrC.app _).trans f1
  have hd := (f_dct h.lt).keep f1
  obtain ⟨o, eo, ho⟩ := pick_of (s' := s1) (show Fines n s1 [.non, .bl true, .bl false, .str "1", .int 2, .int (-1), .tup [.int 1], .lst [.int 0], .ref st.length, .str "", .tup [.int 0, .int 2]] by
    repeat' first | exact hd | exact f_non | exact f_bl | exact f_str | exact f_int | exact f_lst | apply f_tup | apply fs_cons | exact fs_nil) d10 (by simpa using d11)
  rw [eo]
  simp only [WO_some]
  rw [len_wd]
  simp only [WO_some, o_add]
  refine wc_haul h1 (by omega) (by omega) (by omega) fun d2 s2 d20 d21 h2 f2 => ?_
  obtain ⟨k, rfl⟩ := Int.eq_ofNat_of_zero_le d20
  rw [len_tup, List.length_map]
  simp only [WO_some, o_add]
  refine wc_haul h2 (by omega) (by omega) (by omega) fun d3 s3 d30 d31 h3 f3 => ?_
  obtain ⟨m, rfl⟩ := Int.eq_ofNat_of_zero_le d30
  refine wc_haul h3 (by omega) (by decide) (by decide) fun d4 s4 d40 d41 h4 f4 => ?_
  refine wc_bitsI h4 d40 (by omega) (by omega) fun w s5 hw hwb h5 f5 => ?_
  have f15 : FrC n s1 s5 := ((f2.trans f3).trans f4).trans f5
  have ho5 := ho.keep f15
  have hw3 : w.length ≤ 4 := by omega
  rw [show wd w = D.tup (w.map D.int) from rfl, add_tup (by simp only [List.length_map, List.length_cons, List.length_nil]; omega)]
  simp only [WO_some, walk_lst]
  have fl5 : Fines n s5 (r.flag.map D.int) := fs_ints
  have fr5 : Fines n s5 (r.rows.map rowD) := fs_rows
  have lf5 : (r.flag.map D.int).length ≤ 1000 := by rw [List.length_map]; exact hf
  have lr5 : (r.rows.map rowD).length ≤ 1000 := by rw [List.length_map]; exact hr
  refine lc_fine (n := n) (s := s5) (fun x => .tup [wd r.flag, .tup ((r.rows.map rowD).take m ++ [x] ++ (r.rows.map rowD).drop m), .int r.top]) trivial (fun x hx => ?_) ?_ (fun x hx => ?_) fun X hX lX => ?_
  · walk_at "wp"
    simp only [sl_to, sl_from, WO_some]
    rw [add_tup (by simp only [List.length_map, List.length_take, List.length_cons, List.length_nil]; omega)]
    simp only [WO_some]
    rw [add_tup (by simp only [List.length_map, List.length_append, List.length_take, List.length_drop, List.length_cons, List.length_nil]; omega)]
    simp only [WO_some]
    exact fun _ => trivial
  · repeat' first | exact ho5 | exact f_non | exact f_bl | exact f_str | exact f_int | exact f_lst | exact fs_ints | exact fs_rows | exact fs_nil | apply fs_cons | apply fs_app | apply f_tup
  · exact f_tup (fs_cons (f_tup fs_ints) (fs_cons (f_tup (fs_app (fs_app (fs_take fs_rows) (fs_cons hx fs_nil)) (fs_drop fs_rows))) (fs_cons f_int fs_nil)))
  have lX : X.length = 8 := lX
  refine sl_fine fl5 fun Z1 z1 y1 => ?_
  refine add_fineT z1 (fs_cons ho5 fs_nil) (by simp; omega) fun Z2 z2 y2 => ?_
  refine sl_fine fl5 fun Z3 z3 y3 => ?_
  simp only [List.length_cons, List.length_nil] at y2
  refine add_fineT z2 z3 (by omega) fun Z4 z4 y4 => ?_
  refine sl_fine fl5 fun Z5 z5 y5 => ?_
  refine add_fineT z5 (fs_cons ho5 fs_nil) (by simp; omega) fun Z6 z6 y6 => ?_
  simp only [List.length_cons, List.length_nil] at y6
  refine sl_fine fl5 fun Z7 z7 y7 => ?_
  refine add_fineT z6 z7 (by omega) fun Z8 z8 y8 => ?_
  refine add_fineL hX (Y := [.tup [.tup Z4, .tup (r.rows.map rowD), .int r.top], .tup [.tup Z8, .tup (r.rows.map rowD), .int r.top]]) ?_ (by simp; omega) fun X2 hX2 lX2 => ?_
  · repeat' first | exact z4 | exact z8 | exact f_int | exact fs_rows | exact fs_nil | apply fs_cons | apply f_tup
  rw [list_tup (sz_of (by omega)), list_tup (sz_of (by omega))]
  simp only [WO_some]
  refine add_fineL hX2 ?_ (by simp at lX2 ⊢; omega) fun X3 hX3 lX3 => ?_
  · repeat' first | exact f_int | exact f_lst | exact fs_ints | exact fs_rows | exact fs_nil | exact fs_rev fs_rows | apply fs_cons | apply f_tup
  rw [show oNeg s5 (.int 1) = some (.int (-1)) from rfl]
  simp only [WO_some]
  simp only [List.length_cons, List.length_nil] at lX2 lX3
  refine sl_fine fr5 fun Z9 z9 y9 => ?_
  refine add_fineT fr5 z9 (by omega) fun Y1 w1 v1 => ?_
  refine sl_fine fr5 fun Y2 w2 v2 => ?_
  simp only [o_add, WO_some]
  refine sl_fine fr5 fun Y3 w3 v3 => ?_
  dsimp only
  refine add_fineT w2 (fs_rev w3) (by rw [List.length_reverse]; omega) fun Y4 w4 v4 => ?_
  rw [List.length_reverse] at v4
  refine sl_fine fr5 fun Y5 w5 v5 => ?_
  refine add_fineT w4 w5 (by omega) fun Y6 w6 v6 => ?_
  refine add_fineL hX3 (Y := [.tup [wd r.flag, .tup Y1, .int r.top], .tup [wd r.flag, .tup Y6, .int r.top]]) ?_ (by simp; omega) fun X4 hX4 lX4 => ?_
  · repeat' first | exact w1 | exact w6 | exact f_int | exact fs_ints | exact fs_nil | apply fs_cons | apply f_tup
  refine add_fineL hX4 (Y := [.tup [wd r.flag, .tup (r.rows.map rowD), o], .tup [wd r.flag, .tup (r.rows.map rowD), .int 0], .tup [wd r.flag, o, .int r.top], .tup [o, .tup (r.rows.map rowD), .int r.top]]) ?_ (by simp at lX4 ⊢; omega) fun X5 hX5 lX5 => ?_
  · repeat' first | exact ho5 | exact f_int | exact fs_ints | exact fs_rows | exact fs_nil | apply fs_cons | apply f_tup
  refine add_fineL hX5 ?_ (by simp at lX4 lX5 ⊢; omega) fun X6 hX6 lX6 => ?_
  · repeat' first | exact f_int | exact fs_ints | exact fs_rows | exact fs_nil | apply fs_cons | apply f_tup
  simp only [List.length_cons, List.length_nil] at lX4 lX5 lX6
  rw [show ruleD r = D.tup [wd r.flag, .tup (r.rows.map rowD), .int r.top] from rfl, list_tup (sz_of (by simp))]
  simp only [WO_some]
  refine add_fineL (n := n) (s := s5 ++ [.dct []]) (hX6.keep (FrC.app _)) ?_ (by simp; omega) fun X7 hX7 lX7 => ?_
  · have hd5 := f_dct h5.lt
    repeat' first | exact hd5 | exact f_int | exact f_non | exact f_str | exact f_bl | exact f_lst | exact fs_ints | exact fs_rows | exact fs_nil | apply fs_cons | apply f_tup
  simp only [List.length_cons, List.length_nil] at lX7
  rw [len_lst]
  simp only [WO_some]
  refine wc_haul h5.app (by omega) (by omega) (by omega) fun d6 s6 d60 d61 h6 f6 => ?_
  refine pick_WO (n := n) (s := s6) (hX7.keep f6) d60 d61 fun x hx => ?_
  exact hQ x s6 hx (h6.le (by omega)) ((g1.trans f15).trans ((FrC.app _).trans f6))
end
/-! ### law k01 -/
structure RAny (r : Rule) : Prop where
  ok : ∃ fh wh mh top, RuleOk fh wh mh top r ∧ fh ≤ 1000 ∧ mh ≤ 1000
theorem RAny.fl {r : Rule} (h : RAny r) : r.flag.length ≤ 1000 := let ⟨_, _, _, _, o, a, _⟩ := h.ok; Nat.le_trans o.f1 a
theorem RAny.rw {r : Rule} (h : RAny r) : r.rows.length ≤ 1000 := let ⟨_, _, _, _, o, _, a⟩ := h.ok; Nat.le_trans o.rn a
theorem RAny.top {r : Rule} (h : RAny r) {t : Nat} (ht : 1 ≤ t) : RAny ⟨r.flag, r.rows, t⟩ := let ⟨fh, wh, mh, _, o, a, c⟩ := h.ok; ⟨fh, wh, mh, t, ⟨o.fb, o.f0, o.f1, o.rows, o.ord, o.rn, ht, Nat.le_refl _⟩, a, c⟩
section
variable {st : Sto} {n J : Nat} {b : Int}
theorem w_rule_yes {r : Rule} (h : RAny r) {Q : D → Sto → Prop} (hQ : Q (.bl true) st) : WR (P_is_rule [ruleD r] st) Q := let ⟨_, _, _, _, o, _, c⟩ := h.ok; w_is_rule o c hQ
theorem w_law_any_rule (h : HasCr st n b J) (hJ : J + 400000 ≤ 10 ^ 9) {Q : D → Sto → Prop} (hQ : ∀ r s, RAny r → HasCr s n b (J + 300001) → FrC n st s → Q (ruleD r) s) : WR (P__law_any_rule [.ref n, .bl true] st) Q := by
  unfold P__law_any_rule g__law_any_rule b__law_any_rule
  walk_at "wp"
  walk_at "op"
  refine wc_haul h (by omega) (by decide) (by decide) fun d s d0 d1 h1 f1 => ?_
  walk_at "op"
  split
  · exact w_drawn_rule (fh := 16) (wh := 16) (mh := 8) (top := 16) h1 (by decide) (by decide) (by decide) (by decide) (by decide) (by decide) (by decide) (by omega) fun r s2 o h2 f2 => hQ r s2 ⟨_, _, _, _, o, by decide, by decide⟩ (h2.le (by omega)) (f1.trans f2)
  · exact w_drawn_rule (fh := 6) (wh := 5) (mh := 3) (top := 4) h1 (by decide) (by decide) (by decide) (by decide) (by decide) (by decide) (by decide) (by omega) fun r s2 o h2 f2 => hQ r s2 ⟨_, _, _, _, o, by decide, by decide⟩ (h2.le (by omega)) (f1.trans f2)
theorem w_two {x y : Bool} {Q : D → Sto → Prop} (hQ : Q (.bl true) st) : WR (P__law_match 10 [.lst [.bl x, .bl y], .lst [.bl x, .bl y]] st) Q := by
  refine w_match 10 _ st Q (.lst (fun d hd => ?_) (by simp)) hQ
  simp only [List.mem_cons, List.not_mem_nil, or_false] at hd
  rcases hd with rfl | rfl <;> exact .bl _
theorem setFd_ins {c f : Str} {fs : List (Str × D)} {v : D} (h : st[n]? = some (.ins c fs)) (hl : fs.length < 1000) : setFd st (.ref n) c f v = some (st.set n (.ins c (putFD f v fs))) := by
  unfold setFd insOf
  dsimp only
  rw [h]
  dsimp only
  rw [if_pos ⟨rfl, hl⟩]
theorem w_check_yes {r : Rule} (h : RAny r) {Q : D → Sto → Prop} (hQ : Q .non st) : WR (P_check_rule [ruleD r] st) Q := let ⟨_, _, _, _, o, _, c⟩ := h.ok; w_check_rule o c hQ
theorem w_finit {r : Rule} (hr : RAny r) (h : st[n]? = some (.ins "Framing" [])) {Q : D → Sto → Prop} (hQ : ∀ fs, Q .non (st.set n (.ins "Framing" fs))) : WR (P_Framing____init__ [.ref n, ruleD r] st) Q := by
  unfold P_Framing____init__ g_Framing____init__ b_Framing____init__
  walk_at "wp"
  refine w_check_yes hr ?_
  rw [setFd_ins h (by show 0 < 1000; decide)]
  simp only [WO_some]
  exact hQ _
theorem w_sinit {r : Rule} (hr : RAny r) (h : st[n]? = some (.ins "Sender" [])) {Q : D → Sto → Prop} (hQ : ∀ fs, Q .non (st.set n (.ins "Sender" fs))) : WR (P_Sender____init__ [.ref n, ruleD r] st) Q := by
  unfold P_Sender____init__ g_Sender____init__ b_Sender____init__
  walk_at "wp"
  refine w_check_yes hr ?_
  rw [setFd_ins h (by show 0 < 1000; decide)]
  simp only [WO_some]
  have hlt : n < st.length := (List.getElem?_eq_some_iff.mp h).1
  rw [setFd_ins (c := "Sender") (fs := [("held_rule", ruleD r)]) (by rw [List.getElem?_set_self hlt]; rfl) (by show 1 < 1000; decide), List.set_set]
  simp only [WO_some]
  exact hQ _
theorem w_rinit {r : Rule} (hr : RAny r) (h : st[n]? = some (.ins "Receiver" [])) {Q : D → Sto → Prop} (hQ : ∀ fs, Q .non (st.set n (.ins "Receiver" fs))) : WR (P_Receiver____init__ [.ref n, ruleD r] st) Q := by
  unfold P_Receiver____init__ g_Receiver____init__ b_Receiver____init__
  walk_at "wp"
  refine w_check_yes hr ?_
  rw [setFd_ins h (by show 0 < 1000; decide)]
  simp only [WO_some]
  have hlt : n < st.length := (List.getElem?_eq_some_iff.mp h).1
  rw [setFd_ins (c := "Receiver") (fs := [("held_rule", ruleD r)]) (by rw [List.getElem?_set_self hlt]; rfl) (by show 1 < 1000; decide), List.set_set]
  simp only [WO_some]
  exact hQ _
end
/-! ### law k01: the walk -/
section
theorem o_max2 {st : Sto} {a b : Int} : oMax st [.int a, .int b] = some (.int (if a < b then b else a)) := (rfl)
theorem o_maxminK {st : Sto} {n : Nat} (k : Nat) (hk : 1 ≤ k) : ∃ q : Nat, q ≤ k ∧ 1 ≤ q ∧ ∀ Q : D → Prop, (WO (oMin st [D.int (k : Nat), D.int (n : Nat)]) fun d => WO (oMax st [D.int 1, d]) Q) = Q (.int q) := by
  refine ⟨max 1 (min n k), by omega, by omega, fun Q => ?_⟩
  simp only [o_min2, WO_some, o_max2]
  congr 2
  split <;> split <;> omega
theorem near_any : RAny ⟨[1], [], 1⟩ := ⟨1, 1, 1, 1, ⟨fun x hx => by simp at hx; exact .inr hx, by decide, by decide, fun p hp => (by simp at hp), List.Pairwise.nil, by decide, by decide, by decide⟩, by decide, by decide⟩
theorem nil_any : RAny ⟨[0], [], 1⟩ := ⟨1, 1, 1, 1, ⟨fun x hx => by simp at hx; exact .inl hx, by decide, by decide, fun p hp => (by simp at hp), List.Pairwise.nil, by decide, by decide, by decide⟩, by decide, by decide⟩
theorem far_any : RAny ⟨List.replicate 99 0, [(List.replicate 99 1, 0)], 17⟩ := ⟨99, 99, 1, 17, ⟨fun x hx => .inl (List.eq_of_mem_replicate hx), by rw [List.length_replicate]; decide, by rw [List.length_replicate]; decide, (fun p hp => by
    have : p = (List.replicate 99 1, 0) := by simpa using hp
    subst this
    exact ⟨fun x hx => .inr (List.eq_of_mem_replicate hx), by show 1 ≤ (List.replicate 99 (1 : Int)).length; rw [List.length_replicate]; decide, by show (List.replicate 99 (1 : Int)).length ≤ 99; rw [List.length_replicate]; decide, .inl rfl⟩), List.pairwise_singleton _ _, by decide, by decide, by decide⟩, by decide, by decide⟩
theorem rep99 {st : Sto} {i : Int} : oRepD st (.tup [.int i]) (.int 99) = some (wd (List.replicate 99 i)) := by
  unfold oRepD
  dsimp only
  rw [if_neg (by decide), if_pos ⟨by simp, by decide, by decide, by simp⟩]
  rfl
theorem w_law {ns : List Int} {st : Sto} (hn : ns.length ≤ 63) {Q : D → Sto → Prop} (hQ : ∀ s, Q (.bl true) s) : WR (P_law 10 [.lst (ns.map .int)] st) Q := by
  unfold P_law g_law b_law
  rw [WR_mkF]
  refine ⟨rfl, ?_⟩
  rw [WS_sSeq]
  show WS (sFor _ _ _ [some (.lst (ns.map .int)), none, none, none, none, none, none, none, none] st) _ _ _
  refine WS.mono (N := fun e s => ∃ o1 o2 o3 o4 o5 o6 o7 o8, e = [some (.lst (ns.map .int)), o1, o2, o3, o4, o5, o6, o7, o8]) (R := fun _ _ => False) (B := fun _ _ => False) ?_ (fun e s he => ?_) (fun _ _ h => h.elim) (fun _ _ h => h.elim)
  · rw [WS_sFor]
    have hq : ∃ q : Nat, q ≤ 6 ∧ ∀ {QS}, (∀ ds s', ds = ((List.range q).map fun i => D.int (i : Nat), Src.val) → s' = st → QS ds s') → WR (sRange rangeOf1 (sCons (sCB oMax (sCons (sC (.int 1)) (sCons (sCB oMin (sCons (sC (.int 6)) (sCons (sCB oLen (sCons (sVar 0) sNil)) sNil))) sNil))) sNil) [some (.lst (ns.map .int)), none, none, none, none, none, none, none, none] st) QS := by
      obtain ⟨q, hq, _, e⟩ := o_maxminK (st := st) (n := (ns.map D.int).length) 6 (by decide)
      refine ⟨q, hq, fun {QS} hQS => ?_⟩
      walk_at "wp"
      walk_at "op"
      refine (e _).mpr ?_
      rw [rng1 (by omega)]
      walk_at "op"
      exact hQS _ _ rfl rfl
    obtain ⟨q, hq, hQ1⟩ := hq
    refine hQ1 fun ds s' e1 e2 => ?_
    subst e1 e2
    dsimp only
    refine for_byB (fun k e s => ∃ o1 o2 o3 o4 o5 o6 o7 o8, e = [some (.lst (ns.map .int)), o1, o2, o3, o4, o5, o6, o7, o8]) ⟨_, _, _, _, _, _, _, _, rfl⟩ ?_ (fun e s h => h)
    rintro k d e s hd ⟨o1, o2, o3, o4, o5, o6, o7, o8, rfl⟩
    obtain ⟨hk1, hk2⟩ := List.getElem?_eq_some_iff.mp hd
    simp only [List.length_map, List.length_range] at hk1
    simp only [List.getElem_map, List.getElem_range] at hk2
    subst hk2
    walk_at "wp"
    refine wc_crate (by omega) (by omega) fun n s b h0 => ?_
    rw [show rangeOf1 [D.int 4] = _ from rng1 (m := 4) (by decide)]
    simp only [WO_some]
    refine for_byB (fun k2 e s => HasCr s n b (k2 * 1000000) ∧ ∃ o2 o3 o5 o6 o7 o8, e = [some (.lst (ns.map .int)), some (.int k), o2, o3, some (.ref n), o5, o6, o7, o8]) ⟨h0.le (by omega), _, _, _, _, _, _, rfl⟩ ?_ (fun e s ⟨_, _, _, _, _, _, _, h⟩ => ⟨_, _, _, _, _, _, _, _, h⟩)
    rintro k2 d e s hd ⟨hc, o2, o3, o5, o6, o7, o8, rfl⟩
    obtain ⟨hk3, hk4⟩ := List.getElem?_eq_some_iff.mp hd
    simp only [List.length_map, List.length_range] at hk3
    simp only [WO_gN, setE_succ, setE_zero, WO_some]
    rw [WS_sSeq]
    refine WS.mono (N := fun e s => ∃ r, RAny r ∧ HasCr s n b (k2 * 1000000 + 300001) ∧ e = [some (.lst (ns.map .int)), some (.int k), o2, o3, some (.ref n), some d, some (ruleD r), o7, o8]) (R := fun _ _ => False) (B := fun _ _ => False) ?_ (fun e s he => ?_) (fun _ _ h => h.elim) (fun _ _ h => h.elim)
    · walk_at "wp"
      exact w_law_any_rule hc (by omega) fun r s1 hr h1 f1 => ⟨r, hr, h1, rfl⟩
    obtain ⟨r, hr, h1, rfl⟩ := he
    rw [WS_sSeq]
    refine WS.mono (N := fun e s => ∃ r, RAny r ∧ HasCr s n b (k2 * 1000000 + 300003) ∧ e = [some (.lst (ns.map .int)), some (.int k), o2, o3, some (.ref n), some d, some (ruleD r), o7, o8]) (R := fun _ _ => False) (B := fun _ _ => False) ?_ (fun e s he => ?_) (fun _ _ h => h.elim) (fun _ _ h => h.elim)
    · walk_at "wp"
      refine wc_haul h1 (by omega) (by decide) (by decide) fun d1 s1 d10 d11 h2 f2 => ?_
      walk_at "op"
      split
      · rw [show oSl s1 (ruleD r) none (some 2) = some (.tup [wd r.flag, .tup (r.rows.map rowD)]) from rfl]
        simp only [WO_some, o_pow]
        refine ⟨by decide, ?_⟩
        refine wc_haul h2 (by omega) (by decide) (by decide) fun d3 s3 d30 d31 h3 f3 => ?_
        obtain ⟨t, rfl⟩ := Int.eq_ofNat_of_zero_le d30
        simp only [o_add, WO_some]
        rw [add_tup (by simp)]
        simp only [WO_some]
        refine ⟨⟨r.flag, r.rows, 1 + t⟩, hr.top (by omega), h3.le (by omega), ?_⟩
        rfl
      · exact ⟨r, hr, h2.le (by omega), rfl⟩
    obtain ⟨r, hr, h1, rfl⟩ := he
    walk_at "wp"
    refine w_rule_yes hr ?_
    rw [show permD [0] [ruleD r] = [ruleD r] from rfl]
    refine w_rule_yes hr ?_
    refine w_two ?_
    walk_at "op"
    rw [show rangeOf1 [D.int 9] = _ from rng1 (m := 9) (by decide)]
    simp only [WO_some]
    refine for_byB (fun k3 e s => HasCr s n b (k2 * 1000000 + 300003 + k3 * 3000) ∧ ∃ o3 o7 o8, e = [some (.lst (ns.map .int)), some (.int k), o2, o3, some (.ref n), some d, some (ruleD r), o7, o8]) ⟨h1.le (by omega), _, _, _, rfl⟩ ?_ ?_
    · rintro k3 d' e s hd ⟨hc, o3, o7, o8, rfl⟩
      obtain ⟨hk5, hk6⟩ := List.getElem?_eq_some_iff.mp hd
      simp only [List.length_map, List.length_range] at hk5
      walk_at "wp"
      refine w_bent_rule hc (by omega) hr.fl hr.rw fun x s2 hx h2 f2 => ?_
      refine w_rule_any hx ?_
      refine w_word_any hx ?_
      refine w_law_is_rule hx ?_
      refine w_law_word (k := 0) hx ?_
      rw [decide_eq_true (Nat.zero_le _), Bool.true_and]
      refine w_two ?_
      walk_at "op"
      exact ⟨h2.le (by omega), _, _, _, rfl⟩
    rintro e s ⟨hc, o3, o7, o8, rfl⟩
    simp only [List.length_map, List.length_range] at hc
    walk_at "wp"
    refine wc_haul hc (by omega) (by decide) (by decide) fun d1 s1 d10 d11 h2 f2 => ?_
    have hsize : ∃ sz : Nat, 1 ≤ sz ∧ sz ≤ 401 ∧ oIx s1 (D.lst [D.int 12, D.int 401]) (.int d1) = some (.int (sz : Nat)) := by
      have hc : d1 = 0 ∨ d1 = 1 := by omega
      rcases hc with rfl | rfl
      · exact ⟨12, by decide, by decide, rfl⟩
      · exact ⟨401, by decide, by decide, rfl⟩
    obtain ⟨sz, sz1, sz2, esz⟩ := hsize
    rw [esz]
    simp only [WO_some]
    refine wc_haul h2 (by omega) (by omega) (by omega) fun d3 s3 d30 d31 h3 f3 => ?_
    refine wc_bitsI h3 d30 (by omega) (by omega) fun w s4 hw hwb h4 f4 => ?_
    refine w_is_word1 hwb ?_
    rw [show permD [0] [wd w] = [wd w] from rfl]
    refine w_is_word1 hwb ?_
    refine w_two ?_
    walk_at "op"
    rw [show rangeOf1 [D.int 7] = _ from rng1 (m := 7) (by decide)]
    simp only [WO_some]
    refine for_byB (fun k3 e s => HasCr s n b (k2 * 1000000 + 400000 + k3 * 10) ∧ ∃ o3 o7, e = [some (.lst (ns.map .int)), some (.int k), o2, o3, some (.ref n), some d, some (ruleD r), o7, some (wd w)]) ⟨h4.le (by omega), _, _, rfl⟩ ?_ ?_
    · rintro k3 d' e s hd ⟨hc, o3, o7, rfl⟩
      obtain ⟨hk5, hk6⟩ := List.getElem?_eq_some_iff.mp hd
      simp only [List.length_map, List.length_range] at hk5
      walk_at "wp"
      refine w_bent_word hc (by omega) (by omega) fun x s2 hx hno h2 f2 => ?_
      refine w_word_any hx ?_
      refine w_rule_any hx ?_
      refine w_law_word (k := 0) hx ?_
      rw [decide_eq_true (Nat.zero_le _), Bool.true_and, hno]
      refine w_two ?_
      walk_at "op"
      exact ⟨h2.le (by omega), _, _, rfl⟩
    · rintro e s ⟨hc, o3, o7, rfl⟩
      simp only [List.length_map, List.length_range] at hc
      exact ⟨hc.le (by omega), _, _, _, _, _, _, rfl⟩
  · obtain ⟨o1, o2, o3, o4, o5, o6, o7, o8, rfl⟩ := he
    walk_at "wp"
    have hl1 : s.length < (s ++ [SO.ins "Framing" []]).length := by simp
    refine w_finit near_any List.getElem?_concat_length fun fs1 => ?_
    refine ⟨rfl, ?_⟩
    generalize hS1 : (s ++ [SO.ins "Framing" []]).set s.length (.ins "Framing" fs1) = S1
    have q1 : S1[s.length]? = some (.ins "Framing" fs1) := by rw [← hS1]; exact List.getElem?_set_self hl1
    have l1 : S1.length = s.length + 1 := by rw [← hS1]; simp
    refine w_sinit near_any List.getElem?_concat_length fun fs2 => ?_
    refine ⟨rfl, ?_⟩
    generalize hS2 : (S1 ++ [SO.ins "Sender" []]).set S1.length (.ins "Sender" fs2) = S2
    have q2 : S2[S1.length]? = some (.ins "Sender" fs2) := by rw [← hS2]; exact List.getElem?_set_self (by simp)
    have q12 : S2[s.length]? = some (.ins "Framing" fs1) := by rw [← hS2, List.getElem?_set_ne (by omega), List.getElem?_append_left (by omega)]; exact q1
    have l2 : S2.length = s.length + 2 := by rw [← hS2]; simp; omega
    refine w_rinit near_any List.getElem?_concat_length fun fs3 => ?_
    refine ⟨rfl, ?_⟩
    generalize hS3 : (S2 ++ [SO.ins "Receiver" []]).set S2.length (.ins "Receiver" fs3) = S3
    have q3 : S3[S2.length]? = some (.ins "Receiver" fs3) := by rw [← hS3]; exact List.getElem?_set_self (by simp)
    have q13 : S3[s.length]? = some (.ins "Framing" fs1) := by rw [← hS3, List.getElem?_set_ne (by omega), List.getElem?_append_left (by omega)]; exact q12
    have q23 : S3[S1.length]? = some (.ins "Sender" fs2) := by rw [← hS3, List.getElem?_set_ne (by omega), List.getElem?_append_left (by omega)]; exact q2
    walk_at "op"
    refine for_byB (fun k e s1 => s1 = S3 ∧ ∃ o2 o3, e = [some (.lst (ns.map .int)), o1, o2, o3, o4, o5, o6, o7, o8]) ⟨rfl, _, _, rfl⟩ ?_ ?_
    · rintro k d e s1 hd ⟨rfl, o2, o3, rfl⟩
      have hx : Fine (s.length + 10) s1 d := by
        have hm := List.mem_of_getElem? hd
        simp only [List.mem_cons, List.not_mem_nil, or_false] at hm
        rcases hm with rfl | rfl | rfl
        · exact .ref (by omega) q13 (.inr ⟨_, _, rfl⟩)
        · exact .ref (by omega) q23 (.inr ⟨_, _, rfl⟩)
        · exact .ref (by omega) q3 (.inr ⟨_, _, rfl⟩)
      have hr : ∃ m, d = .ref m := by
        have hm := List.mem_of_getElem? hd
        simp only [List.mem_cons, List.not_mem_nil, or_false] at hm
        rcases hm with rfl | rfl | rfl <;> exact ⟨_, rfl⟩
      obtain ⟨m, rfl⟩ := hr
      walk_at "wp"
      refine w_rule_any hx ?_
      rw [show oNotB s1 (.bl (ruleB (.ref m))) (.bl false) = some (.bl false) from rfl]
      simp only [WO_some, asB_bl, Bool.false_eq_true, if_false]
      refine w_word_any hx ?_
      rw [show oNotB s1 (.bl (isWordD (.ref m))) (.bl false) = some (.bl false) from rfl]
      simp only [WO_some, asB_bl, Bool.false_eq_true, if_false]
      exact ⟨trivial, _, _, rfl⟩
    · rintro e s1 ⟨rfl, o2, o3, rfl⟩
      rw [rep99, rep99]
      simp only [WO_some]
      refine w_rule_yes (r := ⟨List.replicate 99 0, [(List.replicate 99 1, 0)], 17⟩) far_any ?_
      rw [show oNotB s1 (.bl true) (.bl true) = some (.bl false) from rfl]
      simp only [WO_some, asB_bl, Bool.false_eq_true, if_false]
      refine w_is_word1 (w := []) (fun x hx => by simp at hx) ?_
      rw [show oIsB s1 (.bl true) (.bl true) = some (.bl true) from rfl]
      simp only [WO_some, tru_bl, if_true]
      refine w_rule_yes (r := ⟨[0], [], 1⟩) nil_any ?_
      rw [show oIsB s1 (.bl true) (.bl true) = some (.bl true) from rfl]
      simp only [WO_some, tru_bl, if_true]
      refine w_rule_any (n := 0) (f_tup (fs_cons (f_tup fs_nil) (fs_cons (f_tup fs_nil) (fs_cons f_int fs_nil)))) ?_
      rw [show oIsB s1 (.bl (ruleB (.tup [.tup [], .tup [], .int 1]))) (.bl false) = some (.bl true) from rfl]
      exact hQ _
end
def fnT0 : List DfG := [dgF "_law_crate" S__law_crate, dgF "is_integer" S_is_integer, dgF "is_bit" S_is_bit, dgF "is_word" S_is_word, dgF "is_full_word" S_is_full_word, dgF "is_insert" S_is_insert, dgF "are_inserts" S_are_inserts, dgF "is_at_least" S_is_at_least, dgF "is_rule" S_is_rule, dgF "_law_haul" S__law_haul, dgF "_law_bits" S__law_bits, dgF "_law_drawn_rule" S__law_drawn_rule, dgF "_law_any_rule" S__law_any_rule, dgF "_law_match" S__law_match, dgF "_law_bent_rule" S__law_bent_rule, dgF "_law_bent_word" S__law_bent_word, dgF "_law_is_word" S__law_is_word, dgF "_law_is_rule" S__law_is_rule, dgF "check_rule" S_check_rule, dmF "Receiver" "__init__" "Receiver.__init__" S_Receiver____init__, dmF "Sender" "__init__" "Sender.__init__" S_Sender____init__, dmF "Framing" "__init__" "Framing.__init__" S_Framing____init__, dgF "law" S_law]
def fnT : List DfG := fnT0
def fsT0 : List FaC := [fCls "Receiver", fNoat "Receiver" "pieces", fNoat "Receiver" "held_rule", fCls "Sender", fNoat "Sender" "held", fNoat "Sender" "held_rule", fCls "Framing", fNoat "Framing" "held_rule", fMkr "Receiver", fOwn "Receiver", fMkr "Sender", fOwn "Sender", fMkr "Framing", fOwn "Framing"]
def fsT : List FaC := fsT0
def csT : List (Str × D) := []
theorem facts {P : Program} {w : World} {K : PySem.W.Frag} {h : Heap} {mg : Str → Option Value} {f : Addr} (X : K.In h) (G : h.Ns mainGlobals mg) (hfa : mg ("law" : Str) = some (.ref f)) (c : SaysC csT fsT fnT K) :
    ∃ fd : FuncData, (∀ (s : Shared) (v : Value), BindsTo s fd ⟨[v], []⟩ [("script", v)]) ∧ ∀ base : Heap, FnOk P w K mg base (L2.CX P w) 11 f fd ["script"] (spD K w (P_law 10)) := by
  have B := c.bs X G
  obtain ⟨a__law_crate, fd__law_crate, F__law_crate, m__law_crate⟩ := c.fun_ X G 0 (x := "_law_crate") (s := S__law_crate) rfl
  obtain ⟨a_is_integer, fd_is_integer, F_is_integer, m_is_integer⟩ := c.fun_ X G 1 (x := "is_integer") (s := S_is_integer) rfl
  obtain ⟨a_is_bit, fd_is_bit, F_is_bit, m_is_bit⟩ := c.fun_ X G 2 (x := "is_bit") (s := S_is_bit) rfl
  obtain ⟨a_is_word, fd_is_word, F_is_word, m_is_word⟩ := c.fun_ X G 3 (x := "is_word") (s := S_is_word) rfl
  obtain ⟨a_is_full_word, fd_is_full_word, F_is_full_word, m_is_full_word⟩ := c.fun_ X G 4 (x := "is_full_word") (s := S_is_full_word) rfl
  obtain ⟨a_is_insert, fd_is_insert, F_is_insert, m_is_insert⟩ := c.fun_ X G 5 (x := "is_insert") (s := S_is_insert) rfl
  obtain ⟨a_are_inserts, fd_are_inserts, F_are_inserts, m_are_inserts⟩ := c.fun_ X G 6 (x := "are_inserts") (s := S_are_inserts) rfl
  obtain ⟨a_is_at_least, fd_is_at_least, F_is_at_least, m_is_at_least⟩ := c.fun_ X G 7 (x := "is_at_least") (s := S_is_at_least) rfl
  obtain ⟨a_is_rule, fd_is_rule, F_is_rule, m_is_rule⟩ := c.fun_ X G 8 (x := "is_rule") (s := S_is_rule) rfl
  obtain ⟨a__law_haul, fd__law_haul, F__law_haul, m__law_haul⟩ := c.fun_ X G 9 (x := "_law_haul") (s := S__law_haul) rfl
  obtain ⟨a__law_bits, fd__law_bits, F__law_bits, m__law_bits⟩ := c.fun_ X G 10 (x := "_law_bits") (s := S__law_bits) rfl
  obtain ⟨a__law_drawn_rule, fd__law_drawn_rule, F__law_drawn_rule, m__law_drawn_rule⟩ := c.fun_ X G 11 (x := "_law_drawn_rule") (s := S__law_drawn_rule) rfl
  obtain ⟨a__law_any_rule, fd__law_any_rule, F__law_any_rule, m__law_any_rule⟩ := c.fun_ X G 12 (x := "_law_any_rule") (s := S__law_any_rule) rfl
  obtain ⟨a__law_match, fd__law_match, F__law_match, m__law_match⟩ := c.fun_ X G 13 (x := "_law_match") (s := S__law_match) rfl
  obtain ⟨a__law_bent_rule, fd__law_bent_rule, F__law_bent_rule, m__law_bent_rule⟩ := c.fun_ X G 14 (x := "_law_bent_rule") (s := S__law_bent_rule) rfl
  obtain ⟨a__law_bent_word, fd__law_bent_word, F__law_bent_word, m__law_bent_word⟩ := c.fun_ X G 15 (x := "_law_bent_word") (s := S__law_bent_word) rfl
  obtain ⟨a__law_is_word, fd__law_is_word, F__law_is_word, m__law_is_word⟩ := c.fun_ X G 16 (x := "_law_is_word") (s := S__law_is_word) rfl
  obtain ⟨a__law_is_rule, fd__law_is_rule, F__law_is_rule, m__law_is_rule⟩ := c.fun_ X G 17 (x := "_law_is_rule") (s := S__law_is_rule) rfl
  obtain ⟨a_check_rule, fd_check_rule, F_check_rule, m_check_rule⟩ := c.fun_ X G 18 (x := "check_rule") (s := S_check_rule) rfl
  obtain ⟨fd_Receiver____init__, F_Receiver____init__⟩ := c.meth 19 (C := "Receiver") (m := "__init__") (q := "Receiver.__init__") (s := S_Receiver____init__) rfl
  obtain ⟨fd_Sender____init__, F_Sender____init__⟩ := c.meth 20 (C := "Sender") (m := "__init__") (q := "Sender.__init__") (s := S_Sender____init__) rfl
  obtain ⟨fd_Framing____init__, F_Framing____init__⟩ := c.meth 21 (C := "Framing") (m := "__init__") (q := "Framing.__init__") (s := S_Framing____init__) rfl
  obtain ⟨a_law, fd_law, F_law, m_law⟩ := c.fun_ X G 22 (x := "law") (s := S_law) rfl
  have e : f = a_law := Value.ref.inj (Option.some.inj (hfa.symm.trans m_law))
  refine ⟨fd_law, fun s v => FunD.bindsA (ps := ["script"]) F_law (fun _ _ _ _ _ _ us hl => match us, hl with | [_], _ => rfl) s [v] rfl, fun base => ?_⟩
  have A__law_crate : FnA P w K mg base 1 "_law_crate" ["script", "at"] P__law_crate a__law_crate fd__law_crate := d__law_crate (k := 0) B F__law_crate m__law_crate
  have A_is_integer : FnA P w K mg base 1 "is_integer" ["value"] P_is_integer a_is_integer fd_is_integer := d_is_integer (k := 0) B F_is_integer m_is_integer
  have A_is_bit : FnA P w K mg base 2 "is_bit" ["value"] P_is_bit a_is_bit fd_is_bit := d_is_bit (k := 1) B (h_is_integer := (FnA.mono A_is_integer (by decide)).d) F_is_bit m_is_bit
  have A_is_word : FnA P w K mg base 3 "is_word" ["value"] P_is_word a_is_word fd_is_word := d_is_word (k := 2) B (h_is_bit := (FnA.mono A_is_bit (by decide)).d) F_is_word m_is_word
  have A_is_full_word : FnA P w K mg base 4 "is_full_word" ["value"] P_is_full_word a_is_full_word fd_is_full_word := d_is_full_word (k := 3) B (h_is_word := (FnA.mono A_is_word (by decide)).d) F_is_full_word m_is_full_word
  have A_is_insert : FnA P w K mg base 5 "is_insert" ["value"] P_is_insert a_is_insert fd_is_insert := d_is_insert (k := 4) B (h_is_full_word := (FnA.mono A_is_full_word (by decide)).d) (h_is_bit := (FnA.mono A_is_bit (by decide)).d) F_is_insert m_is_insert
  have A_are_inserts : FnA P w K mg base 6 "are_inserts" ["value"] P_are_inserts a_are_inserts fd_are_inserts := d_are_inserts (k := 5) B (h_is_insert := (FnA.mono A_is_insert (by decide)).d) F_are_inserts m_are_inserts
  have A_is_at_least : FnA P w K mg base 2 "is_at_least" ["value", "least"] P_is_at_least a_is_at_least fd_is_at_least := d_is_at_least (k := 1) B (h_is_integer := (FnA.mono A_is_integer (by decide)).d) F_is_at_least m_is_at_least
  have A_is_rule : FnA P w K mg base 7 "is_rule" ["value"] P_is_rule a_is_rule fd_is_rule := d_is_rule (k := 6) B (h_is_full_word := (FnA.mono A_is_full_word (by decide)).d) (h_are_inserts := (FnA.mono A_are_inserts (by decide)).d) (h_is_at_least := (FnA.mono A_is_at_least (by decide)).d) F_is_rule m_is_rule
  have A__law_haul : FnA P w K mg base 1 "_law_haul" ["crate", "below"] P__law_haul a__law_haul fd__law_haul := d__law_haul (k := 0) B F__law_haul m__law_haul
  have A__law_bits : FnA P w K mg base 2 "_law_bits" ["crate", "size"] P__law_bits a__law_bits fd__law_bits := d__law_bits (k := 1) B (h__law_haul := (FnA.mono A__law_haul (by decide)).d) F__law_bits m__law_bits
  have A__law_drawn_rule : FnA P w K mg base 3 "_law_drawn_rule" ["crate", "flag_here", "word_here", "many_here", "top"] P__law_drawn_rule a__law_drawn_rule fd__law_drawn_rule := d__law_drawn_rule (k := 2) B (h__law_bits := (FnA.mono A__law_bits (by decide)).d) (h__law_haul := (FnA.mono A__law_haul (by decide)).d) F__law_drawn_rule m__law_drawn_rule
  have A__law_any_rule : FnA P w K mg base 4 "_law_any_rule" ["crate", "great"] P__law_any_rule a__law_any_rule fd__law_any_rule := d__law_any_rule (k := 3) B (h__law_drawn_rule := (FnA.mono A__law_drawn_rule (by decide)).d) (h__law_haul := (FnA.mono A__law_haul (by decide)).d) F__law_any_rule m__law_any_rule
  have R__law_match : ∀ n, FnA P w K mg base (0 + n) "_law_match" ["found", "due"] (P__law_match n) a__law_match fd__law_match := by
    intro n
    induction n with
    | zero => exact fnA_bot F__law_match m__law_match (fun _ _ _ _ _ _ us hl => match us, hl with | [_, _], _ => rfl)
    | succ n ih => exact d__law_match (k := (0 + n)) B (h__law_match := ih.d) F__law_match m__law_match
  have A__law_match : FnA P w K mg base 10 "_law_match" ["found", "due"] (P__law_match 10) a__law_match fd__law_match := R__law_match 10
  have A__law_bent_rule : FnA P w K mg base 3 "_law_bent_rule" ["crate", "rule_here"] P__law_bent_rule a__law_bent_rule fd__law_bent_rule := d__law_bent_rule (k := 2) B (h__law_bits := (FnA.mono A__law_bits (by decide)).d) (h__law_haul := (FnA.mono A__law_haul (by decide)).d) F__law_bent_rule m__law_bent_rule
  have A__law_bent_word : FnA P w K mg base 2 "_law_bent_word" ["crate", "word"] P__law_bent_word a__law_bent_word fd__law_bent_word := d__law_bent_word (k := 1) B (h__law_haul := (FnA.mono A__law_haul (by decide)).d) F__law_bent_word m__law_bent_word
  have A__law_is_word : FnA P w K mg base 1 "_law_is_word" ["thing", "least"] P__law_is_word a__law_is_word fd__law_is_word := d__law_is_word (k := 0) B F__law_is_word m__law_is_word
  have A__law_is_rule : FnA P w K mg base 2 "_law_is_rule" ["thing"] P__law_is_rule a__law_is_rule fd__law_is_rule := d__law_is_rule (k := 1) B (h__law_is_word := (FnA.mono A__law_is_word (by decide)).d) F__law_is_rule m__law_is_rule
  have A_check_rule : FnA P w K mg base 8 "check_rule" ["rule"] P_check_rule a_check_rule fd_check_rule := d_check_rule (k := 7) B (h_is_rule := (FnA.mono A_is_rule (by decide)).d) F_check_rule m_check_rule
  have A_Receiver____init__ : FnO P w K mg base 9 ["self", "rule"] P_Receiver____init__ (adK K (.meth "Receiver" "__init__")) fd_Receiver____init__ := d_Receiver____init__ (k := 8) B (h_check_rule := (FnA.mono A_check_rule (by decide)).d) (cl_Receiver := fCls_ok (c.fact 0 rfl)) (na_Receiver_pieces := fNoat_ok (c.fact 1 rfl)) (na_Receiver_held_rule := fNoat_ok (c.fact 2 rfl)) F_Receiver____init__
  have A_Sender____init__ : FnO P w K mg base 9 ["self", "rule"] P_Sender____init__ (adK K (.meth "Sender" "__init__")) fd_Sender____init__ := d_Sender____init__ (k := 8) B (h_check_rule := (FnA.mono A_check_rule (by decide)).d) (cl_Sender := fCls_ok (c.fact 3 rfl)) (na_Sender_held := fNoat_ok (c.fact 4 rfl)) (na_Sender_held_rule := fNoat_ok (c.fact 5 rfl)) F_Sender____init__
  have A_Framing____init__ : FnO P w K mg base 9 ["self", "rule"] P_Framing____init__ (adK K (.meth "Framing" "__init__")) fd_Framing____init__ := d_Framing____init__ (k := 8) B (h_check_rule := (FnA.mono A_check_rule (by decide)).d) (cl_Framing := fCls_ok (c.fact 6 rfl)) (na_Framing_held_rule := fNoat_ok (c.fact 7 rfl)) F_Framing____init__
  have A_law : FnA P w K mg base 11 "law" ["script"] (P_law 10) a_law fd_law := d_law (k := 9) B (h__law_crate := (FnA.mono A__law_crate (by decide)).d) (h_is_rule := (FnA.mono A_is_rule (by decide)).d) (h__law_any_rule := (FnA.mono A__law_any_rule (by decide)).d) (h__law_bits := (FnA.mono A__law_bits (by decide)).d) (h_is_word := (FnA.mono A_is_word (by decide)).d) (h__law_haul := (FnA.mono A__law_haul (by decide)).d) (h__law_match := (FnA.mono A__law_match (by decide)).d) (h__law_bent_rule := (FnA.mono A__law_bent_rule (by decide)).d) (h__law_bent_word := (FnA.mono A__law_bent_word (by decide)).d) (h__law_is_rule := (FnA.mono A__law_is_rule (by decide)).d) (h__law_is_word := (FnA.mono A__law_is_word (by decide)).d) (k_is_rule_value := fnK_of (FnA.mono A_is_rule (by decide)) F_is_rule rfl rfl (fun _ _ _ _ _ _ ws hl => match ws, hl with | [_], _ => rfl)) (k_is_word_value := fnK_of (FnA.mono A_is_word (by decide)) F_is_word rfl rfl (fun _ _ _ _ _ _ ws hl => match ws, hl with | [_], _ => rfl)) (i_Receiver____init__ := ⟨fCls_glo X G (c.fact 0 rfl), fOwn_ok (c.fact 9 rfl), _, _, fMkr_ok (c.fact 8 rfl), (FnO.mono A_Receiver____init__ (by decide))⟩) (i_Sender____init__ := ⟨fCls_glo X G (c.fact 3 rfl), fOwn_ok (c.fact 11 rfl), _, _, fMkr_ok (c.fact 10 rfl), (FnO.mono A_Sender____init__ (by decide))⟩) (i_Framing____init__ := ⟨fCls_glo X G (c.fact 6 rfl), fOwn_ok (c.fact 13 rfl), _, _, fMkr_ok (c.fact 12 rfl), (FnO.mono A_Framing____init__ (by decide))⟩) F_law m_law
  rw [e]
  exact A_law.ok
def loose0 : List Str := ["_wall", "__name__", "FrameError", "InvalidRule", "InvalidBits", "InvalidPayloads", "InvalidIndex", "InvalidInsert", "InvalidCheck", "is_integer", "is_at_least", "is_bit", "is_word", "is_full_word", "is_insert", "are_inserts", "is_rule", "are_payloads", "check_rule", "check_bits"]
def loose1 : List Str := ["check_payloads", "check_size", "check_bits_of", "letter_of", "put_behind", "longer", "begun", "frame_of", "stream_of", "tail_of", "behind_bit", "tails_of", "stream", "OVERLAP", "BIT", "SHORT", "CHECK", "borders_of", "letter_in", "body_answer"]
def loose2 : List Str := ["answers_of", "loose_of", "is_stream_of", "sent_by", "joined", "Sender", "Receiver", "part_behind", "longest_part", "first_step", "step_behind", "checked", "is_breaking", "next_layer", "walk", "is_clean_rule", "first_tail", "first_pair", "pair_behind", "parting_in"]
def loose3 : List Str := ["are_alike", "exchanged", "turned", "Framing", "_law_crate", "_law_haul", "_law_match", "_law_bits", "_law_is_word", "_law_is_rule", "_law_drawn_rule", "_law_bent_rule", "_law_bent_word", "_law_any_rule"]
def looseT : List Str := loose0 ++ loose1 ++ loose2 ++ loose3
def asT : List Addr := [3, 6, 4, 21, 31, 44, 56, 68, 80, 92, 104, 113, 120, 127, 132, 139, 146, 151, 158, 163, 170, 177, 184, 191, 198, 205, 212, 219, 226, 233, 240, 245, 252, 259, 266, 271, 278, 285, 292, 299, 304, 311, 316, 392, 494, 505, 512, 519, 526, 533, 540, 547, 554, 561, 568, 575, 582, 589, 596, 601, 606, 763, 774, 781, 786, 793, 798, 805, 810, 815, 822, 829, 836, 0, 20, 30, 43, 55, 67, 79, 91, 103, 112, 119, 126, 131, 138, 145, 150, 157, 162, 169, 176, 183, 190, 197, 204, 211, 218, 225, 232, 239, 244, 251, 258, 265, 270, 277, 284, 291, 298, 303, 310, 315, 391, 493, 504, 511, 518, 525, 532, 539, 546, 553, 560, 567, 574, 581, 588, 595, 600, 605, 762, 773, 780, 785, 792, 797, 804, 809, 814, 821, 828, 835, 15, 16, 17, 18, 19, 29, 32, 42, 54, 66, 78, 90, 102, 107, 108, 109, 110, 111, 114, 115, 116, 117, 118, 121, 122, 123, 124, 125, 128, 129, 130, 133, 134, 135, 136, 137, 140, 141, 142, 143, 144, 147, 148, 149, 152, 153, 154, 155, 156, 159, 160, 161, 164, 165, 166, 167, 168, 171, 172, 173, 174, 175, 178, 179, 180, 181, 182, 185, 186, 187, 188, 189, 192, 193, 194, 195, 196, 199, 200, 201, 202, 203, 206, 207, 208, 209, 210, 213, 214, 215, 216, 217, 220, 221, 222, 223, 224, 227, 228, 229, 230, 231, 234, 235, 236, 237, 238, 241, 242, 243, 246, 247, 248, 249, 250, 253, 254, 255, 256, 257, 260, 261, 262, 263, 264, 267, 268, 269, 272, 273, 274, 275, 276, 279, 280, 281, 282, 283, 286, 287, 288, 289, 290, 293, 294, 295, 296, 297, 300, 301, 302, 305, 306, 307, 308, 309, 312, 313, 314, 330, 338, 346, 354, 361, 368, 375, 382, 389, 390, 393, 394, 410, 418, 426, 434, 442, 449, 456, 463, 470, 477, 484, 491, 492, 495, 496, 499, 500, 501, 502, 503, 506, 507, 508, 509, 510, 513, 514, 515, 516, 517, 520, 521, 522, 523, 524, 527, 528, 529, 530, 531, 534, 535, 536, 537, 538, 541, 542, 543, 544, 545, 548, 549, 550, 551, 552, 555, 556, 557, 558, 559, 562, 563, 564, 565, 566, 569, 570, 571, 572, 573, 576, 577, 578, 579, 580, 583, 584, 585, 586, 587, 590, 591, 592, 593, 594, 597, 598, 599, 602, 603, 604, 620, 628, 636, 644, 652, 659, 666, 673, 680, 687, 694, 701, 706, 711, 718, 725, 732, 739, 746, 753, 760, 761, 764, 765, 768, 769, 770, 771, 772, 775, 776, 777, 778, 779, 782, 783, 784, 787, 788, 789, 790, 791, 794, 795, 796, 799, 800, 801, 802, 803, 806, 807, 808, 811, 812, 813, 816, 817, 818, 819, 820, 823, 824, 825, 826, 827, 830, 831, 832, 833, 834, 329, 337, 345, 353, 360, 367, 374, 381, 388, 409, 417, 425, 433, 441, 448, 455, 462, 469, 476, 483, 490, 619, 627, 635, 643, 651, 658, 665, 672, 679, 686, 693, 700, 705, 710, 717, 724, 731, 738, 745, 752, 759, 324, 325, 326, 327, 328, 336, 344, 352, 355, 356, 357, 358, 359, 362, 363, 364, 365, 366, 369, 370, 371, 372, 373, 376, 377, 378, 379, 380, 383, 384, 385, 386, 387, 404, 405, 406, 407, 408, 416, 424, 432, 440, 443, 444, 445, 446, 447, 450, 451, 452, 453, 454, 457, 458, 459, 460, 461, 464, 465, 466, 467, 468, 471, 472, 473, 474, 475, 478, 479, 480, 481, 482, 485, 486, 487, 488, 489, 614, 615, 616, 617, 618, 626, 634, 642, 650, 653, 654, 655, 656, 657, 660, 661, 662, 663, 664, 667, 668, 669, 670, 671, 674, 675, 676, 677, 678, 681, 682, 683, 684, 685, 688, 689, 690, 691, 692, 695, 696, 697, 698, 699, 702, 703, 704, 707, 708, 709, 712, 713, 714, 715, 716, 719, 720, 721, 722, 723, 726, 727, 728, 729, 730, 733, 734, 735, 736, 737, 740, 741, 742, 743, 744, 747, 748, 749, 750, 751, 754, 755, 756, 757, 758, 331, 332, 333, 334, 335, 339, 340, 341, 342, 343, 347, 348, 349, 350, 351, 411, 412, 413, 414, 415, 419, 420, 421, 422, 423, 427, 428, 429, 430, 431, 435, 436, 437, 438, 439, 621, 622, 623, 624, 625, 629, 630, 631, 632, 633, 637, 638, 639, 640, 641, 645, 646, 647, 648, 649]
end DL
namespace DL
open PySem PySem.W PySem.Calls PySem.Spec PyProof.Rows L2
abbrev RwT : OpenRow := OpenLaw.row PySem.Challenge.rw_onlyflags_k01_rules_and_words_judged
theorem seesA (w : World) : ∀ os, (runE RwT 20000 w os).map (fun s => HandSHeadRun.looksF RwT.prog (boot_heap w.params) s.abs) = some true := by
  intro os
  kernel_rfl
theorem seesB (w : World) : ∀ os, (runE RwT 20000 w os).map (fun s => HandSHeadRun.seenQ (view RwT.prog [82]) looseT (importedModules RwT.prog.main.body) (fun s => xlAt (view RwT.prog [82]) [] s && recOk RwT.toRowW.records s) s.abs) = some (openGood (view RwT.prog [82]) looseT) := by
  intro os
  kernel_rfl
theorem seesC (w : World) : ∀ os, (runE RwT 20000 w os).map (partB asT csT) = some true := by
  intro os
  kernel_rfl
theorem seesN0 : SeesN RwT 20000 asT fnT0 := ⟨fun w os => by kernel_rfl⟩
theorem seesF0 : SeesF RwT 20000 asT fsT0 := ⟨fun w os => by kernel_rfl⟩
theorem runT (w : World) : HandSHeadRun.RunEq RwT (view RwT.prog [82]) (hookA asT csT fsT fnT) (obsA asT csT fsT fnT) 20000 looseT w := runEq_parts w (seesA w) (seesB w) (seesC w) seesN0 seesF0
end DL
open PySem PySem.W PySem.Calls PyProof.Rows
theorem PySem.Challenge.cw_onlyflags_k01_rules_and_words_judged_holds : PySem.Challenge.rw_onlyflags_k01_rules_and_words_judged.Holds := by
  w_on; o_law
  refine HandSHeadRun.head_any (r := OpenLaw.row PySem.Challenge.rw_onlyflags_k01_rules_and_words_judged) (q := view (OpenLaw.row PySem.Challenge.rw_onlyflags_k01_rules_and_words_judged).prog [82]) (H := DL.hookA DL.asT DL.csT DL.fsT DL.fnT) (ob := DL.obsA DL.asT DL.csT DL.fsT DL.fnT) (M := 20000) (loose := DL.looseT) (d := HandSHeadRun.topDef (OpenLaw.row PySem.Challenge.rw_onlyflags_k01_rules_and_words_judged).prog 82) (kwd := []) (fun s => DL.obsA_eq s)
    (by kernel_rfl) (fun s => by kernel_rfl) DL.runT (by kernel_rfl) (by kernel_rfl) (by kernel_rfl) (by rfl) (by first | assumption | decide +kernel) (by decide +kernel) ⟨rfl, rfl, rfl, rfl, rfl, by decide +kernel⟩ ?hw ?hc
  case hw => w_witness2
  case hc =>
    refine DL.walk_dl (l := PySem.Challenge.rw_onlyflags_k01_rules_and_words_judged) (n := 63) (k := 11) (x := "script") rfl (by decide) (by kernel_rfl) ⟨rfl, by decide, by decide⟩ ?F
    intro w mg fa h Y G hmg0
    obtain ⟨K, KX, c⟩ := Y
    have hmg : mg ("law" : PySem.Str) = some (.ref fa) := by
      have e : (HandSHeadRun.topDef (OpenLaw.row PySem.Challenge.rw_onlyflags_k01_rules_and_words_judged).prog 82).name = ("law" : PySem.Str) := by kernel_rfl
      rw [← e]
      exact hmg0
    obtain ⟨fd, hb, hF⟩ := DL.facts (P := (PySem.Challenge.rw_onlyflags_k01_rules_and_words_judged).prog) (w := w) KX G hmg c
    exact ⟨K, fd, _, KX, hb, fun ns hl => DL.w_law hl (fun _ => rfl), hF⟩
