import PyProof.Rows.All
import Wide.All
import OpenK.AllK
import Wide.FinOn
import HandS.ForMost
import HandS.Flow
import HandS.Defaults
import HandS.TupAny
import HandS.TupMul
import HandS.More
import HandS.HeadHook1
import HandS.HeadHook2
import HandS.HeadHook3
import HandS.SetKeys
import KE.KDictDisplayH
import KE.DataCmp
import HandS.Deep
import HandS.Wide
import HandS.Style
import HandS.TupLe
import HandS.IsInst
import HandS.Conv
import HandS.Exc
import HandS.HeadEnd
import PyProof.ListStr
import HandS.ExcSuper
import HandS.ExcInit
import HandS.ExcField
import KE.KSuper
import HandS.TryMany
import HandS.ExcOwn
import HandS.ExcValue
import HandS.ExcIs
import KE.KExcIs
import PyProof.Rows.SetFrom
import PyProof.TupleOfStr
import HandS.Text
import HandS.Comp
import KE.GoesEnum
import HandS.Iter
import HandS.MakeKwOnly
import HandS.Head0
import HandS.Head1
import HandS.Head2
import PyProof.ReprLen
import PyProof.FitsInt
import HandS.SetFor
import HandS.TupSets
import HandS.Strs
import PySem.Challenge.RW_endclimbs_k62_whole_orders_of_rules
set_option Elab.async false
set_option linter.all false
set_option maxRecDepth 100000
set_option maxHeartbeats 4000000
namespace DV
open PySem PySem.Spec PyProof.Rows L2

theorem key_beq : ∀ a b : Key, (a == b) = decide (a = b)
  | .inl i, .inl j => by show (i == j) = _; by_cases h : i = j <;> simp [h]
  | .inr i, .inr j => by show (i == j) = _; by_cases h : i = j <;> simp [h]
  | .inl i, .inr j => by show false = _; simp
  | .inr i, .inl j => by show false = _; simp
instance lawKey : LawfulBEq Key where
  eq_of_beq := by
    intro a b h
    rw [key_beq] at h
    exact of_decide_eq_true h
  rfl := by
    intro a
    rw [key_beq]
    exact decide_eq_true rfl

abbrev Txt := List Nat
def sOf (t : Txt) : Str := ⟨t.toArray⟩

/-- plain data: what a Python value is worth; ref n: the n-th object that may change -/
inductive D where
  | non | bl (b : Bool) | int (i : Int) | str (t : Txt) | tup (ds : List D) | frz (ds : List D) | ref (n : Nat)
  | cdt (kvs : List (Txt × D))
  | fn (x : Txt)
  | ty (n : String)
deriving Inhabited

/-- objects that may change -/
inductive DO where
  | lst (ds : List D)
  | dct (kvs : List (D × D))
  | set (ks : List D)
  | ins (c : Nat) (fs : List (Txt × D))
  /-- a dict whose keys are tuples, nested; the same while a loop walks it -/
  | dcn (kvs : List (D × D))
  | lck (kvs : List (D × D))
deriving Inhabited
abbrev DH := List DO

inductive R (α : Type) where
  | ok (a : α) (h : DH)
  | exc (c : Nat) (a : List D) (h : DH)
  | bad
deriving Inhabited
def R.bind {α β : Type} (r : R α) (k : α → DH → R β) : R β :=
  match r with
  | .ok a h => k a h
  | .exc c a h => .exc c a h
  | .bad => .bad

/-- a read-only list: the script, or one of the module's own -/
def SqF (K : PySem.W.Frag) (H : Hp) (a : Addr) (xs : List V) : Prop :=
  (∃ o, H a = some (.frz o (.lst xs))) ∨
    ∃ (o : Obj) (its : Array Value) (n : Nat), K.lookup a = some o ∧ o.cls = .type "list" ∧ o.dict = none ∧ o.data = .seq its n ∧ its.size ≤ sizeLine ∧ Vals xs its.toList
theorem SqF.sq {K : PySem.W.Frag} {H : Hp} {a : Addr} {xs : List V} (h : SqF K H a xs) : SqL K H a xs := by
  rcases h with ⟨o, h⟩ | h
  · exact .inl (.inr ⟨o, h⟩)
  · exact .inr h

/-- what stands fixed: the written part, the world, the program -/
structure GX where
  K : PySem.W.Frag
  w : World
  P : Program
def gx (X : Cx) : GX := ⟨X.K, X.w, X.prog⟩
/-- a dict of the module's own top with text keys -/
structure CDict (G : GX) (a : Addr) (ks : List Txt) (us : List Value) : Prop where
  kd : ∃ es n, KDict G.K G.w a es n
  at_ : ∀ (i : Nat) k u, ks[i]? = some k → us[i]? = some u → PySem.W.nsIn G.K a (sOf k) = some (some u)
  out : ∀ x : Str, x ∉ ks.map sOf → PySem.W.nsIn G.K a x = some none
  len : us.length = ks.length
mutual
/-- the value v is the data d -/
def Rep (G : GX) (H : Hp) (μ : List Addr) : D → V → Prop
  | .non, v => v = .non
  | .bl b, v => v = .bl b
  | .int i, v => v = .int i
  | .str t, v => v = .str (sOf t)
  | .tup ds, v => ∃ a vs, v = .ref a ∧ SqT G.K H a vs ∧ RepL G H μ ds vs
  | .frz ds, v => ∃ a vs, v = .ref a ∧ SqF G.K H a vs ∧ RepL G H μ ds vs
  | .ref n, v => ∃ a, μ[n]? = some a ∧ v = .ref a
  | .cdt kvs, v => ∃ a us vs, v = .ref a ∧ CDict G a (kvs.map (·.1)) us ∧ Vals vs us ∧ RepV G H μ kvs vs
  | .fn x, v => v = .ref (He.ga G.K (sOf x))
  | .ty n, v => v = .ty n
def RepL (G : GX) (H : Hp) (μ : List Addr) : List D → List V → Prop
  | [], vs => vs = []
  | d :: ds, vs => ∃ v r, vs = v :: r ∧ Rep G H μ d v ∧ RepL G H μ ds r
def RepV (G : GX) (H : Hp) (μ : List Addr) : List (Txt × D) → List V → Prop
  | [], vs => vs = []
  | d :: ds, vs => ∃ v r, vs = v :: r ∧ Rep G H μ d.2 v ∧ RepV G H μ ds r
end

/-- a key of a dict -/
def keyD : D → Option Key
  | .int i => some (.inl i)
  | .str t => some (.inr (sOf t))
  | _ => none
/-- a dict's pairs -/
def RepK (G : GX) (H : Hp) (μ : List Addr) : List (D × D) → List (Key × V) → Prop
  | [], kv => kv = []
  | p :: r, kv => ∃ k v t, kv = (k, v) :: t ∧ keyD p.1 = some k ∧ Rep G H μ p.2 v ∧ RepK G H μ r t
mutual
/-- nested keys -/
def nkD : D → Option NestedKey
  | .non => some .none
  | .int i => some (.num i)
  | .str t => some (.text (sOf t))
  | .tup ds => (nkL ds).map .tup
  | _ => none
def nkL : List D → Option (List NestedKey)
  | [] => some []
  | d :: ds => match nkD d, nkL ds with
    | some k, some ks => some (k :: ks)
    | _, _ => none
end
/-- a key's place among the dict's own -/
def nkOk (d : D) : Bool := match d with
  | .tup _ => match nkD d with
    | some k => decide (k.depth ≤ 8)
    | none => false
  | _ => false
def RepN (G : GX) (H : Hp) (μ : List Addr) : List (D × D) → List (NestedKey × Addr × Value) → Prop
  | [], xs => xs = []
  | p :: r, xs => ∃ k a u v t, xs = (k, a, u) :: t ∧ nkD p.1 = some k ∧ k.depth ≤ 8 ∧ Rep G H μ p.1 (.ref a) ∧ Rep G H μ p.2 v ∧ RelV v u ∧ RepN G H μ r t
/-- the dict at a has just these entries -/
def NkAt (P : Program) (w : World) (a : Addr) (xs : List (NestedKey × Addr × Value)) (h : Heap) : Prop :=
  ∃ o es ep, h.get? a = some o ∧ o.ExactDict ∧ o.data = .dict es ep ∧ es.toList = xs.map (entryOfKey (nestedKind P w)) ∧ (xs.map (·.1)).Nodup
abbrev NkH (P : Program) (w : World) (a : Addr) (xs : List (NestedKey × Addr × Value)) : HO := .ext (NkAt P w a xs)
/-- the object at a is o -/
def ORep (G : GX) (H : Hp) (μ : List Addr) : DO → Addr → Prop
  | .lst ds, a => ∃ vs, H a = some (.lst vs) ∧ RepL G H μ ds vs
  | .dct kvs, a => ∃ kv, H a = some (.dK kv) ∧ RepK G H μ kvs kv
  | .set ks, a => ∃ kk : List Key, H a = some (SetK G.P G.w a (fun k => kk.any (· == k)) kk.length) ∧ ks.map keyD = kk.map some
  | .ins c fs, a => False
  | .dcn kvs, a => (a == sysModules) = false ∧ ∃ xs, H a = some (NkH G.P G.w a xs) ∧ RepN G H μ kvs xs
  | .lck kvs, a => (a == sysModules) = false ∧ ∃ o xs, H a = some (.frz o (NkH G.P G.w a xs)) ∧ RepN G H μ kvs xs
/-- an object that may be written -/
def DO.free : DO → Bool
  | .lck _ => false
  | _ => true

structure SRep (G : GX) (μ : List Addr) (h : DH) (H : Hp) : Prop where
  len : μ.length = h.length
  nd : μ.Nodup
  ob : ∀ (n : Nat) o a, h[n]? = some o → μ[n]? = some a → ORep G H μ o a

structure Ex0 (μ : List Addr) (H : Hp) (μ' : List Addr) (H' : Hp) : Prop where
  pre : μ <+: μ'
  tup : ∀ a xs, H a = some (.tup xs) → H' a = some (.tup xs)
  frz : ∀ a o u, H a = some (.frz o u) → (∀ φ, u ≠ .ext φ) → H' a = some (.frz o u)
structure Ext (μ : List Addr) (H : Hp) (μ' : List Addr) (H' : Hp) : Prop where
  pre : μ <+: μ'
  keep : ∀ a o, H a = some o → a ∉ μ → H' a = some o
  fresh : ∀ a, a ∈ μ' → a ∈ μ ∨ H a = none
  tup : ∀ a xs, H a = some (.tup xs) → H' a = some (.tup xs)
  frz : ∀ a o u, H a = some (.frz o u) → H' a = some (.frz o u)
theorem Ext.x0 {μ μ' : List Addr} {H H' : Hp} (x : Ext μ H μ' H') : Ex0 μ H μ' H' := ⟨x.pre, x.tup, fun a o u e _ => x.frz a o u e⟩

section
variable {G : GX} {μ μ' μ1 μ2 : List Addr} {H H' H1 H2 : Hp} {h h' : DH}
theorem Ext.refl : Ext μ H μ H := ⟨⟨[], by simp⟩, fun _ _ e _ => e, fun _ e => .inl e, fun _ _ e => e, fun _ _ _ e => e⟩
theorem Ext.trans (a : Ext μ H μ1 H1) (b : Ext μ1 H1 μ2 H2) : Ext μ H μ2 H2 where
  pre := a.pre.trans b.pre
  keep := fun p o e n => by
    have e1 := a.keep p o e n
    refine b.keep p o e1 fun m => ?_
    rcases a.fresh p m with q | q
    · exact n q
    · rw [q] at e; cases e
  fresh := fun p m => by
    rcases b.fresh p m with q | q
    · exact a.fresh p q
    · by_cases hm : p ∈ μ
      · exact .inl hm
      · cases e : H p with
        | none => exact .inr rfl
        | some o => rw [a.keep p o e hm] at q; cases q
  tup := fun p xs e => b.tup p xs (a.tup p xs e)
  frz := fun p o u e => b.frz p o u (a.frz p o u e)
theorem SqT.ext0 {K : PySem.W.Frag} (x : Ex0 μ H μ' H') {a : Addr} {xs : List V} (h : SqT K H a xs) : SqT K H' a xs := by
  rcases h with (h | ⟨o, h⟩) | h
  · exact .inl (.inl (x.tup _ _ h))
  · exact .inl (.inr ⟨o, x.frz _ _ _ h fun φ z => nomatch z⟩)
  · exact .inr h
theorem SqF.ext0 {K : PySem.W.Frag} (x : Ex0 μ H μ' H') {a : Addr} {xs : List V} (h : SqF K H a xs) : SqF K H' a xs := by
  rcases h with ⟨o, h⟩ | h
  · exact .inl ⟨o, x.frz _ _ _ h fun φ z => nomatch z⟩
  · exact .inr h
theorem pre_get {α : Type} {l l' : List α} (p : l <+: l') {n : Nat} {a : α} (e : l[n]? = some a) : l'[n]? = some a := by
  obtain ⟨t, rfl⟩ := p
  rw [List.getElem?_append_left]
  · exact e
  · exact (List.getElem?_eq_some_iff.mp e).1
mutual
theorem Rep.ext0 (x : Ex0 μ H μ' H') : ∀ {d : D} {v : V}, Rep G H μ d v → Rep G H' μ' d v
  | .non, _, e => by unfold Rep at e ⊢; exact e
  | .bl _, _, e => by unfold Rep at e ⊢; exact e
  | .int _, _, e => by unfold Rep at e ⊢; exact e
  | .str _, _, e => by unfold Rep at e ⊢; exact e
  | .tup ds, v, e => by
    unfold Rep at e ⊢
    obtain ⟨a, vs, e1, e2, e3⟩ := e
    exact ⟨a, vs, e1, SqT.ext0 x e2, RepL.ext0 x e3⟩
  | .frz ds, v, e => by
    unfold Rep at e ⊢
    obtain ⟨a, vs, e1, e2, e3⟩ := e
    exact ⟨a, vs, e1, SqF.ext0 x e2, RepL.ext0 x e3⟩
  | .ref n, v, e => by
    unfold Rep at e ⊢
    obtain ⟨a, e1, e2⟩ := e
    exact ⟨a, pre_get x.pre e1, e2⟩
  | .cdt kvs, v, e => by
    unfold Rep at e ⊢
    obtain ⟨a, us, vs, e1, e2, e3, e4⟩ := e
    exact ⟨a, us, vs, e1, e2, e3, RepV.ext0 x e4⟩
  | .fn _, _, e => by
    unfold Rep at e ⊢
    exact e
  | .ty _, _, e => by
    unfold Rep at e ⊢
    exact e
theorem RepL.ext0 (x : Ex0 μ H μ' H') : ∀ {ds : List D} {vs : List V}, RepL G H μ ds vs → RepL G H' μ' ds vs
  | [], _, e => by unfold RepL at e ⊢; exact e
  | d :: ds, vs, e => by
    unfold RepL at e ⊢
    obtain ⟨v, r, e1, e2, e3⟩ := e
    exact ⟨v, r, e1, Rep.ext0 x e2, RepL.ext0 x e3⟩
theorem RepV.ext0 (x : Ex0 μ H μ' H') : ∀ {ds : List (Txt × D)} {vs : List V}, RepV G H μ ds vs → RepV G H' μ' ds vs
  | [], vs, e => by unfold RepV at e ⊢; exact e
  | d :: ds, vs, e => by
    unfold RepV at e ⊢
    obtain ⟨v, r, e1, e2, e3⟩ := e
    exact ⟨v, r, e1, Rep.ext0 x e2, RepV.ext0 x e3⟩
end
theorem SqT.ext {K : PySem.W.Frag} (x : Ext μ H μ' H') {a : Addr} {xs : List V} (h : SqT K H a xs) : SqT K H' a xs := DV.SqT.ext0 x.x0 h
theorem SqF.ext {K : PySem.W.Frag} (x : Ext μ H μ' H') {a : Addr} {xs : List V} (h : SqF K H a xs) : SqF K H' a xs := SqF.ext0 x.x0 h
theorem Rep.ext (x : Ext μ H μ' H') {d : D} {v : V} (r : Rep G H μ d v) : Rep G H' μ' d v := Rep.ext0 x.x0 r
theorem RepL.ext (x : Ext μ H μ' H') {d : List D} {v : List V} (r : RepL G H μ d v) : RepL G H' μ' d v := RepL.ext0 x.x0 r
theorem RepV.ext (x : Ext μ H μ' H') {d : List (Txt × D)} {v : List V} (r : RepV G H μ d v) : RepV G H' μ' d v := RepV.ext0 x.x0 r
theorem RepK.ext0 (x : Ex0 μ H μ' H') : ∀ {kvs : List (D × D)} {kv : List (Key × V)}, RepK G H μ kvs kv → RepK G H' μ' kvs kv
  | [], _, e => e
  | p :: r, kv, ⟨k, v, t, e1, e2, e3, e4⟩ => ⟨k, v, t, e1, e2, e3.ext0 x, RepK.ext0 x e4⟩
theorem RepN.ext0 (x : Ex0 μ H μ' H') : ∀ {kvs : List (D × D)} {xs : List (NestedKey × Addr × Value)}, RepN G H μ kvs xs → RepN G H' μ' kvs xs
  | [], _, e => e
  | p :: r, xs, ⟨k, a, u, v, t, e1, e2, e3, e4, e5, e6, e7⟩ => ⟨k, a, u, v, t, e1, e2, e3, e4.ext0 x, e5.ext0 x, e6, RepN.ext0 x e7⟩
theorem RepL.length : ∀ {ds : List D} {vs : List V}, RepL G H μ ds vs → vs.length = ds.length
  | [], vs, e => by unfold RepL at e; subst e; rfl
  | d :: ds, vs, e => by
    unfold RepL at e
    obtain ⟨v, r, rfl, _, e3⟩ := e
    simp [RepL.length e3]
theorem RepL.get : ∀ {ds : List D} {vs : List V} {i : Nat} {d : D}, RepL G H μ ds vs → ds[i]? = some d → ∃ v, vs[i]? = some v ∧ Rep G H μ d v
  | [], vs, i, d, e, h => by simp at h
  | d' :: ds, vs, 0, d, e, h => by
    unfold RepL at e
    obtain ⟨v, r, rfl, e2, e3⟩ := e
    simp at h; subst h
    exact ⟨v, rfl, e2⟩
  | d' :: ds, vs, i + 1, d, e, h => by
    unfold RepL at e
    obtain ⟨v, r, rfl, e2, e3⟩ := e
    obtain ⟨w, h1, h2⟩ := RepL.get e3 (by simpa using h)
    exact ⟨w, by simpa using h1, h2⟩
theorem RepL.append : ∀ {ds es : List D} {vs ws : List V}, RepL G H μ ds vs → RepL G H μ es ws → RepL G H μ (ds ++ es) (vs ++ ws)
  | [], es, vs, ws, a, b => by unfold RepL at a; subst a; exact b
  | d :: ds, es, vs, ws, a, b => by
    unfold RepL at a
    obtain ⟨v, r, rfl, e2, e3⟩ := a
    show RepL G H μ (d :: (ds ++ es)) _
    unfold RepL
    exact ⟨v, r ++ ws, rfl, e2, RepL.append e3 b⟩
end

/-- the frame's names -/
abbrev Env := List (Option D)
def ERep (G : GX) (H : Hp) (μ : List Addr) (env : Env) (σ : L2.St) : Prop := env.length = σ.length ∧
  ∀ (i : Nat) d, env[i]? = some (some d) → ∃ v, σ[i]? = some (some v) ∧ Rep G H μ d v
theorem ERep.ext0 {G : GX} {μ μ' : List Addr} {H H' : Hp} (x : Ex0 μ H μ' H') {env : Env} {σ : L2.St} (e : ERep G H μ env σ) : ERep G H' μ' env σ :=
  ⟨e.1, fun i d h => let ⟨v, h1, h2⟩ := e.2 i d h; ⟨v, h1, h2.ext0 x⟩⟩
theorem ERep.ext {G : GX} {μ μ' : List Addr} {H H' : Hp} (x : Ext μ H μ' H') {env : Env} {σ : L2.St} (e : ERep G H μ env σ) : ERep G H' μ' env σ := e.ext0 x.x0

/-- what is wanted of an exception: the objects' places, the heap, the class, its fields, the objects -/
abbrev XW := List Addr → Hp → Nat → List D → DH → Prop
/-- what an outcome must bring: Q of each value and heap that bear it (rel); W of an exception -/
def Post {α β : Type} (rel : Hp → List Addr → α → β → Prop) (G : GX) (W : XW) (μ : List Addr) (H : Hp) (r : R α) (Q : β → Hp → Prop) : Prop :=
  match r with
  | .ok d h' => ∀ μ' H' v, SRep G μ' h' H' → Ext μ H μ' H' → rel H' μ' d v → Q v H'
  | .exc c a h' => ∀ μ' H', SRep G μ' h' H' → Ext μ H μ' H' → W μ' H' c a h'
  | .bad => False
/-- a test's outcome -/
def EqB : Hp → List Addr → Bool → Bool → Prop := fun _ _ b c => b = c
section
variable {α α' β β' : Type} {rel : Hp → List Addr → α → β → Prop} {rel' : Hp → List Addr → α' → β' → Prop} {G : GX} {W : XW} {μ : List Addr} {H : Hp}
theorem Post.bind {r : R α} {k : α → DH → R α'} {Q : β' → Hp → Prop} (p : Post rel' G W μ H (r.bind k) Q) :
    Post rel G W μ H r fun v H1 => ∃ μ1 d h1, SRep G μ1 h1 H1 ∧ Ext μ H μ1 H1 ∧ rel H1 μ1 d v ∧ Post rel' G W μ1 H1 (k d h1) Q := by
  cases r with
  | bad => exact p
  | exc c a h' => exact p
  | ok d h1 =>
    intro μ1 H1 v s x e
    refine ⟨μ1, d, h1, s, x, e, ?_⟩
    have p : Post rel' G W μ H (k d h1) Q := p
    cases q : k d h1 with
    | bad => rw [q] at p; exact p
    | exc c a h' => rw [q] at p; exact fun μ' H' s' x' => p μ' H' s' (x.trans x')
    | ok d' h' => rw [q] at p; exact fun μ' H' v' s' x' => p μ' H' v' s' (x.trans x')
theorem Post.imp {r : R α} {Q Q' : β → Hp → Prop} (p : Post rel G W μ H r Q) (h : ∀ v H, Q v H → Q' v H) : Post rel G W μ H r Q' := by
  cases r with
  | bad => exact p
  | exc c a h' => exact p
  | ok d h1 => exact fun μ' H' v s x e => h v H' (p μ' H' v s x e)
/-- an outcome that is a value at once -/
theorem Post.now {d : α} {h : DH} {Q : β → Hp → Prop} {v : β} (p : Post rel G W μ H (.ok d h) Q) (s : SRep G μ h H) (e : rel H μ d v) : Q v H := p μ H v s .refl e
end

/-- .. at the slots as they stand -/
abbrev XWS := L2.St → XW
abbrev DEn (α : Type) := Env → DH → R α
abbrev DE := DEn D
def TG' {α β : Type} (rel : Hp → List Addr → α → β → Prop) (G : GX) (W : XWS) (m : DEn α) : L2.St → Hp → (β → Hp → Prop) → Prop :=
  fun σ H Q => ∃ μ env h, SRep G μ h H ∧ ERep G H μ env σ ∧ Post rel G (W σ) μ H (m env h) Q
abbrev TD (G : GX) (W : XWS) (m : DE) : TE := TG' (Rep G) G W m
abbrev TDL (G : GX) (W : XWS) (m : DEn (List D)) : TA := TG' (RepL G) G W m
abbrev TDB (G : GX) (W : XWS) (m : DEn Bool) : TT := TG' EqB G W m
theorem _root_.L2.PE.weakS {X : Cx} {e : Expr} {t : L2.St → TE} {t' : TE} (h : ∀ σ, PE X e (t σ)) (w : ∀ σ H Q, t' σ H Q → t σ σ H Q) : PE X e t' := ⟨fun pins s σ H Q I q => (h σ).run pins s σ H Q I (w σ H Q q)⟩
theorem _root_.L2.PT.weakS {X : Cx} {e : Expr} {t : L2.St → TT} {t' : TT} (h : ∀ σ, PT X e (t σ)) (w : ∀ σ H Q, t' σ H Q → t σ σ H Q) : PT X e t' := ⟨fun pins s σ H Q I q => (h σ).run pins s σ H Q I (w σ H Q q)⟩
theorem _root_.L2.PE.weak {X : Cx} {e : Expr} {t t' : TE} (h : PE X e t) (w : ∀ σ H Q, t' σ H Q → t σ H Q) : PE X e t' := ⟨fun pins s σ H Q I q => h.run pins s σ H Q I (w σ H Q q)⟩
theorem _root_.L2.PT.weak {X : Cx} {e : Expr} {t t' : TT} (h : PT X e t) (w : ∀ σ H Q, t' σ H Q → t σ H Q) : PT X e t' := ⟨fun pins s σ H Q I q => h.run pins s σ H Q I (w σ H Q q)⟩
theorem _root_.L2.PA.weak {X : Cx} {e : List Expr} {t t' : TA} (h : PA X e t) (w : ∀ σ H Q, t' σ H Q → t σ H Q) : PA X e t' := ⟨fun pos pins s σ H Q I q => h.run pos pins s σ H Q I (w σ H Q q)⟩
theorem _root_.L2.PS.weak {X : Cx} {e : Stmt} {t t' : TS} (h : PS X e t) (w : ∀ D σ H, t' D σ H → t D σ H) : PS X e t' := ⟨fun pins s σ H Q I q => h.run pins s σ H Q I (w Q σ H q)⟩
theorem _root_.L2.PSs.weak {X : Cx} {e : List Stmt} {t t' : TS} (h : PSs X e t) (w : ∀ D σ H, t' D σ H → t D σ H) : PSs X e t' := ⟨fun pins s σ H Q I q => h.run pins s σ H Q I (w Q σ H q)⟩
/-- first m, then k -/
def DEn.bind {α β : Type} (m : DEn α) (k : α → DEn β) : DEn β := fun env h => (m env h).bind fun d h1 => k d env h1
section
variable {α α' β β' : Type} {rel : Hp → List Addr → α → β → Prop} {rel' : Hp → List Addr → α' → β' → Prop} {G : GX} {W : XWS} {σ : L2.St} {H : Hp}
theorem TG'.split {ma : DEn α} {k : α → DEn α'} {Q : β' → Hp → Prop} (q : TG' rel' G W (ma.bind k) σ H Q) :
    TG' rel G W ma σ H fun v H1 => ∃ μ1 d env h1, SRep G μ1 h1 H1 ∧ ERep G H1 μ1 env σ ∧ rel H1 μ1 d v ∧ Post rel' G (W σ) μ1 H1 (k d env h1) Q := by
  obtain ⟨μ, env, h, s, e, p⟩ := q
  refine ⟨μ, env, h, s, e, Post.imp (Post.bind (rel := rel) p) ?_⟩
  rintro v H1 ⟨μ1, d, h1, s1, x1, r1, p1⟩
  exact ⟨μ1, d, env, h1, s1, e.ext x1, r1, p1⟩
end
end DV
namespace DV
open PySem PySem.Spec PyProof.Rows L2
abbrev big : Nat := 16777216
theorem big_eq : sizeLine = big := sizeLine_eq
section
variable {α α' β β' : Type} {rel : Hp → List Addr → α → β → Prop} {rel' : Hp → List Addr → α' → β' → Prop} {G : GX} {W : XWS} {σ : L2.St} {H : Hp}
theorem TG'.imp {m : DEn α} {Q Q' : β → Hp → Prop} (q : TG' rel G W m σ H Q) (h : ∀ v H, Q v H → Q' v H) : TG' rel G W m σ H Q' :=
  let ⟨μ, env, h0, s, e, p⟩ := q
  ⟨μ, env, h0, s, e, p.imp h⟩
end
section
variable {G : GX} {μ μ' : List Addr} {H H' : Hp} {h : DH} {p a : Addr} {o : DO} {ho : HO}
theorem ORep.some (r : ORep G H μ o a) : ∃ u, H a = some u := by
  cases o with
  | lst ds => obtain ⟨vs, e, _⟩ := r; exact ⟨_, e⟩
  | dct kvs => obtain ⟨kv, e, _⟩ := r; exact ⟨_, e⟩
  | set ks => obtain ⟨kk, e, _⟩ := r; exact ⟨_, e⟩
  | ins c fs => exact r.elim
  | dcn kvs => obtain ⟨_, xs, e, _⟩ := r; exact ⟨_, e⟩
  | lck kvs => obtain ⟨_, o, xs, e, _⟩ := r; exact ⟨_, e⟩
theorem ORep.mut (r : ORep G H μ o a) (f : o.free = true) : ∃ u, H a = Option.some u ∧ Mut (Option.some u) := by
  cases o with
  | lst ds => obtain ⟨vs, e, _⟩ := r; exact ⟨_, e, trivial⟩
  | dct kvs => obtain ⟨kv, e, _⟩ := r; exact ⟨_, e, trivial⟩
  | set ks => obtain ⟨kk, e, _⟩ := r; exact ⟨_, e, trivial⟩
  | ins c fs => exact r.elim
  | dcn kvs => obtain ⟨_, xs, e, _⟩ := r; exact ⟨_, e, trivial⟩
  | lck kvs => cases f
theorem ORep.ext0 (x : Ex0 μ H μ' H') (e : H' a = H a) (r : ORep G H μ o a) : ORep G H' μ' o a := by
  cases o with
  | lst ds => obtain ⟨vs, e1, e2⟩ := r; exact ⟨vs, e.trans e1, e2.ext0 x⟩
  | dct kvs => obtain ⟨kv, e1, e2⟩ := r; exact ⟨kv, e.trans e1, e2.ext0 x⟩
  | set ks => obtain ⟨kk, e1, e2⟩ := r; exact ⟨kk, e.trans e1, e2⟩
  | ins c fs => exact r.elim
  | dcn kvs => obtain ⟨z, xs, e1, e2⟩ := r; exact ⟨z, xs, e.trans e1, e2.ext0 x⟩
  | lck kvs => obtain ⟨z, o, xs, e1, e2⟩ := r; exact ⟨z, o, xs, e.trans e1, e2.ext0 x⟩
theorem ORep.ext (x : Ext μ H μ' H') (e : H' a = H a) (r : ORep G H μ o a) : ORep G H' μ' o a := r.ext0 x.x0 e
theorem SRep.track (s : SRep G μ h H) (m : a ∈ μ) : ∃ u, H a = some u := by
  obtain ⟨n, hn, e⟩ := List.getElem_of_mem m
  have hn' : n < h.length := by rw [← s.len]; exact hn
  exact ORep.some (s.ob n h[n] a (List.getElem?_eq_getElem hn') (by rw [List.getElem?_eq_getElem hn, e]))
theorem SRep.not_mem (s : SRep G μ h H) (hp : H p = none) : p ∉ μ := fun m => by
  obtain ⟨u, e⟩ := s.track m
  rw [hp] at e; cases e
theorem Ext.tupled (s : SRep G μ h H) (hp : H p = none) : Ext μ H μ (upd H p ho) where
  pre := ⟨[], by simp⟩
  keep := fun b u e _ => by rw [upd_ne (ne_of_none e hp)]; exact e
  fresh := fun b m => .inl m
  tup := fun b xs e => by rw [upd_ne (ne_of_none e hp)]; exact e
  frz := fun b o u e => by rw [upd_ne (ne_of_none e hp)]; exact e
theorem Ext.new (s : SRep G μ h H) (hp : H p = none) : Ext μ H (μ ++ [p]) (upd H p ho) where
  pre := ⟨[p], rfl⟩
  keep := fun b u e _ => by rw [upd_ne (ne_of_none e hp)]; exact e
  fresh := fun b m => by
    rcases List.mem_append.mp m with q | q
    · exact .inl q
    · rw [List.mem_singleton.mp q]; exact .inr hp
  tup := fun b xs e => by rw [upd_ne (ne_of_none e hp)]; exact e
  frz := fun b o u e => by rw [upd_ne (ne_of_none e hp)]; exact e
theorem SRep.tupled (s : SRep G μ h H) (hp : H p = none) : SRep G μ h (upd H p ho) :=
  ⟨s.len, s.nd, fun n o a e1 e2 => (s.ob n o a e1 e2).ext (Ext.tupled s hp) (upd_ne fun z => s.not_mem hp (z ▸ List.mem_of_getElem? e2))⟩
theorem SRep.new (s : SRep G μ h H) (hp : H p = none) (r : ORep G (upd H p ho) (μ ++ [p]) o p) : SRep G (μ ++ [p]) (h ++ [o]) (upd H p ho) := by
  refine ⟨by simp [s.len], ?_, fun n o' a e1 e2 => ?_⟩
  · rw [List.nodup_append]
    refine ⟨s.nd, by simp, fun a ha b hb => ?_⟩
    rw [List.mem_singleton.mp hb]
    exact fun z => s.not_mem hp (z ▸ ha)
  · by_cases hn : n < h.length
    · rw [List.getElem?_append_left hn] at e1
      rw [List.getElem?_append_left (by rw [s.len]; exact hn)] at e2
      exact (s.ob n o' a e1 e2).ext (Ext.new s hp) (upd_ne fun z => s.not_mem hp (z ▸ List.mem_of_getElem? e2))
    · have hn' : n = h.length := by
        have := (List.getElem?_eq_some_iff.mp e1).1
        simp at this; omega
      subst hn'
      rw [List.getElem?_append_right (Nat.le_refl _)] at e1
      rw [List.getElem?_append_right (by rw [s.len]; exact Nat.le_refl _)] at e2
      simp [s.len] at e1 e2
      subst e1 e2
      exact r
theorem Ext.write {n : Nat} {oo : DO} (s : SRep G μ h H) (e1 : h[n]? = some oo) (e2 : μ[n]? = some a) (f : oo.free = true) : Ext μ H μ (upd H a ho) := by
  obtain ⟨u, e, mu⟩ := (s.ob n oo a e1 e2).mut f
  have m : a ∈ μ := List.mem_of_getElem? e2
  refine ⟨⟨[], by simp⟩, fun b v q n => ?_, fun b m => .inl m, fun b xs q => ?_, fun b o v q => ?_⟩
  · rw [upd_ne fun z => n (by rw [z]; exact m)]; exact q
  · rw [upd_ne]; exact q
    rintro rfl; rw [q] at e; cases e; exact mu
  · rw [upd_ne]; exact q
    rintro rfl; rw [q] at e; cases e; exact mu
theorem SRep.write {n : Nat} {oo : DO} (s : SRep G μ h H) (e0 : h[n]? = some oo) (f : oo.free = true) (e : μ[n]? = some a) (r : ORep G (upd H a ho) μ o a) : SRep G μ (h.set n o) (upd H a ho) := by
  refine ⟨by simp [s.len], s.nd, fun k o' b e1 e2 => ?_⟩
  by_cases hk : k = n
  · subst hk
    rw [e] at e2; cases e2
    have hl : k < h.length := by
      have := (List.getElem?_eq_some_iff.mp e1).1
      simpa using this
    rw [List.getElem?_set_self hl] at e1; cases e1
    exact r
  · rw [List.getElem?_set_ne (Ne.symm hk)] at e1
    refine (s.ob k o' b e1 e2).ext (Ext.write s e0 e f) (upd_ne ?_)
    rintro rfl
    exact hk (nodup_idx s.nd e2 e)
where
  nodup_idx {l : List Addr} (hN : l.Nodup) {i j : Nat} {x : Addr} (a : l[i]? = some x) (b : l[j]? = some x) : i = j := by
    obtain ⟨h1, e1⟩ := List.getElem?_eq_some_iff.mp a
    obtain ⟨h2, e2⟩ := List.getElem?_eq_some_iff.mp b
    exact (List.getElem_inj hN).mp (e1.trans e2.symm)
end
def alloc (o : DO) (h : DH) : R D := .ok (.ref h.length) (h ++ [o])
section
variable {G : GX} {W : XW} {μ : List Addr} {H : Hp} {h : DH} {p a : Addr} {o : DO} {ho : HO} {Q : VK}
theorem Post.allo (P : Post (Rep G) G W μ H (alloc o h) Q) (s : SRep G μ h H) (hp : H p = none) (r : ORep G (upd H p ho) (μ ++ [p]) o p) : Q (.ref p) (upd H p ho) :=
  P _ _ _ (s.new hp r) (.new s hp) ⟨p, by rw [List.getElem?_append_right (by rw [s.len]; exact Nat.le_refl _)]; simp [s.len], rfl⟩
theorem Post.allocL {ds : List D} {vs : List V} (P : Post (Rep G) G W μ H (alloc (.lst ds) h) Q) (s : SRep G μ h H) (r : RepL G H μ ds vs) : ∀ p, H p = none → Q (.ref p) (upd H p (.lst vs)) :=
  fun p hp => P.allo s hp ⟨vs, upd_same, r.ext (.new s hp)⟩
theorem Post.tup {ds : List D} {vs : List V} (P : Post (Rep G) G W μ H (.ok (.tup ds) h) Q) (s : SRep G μ h H) (r : RepL G H μ ds vs) : ∀ p, H p = none → Q (.ref p) (upd H p (.tup vs)) :=
  fun p hp => P _ _ _ (s.tupled hp) (.tupled s hp) ⟨p, vs, rfl, .of upd_same, r.ext (.tupled s hp)⟩
theorem SRep.list {n : Nat} {ds : List D} (s : SRep G μ h H) (e : h[n]? = some (.lst ds)) (ea : μ[n]? = some a) : ∃ vs, H a = some (.lst vs) ∧ RepL G H μ ds vs := s.ob n _ a e ea
theorem Rep.ref {n : Nat} {v : V} (r : Rep G H μ (.ref n) v) : ∃ a, μ[n]? = some a ∧ v = .ref a := by unfold Rep at r; exact r
theorem Rep.tupl {ds : List D} {v : V} (r : Rep G H μ (.tup ds) v) : ∃ a vs, v = .ref a ∧ SqT G.K H a vs ∧ RepL G H μ ds vs := by unfold Rep at r; exact r
theorem Rep.frzl {ds : List D} {v : V} (r : Rep G H μ (.frz ds) v) : ∃ a vs, v = .ref a ∧ SqF G.K H a vs ∧ RepL G H μ ds vs := by unfold Rep at r; exact r
theorem Rep.intv {i : Int} {v : V} (r : Rep G H μ (.int i) v) : v = .int i := by unfold Rep at r; exact r
theorem Rep.strv {i : Txt} {v : V} (r : Rep G H μ (.str i) v) : v = .str (sOf i) := by unfold Rep at r; exact r
theorem Rep.blv {i : Bool} {v : V} (r : Rep G H μ (.bl i) v) : v = .bl i := by unfold Rep at r; exact r
theorem Rep.nonv {v : V} (r : Rep G H μ .non v) : v = .non := by unfold Rep at r; exact r
end
theorem sOf_len (t : Txt) : (sOf t).length = t.length := by simp [sOf, Str.length]
theorem sOf_app (s t : Txt) : sOf s ++ sOf t = sOf (s ++ t) := by
  show (⟨_⟩ : Str) = _
  simp [sOf]

def dVar (i : Nat) : DE := fun env h => match env[i]? with
  | some (some d) => .ok d h
  | _ => .bad
def dCst (d : D) : DE := fun _ h => .ok d h
section
variable {X : Cx} {W : XWS} {pos : Pos}
theorem d_var {i : Nat} {x : Str} (hN : X.N[i]? = some x) (hv : Vis X.env.scope x) (hd : (x == ("__debug__" : Str)) = false) (hcd : (x == ("__classdict__" : Str)) = false) : PE X (.Name x pos) (TD (gx X) W (dVar i)) := by
  refine (pe_var hN hv hd hcd).weak fun σ H Q ⟨μ, env, h, s, e, p⟩ => ?_
  unfold dVar at p
  split at p
  · rename_i d q
    obtain ⟨v, h1, h2⟩ := e.2 i d q
    exact ⟨v, h1, p.now s h2⟩
  · exact p.elim
theorem d_int {i : Int} {j} : PE X (.Constant (.int i) j pos) (TD (gx X) W (dCst (.int i))) := pe_int.weak fun σ H Q ⟨μ, env, h, s, e, p⟩ => p.now s (by unfold Rep; rfl)
theorem d_bl {i : Bool} {j} : PE X (.Constant (.bool i) j pos) (TD (gx X) W (dCst (.bl i))) := pe_bl.weak fun σ H Q ⟨μ, env, h, s, e, p⟩ => p.now s (by unfold Rep; rfl)
theorem d_non {j} : PE X (.Constant .none j pos) (TD (gx X) W (dCst .non)) := pe_non.weak fun σ H Q ⟨μ, env, h, s, e, p⟩ => p.now s (by unfold Rep; rfl)
theorem d_str {x : Str} {t : Txt} {j} (e : x = sOf t) : PE X (.Constant (.str x) j pos) (TD (gx X) W (dCst (.str t))) := pe_str.weak fun σ H Q ⟨μ, env, h, s, _, p⟩ => p.now s (by unfold Rep; rw [e])
end

abbrev D2 := D → D → DH → R D
def rD (G : GX) (W : XW) (g : D2) : R2 := fun x y H Q => ∃ μ h d e, SRep G μ h H ∧ Rep G H μ d x ∧ Rep G H μ e y ∧ Post (Rep G) G W μ H (g d e h) Q
def d2 (g : D2) (ma mb : DE) : DE := ma.bind fun d => mb.bind fun e => fun _ h => g d e h
theorem tOp_d {G : GX} {W : XWS} {g : D2} {ma mb : DE} {σ : L2.St} {H : Hp} {Q : VK} (q : TD G W (d2 g ma mb) σ H Q) : tOp (rD G (W σ) g) (TD G W ma) (TD G W mb) σ H Q := by
  refine TG'.imp (TG'.split (rel := Rep G) q) ?_
  rintro x H1 ⟨μ1, d, env, h1, s1, e1, r1, p1⟩
  refine ⟨μ1, env, h1, s1, e1, Post.imp (Post.bind (rel := Rep G) p1) ?_⟩
  rintro y H2 ⟨μ2, e, h2, s2, x2, r2, p2⟩
  exact ⟨μ2, h2, d, e, s2, r1.ext x2, r2, p2⟩
section
variable {X : Cx} {W : XWS} {pos : Pos} {a b : Expr} {ma mb : DE} {g : D2}
theorem d_bin {op : Operator} (ho : ∀ W, OpR X (binaryOp op) (rD (gx X) W g)) (ha : PE X a (TD (gx X) W ma)) (hb : PE X b (TD (gx X) W mb)) : PE X (.BinOp a op b pos) (TD (gx X) W (d2 g ma mb)) :=
  PE.weakS (fun σ => pe_op (ho (W σ)) ha hb) fun _ _ _ q => tOp_d q
theorem d_cmp {op : CmpOp} (ho : ∀ W, OpR X (compareOp op) (rD (gx X) W g)) (ha : PE X a (TD (gx X) W ma)) (hb : PE X b (TD (gx X) W mb)) (hm : behindInMarks op b = false) : PE X (.Compare a [op] [b] pos) (TD (gx X) W (d2 g ma mb)) :=
  PE.weakS (fun σ => pe_cmpR (ho (W σ)) ha hb hm) fun _ _ _ q => tOp_d q
theorem d_ix (ho : ∀ W, IxR X (rD (gx X) W g)) (ha : PE X a (TD (gx X) W ma)) (hb : PE X b (TD (gx X) W mb)) (hs : PlainIx b) : PE X (.Subscript a b pos) (TD (gx X) W (d2 g ma mb)) :=
  PE.weakS (fun σ => pe_ix (ho (W σ)) ha hb hs) fun _ _ _ q => tOp_d q
end

def addD : D2
  | .int i, .int j, h => .ok (.int (i + j)) h
  | .str s, .str t, h => if s.length + t.length ≤ big then .ok (.str (s ++ t)) h else .bad
  | .tup s, .tup t, h => if s.length + t.length ≤ big then .ok (.tup (s ++ t)) h else .bad
  | .ref n, .ref m, h => match h[n]?, h[m]? with
    | some (.lst s), some (.lst t) => if s.length + t.length ≤ big then alloc (.lst (s ++ t)) h else .bad
    | _, _ => .bad
  | _, _, _ => .bad
section
variable {X : Cx} {W : XW}
theorem o_add : OpR X (binaryOp .Add) (rD (gx X) W addD) := by
  intro pins s σ H x y v u Q I rx ry q
  obtain ⟨μ, h, d, e, S, r1, r2, P⟩ := q
  unfold addD at P
  split at P
  · rename_i h i j
    exact op_add pins s σ H x y v u Q I rx ry ⟨i, j, r1.intv, r2.intv, P.now S (by unfold Rep; rfl)⟩
  · rename_i h a b
    split at P
    · rename_i hl
      exact op_add_str pins s σ H x y v u Q I rx ry ⟨sOf a, sOf b, r1.strv, r2.strv, by rw [sOf_len, sOf_len, big_eq]; exact hl, P.now S (by unfold Rep; rw [sOf_app])⟩
    · exact P.elim
  · rename_i h a b
    split at P
    · rename_i hl
      obtain ⟨p1, vs, e1, q1, l1⟩ := r1.tupl
      obtain ⟨p2, ws, e2, q2, l2⟩ := r2.tupl
      refine op_catA pins s σ H x y v u Q I rx ry ⟨p1, p2, vs, ws, e1, e2, q1, q2, by rw [l1.length, l2.length, big_eq]; exact hl, fun z => ?_, fun z z2 => ?_, fun z z2 p hp => ?_⟩
      · subst z
        refine P.now S ?_
        unfold Rep
        exact ⟨p2, ws, rfl, q2, l1.append l2⟩
      · subst z2
        refine P.now S ?_
        unfold Rep
        have := l1.append l2
        rw [List.append_nil] at this
        exact ⟨p1, vs, rfl, q1, this⟩
      · exact P.tup S (l1.append l2) p hp
    · exact P.elim
  · rename_i h n m
    obtain ⟨a, ea, rfl⟩ := r1.ref
    obtain ⟨b, eb, rfl⟩ := r2.ref
    split at P
    · rename_i ds es en em
      obtain ⟨vs, h1, l1⟩ := S.list en ea
      obtain ⟨ws, h2, l2⟩ := S.list em eb
      split at P
      · rename_i hl
        exact op_cat pins s σ H _ _ v u Q I rx ry ⟨a, b, vs, ws, rfl, rfl, h1, h2, by rw [l1.length, l2.length, big_eq]; exact hl, P.allocL S (l1.append l2)⟩
      · exact P.elim
    · exact P.elim
  · exact P.elim
end
end DV
namespace DV
open PySem PySem.Spec PyProof.Rows L2
def seqO {α : Type} : List (Option α) → Option (List α)
  | [] => some []
  | some x :: r => (seqO r).map (x :: ·)
  | none :: _ => none
def toPy (h : DH) : Nat → D → Option PyData
  | 0, _ => none
  | _ + 1, .non => some .none
  | _ + 1, .bl b => some (.bool b)
  | _ + 1, .int i => some (.int i)
  | _ + 1, .str t => some (.str (sOf t))
  | n + 1, .tup ds => (seqO (ds.map (toPy h n))).map .tuple
  | n + 1, .frz ds => (seqO (ds.map (toPy h n))).map .list
  | n + 1, .ref k => match h[k]? with
    | some (.lst ds) => (seqO (ds.map (toPy h n))).map .list
    | _ => none
  | _ + 1, .cdt _ => none
  | _ + 1, .fn _ => none
  | _ + 1, .ty _ => none
theorem seqO_cons {α : Type} {o : Option α} {r : List (Option α)} {l : List α} (h : seqO (o :: r) = some l) : ∃ x t, o = some x ∧ seqO r = some t ∧ l = x :: t := by
  cases o with
  | none => cases h
  | some x =>
    have h' : (seqO r).map (x :: ·) = some l := h
    cases q : seqO r with
    | none => rw [q] at h'; cases h'
    | some t => rw [q] at h'; exact ⟨x, t, rfl, rfl, (Option.some.inj h').symm⟩
section
variable {G : GX} {μ : List Addr} {H : Hp} {h : DH}
theorem toPyL_ok {f : D → Option PyData} (ih : ∀ d v p, f d = some p → Rep G H μ d v → Dp G.K H v p) : ∀ {ds : List D} {vs : List V} {ps : List PyData}, seqO (ds.map f) = some ps → RepL G H μ ds vs → DpAll G.K H vs ps
  | [], vs, ps, e, r => by
    unfold RepL at r; subst r
    have : ps = [] := (Option.some.inj e).symm
    subst this; exact .nil
  | d :: ds, vs, ps, e, r => by
    unfold RepL at r
    obtain ⟨v, t, rfl, r1, r2⟩ := r
    obtain ⟨x, l, e1, e2, rfl⟩ := seqO_cons e
    exact .cons (ih d v x e1 r1) (toPyL_ok ih e2 r2)
theorem toPy_ok (s : SRep G μ h H) : ∀ (n : Nat) (d : D) (v : V) (p : PyData), toPy h n d = some p → Rep G H μ d v → Dp G.K H v p
  | 0, _, _, _, e, _ => nomatch e
  | _ + 1, .non, v, p, e, r => by cases e; rw [r.nonv]; exact .non
  | _ + 1, .bl b, v, p, e, r => by cases e; rw [r.blv]; exact .bl b
  | _ + 1, .int b, v, p, e, r => by cases e; rw [r.intv]; exact .int b
  | _ + 1, .str b, v, p, e, r => by cases e; rw [r.strv]; exact .str _
  | n + 1, .tup ds, v, p, e, r => by
    unfold toPy at e
    cases q : seqO (ds.map (toPy h n)) with
    | none => rw [q] at e; cases e
    | some ps =>
      rw [q] at e; cases e
      obtain ⟨a, vs, rfl, h1, h2⟩ := r.tupl
      exact .tup h1 (toPyL_ok (toPy_ok s n) q h2)
  | n + 1, .frz ds, v, p, e, r => by
    unfold toPy at e
    cases q : seqO (ds.map (toPy h n)) with
    | none => rw [q] at e; cases e
    | some ps =>
      rw [q] at e; cases e
      obtain ⟨a, vs, rfl, h1, h2⟩ := r.frzl
      exact .lst h1.sq (toPyL_ok (toPy_ok s n) q h2)
  | n + 1, .ref k, v, p, e, r => by
    unfold toPy at e
    obtain ⟨a, ea, rfl⟩ := r.ref
    split at e
    · rename_i ds q
      obtain ⟨vs, h1, h2⟩ := s.list q ea
      cases q' : seqO (ds.map (toPy h n)) with
      | none => rw [q'] at e; cases e
      | some ps =>
        rw [q'] at e; cases e
        exact .lst (.of h1) (toPyL_ok (toPy_ok s n) q' h2)
    · cases e
end
def subD : D2
  | .int i, .int j, h => .ok (.int (i - j)) h
  | _, _, _ => .bad
def mulOk (i j : Int) : Bool := decide (i.natAbs < 2 ^ 64) || decide (j.natAbs < 2 ^ 64)
def mulD : D2
  | .int i, .int j, h => if mulOk i j then .ok (.int (i * j)) h else .bad
  | .tup ds, .int k, h => if ds ≠ [] ∧ 2 ≤ k ∧ k ≤ 1000 ∧ ds.length ≤ 1000 then .ok (.tup (List.replicate k.toNat ds).flatten) h else .bad
  | .ref n, .int k, h => match h[n]? with
    | some (.lst ds) => if k < 1000000 ∧ -1000000 < k ∧ ds.length * k.toNat ≤ big then alloc (.lst (List.replicate k.toNat ds).flatten) h else .bad
    | _ => .bad
  | _, _, _ => .bad
def modD : D2
  | .int i, .int j, h => if 0 < j then .ok (.int (i % j)) h else .bad
  | _, _, _ => .bad
def fdivD : D2
  | .int i, .int j, h => if 0 < j ∧ j < 1073741824 then .ok (.int (i / j)) h else .bad
  | _, _, _ => .bad
def powD : D2
  | .int i, .int j, h => if 0 ≤ j ∧ j ≤ 1000000 ∧ i.natAbs < 2 ^ 64 then .ok (.int (i ^ j.toNat)) h else .bad
  | _, _, _ => .bad
theorem mulOk_c {i j : Int} (h : mulOk i j = true) : CMul i j := by
  unfold mulOk at h
  rw [Bool.or_eq_true, decide_eq_true_eq, decide_eq_true_eq] at h
  have : (2 : Int) ^ 64 = ((2 ^ 64 : Nat) : Int) := by norm_cast
  rcases h with h | h
  · exact .inl ⟨by rw [this]; omega, by rw [this]; omega⟩
  · exact .inr ⟨by rw [this]; omega, by rw [this]; omega⟩
theorem RepL.repl {G : GX} {μ : List Addr} {H : Hp} {ds : List D} {vs : List V} (r : RepL G H μ ds vs) : ∀ n : Nat, RepL G H μ (List.replicate n ds).flatten (List.replicate n vs).flatten
  | 0 => by unfold RepL; rfl
  | n + 1 => by rw [List.replicate_succ, List.replicate_succ, List.flatten_cons, List.flatten_cons]; exact r.append (RepL.repl r n)
theorem RepL.nil_iff {G : GX} {μ : List Addr} {H : Hp} {ds : List D} {vs : List V} (r : RepL G H μ ds vs) : vs = [] ↔ ds = [] := by
  rw [← List.length_eq_zero_iff, ← List.length_eq_zero_iff, r.length]
section
variable {X : Cx} {W : XW}
theorem o_sub : OpR X (binaryOp .Sub) (rD (gx X) W subD) := by
  intro pins s σ H x y v u Q I rx ry ⟨μ, h, d, e, S, r1, r2, P⟩
  unfold subD at P
  split at P
  · rename_i h i j
    exact op_sub pins s σ H x y v u Q I rx ry ⟨i, j, r1.intv, r2.intv, P.now S (by unfold Rep; rfl)⟩
  · exact P.elim
theorem o_mod : OpR X (binaryOp .Mod) (rD (gx X) W modD) := by
  intro pins s σ H x y v u Q I rx ry ⟨μ, h, d, e, S, r1, r2, P⟩
  unfold modD at P
  split at P
  · rename_i h i j
    split at P
    · rename_i hj
      exact op_mod pins s σ H x y v u Q I rx ry ⟨i, j, r1.intv, r2.intv, hj, P.now S (by unfold Rep; rfl)⟩
    · exact P.elim
  · exact P.elim
theorem o_fdiv : OpR X (binaryOp .FloorDiv) (rD (gx X) W fdivD) := by
  intro pins s σ H x y v u Q I rx ry ⟨μ, h, d, e, S, r1, r2, P⟩
  unfold fdivD at P
  split at P
  · rename_i h i j
    split at P
    · rename_i hj
      exact op_fdiv pins s σ H x y v u Q I rx ry ⟨i, j, r1.intv, r2.intv, hj, P.now S (by unfold Rep; rfl)⟩
    · exact P.elim
  · exact P.elim
theorem o_pow : OpR X (binaryOp .Pow) (rD (gx X) W powD) := by
  intro pins s σ H x y v u Q I rx ry ⟨μ, h, d, e, S, r1, r2, P⟩
  unfold powD at P
  split at P
  · rename_i h i j
    split at P
    · rename_i hj
      exact op_pow pins s σ H x y v u Q I rx ry ⟨i, j, r1.intv, r2.intv, hj, P.now S (by unfold Rep; rfl)⟩
    · exact P.elim
  · exact P.elim
theorem o_mul : OpR X (binaryOp .Mult) (rD (gx X) W mulD) := by
  intro pins s σ H x y v u Q I rx ry ⟨μ, h, d, e, S, r1, r2, P⟩
  unfold mulD at P
  split at P
  · rename_i h i j
    split at P
    · rename_i hj
      exact op_mul pins s σ H x y v u Q I rx ry ⟨i, j, r1.intv, r2.intv, mulOk_c hj, P.now S (by unfold Rep; rfl)⟩
    · exact P.elim
  · rename_i h ds k
    split at P
    · rename_i hc
      obtain ⟨a, vs, rfl, q1, l1⟩ := r1.tupl
      exact op_repT pins s σ H _ y v u Q I rx ry ⟨a, k, vs, rfl, r2.intv, q1, fun z => hc.1 (l1.nil_iff.mp z), hc.2.1, hc.2.2.1, by rw [l1.length]; exact hc.2.2.2, P.tup S (l1.repl k.toNat)⟩
    · exact P.elim
  · rename_i h n k
    split at P
    · rename_i ds e
      split at P
      · rename_i hc
        obtain ⟨a, ea, rfl⟩ := r1.ref
        obtain ⟨vs, h1, l1⟩ := S.list e ea
        refine op_rep pins s σ H _ y v u Q I rx ry ⟨a, k, vs, rfl, r2.intv, h1, ?_, ?_, by rw [l1.length, big_eq]; exact hc.2.2, P.allocL S (l1.repl k.toNat)⟩
        · have := hc.2.1
          have : (2 : Int) ^ 63 = 9223372036854775808 := by decide
          omega
        · have := hc.1
          have : (2 : Int) ^ 63 = 9223372036854775808 := by decide
          omega
      · exact P.elim
    · exact P.elim
  · exact P.elim
end
def eqB0 (neg : Bool) : D2 := fun d e h => match toPy h 60 d, toPy h 60 e with
  | some p, some q => if SeqAt.shaped p = true ∧ SeqAt.shaped q = true then .ok (.bl (if neg then !PyData.eqv p q else PyData.eqv p q)) h else .bad
  | _, _ => .bad
def eqB (neg : Bool) : D2
  | .str s, .str t, h => .ok (.bl (if neg then !decide (s = t) else decide (s = t))) h
  | d, e, h => eqB0 neg d e h
theorem eqB_not {neg : Bool} {d e : D} {h : DH} (z : ¬ ∃ s t, d = .str s ∧ e = .str t) : eqB neg d e h = eqB0 neg d e h := by
  cases d <;> first | rfl | (cases e <;> first | rfl | exact absurd ⟨_, _, rfl, rfl⟩ z)
theorem sOf_eq {s t : Txt} : decide (V.str (sOf s) = V.str (sOf t)) = decide (s = t) := by
  apply decide_eq_decide.mpr
  constructor
  · intro e
    have e1 : sOf s = sOf t := V.str.inj e
    have e2 := congrArg (fun z : Str => z.cps.toList) e1
    simpa [sOf] using e2
  · intro e
    rw [e]
inductive OrdK | lt | le | gt | ge
deriving DecidableEq
def OrdK.op : OrdK → CmpOp
  | .lt => .Lt | .le => .LtE | .gt => .Gt | .ge => .GtE
def OrdK.z : OrdK → Int → Int → Bool
  | .lt, i, j => decide (i < j) | .le, i, j => decide (i ≤ j) | .gt, i, j => decide (j < i) | .ge, i, j => decide (j ≤ i)
def OrdK.p : OrdK → PyData → PyData → Bool
  | .lt, i, j => PySem.W.dataLt i j | .le, i, j => !PySem.W.dataLt j i | .gt, i, j => PySem.W.dataLt j i | .ge, i, j => !PySem.W.dataLt i j
def notNone : PyData → Bool
  | .none => false
  | _ => true
def ordD (o : OrdK) : D2
  | .int i, .int j, h => .ok (.bl (o.z i j)) h
  | d, e, h => match toPy h 60 d, toPy h 60 e with
    | some p, some q => if PySem.W.alike p q = true ∧ notNone p = true ∧ SeqAt.shaped p = true then .ok (.bl (o.p p q)) h else .bad
    | _, _ => .bad
def isNon : D → Bool
  | .non => true
  | _ => false
def isB (neg : Bool) : D2
  | d, .non, h => .ok (.bl (if neg then !isNon d else isNon d)) h
  | .bl a, .bl b, h => .ok (.bl (if neg then !decide (a = b) else decide (a = b))) h
  | _, _, _ => .bad
section
variable {X : Cx} {W : XW}
theorem o_eq (hu : X.A.units + 64 < cLine) : OpR X (compareOp .Eq) (rD (gx X) W (eqB false)) := by
  intro pins s σ H x y v u Q I rx ry ⟨μ, h, d, e, S, r1, r2, P⟩
  by_cases z : ∃ s t, d = .str s ∧ e = .str t
  · obtain ⟨a, b, rfl, rfl⟩ := z
    unfold Rep at r1 r2
    subst r1
    subst r2
    refine L2.op_eq pins s σ H _ _ v u Q I rx ry ⟨rfl, P.now S ?_⟩
    unfold Rep
    rw [sOf_eq]
    rfl
  rw [eqB_not z] at P
  unfold eqB0 at P
  split at P
  · rename_i p q e1 e2
    split at P
    · rename_i hs
      exact op_eqD hu pins s σ H x y v u Q I rx ry ⟨p, q, toPy_ok S _ _ _ _ e1 r1, toPy_ok S _ _ _ _ e2 r2, hs.1, hs.2, P.now S (by unfold Rep; rfl)⟩
    · exact P.elim
  · exact P.elim
theorem o_ne (hu : X.A.units + 64 < cLine) : OpR X (compareOp .NotEq) (rD (gx X) W (eqB true)) := by
  intro pins s σ H x y v u Q I rx ry ⟨μ, h, d, e, S, r1, r2, P⟩
  by_cases z : ∃ s t, d = .str s ∧ e = .str t
  · obtain ⟨a, b, rfl, rfl⟩ := z
    unfold Rep at r1 r2
    subst r1
    subst r2
    refine L2.op_ne pins s σ H _ _ v u Q I rx ry ⟨rfl, P.now S ?_⟩
    unfold Rep
    rw [sOf_eq]
    rfl
  rw [eqB_not z] at P
  unfold eqB0 at P
  split at P
  · rename_i p q e1 e2
    split at P
    · rename_i hs
      exact op_neD hu pins s σ H x y v u Q I rx ry ⟨p, q, toPy_ok S _ _ _ _ e1 r1, toPy_ok S _ _ _ _ e2 r2, hs.1, hs.2, P.now S (by unfold Rep; rfl)⟩
    · exact P.elim
  · exact P.elim
theorem notNone_ne {p : PyData} (h : notNone p = true) : p ≠ .none := fun e => by subst e; cases h
theorem o_ord (hu : X.A.units + 64 < cLine) (o : OrdK) : OpR X (compareOp o.op) (rD (gx X) W (ordD o)) := by
  intro pins s σ H x y v u Q I rx ry ⟨μ, h, d, e, S, r1, r2, P⟩
  unfold ordD at P
  split at P
  · rename_i h i j
    have P' := P.now S (v := .bl (o.z i j)) (by unfold Rep; rfl)
    cases o with
    | lt => exact op_lt pins s σ H x y v u Q I rx ry ⟨i, j, r1.intv, r2.intv, P'⟩
    | le => exact op_le pins s σ H x y v u Q I rx ry ⟨i, j, r1.intv, r2.intv, P'⟩
    | gt => exact op_gt pins s σ H x y v u Q I rx ry ⟨i, j, r1.intv, r2.intv, P'⟩
    | ge => exact op_ge pins s σ H x y v u Q I rx ry ⟨i, j, r1.intv, r2.intv, P'⟩
  · split at P
    · rename_i p q e1 e2
      split at P
      · rename_i hs
        obtain ⟨h1, h2, h3⟩ := hs
        have P' := P.now S (v := .bl (o.p p q)) (by unfold Rep; rfl)
        obtain ⟨as, ra⟩ := Dp.reads I p x v (toPy_ok S _ _ _ _ e1 r1) rx
        obtain ⟨bs, rb⟩ := Dp.reads I q y u (toPy_ok S _ _ _ _ e2 r2) ry
        have hu' : X.A.units + min p.depth q.depth < cLine := by
          have := SeqAt.depth_of_shaped h3
          omega
        have fin : EP X pins σ Q (.bool (o.p p q)) s := ⟨.bl (o.p p q), H, I, rfl, P'⟩
        cases o with
        | lt => exact PySem.W.lt_data ra rb h1 (notNone_ne h2) hu' fin
        | le => exact PySem.W.le_data ra rb h1 (notNone_ne h2) hu' fin
        | gt => exact PySem.W.gt_data ra rb h1 (notNone_ne h2) hu' fin
        | ge => exact PySem.W.ge_data ra rb h1 (notNone_ne h2) hu' fin
      · exact P.elim
    · exact P.elim
theorem dec_non {G : GX} {H : Hp} {μ : List Addr} {d : D} {v : V} (r : Rep G H μ d v) : decide (v = .non) = isNon d := by
  cases d with
  | non => rw [r.nonv]; rfl
  | bl b => rw [r.blv]; rfl
  | int b => rw [r.intv]; rfl
  | str b => rw [r.strv]; rfl
  | tup b => obtain ⟨a, vs, rfl, _⟩ := r.tupl; rfl
  | frz b => obtain ⟨a, vs, rfl, _⟩ := r.frzl; rfl
  | ref b => obtain ⟨a, _, rfl⟩ := r.ref; rfl
  | cdt b => unfold Rep at r; obtain ⟨a, _, _, rfl, _⟩ := r; rfl
  | fn b => unfold Rep at r; subst r; rfl
  | ty b => unfold Rep at r; subst r; rfl
theorem o_is : OpR X (compareOp .Is) (rD (gx X) W (isB false)) := by
  intro pins s σ H x y v u Q I rx ry ⟨μ, h, d, e, S, r1, r2, P⟩
  unfold isB at P
  split at P
  · refine op_isN pins s σ H x y v u Q I rx ry ⟨r2.nonv, P.now S ?_⟩
    rw [dec_non r1]
    unfold Rep
    rfl
  · rename_i h a b
    exact op_is_bl pins s σ H x y v u Q I rx ry ⟨a, b, r1.blv, r2.blv, P.now S (by unfold Rep; rfl)⟩
  · exact P.elim
theorem o_isnot : OpR X (compareOp .IsNot) (rD (gx X) W (isB true)) := by
  intro pins s σ H x y v u Q I rx ry ⟨μ, h, d, e, S, r1, r2, P⟩
  unfold isB at P
  split at P
  · refine op_notN pins s σ H x y v u Q I rx ry ⟨r2.nonv, P.now S ?_⟩
    rw [dec_non r1]
    unfold Rep
    rfl
  · rename_i h a b
    exact op_isnot_bl pins s σ H x y v u Q I rx ry ⟨a, b, r1.blv, r2.blv, P.now S (by unfold Rep; rfl)⟩
  · exact P.elim
end
end DV
namespace DV
open PySem PySem.Spec PyProof.Rows L2
def truD : D → DH → R Bool
  | .non, h => .ok false h
  | .bl b, h => .ok b h
  | .int i, h => .ok (i != 0) h
  | .str t, h => if t.length ≤ big then .ok (!t.isEmpty) h else .bad
  | .tup ds, h => .ok (!ds.isEmpty) h
  | .frz ds, h => .ok (!ds.isEmpty) h
  | .ref n, h => match h[n]? with
    | some (.lst ds) => .ok (!ds.isEmpty) h
    | _ => .bad
  | _, _ => .bad
theorem RepL.isEmpty {G : GX} {μ : List Addr} {H : Hp} {ds : List D} {vs : List V} (r : RepL G H μ ds vs) : vs.isEmpty = ds.isEmpty := by
  have := r.length
  cases ds <;> cases vs <;> simp_all
theorem tru_ok' {X : Cx} {W : XW} {μ : List Addr} {H : Hp} {h : DH} {d : D} {v : V} {Q : Bool → Hp → Prop} (S : SRep (gx X) μ h H) (r : Rep (gx X) H μ d v) (P : Post EqB (gx X) W μ H (truD d h) Q) : ∃ k, TruV X.K v H k ∧ Q k H := by
  unfold truD at P
  split at P
  · rw [r.nonv]; exact ⟨false, rfl, P.now S rfl⟩
  · rw [r.blv]; exact ⟨_, rfl, P.now S rfl⟩
  · rw [r.intv]; exact ⟨_, rfl, P.now S rfl⟩
  · split at P
    · rename_i hl
      rw [r.strv]
      refine ⟨_, ⟨by rw [sOf_len, big_eq]; exact hl, rfl⟩, P.now S ?_⟩
      show (!_) = _
      rw [sOf_len]
      rename_i t
      cases t with
      | nil => rfl
      | cons c l =>
        have : ((List.length (c :: l) : Int) != 0) = true := by
          rw [List.length_cons]
          exact bne_iff_ne.mpr (by omega)
        rw [this]; rfl
    · exact P.elim
  · obtain ⟨a, vs, rfl, q1, l1⟩ := r.tupl
    exact ⟨_, .inr (.inl ⟨vs, q1, rfl⟩), P.now S (by show (!_) = (!_); rw [l1.isEmpty])⟩
  · obtain ⟨a, vs, rfl, q1, l1⟩ := r.frzl
    exact ⟨_, .inl ⟨vs, q1.sq, rfl⟩, P.now S (by show (!_) = (!_); rw [l1.isEmpty])⟩
  · obtain ⟨a, ea, rfl⟩ := r.ref
    split at P
    · rename_i e
      obtain ⟨vs, h1, l1⟩ := S.list e ea
      exact ⟨_, .inl ⟨vs, .of h1, rfl⟩, P.now S (by show (!_) = (!_); rw [l1.isEmpty])⟩
    · exact P.elim
  · exact P.elim
def dTru (m : DE) : DEn Bool := m.bind fun d _ h => truD d h
def blD : D → DH → R Bool
  | .bl b, h => .ok b h
  | _, _ => .bad
def dBl (m : DE) : DEn Bool := m.bind fun d _ h => blD d h
section
variable {X : Cx} {W : XWS} {pos : Pos} {a b c : Expr} {ma mb mc : DE} {ta tb : DEn Bool} {g g' : D2} {rest : List Expr}
theorem t_truth (ha : PE X a (TD (gx X) W ma)) (he : ∀ whole, isTrue a X.env whole = (do let v ← whole; standAt a.pos; holding [v] (truthy v))) : PT X a (TDB (gx X) W (dTru ma)) := by
  refine (pt_truth ha he).weak fun σ H Q q => ?_
  refine TG'.imp (TG'.split (rel := Rep (gx X)) q) ?_
  rintro x H1 ⟨μ1, d, env, h1, s1, e1, r1, p1⟩
  exact tru_ok' s1 r1 p1
theorem t_cmp {op : CmpOp} (ho : ∀ W, OpR X (compareOp op) (rD (gx X) W g)) (ha : PE X a (TD (gx X) W ma)) (hb : PE X b (TD (gx X) W mb)) (hm : behindInMarks op b = false) : PT X (.Compare a [op] [b] pos) (TDB (gx X) W (dBl (d2 g ma mb))) := by
  refine PT.weakS (fun σ => pt_cmpR (ho (W σ)) ha hb hm) fun σ H Q q => ?_
  obtain ⟨μ, env, h, s, e, p⟩ := q
  refine tOp_d (ma := ma) (mb := mb) ⟨μ, env, h, s, e, Post.imp (Post.bind (rel := Rep (gx X)) p) ?_⟩
  rintro v H1 ⟨μ1, d, h1, s1, x1, r1, p1⟩
  cases d with
  | bl k => exact ⟨_, r1.blv, p1.now s1 rfl⟩
  | _ => exact p1.elim
def dAnd (ma mb : DE) : DE := ma.bind fun d env h => (truD d h).bind fun k h1 => if k = true then mb env h1 else .ok d h1
def dOr (ma mb : DE) : DE := ma.bind fun d env h => (truD d h).bind fun k h1 => if k = true then .ok d h1 else mb env h1
def tAndB (ta tb : DEn Bool) : DEn Bool := ta.bind fun k env h => if k = true then tb env h else .ok false h
def tOrB (ta tb : DEn Bool) : DEn Bool := ta.bind fun k env h => if k = true then .ok true h else tb env h
def tNotB (ta : DEn Bool) : DEn Bool := ta.bind fun k _ h => .ok (!k) h
def dNot (ma : DE) : DE := ma.bind fun d _ h => (truD d h).bind fun k h1 => .ok (.bl (!k)) h1
theorem truD_heap {d : D} {h h1 : DH} {k : Bool} (e : truD d h = .ok k h1) : h1 = h := by
  unfold truD at e
  split at e <;> try (injection e with _ e2; exact e2.symm)
  · split at e
    · injection e with _ e2; exact e2.symm
    · cases e
  · split at e
    · injection e with _ e2; exact e2.symm
    · cases e
  · cases e
/-- a value's truth ahead of what follows -/
theorem tru_then {α β : Type} {rel : Hp → List Addr → α → β → Prop} {W : XW} {μ : List Addr} {H : Hp} {h : DH} {d : D} {v : V} {k : Bool → DH → R α} {Q : β → Hp → Prop} (S : SRep (gx X) μ h H) (r : Rep (gx X) H μ d v)
    (P : Post rel (gx X) W μ H ((truD d h).bind k) Q) : ∃ b, TruV X.K v H b ∧ Post rel (gx X) W μ H (k b h) Q := by
  cases e : truD d h with
  | bad => rw [e] at P; exact P.elim
  | exc c a h' =>
    exfalso
    unfold truD at e
    repeat (first | cases e | split at e)
  | ok b h1 =>
    have eh := truD_heap e
    subst eh
    rw [e] at P
    have := tru_ok' (W := W) (Q := fun k' _ => k' = b) S r (by rw [e]; intro μ' H' v' _ _ q; exact q.symm)
    obtain ⟨k', h1, h2⟩ := this
    subst h2
    exact ⟨k', h1, P⟩
theorem d_and (ha : PE X a (TD (gx X) W ma)) (hb : PE X (.BoolOp .And (b :: rest) pos) (TD (gx X) W mb)) : PE X (.BoolOp .And (a :: b :: rest) pos) (TD (gx X) W (dAnd ma mb)) := by
  refine (pe_andT ha hb).weak fun σ H Q q => ?_
  refine TG'.imp (TG'.split (rel := Rep (gx X)) q) ?_
  rintro x H1 ⟨μ1, d, env, h1, s1, e1, r1, p1⟩
  obtain ⟨k, hk, P⟩ := tru_then s1 r1 p1
  refine ⟨k, hk, ?_⟩
  cases k with
  | true => exact ⟨μ1, env, h1, s1, e1, P⟩
  | false => exact P.now s1 r1
theorem d_or (ha : PE X a (TD (gx X) W ma)) (hb : PE X (.BoolOp .Or (b :: rest) pos) (TD (gx X) W mb)) : PE X (.BoolOp .Or (a :: b :: rest) pos) (TD (gx X) W (dOr ma mb)) := by
  refine (pe_orT ha hb).weak fun σ H Q q => ?_
  refine TG'.imp (TG'.split (rel := Rep (gx X)) q) ?_
  rintro x H1 ⟨μ1, d, env, h1, s1, e1, r1, p1⟩
  obtain ⟨k, hk, P⟩ := tru_then s1 r1 p1
  refine ⟨k, hk, ?_⟩
  cases k with
  | true => exact P.now s1 r1
  | false => exact ⟨μ1, env, h1, s1, e1, P⟩
theorem d_one {op : BoolOp} (ha : PE X a (TD (gx X) W ma)) : PE X (.BoolOp op [a] pos) (TD (gx X) W ma) := pe_one ha
theorem d_not (ha : PE X a (TD (gx X) W ma)) : PE X (.UnaryOp .Not a pos) (TD (gx X) W (dNot ma)) := by
  refine (pe_notT ha).weak fun σ H Q q => ?_
  refine TG'.imp (TG'.split (rel := Rep (gx X)) q) ?_
  rintro x H1 ⟨μ1, d, env, h1, s1, e1, r1, p1⟩
  obtain ⟨k, hk, P⟩ := tru_then s1 r1 p1
  exact ⟨k, hk, P.now s1 (by unfold Rep; rfl)⟩
theorem w_and1 (ha : PT X a (TDB (gx X) W ta)) : PW X (.BoolOp .And [a] pos) (TDB (gx X) W ta) := pw_and1 ha
theorem w_or1 (ha : PT X a (TDB (gx X) W ta)) : PW X (.BoolOp .Or [a] pos) (TDB (gx X) W ta) := pw_or1 ha
theorem _root_.L2.PW.weak {X : Cx} {e : Expr} {t t' : TT} (h : PW X e t) (w : ∀ σ H Q, t' σ H Q → t σ H Q) : PW X e t' := ⟨fun wh pins s σ H Q I q => h.run wh pins s σ H Q I (w σ H Q q)⟩
theorem w_and (ha : PT X a (TDB (gx X) W ta)) (hb : PW X (.BoolOp .And (b :: rest) pos) (TDB (gx X) W tb)) : PW X (.BoolOp .And (a :: b :: rest) pos) (TDB (gx X) W (tAndB ta tb)) := by
  refine (pw_and ha hb).weak fun σ H Q q => ?_
  refine TG'.imp (TG'.split (rel := EqB) q) ?_
  rintro x H1 ⟨μ1, d, env, h1, s1, e1, r1, p1⟩
  have r1 : d = x := r1
  subst r1
  cases d with
  | true => exact ⟨μ1, env, h1, s1, e1, p1⟩
  | false => exact p1.now s1 rfl
theorem w_or (ha : PT X a (TDB (gx X) W ta)) (hb : PW X (.BoolOp .Or (b :: rest) pos) (TDB (gx X) W tb)) : PW X (.BoolOp .Or (a :: b :: rest) pos) (TDB (gx X) W (tOrB ta tb)) := by
  refine (pw_or ha hb).weak fun σ H Q q => ?_
  refine TG'.imp (TG'.split (rel := EqB) q) ?_
  rintro x H1 ⟨μ1, d, env, h1, s1, e1, r1, p1⟩
  have r1 : d = x := r1
  subst r1
  cases d with
  | true => exact p1.now s1 rfl
  | false => exact ⟨μ1, env, h1, s1, e1, p1⟩
theorem t_not (ha : PT X a (TDB (gx X) W ta)) : PT X (.UnaryOp .Not a pos) (TDB (gx X) W (tNotB ta)) := by
  refine (pt_not ha).weak fun σ H Q q => ?_
  refine TG'.imp (TG'.split (rel := EqB) q) ?_
  rintro x H1 ⟨μ1, d, env, h1, s1, e1, r1, p1⟩
  have r1 : d = x := r1
  subst r1
  exact p1.now s1 rfl
def dIte (ta : DEn Bool) (ma mb : DE) : DE := ta.bind fun k env h => if k = true then ma env h else mb env h
theorem d_ite (hc : PT X c (TDB (gx X) W ta)) (ha : PE X a (TD (gx X) W ma)) (hb : PE X b (TD (gx X) W mb)) : PE X (.IfExp c a b pos) (TD (gx X) W (dIte ta ma mb)) := by
  refine (pe_ifExp hc ha hb).weak fun σ H Q q => ?_
  refine TG'.imp (TG'.split (rel := EqB) q) ?_
  rintro x H1 ⟨μ1, d, env, h1, s1, e1, r1, p1⟩
  have r1 : d = x := r1
  subst r1
  cases d with
  | true => exact ⟨μ1, env, h1, s1, e1, p1⟩
  | false => exact ⟨μ1, env, h1, s1, e1, p1⟩
def d3 (g g' : D2) (ma mb mc : DE) : DE := ma.bind fun d => mb.bind fun e env h => (g d e h).bind fun r h1 => (blD r h1).bind fun k h2 => if k = true then (mc env h2).bind fun f h3 => g' e f h3 else .ok (.bl false) h2
theorem chain_d {σ : L2.St} {H : Hp} {Q : VK} (q : TD (gx X) W (d3 g g' ma mb mc) σ H Q) : tChain (rD (gx X) (W σ) g) (rD (gx X) (W σ) g') (TD (gx X) W ma) (TD (gx X) W mb) (TD (gx X) W mc) σ H Q := by
  refine TG'.imp (TG'.split (rel := Rep (gx X)) q) ?_
  rintro x H1 ⟨μ1, d, env, h1, s1, e1, r1, p1⟩
  refine ⟨μ1, env, h1, s1, e1, Post.imp (Post.bind (rel := Rep (gx X)) p1) ?_⟩
  rintro y H2 ⟨μ2, e, h2, s2, x2, r2, p2⟩
  refine ⟨μ2, h2, d, e, s2, r1.ext x2, r2, Post.imp (Post.bind (rel := Rep (gx X)) p2) ?_⟩
  rintro z H3 ⟨μ3, f, h3, s3, x3, r3, p3⟩
  cases f with
  | bl k =>
    refine ⟨k, r3.blv, ?_⟩
    cases k with
    | true =>
      refine ⟨μ3, env, h3, s3, (e1.ext x2).ext x3, Post.imp (Post.bind (rel := Rep (gx X)) p3) ?_⟩
      rintro w' H4 ⟨μ4, l, h4, s4, x4, r4, p4⟩
      exact ⟨μ4, h4, e, l, s4, (r2.ext x3).ext x4, r4, p4⟩
    | false => exact p3.now s3 (by unfold Rep; rfl)
  | _ => exact p3.elim
theorem d_chain {op op' : CmpOp} (ho : ∀ W, OpR X (compareOp op) (rD (gx X) W g)) (ho' : ∀ W, OpR X (compareOp op') (rD (gx X) W g')) (ha : PE X a (TD (gx X) W ma)) (hb : PE X b (TD (gx X) W mb)) (hc : PE X c (TD (gx X) W mc))
    (hm : lastMarks [op, op'] [b, c] = false) : PE X (.Compare a [op, op'] [b, c] pos) (TD (gx X) W (d3 g g' ma mb mc)) :=
  PE.weakS (fun σ => pe_chain (ho (W σ)) (ho' (W σ)) ha hb hc hm) fun σ H Q q => chain_d q
theorem t_chain {op op' : CmpOp} (ho : ∀ W, OpR X (compareOp op) (rD (gx X) W g)) (ho' : ∀ W, OpR X (compareOp op') (rD (gx X) W g')) (ha : PE X a (TD (gx X) W ma)) (hb : PE X b (TD (gx X) W mb)) (hc : PE X c (TD (gx X) W mc))
    (hm : lastMarks [op, op'] [b, c] = false) : PT X (.Compare a [op, op'] [b, c] pos) (TDB (gx X) W (dBl (d3 g g' ma mb mc))) := by
  refine PT.weakS (fun σ => pt_chain (ho (W σ)) (ho' (W σ)) ha hb hc hm) fun σ H Q q => ?_
  obtain ⟨μ, env, h, s, e, p⟩ := q
  refine chain_d (ma := ma) (mb := mb) ⟨μ, env, h, s, e, Post.imp (Post.bind (rel := Rep (gx X)) p) ?_⟩
  rintro v H1 ⟨μ1, d, h1, s1, x1, r1, p1⟩
  cases d with
  | bl k => exact ⟨_, r1.blv, p1.now s1 rfl⟩
  | _ => exact p1.elim
def dTup (ml : DEn (List D)) : DE := ml.bind fun ds _ h => if ds.length ≤ big then .ok (.tup ds) h else .bad
def dLst (ml : DEn (List D)) : DE := ml.bind fun ds _ h => if ds.length ≤ big then alloc (.lst ds) h else .bad
def dNil : DEn (List D) := fun _ h => .ok [] h
def dCons (m : DE) (ml : DEn (List D)) : DEn (List D) := m.bind fun d => ml.bind fun ds _ h => .ok (d :: ds) h
variable {es : List Expr} {ml : DEn (List D)}
theorem a_nil : PA X [] (TDL (gx X) W dNil) := pa_nil.weak fun σ H Q ⟨μ, env, h, s, e, p⟩ => p.now s (by unfold RepL; rfl)
theorem a_cons (ha : PE X a (TD (gx X) W ma)) (hr : PA X es (TDL (gx X) W ml)) (hs : starEach (a :: es) X.env = (false, eval a X.env) :: starEach es X.env) : PA X (a :: es) (TDL (gx X) W (dCons ma ml)) := by
  refine (pa_cons ha hr hs).weak fun σ H Q q => ?_
  refine TG'.imp (TG'.split (rel := Rep (gx X)) q) ?_
  rintro x H1 ⟨μ1, d, env, h1, s1, e1, r1, p1⟩
  refine ⟨μ1, env, h1, s1, e1, Post.imp (Post.bind (rel := RepL (gx X)) p1) ?_⟩
  rintro y H2 ⟨μ2, e, h2, s2, x2, r2, p2⟩
  exact p2.now s2 (by unfold RepL; exact ⟨x, y, rfl, r1.ext x2, r2⟩)
theorem d_tup {k} (hl : PA X es (TDL (gx X) W ml)) : PE X (.Tuple es k pos) (TD (gx X) W (dTup ml)) := by
  refine (pe_tup hl).weak fun σ H Q q => ?_
  refine TG'.imp (TG'.split (rel := RepL (gx X)) q) ?_
  rintro x H1 ⟨μ1, d, env, h1, s1, e1, r1, p1⟩
  split at p1
  · rename_i hl
    exact ⟨by rw [r1.length, big_eq]; exact hl, p1.tup s1 r1⟩
  · exact p1.elim
theorem d_lst (hl : PA X es (TDL (gx X) W ml)) : PE X (.List es pos) (TD (gx X) W (dLst ml)) := by
  refine (pe_lst hl).weak fun σ H Q q => ?_
  refine TG'.imp (TG'.split (rel := RepL (gx X)) q) ?_
  rintro x H1 ⟨μ1, d, env, h1, s1, e1, r1, p1⟩
  split at p1
  · rename_i hl
    exact ⟨by rw [r1.length, big_eq]; exact hl, p1.allocL s1 r1⟩
  · exact p1.elim
end
end DV
namespace DV
open PySem PySem.Spec PyProof.Rows L2
def lookN (k : D) : List (D × D) → Option D
  | [] => none
  | (x, d) :: r => if nkD x = nkD k then some d else lookN k r
def putN (k d : D) : List (D × D) → List (D × D)
  | [] => [(k, d)]
  | (x, e) :: r => if nkD x = nkD k then (x, d) :: r else (x, e) :: putN k d r
def mergeN (kvs more : List (D × D)) : List (D × D) := more.foldl (fun acc p => putN p.1 p.2 acc) kvs
theorem nkOk_some {d : D} (h : nkOk d = true) : ∃ ds k, d = .tup ds ∧ nkD d = some k ∧ k.depth ≤ 8 := by
  unfold nkOk at h
  split at h
  · rename_i ds
    split at h
    · rename_i k e
      exact ⟨ds, k, rfl, e, of_decide_eq_true h⟩
    · cases h
  · cases h
section
variable {X : Cx} {pins : List (Addr × Obj)} {σ : L2.St} {H : Hp} {s : Shared} {μ : List Addr} {h : DH}
mutual
theorem nk_is (I : Inv X pins σ H s) : ∀ (d : D) (k : NestedKey) (v : V) (u : Value), nkD d = some k → Rep (gx X) H μ d v → RelV v u → NestedIs s.heap k u
  | .non, k, v, u, e, r, rv => by
    unfold nkD at e; cases e
    rw [r.nonv] at rv
    cases rv
    exact .none
  | .int i, k, v, u, e, r, rv => by
    unfold nkD at e; cases e
    rw [r.intv] at rv
    obtain ⟨t, rfl⟩ := rv
    exact .int _ _
  | .str i, k, v, u, e, r, rv => by
    unfold nkD at e; cases e
    rw [r.strv] at rv
    obtain ⟨t, rfl⟩ := rv
    exact .text _ _
  | .tup ds, k, v, u, e, r, rv => by
    unfold nkD at e
    obtain ⟨ks, e1, rfl⟩ := Option.map_eq_some_iff.mp e
    obtain ⟨a, vs, rfl, q1, l1⟩ := r.tupl
    cases rv
    obtain ⟨its, rr, ⟨o, ho, hc, n, hd⟩, _⟩ := I.tuple q1
    exact .tup ho hc hd (nk_all I ds ks vs its e1 l1 rr)
  | .bl b, _, _, _, e, _, _ => by unfold nkD at e; cases e
  | .frz b, _, _, _, e, _, _ => by unfold nkD at e; cases e
  | .ref b, _, _, _, e, _, _ => by unfold nkD at e; cases e
  | .cdt b, _, _, _, e, _, _ => by unfold nkD at e; cases e
  | .fn b, _, _, _, e, _, _ => by unfold nkD at e; cases e
  | .ty b, _, _, _, e, _, _ => by unfold nkD at e; cases e
theorem nk_all (I : Inv X pins σ H s) : ∀ (ds : List D) (ks : List NestedKey) (vs : List V) (us : List Value), nkL ds = some ks → RepL (gx X) H μ ds vs → Vals vs us → NestedAll s.heap ks us
  | [], ks, vs, us, e, r, rv => by
    unfold nkL at e; cases e
    unfold RepL at r; subst r
    cases rv
    exact .nil
  | d :: ds, ks, vs, us, e, r, rv => by
    unfold nkL at e
    split at e
    · rename_i k ks' e1 e2
      cases e
      unfold RepL at r
      obtain ⟨v, t, rfl, r1, r2⟩ := r
      cases rv with
      | cons q1 q2 => exact .cons (nk_is I d k v _ e1 r1 q1) (nk_all I ds ks' t _ e2 r2 q2)
    · cases e
end
theorem RepN.is (I : Inv X pins σ H s) : ∀ {kvs : List (D × D)} {xs : List (NestedKey × Addr × Value)}, RepN (gx X) H μ kvs xs → ∀ x ∈ xs, (nestedKind X.prog X.w).is s.heap x.1 x.2.1
  | [], xs, r, x, m => by
    have r : xs = [] := r
    subst r
    cases m
  | p :: t, xs, ⟨k, a, u, v, ys, e1, e2, e3, e4, e5, e6, e7⟩, x, m => by
    subst e1
    rcases List.mem_cons.mp m with rfl | m
    · exact ⟨nk_is I _ _ _ _ e2 e4 rfl, e3⟩
    · exact RepN.is I e7 x m
theorem NkAt.of (I : Inv X pins σ H s) {a : Addr} {kvs : List (D × D)} {xs : List (NestedKey × Addr × Value)} (n : NkAt X.prog X.w a xs s.heap) (r : RepN (gx X) H μ kvs xs) : s.heap.DictOfH (nestedKind X.prog X.w) a xs := by
  obtain ⟨o, es, ep, h1, h2, h3, h4, h5⟩ := n
  exact ⟨o, es, ep, h1, h2, h3, h4, r.is I, h5⟩
/-- a dict with nested keys that can be read -/
def dkN (h : DH) (n : Nat) : Option (List (D × D)) := match h[n]? with
  | some (.dcn kvs) => some kvs
  | some (.lck kvs) => some kvs
  | some (.dct []) => some []
  | _ => none
theorem dkN_ok (I : Inv X pins σ H s) (S : SRep (gx X) μ h H) {n : Nat} {a : Addr} {kvs : List (D × D)} (e : dkN h n = some kvs) (ea : μ[n]? = some a) :
    ∃ xs, (a == sysModules) = false ∧ RepN (gx X) H μ kvs xs ∧ s.heap.DictOfH (nestedKind X.prog X.w) a xs := by
  unfold dkN at e
  split at e
  · rename_i kvs' e'
    cases e
    obtain ⟨z, xs, e1, e2⟩ := S.ob n _ a e' ea
    obtain ⟨q, _⟩ := (show ObjOk X.prog X.w H s.heap a (NkH X.prog X.w a xs) from I.hok a _ e1)
    exact ⟨xs, z, e2, NkAt.of I q e2⟩
  · rename_i kvs' e'
    cases e
    obtain ⟨z, o, xs, e1, e2⟩ := S.ob n _ a e' ea
    obtain ⟨_, q, _⟩ := (show ObjOk X.prog X.w H s.heap a (.frz o (NkH X.prog X.w a xs)) from I.hok a _ e1)
    exact ⟨xs, z, e2, NkAt.of I q e2⟩
  · rename_i e'
    cases e
    obtain ⟨kv, e1, e2⟩ := S.ob n _ a e' ea
    have e2 : kv = [] := e2
    subst e2
    obtain ⟨_, z, vs, rel, o, es, ep, ho, hx, hd, hes⟩ := (show ObjOk X.prog X.w H s.heap a (.dK []) from I.hok a _ e1)
    have hv : vs = [] := by
      have := Paired.length rel
      exact List.eq_nil_of_length_eq_zero this.symm
    subst hv
    have l1 := hes.2.1.length
    have he : es.toList = [] := List.eq_nil_of_length_eq_zero (by simpa using l1)
    exact ⟨[], z, rfl, o, es, ep, ho, hx, hd, by rw [he]; rfl, by simp, by simp⟩
  · cases e
end
section
variable {G : GX} {μ : List Addr} {H : Hp}
theorem atKey_cons {K : Type} [DecidableEq K] {x : K × Addr × Value} {xs : List (K × Addr × Value)} {k : K} : atKey (x :: xs) k = if x.1 = k then some x.2 else atKey xs k := by
  unfold atKey
  rw [List.find?_cons]
  by_cases e : x.1 = k
  · simp [e]
  · simp [e]
theorem RepN.look {k : D} {key : NestedKey} (hk : nkD k = some key) : ∀ {kvs : List (D × D)} {xs : List (NestedKey × Addr × Value)}, RepN G H μ kvs xs → (match lookN k kvs with
    | some d => ∃ p v, atKey xs key = some p ∧ RelV v p.2 ∧ Rep G H μ d v
    | none => atKey xs key = none)
  | [], xs, r => by
    have r : xs = [] := r
    subst r
    exact rfl
  | (x, d) :: t, xs, ⟨k', a, u, v, ys, e1, e2, e3, e4, e5, e6, e7⟩ => by
    subst e1
    have e2 : nkD x = some k' := e2
    unfold lookN
    rw [atKey_cons, e2, hk]
    by_cases e : k' = key
    · rw [if_pos (by rw [e]), if_pos e]
      exact ⟨_, v, rfl, e6, e5⟩
    · rw [if_neg (fun z => e (Option.some.inj z)), if_neg e]
      exact RepN.look hk e7
theorem storedH_cons {K : Type} [DecidableEq K] {x : K × Addr × Value} {xs : List (K × Addr × Value)} {k : K} {a : Addr} {u : Value} (nd : ((x :: xs).map (·.1)).Nodup) : storedH (x :: xs) k a u = if x.1 = k then (x.1, x.2.1, u) :: xs else x :: storedH xs k a u := by
  rw [List.map_cons, List.nodup_cons] at nd
  unfold storedH
  rw [atKey_cons]
  by_cases e : x.1 = k
  · rw [if_pos e, if_pos e]
    simp only [Option.isSome_some, if_true, List.map_cons]
    congr 1
    · unfold putAt; rw [if_pos e]
    · conv => rhs; rw [← List.map_id xs]
      refine List.map_congr_left fun y hy => ?_
      unfold putAt
      rw [if_neg]
      · rfl
      · intro z
        exact nd.1 (List.mem_map.mpr ⟨y, hy, z.trans e.symm⟩)
  · rw [if_neg e, if_neg e]
    split
    · rw [List.map_cons]
      congr 1
      unfold putAt
      rw [if_neg e]
    · rfl
theorem RepN.put {k d : D} {key : NestedKey} {a : Addr} {v : V} {u : Value} (hk : nkD k = some key) (hd : key.depth ≤ 8) (rk : Rep G H μ k (.ref a)) (rd : Rep G H μ d v) (ru : RelV v u) : ∀ {kvs : List (D × D)} {xs : List (NestedKey × Addr × Value)}, RepN G H μ kvs xs → (xs.map (·.1)).Nodup → RepN G H μ (putN k d kvs) (storedH xs key a u)
  | [], xs, r, _ => by
    have r : xs = [] := r
    subst r
    exact ⟨key, a, u, v, [], rfl, hk, hd, rk, rd, ru, rfl⟩
  | (x, e) :: t, xs, ⟨k', a', u', v', ys, e1, e2, e3, e4, e5, e6, e7⟩, nd => by
    subst e1
    have e2 : nkD x = some k' := e2
    unfold putN
    rw [storedH_cons nd, e2, hk]
    by_cases q : k' = key
    · rw [if_pos (by rw [q]), if_pos q]
      exact ⟨k', a', u, v, ys, rfl, e2, e3, e4, rd, ru, e7⟩
    · rw [if_neg (fun z => q (Option.some.inj z)), if_neg q]
      rw [List.map_cons, List.nodup_cons] at nd
      exact ⟨k', a', u', v', _, rfl, e2, e3, e4, e5, e6, RepN.put hk hd rk rd ru e7 nd.2⟩
theorem RepN.length : ∀ {kvs : List (D × D)} {xs : List (NestedKey × Addr × Value)}, RepN G H μ kvs xs → xs.length = kvs.length
  | [], xs, r => by
    have r : xs = [] := r
    subst r
    rfl
  | p :: t, xs, ⟨k', a', u', v', ys, e1, e2, e3, e4, e5, e6, e7⟩ => by
    subst e1
    simp [RepN.length e7]
end
def inTup (neg : Bool) (d : D) (n : Nat) (h : DH) (other : R D) : R D := match dkN h n with
  | some kvs => if nkOk d = true then .ok (.bl (if neg then !(lookN d kvs).isSome else (lookN d kvs).isSome)) h else .bad
  | none => other
section
variable {X : Cx} {pins : List (Addr × Obj)} {σ : L2.St} {H : Hp} {s : Shared} {μ : List Addr} {h : DH} {W : XW}
theorem o_inTup (hu : X.A.units + 65 < cLine) (neg : Bool) (I : Inv X pins σ H s) {x y : V} {v u : Value} {Q : VK} (rx : RelV x v) (ry : RelV y u) {d : D} {n : Nat} {kvs : List (D × D)} (e : dkN h n = some kvs) (S : SRep (gx X) μ h H) (r1 : Rep (gx X) H μ d x) (r2 : Rep (gx X) H μ (.ref n) y)
    (P : Post (Rep (gx X)) (gx X) W μ H (if nkOk d = true then .ok (.bl (if neg then !(lookN d kvs).isSome else (lookN d kvs).isSome)) h else .bad) Q) :
    wpAny (model X.prog X.w) X.A (compareOp (if neg then .NotIn else .In) v u) (EP X pins σ Q) X.xe s := by
  split at P
  · rename_i hk
    obtain ⟨ds, key, rfl, hk1, hk2⟩ := nkOk_some hk
    obtain ⟨a, ea, rfl⟩ := r2.ref
    cases ry
    obtain ⟨xs, z, rn, dd⟩ := dkN_ok I S e ea
    have kis := nk_is I _ _ _ _ hk1 r1 rx
    obtain ⟨b, vs, rfl, _, _⟩ := id r1.tupl
    cases rx
    have lk := RepN.look hk1 rn
    have eo : (atKey xs key).isSome = (lookN (.tup ds) kvs).isSome := by
      cases q : lookN (.tup ds) kvs with
      | none => rw [q] at lk; rw [lk]; rfl
      | some w => rw [q] at lk; obtain ⟨p, v, lk, _⟩ := lk; rw [lk]; rfl
    have room : (nestedKind X.prog X.w).room X.A.in1 := by
      show X.A.in1.units + 8 < cLine
      rw [Around.in1_units]
      omega
    cases neg with
    | false =>
      refine wpAny_in_heap room ⟨kis, hk2⟩ z dd ?_
      rw [eo]
      exact ⟨.bl _, H, I.tok _, rfl, P.now S (by unfold Rep; rfl)⟩
    | true =>
      refine notIn_keyed room ⟨kis, hk2⟩ z ⟨xs, dd, rfl⟩ ?_
      rw [valueAt_pairsH, Option.isSome_map, eo]
      exact ⟨.bl _, H, I.tok _, rfl, P.now S (by unfold Rep; rfl)⟩
  · exact P.elim
theorem ix_tupN (hu : X.A.units + 1 < cLine) (hu8 : X.A.units + 65 < cLine) {value slice : Expr} (I : Inv X pins σ H s) {x y : V} {v u : Value} {Q : VK} (rx : RelV x v) (ry : RelV y u) {d w : D} {n : Nat} {kvs : List (D × D)} (hk : nkOk d = true) (e : dkN h n = some kvs) (el : lookN d kvs = some w) (S : SRep (gx X) μ h H) (r1 : Rep (gx X) H μ (.ref n) x) (r2 : Rep (gx X) H μ d y)
    (P : Post (Rep (gx X)) (gx X) W μ H (.ok w h) Q) : wpAny (model X.prog X.w) X.A (getItem v u) (EP X pins σ Q) X.xe s := by
  obtain ⟨ds, key, rfl, hk1, hk2⟩ := nkOk_some hk
  obtain ⟨a, ea, rfl⟩ := r1.ref
  cases rx
  obtain ⟨xs, z, rn, dd⟩ := dkN_ok I S e ea
  have kis := nk_is I _ _ _ _ hk1 r2 ry
  obtain ⟨b, vs, rfl, _, _⟩ := id r2.tupl
  cases ry
  have lk := RepN.look hk1 rn
  rw [el] at lk
  obtain ⟨p, v, lk, rv, rw_⟩ := lk
  have room : (nestedKind X.prog X.w).room X.A.in1 := by
    show X.A.in1.units + 8 < cLine
    rw [Around.in1_units]
    omega
  exact wpAny_getItem_heap room ⟨kis, hk2⟩ dd lk ⟨v, H, I.tok _, rv, P.now S rw_⟩
end
end DV
namespace DV
open PySem PySem.Spec PyProof.Rows L2
def lookT (k : Txt) : List (Txt × D) → Option D
  | [] => none
  | (x, d) :: r => if x = k then some d else lookT k r
/-- the value at a key -/
def keq : D → D → Bool
  | .int i, .int j => decide (i = j)
  | .str s, .str t => decide (s = t)
  | _, _ => false
def lookK (k : D) : List (D × D) → Option D
  | [] => none
  | (x, d) :: r => if keq x k = true then some d else lookK k r
def putD (k d : D) : List (D × D) → List (D × D)
  | [] => [(k, d)]
  | (x, e) :: r => if keq x k = true then (x, d) :: r else (x, e) :: putD k d r
def negIf (n b : Bool) : Bool := if n then !b else b
def inSq (neg : Bool) : D2 := fun d e h => match toPy h 60 d, toPy h 60 e with
    | some p, some (.list qs) => if SeqAt.shaped p = true ∧ SeqAt.shaped (.list qs) = true then .ok (.bl (negIf neg (qs.any fun z => PyData.eqv z p))) h else .bad
    | some p, some (.tuple qs) => if SeqAt.shaped p = true ∧ SeqAt.shaped (.tuple qs) = true then .ok (.bl (negIf neg (qs.any fun z => PyData.eqv z p))) h else .bad
    | _, _ => .bad
def inRef (neg : Bool) (d : D) (n : Nat) (h : DH) : R D := match h[n]? with
  | some (.dct kvs) => .ok (.bl (negIf neg (lookK d kvs).isSome)) h
  | _ => inSq neg d (.ref n) h
def inB (neg : Bool) : D2
  | .str [c], .str t, h => .ok (.bl (negIf neg (decide (c ∈ t)))) h
  | .str k, .cdt kvs, h => .ok (.bl (negIf neg (lookT k kvs).isSome)) h
  | .str k, .ref n, h => inRef neg (.str k) n h
  | .int k, .ref n, h => inRef neg (.int k) n h
  | .tup ks, .ref n, h => inTup neg (.tup ks) n h (inSq neg (.tup ks) (.ref n) h)
  | d, e, h => inSq neg d e h
theorem lookT_none {k : Txt} : ∀ {kvs : List (Txt × D)}, lookT k kvs = none → k ∉ kvs.map (·.1)
  | [], _ => by simp
  | (x, d) :: r, h => by
    unfold lookT at h
    by_cases e : x = k
    · rw [if_pos e] at h; cases h
    · rw [if_neg e] at h
      have := lookT_none h
      simp only [List.map_cons, List.mem_cons, not_or]
      exact ⟨fun z => e z.symm, this⟩
theorem sOf_inj {s t : Txt} (h : sOf s = sOf t) : s = t := by
  have : (sOf s).cps.toList = (sOf t).cps.toList := by rw [h]
  simpa [sOf] using this
theorem mem_sOf {k : Txt} {ks : List Txt} (h : k ∉ ks) : sOf k ∉ ks.map sOf := fun m => by
  obtain ⟨x, hx, e⟩ := List.mem_map.mp m
  exact h (sOf_inj e ▸ hx)
/-- a written dict's entry -/
theorem RepV.look {G : GX} {μ : List Addr} {H : Hp} {a : Addr} {k : Txt} {d : D} : ∀ {kvs : List (Txt × D)} {us : List Value} {vs : List V}, (∀ (i : Nat) k u, (kvs.map (·.1))[i]? = some k → us[i]? = some u → PySem.W.nsIn G.K a (sOf k) = some (some u)) →
    Vals vs us → RepV G H μ kvs vs → lookT k kvs = some d → ∃ u v, PySem.W.nsIn G.K a (sOf k) = some (some u) ∧ RelV v u ∧ Rep G H μ d v
  | [], us, vs, c, rv, r, h => by cases h
  | (x, d') :: t, us, vs, c, rv, r, h => by
    unfold RepV at r
    obtain ⟨v, r', rfl, r1, r2⟩ := r
    cases rv with
    | cons q1 q2 =>
      rename_i u us'
      unfold lookT at h
      by_cases e : x = k
      · rw [if_pos e] at h
        cases h
        exact ⟨u, v, by rw [← e]; exact c 0 x u rfl rfl, q1, r1⟩
      · rw [if_neg e] at h
        exact RepV.look (fun i k u h1 h2 => c (i + 1) k u (by simpa using h1) (by simpa using h2)) q2 r2 h
theorem Rep.cdtv {G : GX} {μ : List Addr} {H : Hp} {kvs : List (Txt × D)} {v : V} (r : Rep G H μ (.cdt kvs) v) : ∃ a us vs, v = .ref a ∧ CDict G a (kvs.map (·.1)) us ∧ Vals vs us ∧ RepV G H μ kvs vs := by unfold Rep at r; exact r
theorem CDict.isIn {G : GX} {μ : List Addr} {H : Hp} {a : Addr} {kvs : List (Txt × D)} {us : List Value} {vs : List V} (c : CDict G a (kvs.map (·.1)) us) (rv : Vals vs us) (r : RepV G H μ kvs vs) (k : Txt) :
    ∃ o, PySem.W.nsIn G.K a (sOf k) = some o ∧ o.isSome = (lookT k kvs).isSome := by
  cases e : lookT k kvs with
  | none => exact ⟨none, c.out _ (mem_sOf (lookT_none e)), rfl⟩
  | some d =>
    obtain ⟨u, v, h1, _, _⟩ := RepV.look c.at_ rv r e
    exact ⟨_, h1, rfl⟩
theorem keq_key {x k : D} {a b : Key} (ha : keyD x = some a) (hb : keyD k = some b) : keq x k = decide (a = b) := by
  cases x <;> cases k <;> cases ha <;> cases hb
  · rename_i i j
    show decide (i = j) = _
    exact decide_eq_decide.mpr ⟨fun e => by rw [e], fun e => Sum.inl.inj e⟩
  · rw [decide_eq_false fun z => nomatch z]; rfl
  · rw [decide_eq_false fun z => nomatch z]; rfl
  · rename_i i j
    show decide (i = j) = _
    exact decide_eq_decide.mpr ⟨fun e => by rw [e], fun e => sOf_inj (Sum.inr.inj e)⟩
section
variable {G : GX} {μ : List Addr} {H : Hp}
theorem RepK.look {k : D} {key : Key} (hk : keyD k = some key) : ∀ {kvs : List (D × D)} {kv : List (Key × V)}, RepK G H μ kvs kv → (match lookK k kvs with
    | some d => ∃ v, valV kv key = some v ∧ Rep G H μ d v
    | none => valV kv key = none)
  | [], kv, r => by
    have r : kv = [] := r
    subst r
    exact rfl
  | (x, d) :: t, kv, r => by
    obtain ⟨a, v, u, rfl, h1, h2, h3⟩ := r
    unfold lookK
    have h1 : keyD x = some a := h1
    rw [keq_key h1 hk]
    by_cases e : a = key
    · rw [if_pos (decide_eq_true e)]
      exact ⟨v, valV_pos e, h2⟩
    · rw [if_neg (by rw [decide_eq_true_eq]; exact e)]
      have ih := RepK.look hk h3
      cases q : lookK k t with
      | none => rw [q] at ih; exact (valV_neg e).trans ih
      | some d' =>
        rw [q] at ih
        obtain ⟨v', z1, z2⟩ := ih
        exact ⟨v', (valV_neg e).trans z1, z2⟩
theorem RepK.length : ∀ {kvs : List (D × D)} {kv : List (Key × V)}, RepK G H μ kvs kv → kv.length = kvs.length
  | [], kv, r => by
    have r : kv = [] := r
    rw [r]; rfl
  | _ :: t, kv, r => by
    obtain ⟨a, v, u, rfl, h1, h2, h3⟩ := r
    rw [List.length_cons, List.length_cons, RepK.length h3]
theorem RepK.some_ {k : D} {key : Key} {d : D} {kvs : List (D × D)} {kv : List (Key × V)} (r : RepK G H μ kvs kv) (hk : keyD k = some key) (e : lookK k kvs = some d) : ∃ v, valV kv key = some v ∧ Rep G H μ d v := by
  have := r.look hk
  rw [e] at this
  exact this
theorem RepK.isSome {k : D} {key : Key} {kvs : List (D × D)} {kv : List (Key × V)} (r : RepK G H μ kvs kv) (hk : keyD k = some key) : (valV kv key).isSome = (lookK k kvs).isSome := by
  have := r.look hk
  cases e : lookK k kvs with
  | none => rw [e] at this; rw [this]; rfl
  | some d => rw [e] at this; obtain ⟨v, z, _⟩ := this; rw [z]; rfl
theorem Rep.key {k : D} {key : Key} {v : V} (hk : keyD k = some key) (r : Rep G H μ k v) : v = kV key := by
  cases k <;> cases hk
  · exact r.intv
  · exact r.strv
end
section
variable {X : Cx} {W : XW}
theorem room_in' {p q : PyData} (hs : SeqAt.shaped p = true) (hu : X.A.units + 65 < cLine) (n : Nat) : X.A.units + 1 + min n p.depth < cLine := by
  have := SeqAt.depth_of_shaped hs
  omega
def opIn (neg : Bool) : CmpOp := if neg then .NotIn else .In
theorem o_inSq (hu : X.A.units + 65 < cLine) (neg : Bool) : OpR X (compareOp (opIn neg)) (rD (gx X) W (inSq neg)) := by
  intro pins s σ H x y v u Q I rx ry ⟨μ, h, d, e, S, r1, r2, P⟩
  unfold inSq at P
  split at P
  · rename_i p qs e1 e2
    split at P
    · rename_i hs
      cases neg with
      | false => exact op_inD hu pins s σ H x y v u Q I rx ry ⟨p, qs, toPy_ok S _ _ _ _ e1 r1, toPy_ok S _ _ _ _ e2 r2, hs.1, hs.2, P.now S (by unfold Rep; rfl)⟩
      | true => exact op_notInD hu pins s σ H x y v u Q I rx ry ⟨p, qs, toPy_ok S _ _ _ _ e1 r1, toPy_ok S _ _ _ _ e2 r2, hs.1, hs.2, P.now S (by unfold Rep; rfl)⟩
    · exact P.elim
  · rename_i p qs e1 e2
    split at P
    · rename_i hs
      obtain ⟨as, ra⟩ := Dp.reads I p x v (toPy_ok S _ _ _ _ e1 r1) rx
      obtain ⟨bs, rb⟩ := Dp.reads I (.tuple qs) y u (toPy_ok S _ _ _ _ e2 r2) ry
      cases neg with
      | false => exact SeqAt.in_tuple_reads rb ra (SeqAt.canLay_of_shaped hs.2) (SeqAt.canLay_of_shaped hs.1) (room_in' (q := p) hs.1 hu _) ⟨.bl _, H, I, rfl, P.now S (by unfold Rep; rfl)⟩
      | true => exact SeqAt.notIn_tuple_reads rb ra (SeqAt.canLay_of_shaped hs.2) (SeqAt.canLay_of_shaped hs.1) (room_in' (q := p) hs.1 hu _) ⟨.bl _, H, I, rfl, P.now S (by unfold Rep; rfl)⟩
    · exact P.elim
  · exact P.elim
theorem o_inRef (hu : X.A.units + 65 < cLine) (neg : Bool) {pins : List (Addr × Obj)} {s : Shared} {σ : L2.St} {H : Hp} {x y : V} {v u : Value} {Q : VK} (I : Inv X pins σ H s) (rx : RelV x v) (ry : RelV y u) {μ : List Addr} {h : DH} {d : D} {n : Nat} {key : Key}
    (hk : keyD d = some key) (S : SRep (gx X) μ h H) (r1 : Rep (gx X) H μ d x) (r2 : Rep (gx X) H μ (.ref n) y) (P : Post (Rep (gx X)) (gx X) W μ H (inRef neg d n h) Q) :
    wpAny (model X.prog X.w) X.A (compareOp (opIn neg) v u) (EP X pins σ Q) X.xe s := by
  unfold inRef at P
  split at P
  · rename_i kvs e
    obtain ⟨a, ea, rfl⟩ := r2.ref
    obtain ⟨kv, q1, q2⟩ := S.ob n _ a e ea
    cases ry
    have ex := r1.key hk
    subst ex
    have hy := q2.isSome hk
    cases neg with
    | false => exact d_in (by omega) I (DGet.k (k := key) q1) rx fun s' I' => ⟨.bl _, H, I', rfl, P.now S (by unfold Rep; show V.bl _ = V.bl _; rw [hy]; rfl)⟩
    | true => exact d_notIn (by omega) I (DGet.k (k := key) q1) rx fun s' I' => ⟨.bl _, H, I', rfl, P.now S (by unfold Rep; show V.bl _ = V.bl _; rw [hy]; rfl)⟩
  · exact o_inSq hu neg pins s σ H x y v u Q I rx ry ⟨μ, h, d, .ref n, S, r1, r2, P⟩
theorem o_inB (hu : X.A.units + 65 < cLine) (neg : Bool) : OpR X (compareOp (opIn neg)) (rD (gx X) W (inB neg)) := by
  intro pins s σ H x y v u Q I rx ry ⟨μ, h, d, e, S, r1, r2, P⟩
  unfold inB at P
  split at P
  · rename_i h c t
    cases neg with
    | false =>
      refine op_in_sign pins s σ H x y v u Q I rx ry ⟨c, sOf t, r1.strv, r2.strv, P.now S ?_⟩
      unfold Rep
      exact congrArg V.bl (decide_eq_decide.mpr Iff.rfl)
    | true =>
      refine op_notIn_sign pins s σ H x y v u Q I rx ry ⟨c, sOf t, r1.strv, r2.strv, P.now S ?_⟩
      unfold Rep
      exact congrArg (fun z => V.bl (!z)) (decide_eq_decide.mpr Iff.rfl)
  · rename_i h k kvs
    obtain ⟨a, us, vs, rfl, cd, rv, rr⟩ := r2.cdtv
    obtain ⟨es, n, kd⟩ := cd.kd
    obtain ⟨o, h1, h2⟩ := cd.isIn rv rr k
    cases neg with
    | false =>
      refine op_in_kd (X := X) kd pins s σ H x _ v u Q I rx ry ⟨sOf k, o, r1.strv, rfl, h1, P.now S ?_⟩
      unfold Rep
      rw [h2]; rfl
    | true =>
      refine op_notIn_kd (X := X) kd pins s σ H x _ v u Q I rx ry ⟨sOf k, o, r1.strv, rfl, h1, P.now S ?_⟩
      unfold Rep
      rw [h2]; rfl
  · exact o_inRef hu neg I rx ry rfl S r1 r2 P
  · exact o_inRef hu neg I rx ry rfl S r1 r2 P
  · rename_i h ks n
    unfold inTup at P
    split at P
    · rename_i kvs e
      have z := o_inTup hu neg I rx ry e S r1 r2 P
      unfold opIn
      exact z
    · exact o_inSq hu neg pins s σ H x y v u Q I rx ry ⟨μ, _, _, _, S, r1, r2, P⟩
  · exact o_inSq hu neg pins s σ H x y v u Q I rx ry ⟨μ, _, _, _, S, r1, r2, P⟩
theorem o_in (hu : X.A.units + 65 < cLine) : OpR X (compareOp .In) (rD (gx X) W (inB false)) := o_inB hu false
theorem o_notin (hu : X.A.units + 65 < cLine) : OpR X (compareOp .NotIn) (rD (gx X) W (inB true)) := o_inB hu true
end
def ixD : D2
  | .tup ds, .int i, h => match atI ds i with
    | some d => .ok d h
    | none => .bad
  | .frz ds, .int i, h => match atI ds i with
    | some d => .ok d h
    | none => .bad
  | .str t, .int i, h => if t.length ≤ big then match atI t i with
    | some c => .ok (.str [c]) h
    | none => .bad
    else .bad
  | .ref n, .int i, h => match h[n]? with
    | some (.lst ds) => match atI ds i with
      | some d => .ok d h
      | none => .bad
    | _ => .bad
  | .cdt kvs, .str k, h => match lookT k kvs with
    | some d => .ok d h
    | none => .bad
  | .ref n, .str k, h => match h[n]? with
    | some (.dct kvs) => match lookK (.str k) kvs with
      | some d => .ok d h
      | none => .bad
    | _ => .bad
  | .ref n, .tup ks, h => match dkN h n with
    | some kvs => if nkOk (.tup ks) = true then (match lookN (.tup ks) kvs with
      | some d => .ok d h
      | none => .bad) else .bad
    | none => .bad
  | _, _, _ => .bad
theorem RepL.atI {G : GX} {μ : List Addr} {H : Hp} {ds : List D} {vs : List V} {i : Int} {d : D} (r : RepL G H μ ds vs) (h : L2.atI ds i = some d) : ∃ v, L2.atI vs i = some v ∧ Rep G H μ d v := by
  unfold L2.atI at h ⊢
  rw [r.length]
  cases e : ixN ds.length i with
  | none => rw [e] at h; cases h
  | some j => rw [e] at h; exact r.get h
section
variable {X : Cx} {W : XW}
theorem o_ix (hu : X.A.units + 1 < cLine) (hu8 : X.A.units + 65 < cLine) : IxR X (rD (gx X) W ixD) := by
  intro value slice pins s σ H x y v u Q I rx ry ⟨μ, h, d, e, S, r1, r2, P⟩ hs
  unfold ixD at P
  split at P
  · rename_i h ds i
    split at P
    · rename_i d' hd
      obtain ⟨a, vs, rfl, q1, l1⟩ := r1.tupl
      obtain ⟨w, h1, h2⟩ := l1.atI hd
      exact ix_tup value slice pins s σ H _ y v u Q I rx ry ⟨a, vs, i, w, rfl, r2.intv, q1, h1, P.now S h2⟩ hs
    · exact P.elim
  · rename_i h ds i
    split at P
    · rename_i d' hd
      obtain ⟨a, vs, rfl, q1, l1⟩ := r1.frzl
      obtain ⟨w, h1, h2⟩ := l1.atI hd
      exact ix_list value slice pins s σ H _ y v u Q I rx ry ⟨a, vs, i, w, rfl, r2.intv, q1.sq, h1, P.now S h2⟩ hs
    · exact P.elim
  · rename_i h t i
    split at P
    · rename_i hl
      split at P
      · rename_i c hc
        exact ix_str value slice pins s σ H _ y v u Q I rx ry ⟨sOf t, i, c, r1.strv, r2.intv, by rw [sOf_len, big_eq]; exact hl, by simpa [sOf] using hc, P.now S (by unfold Rep; rfl)⟩ hs
      · exact P.elim
    · exact P.elim
  · rename_i h n i
    split at P
    · rename_i ds e'
      split at P
      · rename_i d' hd
        obtain ⟨a, ea, rfl⟩ := r1.ref
        obtain ⟨vs, q1, l1⟩ := S.list e' ea
        obtain ⟨w, h1, h2⟩ := l1.atI hd
        exact ix_list value slice pins s σ H _ y v u Q I rx ry ⟨a, vs, i, w, rfl, r2.intv, .of q1, h1, P.now S h2⟩ hs
      · exact P.elim
    · exact P.elim
  · rename_i h kvs k
    split at P
    · rename_i d' hd
      obtain ⟨a, us, vs, rfl, cd, rv, rr⟩ := r1.cdtv
      obtain ⟨es, n, kd⟩ := cd.kd
      obtain ⟨u0, v0, h1, h2, h3⟩ := RepV.look cd.at_ rv rr hd
      have rx' := rx
      cases rx
      refine tail_any (kd_type kd I) slot_dict_getitem.lookup ?_ hs
      exact op_item_kd (X := X) kd pins s σ H _ y _ u Q I rx' ry ⟨sOf k, u0, v0, rfl, r2.strv, h1, h2, P.now S h3⟩
    · exact P.elim
  · rename_i h n k
    split at P
    · rename_i kvs e'
      split at P
      · rename_i d' hd
        obtain ⟨a, ea, rfl⟩ := r1.ref
        obtain ⟨kv, q1, q2⟩ := S.ob n _ a e' ea
        obtain ⟨w, h1, h2⟩ := q2.some_ (k := .str k) (key := .inr (sOf k)) rfl hd
        cases rx
        rw [r2.strv] at ry
        refine tail_any (dict_typeIs I (DGet.k (k := Sum.inr (sOf k)) q1)) slot_dict_getitem.lookup ?_ hs
        have g := DGet.k (k := Sum.inr (sOf k)) q1
        rw [h1] at g
        exact d_getItem hu I g ry fun w' s' I' rw' => ⟨w, H, I', rw', P.now S h2⟩
      · exact P.elim
    · exact P.elim
  · rename_i h n ks
    split at P
    · rename_i kvs e'
      split at P
      · rename_i hk
        split at P
        · rename_i d' hd
          obtain ⟨a, ea, rfl⟩ := id r1.ref
          obtain ⟨xs, z, rn, dd⟩ := dkN_ok I S e' ea
          have rx' := rx
          cases rx
          refine tail_any dd.typeIs slot_dict_getitem.lookup ?_ hs
          exact ix_tupN hu hu8 (value := value) (slice := slice) I rx' ry hk e' hd S r1 r2 P
        · exact P.elim
      · exact P.elim
    · exact P.elim
  · exact P.elim
end
def cut {α : Type} (xs : List α) (lo hi : Option Int) : List α := (xs.drop (HT.sIx xs.length 0 lo)).take (HT.sIx xs.length xs.length hi - HT.sIx xs.length 0 lo)
def slD : D → Option Int → Option Int → DH → R D
  | .tup ds, lo, hi, h => .ok (.tup (cut ds lo hi)) h
  | .frz ds, lo, hi, h => alloc (.lst (cut ds lo hi)) h
  | .str t, lo, hi, h => if t.length ≤ big then .ok (.str (cut t lo hi)) h else .bad
  | .ref n, lo, hi, h => match h[n]? with
    | some (.lst ds) => alloc (.lst (cut ds lo hi)) h
    | _ => .bad
  | _, _, _, _ => .bad
theorem RepL.drop {G : GX} {μ : List Addr} {H : Hp} : ∀ {ds : List D} {vs : List V} (n : Nat), RepL G H μ ds vs → RepL G H μ (ds.drop n) (vs.drop n)
  | _, _, 0, r => r
  | [], vs, n + 1, r => by unfold RepL at r; subst r; unfold RepL; rfl
  | d :: ds, vs, n + 1, r => by unfold RepL at r; obtain ⟨v, t, rfl, _, r2⟩ := r; exact RepL.drop n r2
theorem RepL.take {G : GX} {μ : List Addr} {H : Hp} : ∀ {ds : List D} {vs : List V} (n : Nat), RepL G H μ ds vs → RepL G H μ (ds.take n) (vs.take n)
  | _, _, 0, r => by unfold RepL; rfl
  | [], vs, n + 1, r => by unfold RepL at r; subst r; unfold RepL; rfl
  | d :: ds, vs, n + 1, r => by
    unfold RepL at r
    obtain ⟨v, t, rfl, r1, r2⟩ := r
    show RepL G H μ (d :: ds.take n) (v :: t.take n)
    unfold RepL
    exact ⟨v, _, rfl, r1, RepL.take n r2⟩
theorem RepL.cut {G : GX} {μ : List Addr} {H : Hp} {ds : List D} {vs : List V} (r : RepL G H μ ds vs) (lo hi : Option Int) : RepL G H μ (DV.cut ds lo hi) (cutV vs lo hi) := by
  unfold DV.cut cutV
  rw [r.length]
  exact (r.drop _).take _
def rSD (G : GX) (W : XW) : V → Option Int → Option Int → Hp → VK → Prop := fun x lo hi H Q => ∃ μ h d, SRep G μ h H ∧ Rep G H μ d x ∧ Post (Rep G) G W μ H (slD d lo hi h) Q
section
variable {X : Cx} {W : XW}
theorem cut_all {α : Type} {xs : List α} {lo hi : Option Int} (h : HT.sIx xs.length 0 lo = 0 ∧ HT.sIx xs.length xs.length hi = xs.length) : cut xs lo hi = xs := by
  unfold cut; rw [h.1, h.2]; simp
theorem o_sl : SlR X (rSD (gx X) W) := by
  intro pins s σ H x v vl vu lo hi sl Q I rx hs pl pu ⟨μ, h, d, S, r1, P⟩
  unfold slD at P
  split at P
  · rename_i h ds
    obtain ⟨a, vs, rfl, q1, l1⟩ := r1.tupl
    refine sl_tupA pins s σ H _ v vl vu lo hi sl Q I rx hs pl pu ⟨a, vs, rfl, q1, fun z => ?_, fun z => P.tup S (l1.cut lo hi)⟩
    rw [l1.length] at z
    rw [cut_all z] at P
    exact P.now S (by unfold Rep; exact ⟨a, vs, rfl, q1, l1⟩)
  · rename_i h ds
    obtain ⟨a, vs, rfl, q1, l1⟩ := r1.frzl
    exact sl_list pins s σ H _ v vl vu lo hi sl Q I rx hs pl pu ⟨a, vs, rfl, q1.sq, P.allocL S (l1.cut lo hi)⟩
  · rename_i h t
    split at P
    · rename_i hl
      refine sl_str pins s σ H _ v vl vu lo hi sl Q I rx hs pl pu ⟨sOf t, r1.strv, by rw [sOf_len, big_eq]; exact hl, P.now S ?_⟩
      unfold Rep
      simp [cutS, sOf, DV.cut, Str.length]
    · exact P.elim
  · rename_i h n
    split at P
    · rename_i ds e'
      obtain ⟨a, ea, rfl⟩ := r1.ref
      obtain ⟨vs, q1, l1⟩ := S.list e' ea
      exact sl_list pins s σ H _ v vl vu lo hi sl Q I rx hs pl pu ⟨a, vs, rfl, .of q1, P.allocL S (l1.cut lo hi)⟩
    · exact P.elim
  · exact P.elim
end
section
variable {X : Cx} {W : XWS} {pos p2 : Pos} {e a : Expr} {lo hi : Option Expr} {m ml mh : DE}
/-- a part of a slice -/
abbrev EqO : Hp → List Addr → Option Int → Option Int → Prop := fun _ _ b c => b = c
def pNone : DEn (Option Int) := fun _ h => .ok none h
def pSome (m : DE) : DEn (Option Int) := m.bind fun d _ h => match d with
  | .int i => .ok (some i) h
  | _ => .bad
abbrev TDO (G : GX) (W : XWS) (m : DEn (Option Int)) : TO := TG' EqO G W m
theorem p_none : PO X none (TDO (gx X) W pNone) := by
  refine ⟨fun pins s σ H Q I q => po_none.run pins s σ H Q I ?_⟩
  obtain ⟨μ, env, h, S, e, p⟩ := q
  exact p.now S rfl
theorem p_some (ha : PE X a (TD (gx X) W m)) : PO X (some a) (TDO (gx X) W (pSome m)) := by
  refine ⟨fun pins s σ H Q I q => (po_some ha).run pins s σ H Q I ?_⟩
  refine TG'.imp (TG'.split (rel := Rep (gx X)) q) ?_
  rintro x H1 ⟨μ1, d, env, h1, s1, e1, r1, p1⟩
  cases d with
  | int i => exact ⟨i, r1.intv, p1.now s1 rfl⟩
  | _ => exact p1.elim
def dSl (m : DE) (pl ph : DEn (Option Int)) : DE := m.bind fun d => pl.bind fun lo => ph.bind fun hi _ h => slD d lo hi h
theorem d_sl {pl ph : DEn (Option Int)} (ha : PE X e (TD (gx X) W m)) (hl : PO X lo (TDO (gx X) W pl)) (hh : PO X hi (TDO (gx X) W ph)) : PE X (.Subscript e (.Slice lo hi none p2) pos) (TD (gx X) W (dSl m pl ph)) := by
  refine PE.weakS (fun σ => pe_slice (o_sl (W := W σ)) ha hl hh) fun σ H Q q => ?_
  refine TG'.imp (TG'.split (rel := Rep (gx X)) q) ?_
  rintro x H1 ⟨μ1, d, env, h1, s1, e1, r1, p1⟩
  refine ⟨μ1, env, h1, s1, e1, Post.imp (Post.bind (rel := EqO) p1) ?_⟩
  rintro l H2 ⟨μ2, l', h2, s2, x2, r2, p2⟩
  obtain rfl : l' = l := r2
  refine ⟨μ2, env, h2, s2, e1.ext x2, Post.imp (Post.bind (rel := EqO) p2) ?_⟩
  rintro u H3 ⟨μ3, u', h3, s3, x3, r3, p3⟩
  obtain rfl : u' = u := r3
  exact ⟨μ3, h3, d, s3, (r1.ext x2).ext x3, p3⟩
end
end DV
namespace DV
open PySem PySem.Spec PyProof.Rows L2
abbrev DF := List D → DH → R D
def rCD (G : GX) (W : XW) (g : DF) : List V → Hp → VK → Prop := fun vs H Q => ∃ μ h ds, SRep G μ h H ∧ RepL G H μ ds vs ∧ Post (Rep G) G W μ H (g ds h) Q
def dCall (ml : DEn (List D)) (g : DF) : DE := ml.bind fun ds _ h => g ds h
theorem tCB_d {G : GX} {W : XWS} {g : DF} {ml : DEn (List D)} {σ : L2.St} {H : Hp} {Q : VK} (q : TD G W (dCall ml g) σ H Q) : tCB (rCD G (W σ) g) (TDL G W ml) σ H Q := by
  refine TG'.imp (TG'.split (rel := RepL G) q) ?_
  rintro x H1 ⟨μ1, d, env, h1, s1, e1, r1, p1⟩
  exact ⟨μ1, h1, d, s1, r1, p1⟩
section
variable {X : Cx} {W : XWS} {g : DF} {ml : DEn (List D)} {id T : String} {x : Str} {p pos : Pos} {e : Expr} {es : List Expr}
theorem d_callB (hc : ∀ W, CallR X (.builtin id) (rCD (gx X) W g)) (hg : Gl X x) (hm : X.mg x = none) (hv : bootBuiltins x = some (.builtin id)) (ha : PA X (e :: es) (TDL (gx X) W ml)) (hn : x ≠ "__name__") (hdb : (x == ("__debug__" : Str)) = false)
    (he : starEach (e :: es) X.env = (false, eval e X.env) :: starEach es X.env) (hpl : (backTo pos (starEach es X.env)).any (·.1) = false) : PE X (.Call (.Name x p) (e :: es) [] pos) (TD (gx X) W (dCall ml g)) :=
  PE.weakS (fun σ => pe_callB (hc (W σ)) hg hm hv ha hn hdb he hpl) fun _ _ _ q => tCB_d q
theorem d_callTy (hc : ∀ W, CallR X (.type T) (rCD (gx X) W g)) (hg : Gl X x) (hm : X.mg x = none) (hv : bootBuiltins x = some (.type T)) (ha : PA X (e :: es) (TDL (gx X) W ml)) (hn : x ≠ "__name__") (hdb : (x == ("__debug__" : Str)) = false)
    (he : starEach (e :: es) X.env = (false, eval e X.env) :: starEach es X.env) (hpl : (backTo pos (starEach es X.env)).any (·.1) = false) : PE X (.Call (.Name x p) (e :: es) [] pos) (TD (gx X) W (dCall ml g)) :=
  PE.weakS (fun σ => pe_callTy (hc (W σ)) hg hm hv ha hn hdb he hpl) fun _ _ _ q => tCB_d q
end
/-- one value -/
theorem RepL.one {G : GX} {μ : List Addr} {H : Hp} {d : D} {vs : List V} (r : RepL G H μ [d] vs) : ∃ v, vs = [v] ∧ Rep G H μ d v := by
  unfold RepL at r
  obtain ⟨v, t, rfl, r1, r2⟩ := r
  unfold RepL at r2
  subst r2
  exact ⟨v, rfl, r1⟩
theorem RepL.two {G : GX} {μ : List Addr} {H : Hp} {d e : D} {vs : List V} (r : RepL G H μ [d, e] vs) : ∃ v u, vs = [v, u] ∧ Rep G H μ d v ∧ Rep G H μ e u := by
  unfold RepL at r
  obtain ⟨v, t, rfl, r1, r2⟩ := r
  obtain ⟨u, rfl, r3⟩ := r2.one
  exact ⟨v, u, rfl, r1, r3⟩
def lenF : DF
  | [.str t], h => if t.length ≤ big then .ok (.int t.length) h else .bad
  | [.tup ds], h => .ok (.int ds.length) h
  | [.frz ds], h => .ok (.int ds.length) h
  | [.ref n], h => match h[n]? with
    | some (.lst ds) => .ok (.int ds.length) h
    | _ => .bad
  | _, _ => .bad
def intF : DF
  | [.int i], h => .ok (.int i) h
  | [.bl b], h => .ok (.int (if b then 1 else 0)) h
  | [.str t], h => match PySem.intText? (sOf t) with
    | some n => if t.length ≤ 640 then .ok (.int n) h else .bad
    | none => .bad
  | _, _ => .bad
def listF : DF
  | [.tup ds], h => alloc (.lst ds) h
  | [.frz ds], h => alloc (.lst ds) h
  | [.ref n], h => match h[n]? with
    | some (.lst ds) => alloc (.lst ds) h
    | _ => .bad
  | _, _ => .bad
def tupleF : DF
  | [.tup ds], h => .ok (.tup ds) h
  | [.frz ds], h => .ok (.tup ds) h
  | [.ref n], h => match h[n]? with
    | some (.lst ds) => .ok (.tup ds) h
    | _ => .bad
  | _, _ => .bad
def strF : DF
  | [.int i], h => if i.natAbs.log2 < 1920 then .ok (.str ((toString i).toList.map (·.toNat))) h else .bad
  | _, _ => .bad
def tyN : D → DH → Option String
  | .non, _ => some "NoneType"
  | .bl _, _ => some "bool"
  | .int _, _ => some "int"
  | .str _, _ => some "str"
  | .tup _, _ => some "tuple"
  | .frz _, _ => some "list"
  | .ref n, h => match h[n]? with
    | some (.lst _) => some "list"
    | _ => none
  | _, _ => none
def isiF : DF
  | [d, .ty c], h => match tyN d h with
    | some t => match kitB t c with
      | some b => .ok (.bl b) h
      | none => .bad
    | none => .bad
  | _, _ => .bad
def bls : List D → Option (List Bool)
  | [] => some []
  | .bl b :: r => (bls r).map (b :: ·)
  | _ :: _ => none
def intsD : List D → Option (List Int)
  | [] => some []
  | .int b :: r => (intsD r).map (b :: ·)
  | _ :: _ => none
def allF : DF
  | [.ref n], h => match h[n]? with
    | some (.lst ds) => match bls ds with
      | some bs => .ok (.bl (bs.all id)) h
      | none => .bad
    | _ => .bad
  | _, _ => .bad
def anyF : DF
  | [.ref n], h => match h[n]? with
    | some (.lst ds) => match bls ds with
      | some bs => .ok (.bl (bs.any id)) h
      | none => .bad
    | _ => .bad
  | _, _ => .bad
def reprF : DF
  | [d], h => match toPy h 60 d with
    | some p => if PyData.showable p = true ∧ p.depth ≤ 60 ∧ p.shown.length ≤ big ∧ p.hasDict = false then .ok (.str p.shown.cps.toList) h else .bad
    | none => .bad
  | _, _ => .bad
def insI (i : Int) : List Int → List Int
  | [] => [i]
  | j :: r => if i ≤ j then i :: j :: r else j :: insI i r
def isort : List Int → List Int
  | [] => []
  | i :: r => insI i (isort r)
def sortedF : DF
  | [.ref n], h => match h[n]? with
    | some (.lst ds) => match intsD ds with
      | some ns => if ns.length < 64 then alloc (.lst ((isort ns).map .int)) h else .bad
      | none => .bad
    | _ => .bad
  | _, _ => .bad
def max2F : DF
  | [.int i, .int j], h => .ok (.int (if j > i then j else i)) h
  | _, _ => .bad
def min2F : DF
  | [.int i, .int j], h => .ok (.int (if j < i then j else i)) h
  | _, _ => .bad
theorem bls_ok {G : GX} {μ : List Addr} {H : Hp} : ∀ {ds : List D} {vs : List V} {bs : List Bool}, bls ds = some bs → RepL G H μ ds vs → vs = bs.map V.bl
  | [], vs, bs, e, r => by unfold RepL at r; cases e; exact r
  | .bl b :: t, vs, bs, e, r => by
    unfold RepL at r
    obtain ⟨v, r', rfl, r1, r2⟩ := r
    have e : (bls t).map (b :: ·) = some bs := e
    cases q : bls t with
    | none => rw [q] at e; cases e
    | some l =>
      rw [q] at e; cases e
      rw [r1.blv, bls_ok q r2]; rfl
  | .non :: _, _, _, e, _ => nomatch e
  | .int _ :: _, _, _, e, _ => nomatch e
  | .str _ :: _, _, _, e, _ => nomatch e
  | .tup _ :: _, _, _, e, _ => nomatch e
  | .frz _ :: _, _, _, e, _ => nomatch e
  | .ref _ :: _, _, _, e, _ => nomatch e
  | .cdt _ :: _, _, _, e, _ => nomatch e
  | .fn _ :: _, _, _, e, _ => nomatch e
  | .ty _ :: _, _, _, e, _ => nomatch e
theorem ints_ok {G : GX} {μ : List Addr} {H : Hp} : ∀ {ds : List D} {vs : List V} {bs : List Int}, intsD ds = some bs → RepL G H μ ds vs → vs = bs.map V.int
  | [], vs, bs, e, r => by unfold RepL at r; cases e; exact r
  | .int b :: t, vs, bs, e, r => by
    unfold RepL at r
    obtain ⟨v, r', rfl, r1, r2⟩ := r
    have e : (intsD t).map (b :: ·) = some bs := e
    cases q : intsD t with
    | none => rw [q] at e; cases e
    | some l =>
      rw [q] at e; cases e
      rw [r1.intv, ints_ok q r2]; rfl
  | .non :: _, _, _, e, _ => nomatch e
  | .bl _ :: _, _, _, e, _ => nomatch e
  | .str _ :: _, _, _, e, _ => nomatch e
  | .tup _ :: _, _, _, e, _ => nomatch e
  | .frz _ :: _, _, _, e, _ => nomatch e
  | .ref _ :: _, _, _, e, _ => nomatch e
  | .cdt _ :: _, _, _, e, _ => nomatch e
  | .fn _ :: _, _, _, e, _ => nomatch e
  | .ty _ :: _, _, _, e, _ => nomatch e
theorem intsRep {G : GX} {μ : List Addr} {H : Hp} : ∀ ns : List Int, RepL G H μ (ns.map .int) (ns.map V.int)
  | [] => by unfold RepL; rfl
  | n :: r => by
    rw [List.map_cons, List.map_cons]
    unfold RepL
    exact ⟨.int n, _, rfl, by unfold Rep; rfl, intsRep r⟩
theorem insI_perm (i : Int) : ∀ l, (insI i l).Perm (i :: l)
  | [] => .refl _
  | j :: r => by
    unfold insI
    split
    · exact .refl _
    · exact ((insI_perm i r).cons j).trans (.swap i j r)
theorem isort_perm : ∀ l, (isort l).Perm l
  | [] => .refl _
  | i :: r => (insI_perm i (isort r)).trans ((isort_perm r).cons i)
theorem insI_sorted (i : Int) : ∀ l : List Int, l.Pairwise (· ≤ ·) → (insI i l).Pairwise (· ≤ ·)
  | [], _ => by simp [insI]
  | j :: r, h => by
    unfold insI
    rw [List.pairwise_cons] at h
    split
    · rename_i hij
      rw [List.pairwise_cons, List.pairwise_cons]
      refine ⟨fun x hx => ?_, h⟩
      rcases List.mem_cons.mp hx with rfl | hx
      · exact hij
      · exact Int.le_trans hij (h.1 x hx)
    · rename_i hij
      rw [List.pairwise_cons]
      refine ⟨fun x hx => ?_, insI_sorted i r h.2⟩
      rcases List.mem_cons.mp ((insI_perm i r).mem_iff.mp hx) with rfl | hx
      · omega
      · exact h.1 x hx
theorem isort_sorted : ∀ l : List Int, (isort l).Pairwise (· ≤ ·)
  | [] => .nil
  | i :: r => insI_sorted i _ (isort_sorted r)
theorem sorted_uniq : ∀ {l m : List Int}, l.Perm m → l.Pairwise (· ≤ ·) → m.Pairwise (· ≤ ·) → l = m := fun {l m} p a b =>
  p.eq_of_pairwise (fun x y _ _ h1 h2 => Int.le_antisymm h1 h2) a b
section
variable {X : Cx} {W : XW}
theorem c_len : CallR X (.builtin "len") (rCD (gx X) W lenF) := by
  intro pins s σ H vs us Q I rv ⟨μ, h, ds, S, r, P⟩
  unfold lenF at P
  split at P
  · rename_i h t
    obtain ⟨v, rfl, r1⟩ := r.one
    split at P
    · rename_i hl
      exact call_len pins s σ H _ us Q I rv ⟨v, t.length, rfl, by rw [r1.strv]; exact ⟨by rw [sOf_len, big_eq]; exact hl, (sOf_len t).symm⟩, P.now S (by unfold Rep; rfl)⟩
    · exact P.elim
  · rename_i h es
    obtain ⟨v, rfl, r1⟩ := r.one
    obtain ⟨a, ws, rfl, q1, l1⟩ := r1.tupl
    exact call_len pins s σ H _ us Q I rv ⟨.ref a, es.length, rfl, .inr ⟨ws, q1, l1.length.symm⟩, P.now S (by unfold Rep; rfl)⟩
  · rename_i h es
    obtain ⟨v, rfl, r1⟩ := r.one
    obtain ⟨a, ws, rfl, q1, l1⟩ := r1.frzl
    exact call_len pins s σ H _ us Q I rv ⟨.ref a, es.length, rfl, .inl ⟨ws, q1.sq, l1.length.symm⟩, P.now S (by unfold Rep; rfl)⟩
  · rename_i h n
    obtain ⟨v, rfl, r1⟩ := r.one
    obtain ⟨a, ea, rfl⟩ := r1.ref
    split at P
    · rename_i es e
      obtain ⟨ws, q1, l1⟩ := S.list e ea
      exact call_len pins s σ H _ us Q I rv ⟨.ref a, es.length, rfl, .inl ⟨ws, .of q1, l1.length.symm⟩, P.now S (by unfold Rep; rfl)⟩
    · exact P.elim
  · exact P.elim
theorem c_int : CallR X (.type "int") (rCD (gx X) W intF) := by
  intro pins s σ H vs us Q I rv ⟨μ, h, ds, S, r, P⟩
  unfold intF at P
  split at P
  · rename_i h i
    obtain ⟨v, rfl, r1⟩ := r.one
    exact call_int1 pins s σ H _ us Q I rv (.inl ⟨i, by rw [r1.intv], P.now S (by unfold Rep; rfl)⟩)
  · rename_i h i
    obtain ⟨v, rfl, r1⟩ := r.one
    exact call_int1 pins s σ H _ us Q I rv (.inr ⟨i, by rw [r1.blv], P.now S (by unfold Rep; rfl)⟩)
  · rename_i h t
    obtain ⟨v, rfl, r1⟩ := r.one
    split at P
    · rename_i n hn
      split at P
      · rename_i hl
        exact call_int_str pins s σ H _ us Q I rv ⟨sOf t, n, by rw [r1.strv], hn, by rw [sOf_len]; exact hl, P.now S (by unfold Rep; rfl)⟩
      · exact P.elim
    · exact P.elim
  · exact P.elim
theorem c_list : CallR X (.type "list") (rCD (gx X) W listF) := by
  intro pins s σ H vs us Q I rv ⟨μ, h, ds, S, r, P⟩
  unfold listF at P
  split at P
  · rename_i h es
    obtain ⟨v, rfl, r1⟩ := r.one
    obtain ⟨a, ws, rfl, q1, l1⟩ := r1.tupl
    exact call_list_of pins s σ H _ us Q I rv ⟨a, ws, rfl, .inr q1, P.allocL S l1⟩
  · rename_i h es
    obtain ⟨v, rfl, r1⟩ := r.one
    obtain ⟨a, ws, rfl, q1, l1⟩ := r1.frzl
    exact call_list_of pins s σ H _ us Q I rv ⟨a, ws, rfl, .inl q1.sq, P.allocL S l1⟩
  · rename_i h n
    obtain ⟨v, rfl, r1⟩ := r.one
    obtain ⟨a, ea, rfl⟩ := r1.ref
    split at P
    · rename_i es e
      obtain ⟨ws, q1, l1⟩ := S.list e ea
      exact call_list_of pins s σ H _ us Q I rv ⟨a, ws, rfl, .inl (.of q1), P.allocL S l1⟩
    · exact P.elim
  · exact P.elim
theorem c_tuple : CallR X (.type "tuple") (rCD (gx X) W tupleF) := by
  intro pins s σ H vs us Q I rv ⟨μ, h, ds, S, r, P⟩
  unfold tupleF at P
  split at P
  · rename_i h es
    obtain ⟨v, rfl, r1⟩ := r.one
    have r1' := r1
    obtain ⟨a, ws, rfl, q1, l1⟩ := r1.tupl
    exact call_tuple_of pins s σ H _ us Q I rv ⟨a, ws, rfl, .inr ⟨q1, P.now S r1'⟩⟩
  · rename_i h es
    obtain ⟨v, rfl, r1⟩ := r.one
    obtain ⟨a, ws, rfl, q1, l1⟩ := r1.frzl
    exact call_tuple_of pins s σ H _ us Q I rv ⟨a, ws, rfl, .inl ⟨q1.sq, P.tup S l1⟩⟩
  · rename_i h n
    obtain ⟨v, rfl, r1⟩ := r.one
    obtain ⟨a, ea, rfl⟩ := r1.ref
    split at P
    · rename_i es e
      obtain ⟨ws, q1, l1⟩ := S.list e ea
      exact call_tuple_of pins s σ H _ us Q I rv ⟨a, ws, rfl, .inl ⟨.of q1, P.tup S l1⟩⟩
    · exact P.elim
  · exact P.elim
theorem tyN_ok {K : PySem.W.Frag} {G : GX} {μ : List Addr} {H : Hp} {h : DH} {d : D} {v : V} {t : String} (S : SRep (gx X) μ h H) (r : Rep (gx X) H μ d v) (e : tyN d h = some t) : TyX X.K H v (.type t) := by
  cases d with
  | non => cases e; rw [r.nonv]; exact .base .non
  | bl b => cases e; rw [r.blv]; exact .base (.bl b)
  | int b => cases e; rw [r.intv]; exact .base (.int b)
  | str b => cases e; rw [r.strv]; exact .base (.str _)
  | tup b =>
    cases e
    obtain ⟨a, vs, rfl, q, _⟩ := r.tupl
    rcases q with (q | ⟨o, q⟩) | ⟨o, its, n, q, c, _⟩
    · exact .base (.tup q)
    · exact .fTuple q
    · exact .kTuple q c
  | frz b =>
    cases e
    obtain ⟨a, vs, rfl, q, _⟩ := r.frzl
    rcases q with ⟨o, q⟩ | ⟨o, its, n, q, c, _⟩
    · exact .base (.frz q)
    · exact .kList q c
  | ref n =>
    obtain ⟨a, ea, rfl⟩ := r.ref
    have e : (match h[n]? with | some (.lst _) => some "list" | _ => none) = some t := e
    split at e
    · rename_i es e'
      cases e
      obtain ⟨ws, q1, l1⟩ := S.list e' ea
      exact .base (.lst q1)
    · cases e
  | cdt b => cases e
  | fn b => cases e
  | ty b => cases e
theorem c_isi : CallR X (.builtin "isinstance") (rCD (gx X) W isiF) := by
  intro pins s σ H vs us Q I rv ⟨μ, h, ds, S, r, P⟩
  unfold isiF at P
  split at P
  · rename_i h d c
    obtain ⟨v, u, rfl, r1, r2⟩ := r.two
    split at P
    · rename_i t ht
      split at P
      · rename_i b hb
        unfold Rep at r2
        subst r2
        exact call_isi pins s σ H _ us Q I rv ⟨v, .ty c, .type t, .type c, b, rfl, .ty c, tyN_ok (K := X.K) (G := gx X) S r1 ht, kit_ty hb, P.now S (by unfold Rep; rfl)⟩
      · exact P.elim
    · exact P.elim
  · exact P.elim
theorem c_all (hc : X.calm = true) : CallR X (.builtin "all") (rCD (gx X) W allF) := by
  intro pins s σ H vs us Q I rv ⟨μ, h, ds, S, r, P⟩
  unfold allF at P
  split at P
  · rename_i h n
    obtain ⟨v, rfl, r1⟩ := r.one
    obtain ⟨a, ea, rfl⟩ := r1.ref
    split at P
    · rename_i es e
      obtain ⟨ws, q1, l1⟩ := S.list e ea
      split at P
      · rename_i bs hb
        have := bls_ok hb l1
        subst this
        exact cr_all hc pins s σ H _ us Q I rv ⟨a, bs, rfl, .of q1, P.now S (by unfold Rep; rfl)⟩
      · exact P.elim
    · exact P.elim
  · exact P.elim
theorem c_any (hc : X.calm = true) : CallR X (.builtin "any") (rCD (gx X) W anyF) := by
  intro pins s σ H vs us Q I rv ⟨μ, h, ds, S, r, P⟩
  unfold anyF at P
  split at P
  · rename_i h n
    obtain ⟨v, rfl, r1⟩ := r.one
    obtain ⟨a, ea, rfl⟩ := r1.ref
    split at P
    · rename_i es e
      obtain ⟨ws, q1, l1⟩ := S.list e ea
      split at P
      · rename_i bs hb
        have := bls_ok hb l1
        subst this
        exact cr_any hc pins s σ H _ us Q I rv ⟨a, bs, rfl, .of q1, P.now S (by unfold Rep; rfl)⟩
      · exact P.elim
    · exact P.elim
  · exact P.elim
theorem c_sorted : CallR X (.builtin "sorted") (rCD (gx X) W sortedF) := by
  intro pins s σ H vs us Q I rv ⟨μ, h, ds, S, r, P⟩
  unfold sortedF at P
  split at P
  · rename_i h n
    obtain ⟨v, rfl, r1⟩ := r.one
    obtain ⟨a, ea, rfl⟩ := r1.ref
    split at P
    · rename_i es e
      obtain ⟨ws, q1, l1⟩ := S.list e ea
      split at P
      · rename_i ns hb
        split at P
        · rename_i hl
          have := ints_ok hb l1
          subst this
          refine cr_sorted pins s σ H _ us Q I rv ⟨a, ns, rfl, .of q1, hl, fun ns' p hp hs hn => ?_⟩
          have : ns' = isort ns := sorted_uniq (hp.trans (isort_perm ns).symm) hs (isort_sorted ns)
          subst this
          exact P.allocL S (intsRep _) p hn
        · exact P.elim
      · exact P.elim
    · exact P.elim
  · exact P.elim
theorem c_max2 (hc : X.calm = true) : CallR X (.builtin "max") (rCD (gx X) W max2F) := by
  intro pins s σ H vs us Q I rv ⟨μ, h, ds, S, r, P⟩
  unfold max2F at P
  split at P
  · rename_i h i j
    obtain ⟨v, u, rfl, r1, r2⟩ := r.two
    exact call_max2 hc pins s σ H _ us Q I rv ⟨i, j, by rw [r1.intv, r2.intv], P.now S (by unfold Rep; rfl)⟩
  · exact P.elim
theorem c_min2 (hc : X.calm = true) : CallR X (.builtin "min") (rCD (gx X) W min2F) := by
  intro pins s σ H vs us Q I rv ⟨μ, h, ds, S, r, P⟩
  unfold min2F at P
  split at P
  · rename_i h i j
    obtain ⟨v, u, rfl, r1, r2⟩ := r.two
    exact call_min2 hc pins s σ H _ us Q I rv ⟨i, j, by rw [r1.intv, r2.intv], P.now S (by unfold Rep; rfl)⟩
  · exact P.elim
end
end DV
namespace DV
open PySem PySem.Spec PyProof.Rows L2
inductive SR where
  | nx (env : Env) (h : DH)
  | rt (d : D) (h : DH)
  | bk (env : Env) (h : DH)
  | ct (env : Env) (h : DH)
  | exc (c : Nat) (a : List D) (env : Env) (h : DH)
  | bad
abbrev SD := Env → DH → SR
/-- what is wanted of an exception in a def's body -/
abbrev XS := List Addr → Hp → L2.St → Nat → List D → DH → Prop
def SPost (G : GX) (W : XWS) (μ : List Addr) (H : Hp) (r : SR) (E : Ends) : Prop :=
  match r with
  | .nx env' h' => ∀ μ' H' σ', SRep G μ' h' H' → Ext μ H μ' H' → ERep G H' μ' env' σ' → E.nx σ' H'
  | .rt d h' => ∀ μ' H' v, SRep G μ' h' H' → Ext μ H μ' H' → Rep G H' μ' d v → E.rt v H'
  | .bk env' h' => ∀ μ' H' σ', SRep G μ' h' H' → Ext μ H μ' H' → ERep G H' μ' env' σ' → E.bk σ' H'
  | .ct env' h' => ∀ μ' H' σ', SRep G μ' h' H' → Ext μ H μ' H' → ERep G H' μ' env' σ' → E.ct σ' H'
  | .exc c a env' h' => ∀ μ' H' σ', SRep G μ' h' H' → Ext μ H μ' H' → ERep G H' μ' env' σ' → W σ' μ' H' c a h'
  | .bad => False
theorem SPost.mono {G : GX} {W : XWS} {μ μ1 : List Addr} {H H1 : Hp} {r : SR} {E : Ends} (x : Ext μ H μ1 H1) (p : SPost G W μ H r E) : SPost G W μ1 H1 r E := by
  cases r with
  | nx env h => exact fun μ' H' σ' s y e => p μ' H' σ' s (x.trans y) e
  | rt d h => exact fun μ' H' σ' s y e => p μ' H' σ' s (x.trans y) e
  | bk env h => exact fun μ' H' σ' s y e => p μ' H' σ' s (x.trans y) e
  | ct env h => exact fun μ' H' σ' s y e => p μ' H' σ' s (x.trans y) e
  | exc c a env h => exact fun μ' H' σ' s y => p μ' H' σ' s (x.trans y)
  | bad => exact p
theorem Post.mono {α β : Type} {rel : Hp → List Addr → α → β → Prop} {G : GX} {W : XW} {μ μ1 : List Addr} {H H1 : Hp} {r : R α} {Q : β → Hp → Prop} (x : Ext μ H μ1 H1) (p : Post rel G W μ H r Q) : Post rel G W μ1 H1 r Q := by
  cases r with
  | ok d h => exact fun μ' H' σ' s y e => p μ' H' σ' s (x.trans y) e
  | exc c a h => exact fun μ' H' s y => p μ' H' s (x.trans y)
  | bad => exact p
def TDS (G : GX) (W : XWS) (m : SD) : TS := fun E σ H => ∃ μ env h, SRep G μ h H ∧ ERep G H μ env σ ∧ SPost G W μ H (m env h) E
def R.toS {α : Type} (r : R α) (env : Env) (k : α → DH → SR) : SR :=
  match r with
  | .ok a h => k a h
  | .exc c a h => .exc c a env h
  | .bad => .bad
section
variable {α β : Type} {rel : Hp → List Addr → α → β → Prop} {G : GX} {W : XWS} {μ : List Addr} {H : Hp} {σ : L2.St}
theorem SPost.bind {r : R α} {env : Env} {k : α → DH → SR} {E : Ends} (er : ERep G H μ env σ) (p : SPost G W μ H (r.toS env k) E) :
    Post rel G (W σ) μ H r fun v H1 => ∃ μ1 d h1, SRep G μ1 h1 H1 ∧ Ext μ H μ1 H1 ∧ rel H1 μ1 d v ∧ SPost G W μ1 H1 (k d h1) E := by
  cases r with
  | bad => exact p
  | exc c a h' => exact fun μ' H' s x => p μ' H' σ s x (er.ext x)
  | ok d h1 =>
    intro μ1 H1 v s x e
    exact ⟨μ1, d, h1, s, x, e, SPost.mono x p⟩
theorem TDS.split {ma : DEn α} {k : α → SD} {E : Ends} (q : TDS G W (fun env h => (ma env h).toS env fun d h1 => k d env h1) E σ H) :
    TG' rel G W ma σ H fun v H1 => ∃ μ1 d env h1, SRep G μ1 h1 H1 ∧ ERep G H1 μ1 env σ ∧ rel H1 μ1 d v ∧ SPost G W μ1 H1 (k d env h1) E := by
  obtain ⟨μ, env, h, s, e, p⟩ := q
  refine ⟨μ, env, h, s, e, Post.imp (SPost.bind (rel := rel) e p) ?_⟩
  rintro v H1 ⟨μ1, d, h1, s1, x1, r1, p1⟩
  exact ⟨μ1, d, env, h1, s1, e.ext x1, r1, p1⟩
end
def sSeq (m1 m2 : SD) : SD := fun env h => match m1 env h with
  | .nx env1 h1 => m2 env1 h1
  | r => r
def sNil : SD := fun env h => .nx env h
section
variable {X : Cx} {W : XWS} {pos : Pos} {st : Stmt} {rest a b : List Stmt} {m m1 m2 : SD} {e c : Expr} {ma : DE} {tb : DEn Bool}
theorem ss_nil : PSs X [] (TDS (gx X) W sNil) := pss_nil.weak fun E σ H ⟨μ, env, h, s, r, p⟩ => p μ H σ s .refl r
theorem seq_d {E : Ends} {σ : L2.St} {H : Hp} (q : TDS (gx X) W (sSeq m1 m2) E σ H) : TDS (gx X) W m1 { E with nx := TDS (gx X) W m2 E } σ H := by
  obtain ⟨μ, env, h, s, r, p⟩ := q
  refine ⟨μ, env, h, s, r, ?_⟩
  unfold sSeq at p
  split at p
  · rename_i env1 h1 e1
    rw [e1]
    exact fun μ' H' σ' s' x' r' => ⟨μ', env1, h1, s', r', p.mono x'⟩
  · rename_i hne
    cases q : m1 env h with
    | nx env1 h1 => exact absurd q (hne env1 h1)
    | rt d h1 => rw [q] at p; exact p
    | bk env1 h1 => rw [q] at p; exact p
    | ct env1 h1 => rw [q] at p; exact p
    | exc c a env1 h1 => rw [q] at p; exact p
    | bad => rw [q] at p; exact p
theorem ss_cons (h1 : PS X st (TDS (gx X) W m1)) (h2 : PSs X rest (TDS (gx X) W m2)) : PSs X (st :: rest) (TDS (gx X) W (sSeq m1 m2)) := (pss_cons h1 h2).weak fun _ _ _ q => seq_d q
def sPass : SD := sNil
def sBreak : SD := fun env h => .bk env h
def sCont : SD := fun env h => .ct env h
theorem s_pass : PS X (.Pass pos) (TDS (gx X) W sNil) := ps_pass.weak fun E σ H ⟨μ, env, h, s, r, p⟩ => p μ H σ s .refl r
theorem s_break : PS X (.Break pos) (TDS (gx X) W sBreak) := ps_break.weak fun E σ H ⟨μ, env, h, s, r, p⟩ => p μ H σ s .refl r
theorem s_continue : PS X (.Continue pos) (TDS (gx X) W sCont) := ps_continue.weak fun E σ H ⟨μ, env, h, s, r, p⟩ => p μ H σ s .refl r
def sExpr (ma : DE) : SD := fun env h => (ma env h).toS env fun _ h1 => .nx env h1
theorem s_expr (he : PE X e (TD (gx X) W ma)) (hs : swapsWith e none pos.line X.env = pure false) : PS X (.Expr e pos) (TDS (gx X) W (sExpr ma)) := by
  refine (ps_expr he hs).weak fun E σ H q => ?_
  refine TG'.imp (TDS.split (rel := Rep (gx X)) (k := fun _ env h1 => .nx env h1) q) ?_
  rintro v H1 ⟨μ1, d, env, h1, s1, e1, r1, p1⟩
  exact p1 μ1 H1 σ s1 .refl e1
def sRet (ma : DE) : SD := fun env h => (ma env h).toS env fun d h1 => .rt d h1
theorem s_ret (he : PE X e (TD (gx X) W ma)) : PS X (.Return (some e) pos) (TDS (gx X) W (sRet ma)) := by
  refine (ps_ret he).weak fun E σ H q => ?_
  refine TG'.imp (TDS.split (rel := Rep (gx X)) (k := fun d _ h1 => .rt d h1) q) ?_
  rintro v H1 ⟨μ1, d, env, h1, s1, e1, r1, p1⟩
  exact p1 μ1 H1 v s1 .refl r1
def sRetN : SD := fun _ h => .rt .non h
theorem s_retN : PS X (.Return none pos) (TDS (gx X) W sRetN) := ps_retN.weak fun E σ H ⟨μ, env, h, s, r, p⟩ => p μ H .non s .refl (by unfold Rep; rfl)
def sIf (tb : DEn Bool) (m1 m2 : SD) : SD := fun env h => (tb env h).toS env fun k h1 => if k = true then m1 env h1 else m2 env h1
theorem s_if (hc : PT X c (TDB (gx X) W tb)) (ha : PSs X a (TDS (gx X) W m1)) (hb : PSs X b (TDS (gx X) W m2)) : PS X (.If c a b pos) (TDS (gx X) W (sIf tb m1 m2)) := by
  refine (ps_if hc ha hb).weak fun E σ H q => ?_
  refine TG'.imp (TDS.split (rel := EqB) (k := fun k env h1 => if k = true then m1 env h1 else m2 env h1) q) ?_
  rintro v H1 ⟨μ1, d, env, h1, s1, e1, r1, p1⟩
  have r1 : d = v := r1
  subst r1
  cases d with
  | true => exact ⟨μ1, env, h1, s1, e1, p1⟩
  | false => exact ⟨μ1, env, h1, s1, e1, p1⟩
def sWhile (tb : DEn Bool) (m : SD) : Nat → SD
  | 0, _, _ => .bad
  | n + 1, env, h => (tb env h).toS env fun k h1 => if k = true then match m env h1 with
    | .nx env2 h2 => sWhile tb m n env2 h2
    | .ct env2 h2 => sWhile tb m n env2 h2
    | .bk env2 h2 => .nx env2 h2
    | r => r
    else .nx env h1
theorem s_while {n : Nat} (hp : PassesOwn (model X.prog X.w) X.A X.env X.xe) (hc : PT X c (TDB (gx X) W tb)) (hb : PSs X a (TDS (gx X) W m)) : PS X (.While c a [] pos) (TDS (gx X) W (sWhile tb m n)) := by
  refine (ps_while hp hc hb).weak fun E σ H q => ?_
  refine ⟨fun n σ H => TDS (gx X) W (sWhile tb m n) E σ H, ⟨n, q⟩, fun n σ H q => ?_⟩
  cases n with
  | zero =>
    obtain ⟨μ, env, h, s, r, p⟩ := q
    exact p.elim
  | succ n =>
    refine TG'.imp (TDS.split (rel := EqB) (k := fun k env h1 => if k = true then match m env h1 with
      | .nx env2 h2 => sWhile tb m n env2 h2
      | .ct env2 h2 => sWhile tb m n env2 h2
      | .bk env2 h2 => .nx env2 h2
      | r => r
      else .nx env h1) q) ?_
    rintro v H1 ⟨μ1, d, env, h1, s1, e1, r1, p1⟩
    have r1 : d = v := r1
    subst r1
    cases d with
    | false => exact p1 μ1 H1 σ s1 .refl e1
    | true =>
      rw [if_pos rfl] at p1 ⊢
      refine ⟨TDS (gx X) W (sWhile tb m n) E, fun σ' H' z => ⟨n, Nat.lt_succ_self n, z⟩, μ1, env, h1, s1, e1, ?_⟩
      cases q : m env h1 with
      | nx env2 h2 => rw [q] at p1; exact fun μ' H' σ' s' x' r' => ⟨μ', env2, h2, s', r', p1.mono x'⟩
      | ct env2 h2 => rw [q] at p1; exact fun μ' H' σ' s' x' r' => ⟨μ', env2, h2, s', r', p1.mono x'⟩
      | bk env2 h2 => rw [q] at p1; exact p1
      | rt d h2 => rw [q] at p1; exact p1
      | exc c a env2 h2 => rw [q] at p1; exact p1
      | bad => rw [q] at p1; exact p1
end
abbrev AG := D → Env → Option Env
/-- all slots but these stand -/
def Agree (is : List Nat) (σ σ' : L2.St) : Prop := σ'.length = σ.length ∧ ∀ j, j ∉ is → σ'[j]? = σ[j]?
theorem Agree.refl {is : List Nat} {σ : L2.St} : Agree is σ σ := ⟨rfl, fun _ _ => rfl⟩
theorem Agree.trans {is js : List Nat} {σ σ1 σ2 : L2.St} (a : Agree is σ σ1) (b : Agree js σ1 σ2) : Agree (is ++ js) σ σ2 :=
  ⟨b.1.trans a.1, fun j hj => (b.2 j fun z => hj (List.mem_append_right _ z)).trans (a.2 j fun z => hj (List.mem_append_left _ z))⟩
def TGD (G : GX) (is : List Nat) (g : AG) : TG := fun v σ H Q => ∃ μ env h d env', SRep G μ h H ∧ ERep G H μ env σ ∧ Rep G H μ d v ∧ g d env = some env' ∧ ∀ σ', ERep G H μ env' σ' → Agree is σ σ' → Q σ' H
abbrev AGs := List D → Env → Option Env
def TGDs (G : GX) (is : List Nat) (g : AGs) : TGs := fun vs σ H Q => ∃ μ env h ds env', SRep G μ h H ∧ ERep G H μ env σ ∧ RepL G H μ ds vs ∧ g ds env = some env' ∧ ∀ σ', ERep G H μ env' σ' → Agree is σ σ' → Q σ' H
theorem _root_.L2.PG.weak {X : Cx} {e : Expr} {t t' : TG} (h : PG X e t) (w : ∀ v σ H Q, t' v σ H Q → t v σ H Q) : PG X e t' := ⟨fun pins s σ H v u Q I r q => h.run pins s σ H v u Q I r (w v σ H Q q)⟩
theorem _root_.L2.PGs.weak {X : Cx} {e : List Expr} {t t' : TGs} (h : PGs X e t) (w : ∀ v σ H Q, t' v σ H Q → t v σ H Q) : PGs X e t' := ⟨fun pins s σ H v u Q I r q => h.run pins s σ H v u Q I r (w v σ H Q q)⟩
def aName (i : Nat) : AG := fun d env => some (env.set i (some d))
theorem ERep.set {G : GX} {H : Hp} {μ : List Addr} {env : Env} {σ : L2.St} {d : D} {v : V} (e : ERep G H μ env σ) (r : Rep G H μ d v) (i : Nat) : ERep G H μ (env.set i (some d)) (σ.set i (some v)) := by
  refine ⟨by simp [e.1], fun j d' h => ?_⟩
  by_cases hj : i = j
  · subst hj
    have hl : i < env.length := by
      have := (List.getElem?_eq_some_iff.mp h).1
      simpa using this
    rw [List.getElem?_set_self hl] at h
    cases h
    exact ⟨v, List.getElem?_set_self (by rw [← e.1]; exact hl), r⟩
  · rw [List.getElem?_set_ne hj] at h
    rw [List.getElem?_set_ne hj]
    exact e.2 j d' h
def aNil : AGs := fun ds env => match ds with
  | [] => some env
  | _ => none
def aCons (g : AG) (gs : AGs) : AGs := fun ds env => match ds with
  | d :: r => (g d env).bind fun env1 => gs r env1
  | [] => none
def aTup (n : Nat) (gs : AGs) : AG := fun d env => match d with
  | .tup ds => if ds.length = n then gs ds env else none
  | _ => none
section
variable {X : Cx} {pos : Pos} {is js : List Nat} {g : AG} {gs : AGs} {e : Expr} {es : List Expr}
theorem g_name {i : Nat} {x : Str} (hN : X.N.Nodup) (hi : X.N[i]? = some x) (hx : Loc X.env.scope x) (hf : X.fn x = true ∨ X.env.scope.names.lookup x = some .local) : PG X (.Name x pos) (TGD (gx X) [i] (aName i)) := by
  refine (pg_name hN hi hx hf).weak fun v σ H Q ⟨μ, env, h, d, env', s, r, rd, q, k⟩ => ?_
  cases q
  refine k _ (r.set rd i) ⟨by simp, fun j hj => List.getElem?_set_ne fun z => hj (by simp [z])⟩
theorem gs_nil : PGs X [] (TGDs (gx X) [] aNil) := by
  refine pgs_nil.weak fun v σ H Q ⟨μ, env, h, ds, env', s, r, rd, q, k⟩ => ?_
  cases ds with
  | nil =>
    cases q
    unfold RepL at rd
    exact ⟨rd, k σ r .refl⟩
  | cons _ _ => cases q
theorem gs_cons (h1 : PG X e (TGD (gx X) is g)) (h2 : PGs X es (TGDs (gx X) js gs)) (hs : (assignEach (e :: es) X.env).map (·.2) = assign e X.env :: (assignEach es X.env).map (·.2)) : PGs X (e :: es) (TGDs (gx X) (is ++ js) (aCons g gs)) := by
  refine (pgs_cons h1 h2 hs).weak fun vs σ H Q ⟨μ, env, h, ds, env', s, r, rd, q, k⟩ => ?_
  cases ds with
  | nil => cases q
  | cons d t =>
    unfold RepL at rd
    obtain ⟨v, u, rfl, r1, r2⟩ := rd
    have q : (g d env).bind (fun env1 => gs t env1) = some env' := q
    cases hg : g d env with
    | none => rw [hg] at q; cases q
    | some env1 =>
      rw [hg] at q
      exact ⟨v, u, rfl, μ, env, h, d, env1, s, r, r1, hg, fun σ1 r1' a1 => ⟨μ, env1, h, t, env', s, r1', r2, q, fun σ2 r2' a2 => k σ2 r2' (a1.trans a2)⟩⟩
theorem g_tup {k : Nat} {n : Nat} (hc : X.calm = true) (h : PGs X es (TGDs (gx X) js gs)) (hn : (assignEach es X.env).length = n) (hst : (assignEach es X.env).findIdx? (·.1) = none) : PG X (.Tuple es k pos) (TGD (gx X) js (aTup n gs)) := by
  refine (pg_tup hc h hn hst).weak fun v σ H Q ⟨μ, env, h, d, env', s, r, rd, q, k⟩ => ?_
  cases d with
  | tup ds =>
    have q : (if ds.length = n then gs ds env else none) = some env' := q
    by_cases hl : ds.length = n
    · rw [if_pos hl] at q
      obtain ⟨a, vs, rfl, q1, l1⟩ := rd.tupl
      exact ⟨a, vs, rfl, q1, l1.length.trans hl, μ, env, h, ds, env', s, r, l1, q, k⟩
    · rw [if_neg hl] at q; cases q
  | _ => cases q
end
def sAsg (ma : DE) (g : AG) : SD := fun env h => (ma env h).toS env fun d h1 => match g d env with
  | some env1 => .nx env1 h1
  | none => .bad
section
variable {X : Cx} {W : XWS} {pos : Pos} {is : List Nat} {g : AG} {e tg : Expr} {ma : DE}
theorem asg_d {E : Ends} {σ : L2.St} {H : Hp} (q : TDS (gx X) W (sAsg ma g) E σ H) : tAsg (TD (gx X) W ma) (TGD (gx X) is g) E σ H := by
  refine TG'.imp (TDS.split (rel := Rep (gx X)) (k := fun d env h1 => match g d env with
    | some env1 => .nx env1 h1
    | none => .bad) q) ?_
  rintro v H1 ⟨μ1, d, env, h1, s1, e1, r1, p1⟩
  cases hg : g d env with
  | none => rw [hg] at p1; exact p1.elim
  | some env1 => rw [hg] at p1; exact ⟨μ1, env, h1, d, env1, s1, e1, r1, hg, fun σ' r' _ => p1 μ1 H1 σ' s1 .refl r'⟩
theorem s_asg (he : PE X e (TD (gx X) W ma)) (hg : PG X tg (TGD (gx X) is g)) (hs : swapsWithSole [tg] e pos.line X.env = pure false) (hw : swappedStores [tg] e X.env = pure none)
    (h1 : (assignEach [tg] X.env).map (·.2) = [assign tg X.env]) : PS X (.Assign [tg] e pos) (TDS (gx X) W (sAsg ma g)) := (ps_asg he hg hs hw h1).weak fun _ _ _ q => asg_d q
/-- a, b = x, y -/
def setAll : List Nat → List D → Env → Env
  | i :: is, d :: ds, env => setAll is ds (env.set i (some d))
  | _, _, env => env
def sParK (is : List Nat) (ds : List D) : SD := fun env h1 => if ds.length = is.length then .nx (setAll is ds env) h1 else .bad
def sPar (is : List Nat) (ml : DEn (List D)) : SD := fun env h => (ml env h).toS env fun ds h1 => sParK is ds env h1
theorem s_par {i j : Nat} {x y : Str} {a b : Expr} {ml : DEn (List D)} {px py pt : Pos} {kt k2 pt2} (hc : X.calm = true) (hN : X.N.Nodup) (hi : X.N[i]? = some x) (hj : X.N[j]? = some y) (hij : i ≠ j)
    (hx : X.env.scope.names.lookup x = some .local) (hy : X.env.scope.names.lookup y = some .local) (ha : PA X [a, b] (TDL (gx X) W ml))
    (hw : swappedStores [.Tuple [.Name x px, .Name y py] kt pt] (.Tuple [a, b] k2 pt2) X.env = pure (some [x, y]))
    (hs : swapsWithSole [.Tuple [.Name x px, .Name y py] kt pt] (.Tuple [a, b] k2 pt2) pos.line X.env = pure false) :
    PS X (.Assign [.Tuple [.Name x px, .Name y py] kt pt] (.Tuple [a, b] k2 pt2) pos) (TDS (gx X) W (sPar [i, j] ml)) := by
  refine (ps_par hc hN hi hj hij hx hy ha hw hs).weak fun E σ H q => ?_
  refine TG'.imp (TDS.split (rel := RepL (gx X)) (k := sParK [i, j]) q) ?_
  rintro vs H1 ⟨μ1, ds, env, h1, s1, e1, r1, p1⟩
  unfold sParK at p1
  by_cases hl : ds.length = [i, j].length
  · rw [if_pos hl] at p1
    match ds, hl with
    | [d, e], _ =>
      obtain ⟨v, u, rfl, q1, q2⟩ := r1.two
      exact ⟨v, u, rfl, p1 μ1 H1 _ s1 .refl ((e1.set q1 i).set q2 j)⟩
  · rw [if_neg hl] at p1; exact p1.elim
theorem s_par3 {i j l : Nat} {x y z : Str} {a b c : Expr} {ml : DEn (List D)} {px py pz pt : Pos} {kt k2 pt2} (hc : X.calm = true) (hN : X.N.Nodup) (hi : X.N[i]? = some x) (hj : X.N[j]? = some y) (hl : X.N[l]? = some z) (hij : i ≠ j) (hil : i ≠ l) (hjl : j ≠ l)
    (hx : X.env.scope.names.lookup x = some .local) (hy : X.env.scope.names.lookup y = some .local) (hz : X.env.scope.names.lookup z = some .local) (ha : PA X [a, b, c] (TDL (gx X) W ml))
    (hw : swappedStores [.Tuple [.Name x px, .Name y py, .Name z pz] kt pt] (.Tuple [a, b, c] k2 pt2) X.env = pure (some [x, y, z]))
    (hs : swapsWithSole [.Tuple [.Name x px, .Name y py, .Name z pz] kt pt] (.Tuple [a, b, c] k2 pt2) pos.line X.env = pure false) :
    PS X (.Assign [.Tuple [.Name x px, .Name y py, .Name z pz] kt pt] (.Tuple [a, b, c] k2 pt2) pos) (TDS (gx X) W (sPar [i, j, l] ml)) := by
  refine (ps_par3 hc hN hi hj hl hij hil hjl hx hy hz ha hw hs).weak fun E σ H q => ?_
  refine TG'.imp (TDS.split (rel := RepL (gx X)) (k := sParK [i, j, l]) q) ?_
  rintro vs H1 ⟨μ1, ds, env, h1, s1, e1, r1, p1⟩
  unfold sParK at p1
  by_cases hl : ds.length = [i, j, l].length
  · rw [if_pos hl] at p1
    match ds, hl with
    | [d, e, f], _ =>
      unfold RepL at r1
      obtain ⟨v, t, rfl, q1, r2⟩ := r1
      obtain ⟨u, w, rfl, q2, q3⟩ := r2.two
      exact ⟨v, u, w, rfl, p1 μ1 H1 _ s1 .refl (((e1.set q1 i).set q2 j).set q3 l)⟩
  · rw [if_neg hl] at p1; exact p1.elim
end
end DV
namespace DV
open PySem PySem.Spec PyProof.Rows L2
inductive IS where
  | items (ds : List D)
  | lst (n : Nat)
/-- J walks ds from the state (μ0, H0) on -/
structure JItems (G : GX) (μ0 : List Addr) (H0 : Hp) (ds : List D) (J : It) : Prop where
  go : ∀ i μ H, Ext μ0 H0 μ H → i < ds.length → J.go i H
  yld : ∀ i μ h H d x H', Ext μ0 H0 μ H → SRep G μ h H → ds[i]? = some d → J.yld i H x H' → SRep G μ h H' ∧ Ext μ H μ H' ∧ Rep G H' μ d x
  stop : ∀ i μ H, Ext μ0 H0 μ H → ds.length ≤ i → J.stop i H
def JOk (G : GX) (μ0 : List Addr) (H0 : Hp) (is : IS) (J : It) : Prop :=
  match is with
  | .items ds => JItems G μ0 H0 ds J
  | .lst n => ∃ a, μ0[n]? = some a ∧ J = Itl G.K a
def PostI (G : GX) (W : XW) (μ : List Addr) (H : Hp) (r : R IS) (Q : It → Hp → Prop) : Prop := Post (fun H1 μ1 is J => JOk G μ1 H1 is J) G W μ H r Q
abbrev relI (G : GX) : Hp → List Addr → IS → It → Prop := fun H1 μ1 is J => JOk G μ1 H1 is J
abbrev TDI (G : GX) (W : XWS) (m : DEn IS) : TI := TG' (relI G) G W m
theorem _root_.L2.PI.weak {X : Cx} {tg e : Expr} {t t' : TI} (h : PI X tg e t) (w : ∀ σ H Q, t' σ H Q → t σ H Q) : PI X tg e t' := ⟨fun pins s σ H Q I q => h.run pins s σ H Q I (w σ H Q q)⟩
/-- a loop's turns over items -/
def forS (g : AG) (m : SD) : List D → SD
  | [], env, h => .nx env h
  | d :: ds, env, h => match g d env with
    | none => .bad
    | some env1 => match m env1 h with
      | .nx env2 h2 => forS g m ds env2 h2
      | .ct env2 h2 => forS g m ds env2 h2
      | .bk env2 h2 => .nx env2 h2
      | r => r
/-- over the n-th object, a list, as it stands at each turn -/
def forR (g : AG) (m : SD) (n : Nat) : Nat → Nat → SD
  | 0, _, _, _ => .bad
  | f + 1, i, env, h => match h[n]? with
    | some (.lst ds) => match ds[i]? with
      | none => .nx env h
      | some d => match g d env with
        | none => .bad
        | some env1 => match m env1 h with
          | .nx env2 h2 => forR g m n f (i + 1) env2 h2
          | .ct env2 h2 => forR g m n f (i + 1) env2 h2
          | .bk env2 h2 => .nx env2 h2
          | r => r
    | _ => .bad
def forI (g : AG) (m : SD) (f : Nat) : IS → SD
  | .items ds => forS g m ds
  | .lst n => forR g m n f 0
def sFor (f : Nat) (mi : DEn IS) (g : AG) (m : SD) : SD := fun env h => (mi env h).toS env fun is h1 => forI g m f is env h1
section
variable {X : Cx} {W : XWS} {pos : Pos} {is : List Nat} {g : AG} {tg iter : Expr} {mi : DEn IS} {m : SD} {body : List Stmt} {f : Nat}
/-- a turn's end -/
theorem turn_end {μ : List Addr} {H : Hp} {r : SR} {k : SD} {N : L2.St → Hp → Prop} {E : Ends}
    (p : SPost (gx X) W μ H (match r with
      | .nx env2 h2 => k env2 h2
      | .ct env2 h2 => k env2 h2
      | .bk env2 h2 => .nx env2 h2
      | r => r) E) (hN : ∀ μ' H' env h σ', SRep (gx X) μ' h H' → Ext μ H μ' H' → ERep (gx X) H' μ' env σ' → SPost (gx X) W μ' H' (k env h) E → N σ' H') :
    SPost (gx X) W μ H r { E with nx := N, ct := N, bk := E.nx } := by
  cases r with
  | nx env2 h2 => exact fun μ' H' σ' s x e => hN μ' H' env2 h2 σ' s x e (p.mono x)
  | ct env2 h2 => exact fun μ' H' σ' s x e => hN μ' H' env2 h2 σ' s x e (p.mono x)
  | bk env2 h2 => exact p
  | rt d h2 => exact p
  | exc c a env2 h2 => exact p
  | bad => exact p
theorem s_for (hp : PassesOwn (model X.prog X.w) X.A X.env X.xe) (hc : X.calm = true) (hi : PI X tg iter (TDI (gx X) W mi)) (hg : PG X tg (TGD (gx X) is g)) (hb : PSs X body (TDS (gx X) W m))
    (hs : ∀ x, foldedSetIterable iter X.env x = pure x) : PS X (.For tg iter body [] pos) (TDS (gx X) W (sFor f mi g m)) := by
  refine (ps_for hp hc hi hg hb hs).weak fun E σ H q => ?_
  refine TG'.imp (TDS.split (rel := relI (gx X)) (k := fun is env h1 => forI g m f is env h1) q) ?_
  rintro J H0 ⟨μ0, is, env0, h0, s0, e0, r0, p0⟩
  cases is with
  | items ds =>
    have r0 : JItems (gx X) μ0 H0 ds J := r0
    refine ⟨fun i k σ H => i + k = ds.length ∧ ∃ μ env h, Ext μ0 H0 μ H ∧ SRep (gx X) μ h H ∧ ERep (gx X) H μ env σ ∧ SPost (gx X) W μ H (forS g m (ds.drop i) env h) E, ⟨ds.length, by simp, μ0, env0, h0, .refl, s0, e0, p0⟩, ?_⟩
    rintro i k σ1 H1 ⟨hk, μ, env, h, x, s, e, p⟩
    by_cases hi' : i < ds.length
    · right
      refine ⟨r0.go i μ H1 x hi', fun σ' H' => ∃ m', m' < k ∧ i + 1 + m' = ds.length ∧ ∃ μ env h, Ext μ0 H0 μ H' ∧ SRep (gx X) μ h H' ∧ ERep (gx X) H' μ env σ' ∧ SPost (gx X) W μ H' (forS g m (ds.drop (i + 1)) env h) E,
        fun σ' H' ⟨m', q1, q2, q3⟩ => ⟨m', q1, q2, q3⟩, fun y H' hy => ?_⟩
      obtain ⟨s', x', ry⟩ := r0.yld i μ h H1 ds[i] y H' x s (List.getElem?_eq_getElem hi') hy
      rw [List.drop_eq_getElem_cons hi'] at p
      unfold forS at p
      split at p
      · exact p.elim
      · rename_i env1 hg1
        refine ⟨μ, env, h, ds[i], env1, s', e.ext x', ry, hg1, fun σ2 e2 _ => ⟨μ, env1, h, s', e2, ?_⟩⟩
        refine turn_end (k := forS g m (ds.drop (i + 1))) (p.mono x') fun μ3 H3 env3 h3 σ3 s3 x3 e3 p3 => ?_
        exact ⟨k - 1, by omega, by omega, μ3, env3, h3, (x.trans x').trans x3, s3, e3, p3⟩
    · left
      refine ⟨r0.stop i μ H1 x (by omega), ?_⟩
      rw [List.drop_eq_nil_of_le (by omega)] at p
      exact p μ H1 σ1 s .refl e
  | lst n =>
    obtain ⟨a, ea, rfl⟩ := r0
    have p0 : SPost (gx X) W μ0 H0 (forR g m n f 0 env0 h0) E := p0
    refine ⟨fun i k σ H => ∃ μ env h, Ext μ0 H0 μ H ∧ SRep (gx X) μ h H ∧ ERep (gx X) H μ env σ ∧ SPost (gx X) W μ H (forR g m n k i env h) E, ⟨f, μ0, env0, h0, .refl, s0, e0, p0⟩, ?_⟩
    rintro i k σ1 H1 ⟨μ, env, h, x, s, e, p⟩
    have ea' := pre_get x.pre ea
    cases k with
    | zero => exact p.elim
    | succ k =>
      unfold forR at p
      split at p
      · rename_i ds hd
        obtain ⟨vs, h1, l1⟩ := s.list hd ea'
        have hsq : SqL (gx X).K H1 a vs := .of h1
        split at p
        · rename_i hi'
          left
          refine ⟨⟨vs, hsq, ?_⟩, p μ H1 σ1 s .refl e⟩
          rw [l1.length]
          exact List.getElem?_eq_none_iff.mp hi'
        · rename_i d hi'
          obtain ⟨y0, hy0, ry0⟩ := l1.get hi'
          right
          refine ⟨⟨vs, y0, hsq, hy0⟩, fun σ' H' => ∃ μ env h, Ext μ0 H0 μ H' ∧ SRep (gx X) μ h H' ∧ ERep (gx X) H' μ env σ' ∧ SPost (gx X) W μ H' (forR g m n k (i + 1) env h) E, fun σ' H' z => ⟨k, Nat.lt_succ_self k, z⟩, ?_⟩
          rintro y H' ⟨rfl, hy⟩
          have := hy vs hsq
          rw [hy0] at this
          cases this
          split at p
          · exact p.elim
          · rename_i env1 hg1
            refine ⟨μ, env, h, d, env1, s, e, ry0, hg1, fun σ2 e2 _ => ⟨μ, env1, h, s, e2, ?_⟩⟩
            exact turn_end (k := forR g m n k (i + 1)) p fun μ3 H3 env3 h3 σ3 s3 x3 e3 p3 => ⟨μ3, env3, h3, x.trans x3, s3, e3, p3⟩
      · exact p.elim
end
def chars (t : Txt) : List D := t.map fun c => .str [c]
/-- the value of an expression, walked -/
def iVal (m : DE) : DEn IS := m.bind fun d _ h => match d with
  | .tup ds => .ok (.items ds) h
  | .frz ds => .ok (.items ds) h
  | .ref n => match h[n]? with
    | some (.lst _) => .ok (.lst n) h
    | _ => .bad
  | .str t => if t.length ≤ big then .ok (.items (chars t)) h else .bad
  | _ => .bad
section
variable {X : Cx} {W : XWS} {pos : Pos} {tg e : Expr} {m : DE}
/-- two readings of one walked thing -/
theorem _root_.L2.PI.or {t t' : TI} (h : PI X tg e t) (h' : PI X tg e t') : PI X tg e (fun σ H R => t σ H R ∨ t' σ H R) := ⟨fun pins s σ H R I q => q.elim (h.run pins s σ H R I) (h'.run pins s σ H R I)⟩
theorem jt {G : GX} {μ : List Addr} {H : Hp} {a : Addr} {vs : List V} {ds : List D} (q : SqT G.K H a vs) (l : RepL G H μ ds vs) : JItems G μ H ds (Itt G.K a) where
  go := fun i μ1 H1 x hi => by
    obtain ⟨v, hv, _⟩ := l.get (List.getElem?_eq_getElem hi)
    exact ⟨vs, v, DV.SqT.ext x q, hv⟩
  yld := fun i μ1 h1 H1 d y H' x s hd hy => by
    obtain ⟨rfl, hy⟩ := hy
    obtain ⟨v, hv, rv⟩ := l.get hd
    have := hy vs (DV.SqT.ext x q)
    rw [hv] at this
    cases this
    exact ⟨s, .refl, rv.ext x⟩
  stop := fun i μ1 H1 x hi => ⟨vs, DV.SqT.ext x q, by rw [l.length]; exact hi⟩
theorem jl {G : GX} {μ : List Addr} {H : Hp} {a : Addr} {vs : List V} {ds : List D} (q : SqF G.K H a vs) (l : RepL G H μ ds vs) : JItems G μ H ds (Itl G.K a) where
  go := fun i μ1 H1 x hi => by
    obtain ⟨v, hv, _⟩ := l.get (List.getElem?_eq_getElem hi)
    exact ⟨vs, v, (q.ext x).sq, hv⟩
  yld := fun i μ1 h1 H1 d y H' x s hd hy => by
    obtain ⟨rfl, hy⟩ := hy
    obtain ⟨v, hv, rv⟩ := l.get hd
    have := hy vs (q.ext x).sq
    rw [hv] at this
    cases this
    exact ⟨s, .refl, rv.ext x⟩
  stop := fun i μ1 H1 x hi => ⟨vs, (q.ext x).sq, by rw [l.length]; exact hi⟩
theorem post_ok {α β : Type} {rel : Hp → List Addr → α → β → Prop} {G : GX} {W : XW} {μ : List Addr} {H : Hp} {r : R α} {Q : β → Hp → Prop} (p : Post rel G W μ H r Q) : (∃ d h', r = .ok d h') ∨ (∃ c a h', r = .exc c a h') := by
  cases r with
  | ok d h' => exact .inl ⟨d, h', rfl⟩
  | exc c a h' => exact .inr ⟨c, a, h', rfl⟩
  | bad => exact p.elim
/-- a reading's choice by the value that comes -/
theorem PI.byVal {t1 t2 t3 : V → Hp → (It → Hp → Prop) → Prop} (h1 : PI X tg e (fun σ H R => TD (gx X) W m σ H fun x H1 => t1 x H1 R)) (h2 : PI X tg e (fun σ H R => TD (gx X) W m σ H fun x H1 => t2 x H1 R)) (h3 : PI X tg e (fun σ H R => TD (gx X) W m σ H fun x H1 => t3 x H1 R)) {mi : DEn IS}
    (hk : ∀ μ env h d h1 σ, m env h = .ok d h1 → ∀ R H, Post (relI (gx X)) (gx X) (W σ) μ H (mi env h) R →
      (∀ μ1 H1 v, SRep (gx X) μ1 h1 H1 → Ext μ H μ1 H1 → Rep (gx X) H1 μ1 d v → t1 v H1 R) ∨ (∀ μ1 H1 v, SRep (gx X) μ1 h1 H1 → Ext μ H μ1 H1 → Rep (gx X) H1 μ1 d v → t2 v H1 R) ∨ (∀ μ1 H1 v, SRep (gx X) μ1 h1 H1 → Ext μ H μ1 H1 → Rep (gx X) H1 μ1 d v → t3 v H1 R))
    (hx : ∀ env h c a h1, m env h = .exc c a h1 → mi env h = .exc c a h1) (hb : ∀ env h, m env h = .bad → mi env h = .bad) : PI X tg e (TDI (gx X) W mi) := by
  refine ((h1.or h2).or h3).weak fun σ H R ⟨μ, env, h, s, r, p⟩ => ?_
  cases q : m env h with
  | bad => rw [hb env h q] at p; exact p.elim
  | exc c a h' =>
    rw [hx env h c a h' q] at p
    exact .inl (.inl ⟨μ, env, h, s, r, by rw [q]; exact p⟩)
  | ok d h' =>
    rcases hk μ env h d h' σ q R H p with z | z | z
    · exact .inl (.inl ⟨μ, env, h, s, r, by rw [q]; exact z⟩)
    · exact .inl (.inr ⟨μ, env, h, s, r, by rw [q]; exact z⟩)
    · exact .inr ⟨μ, env, h, s, r, by rw [q]; exact z⟩
theorem js {G : GX} {μ : List Addr} {H : Hp} (t : Txt) : JItems G μ H (chars t) (Its (sOf t)) where
  go := fun i μ1 H1 x hi => by
    show i < (sOf t).cps.size
    simpa [sOf, chars] using hi
  yld := fun i μ1 h1 H1 d y H' x s hd hy => by
    obtain ⟨rfl, c, hc, rfl⟩ := hy
    refine ⟨s, .refl, ?_⟩
    have hc' : t[i]? = some c := by simpa [sOf] using hc
    unfold chars at hd
    rw [List.getElem?_map, hc'] at hd
    cases hd
    unfold Rep
    rfl
  stop := fun i μ1 H1 x hi => by
    show (sOf t).cps.size ≤ i
    simpa [sOf, chars] using hi
theorem i_val (he : PE X e (TD (gx X) W m)) : PI X tg e (TDI (gx X) W (iVal m)) := by
  refine PI.byVal (t1 := fun x H1 R => ∃ a, x = .ref a ∧ (∃ xs, SqL X.K H1 a xs) ∧ R (Itl X.K a) H1) (t2 := fun x H1 R => ∃ a, x = .ref a ∧ (∃ xs, SqT X.K H1 a xs) ∧ R (Itt X.K a) H1)
    (t3 := fun x H1 R => ∃ y, x = .str y ∧ R (Its y) H1) (pi_list he) (pi_tup he) (pi_str he) (fun μ env h d h1 σ q R H p => ?_) (fun env h c a h1 q => ?_) (fun env h q => ?_)
  · unfold iVal DEn.bind at p
    rw [q] at p
    cases d with
    | tup ds =>
      refine .inr (.inl fun μ1 H1 v s x r => ?_)
      obtain ⟨a, vs, rfl, q1, l1⟩ := r.tupl
      exact ⟨a, rfl, ⟨vs, q1⟩, p μ1 H1 _ s x (jt q1 l1)⟩
    | frz ds =>
      refine .inl fun μ1 H1 v s x r => ?_
      obtain ⟨a, vs, rfl, q1, l1⟩ := r.frzl
      exact ⟨a, rfl, ⟨vs, q1.sq⟩, p μ1 H1 _ s x (jl q1 l1)⟩
    | ref n =>
      refine .inl fun μ1 H1 v s x r => ?_
      obtain ⟨a, ea, rfl⟩ := r.ref
      have p : Post (relI (gx X)) (gx X) (W σ) μ H (match h1[n]? with
        | some (.lst _) => .ok (.lst n) h1
        | _ => .bad) R := p
      split at p
      · rename_i ds hd
        obtain ⟨vs, q1, l1⟩ := s.list hd ea
        exact ⟨a, rfl, ⟨vs, .of q1⟩, p μ1 H1 _ s x ⟨a, ea, rfl⟩⟩
      · exact p.elim
    | str t =>
      refine .inr (.inr fun μ1 H1 v s x r => ?_)
      have p : Post (relI (gx X)) (gx X) (W σ) μ H (if t.length ≤ big then .ok (.items (chars t)) h1 else .bad) R := p
      split at p
      · exact ⟨sOf t, r.strv, p μ1 H1 _ s x (js t)⟩
      · exact p.elim
    | _ => exact p.elim
  · unfold iVal DEn.bind; rw [q]; rfl
  · unfold iVal DEn.bind; rw [q]; rfl
def rngI (lo : Int) (n : Nat) : List D := (List.range n).map fun i => .int (lo + (i : Nat))
def sm62 (i : Int) : Bool := decide (-4611686018427387904 ≤ i) && decide (i < 4611686018427387904)
def iRng1 (ml : DEn (List D)) : DEn IS := ml.bind fun ds _ h => match ds with
  | [.int j] => if sm62 j = true then .ok (.items (rngI 0 j.toNat)) h else .bad
  | _ => .bad
def iRng2 (ml : DEn (List D)) : DEn IS := ml.bind fun ds _ h => match ds with
  | [.int i, .int j] => if sm62 i = true ∧ sm62 j = true then .ok (.items (rngI i (j - i).toNat)) h else .bad
  | _ => .bad
/-- i, i + c, .. -/
def rngC (i c : Int) (n : Nat) : List D := (List.range n).map fun k => .int (i + (k : Nat) * c)
def rgc (i j c : Int) : Option Nat := if c ≠ 0 ∧ c.natAbs < 1073741824 ∧ Builtin.Range.small i j c = true ∧ 0 ≤ Builtin.Range.rangeSize i j c then some (Builtin.Range.rangeSize i j c).toNat else none
def iRng3 (ml : DEn (List D)) : DEn IS := ml.bind fun ds _ h => match ds with
  | [.int i, .int j, .int c] => match rgc i j c with
    | some n => .ok (.items (rngC i c n)) h
    | none => .bad
  | _ => .bad
theorem sm62_ok {i : Int} (h : sm62 i = true) : -(2 ^ 62) ≤ i ∧ i < 2 ^ 62 := by
  unfold sm62 at h
  rw [Bool.and_eq_true, decide_eq_true_eq, decide_eq_true_eq] at h
  have : (2 : Int) ^ 62 = 4611686018427387904 := by decide
  omega
theorem jr {G : GX} {μ : List Addr} {H : Hp} (lo : Int) (n : Nat) : JItems G μ H (rngI lo n) (Itr lo n) where
  go := fun i μ1 H1 x hi => by
    show i < n
    simpa [rngI] using hi
  yld := fun i μ1 h1 H1 d y H' x s hd hy => by
    obtain ⟨rfl, rfl⟩ := hy
    refine ⟨s, .refl, ?_⟩
    unfold rngI at hd
    rw [List.getElem?_map] at hd
    cases q : (List.range n)[i]? with
    | none => rw [q] at hd; cases hd
    | some k =>
      rw [q] at hd
      cases hd
      obtain ⟨h1, h2⟩ := List.getElem?_eq_some_iff.mp q
      rw [List.getElem_range] at h2
      subst h2
      unfold Rep
      rfl
  stop := fun i μ1 H1 x hi => by
    show n ≤ i
    simpa [rngI] using hi
theorem jrc {G : GX} {μ : List Addr} {H : Hp} (lo c : Int) (n : Nat) : JItems G μ H (rngC lo c n) (Itc lo c n) where
  go := fun i μ1 H1 x hi => by
    show i < n
    simpa [rngC] using hi
  yld := fun i μ1 h1 H1 d y H' x s hd hy => by
    obtain ⟨rfl, rfl⟩ := hy
    refine ⟨s, .refl, ?_⟩
    unfold rngC at hd
    rw [List.getElem?_map] at hd
    cases q : (List.range n)[i]? with
    | none => rw [q] at hd; cases hd
    | some k =>
      rw [q] at hd
      cases hd
      obtain ⟨h1, h2⟩ := List.getElem?_eq_some_iff.mp q
      rw [List.getElem_range] at h2
      subst h2
      unfold Rep
      rfl
  stop := fun i μ1 H1 x hi => by
    show n ≤ i
    simpa [rngC] using hi
theorem rgc_ok {i j c : Int} {n : Nat} (h : rgc i j c = some n) : RgC i j c n := by
  unfold rgc at h
  split at h
  · rename_i q
    cases h
    exact ⟨q.1, q.2.1, q.2.2.1, (Int.toNat_of_nonneg q.2.2.2).symm⟩
  · cases h
variable {ml : DEn (List D)} {a b c : Expr} {p : Pos}
theorem i_rng1 (hg : Gl X "range") (hm : X.mg "range" = none) (ha : PA X [a] (TDL (gx X) W ml)) (hs : starEach [a] X.env = [(false, eval a X.env)]) : PI X tg (.Call (.Name "range" p) [a] [] pos) (TDI (gx X) W (iRng1 ml)) := by
  refine (pi_range1 hg hm ha hs).weak fun σ H R q => ?_
  refine TG'.imp (TG'.split (rel := RepL (gx X)) q) ?_
  rintro vs H1 ⟨μ1, ds, env, h1, s1, e1, r1, p1⟩
  split at p1
  · rename_i j
    split at p1
    · rename_i hj
      obtain ⟨v, rfl, q1⟩ := r1.one
      exact ⟨j, by rw [q1.intv], (sm62_ok hj).1, (sm62_ok hj).2, p1.now s1 (jr 0 _)⟩
    · exact p1.elim
  · exact p1.elim
theorem i_rng2 (hg : Gl X "range") (hm : X.mg "range" = none) (ha : PA X [a, b] (TDL (gx X) W ml)) (hs : starEach [a, b] X.env = [(false, eval a X.env), (false, eval b X.env)]) (hs2 : starEach [b] X.env = [(false, eval b X.env)]) :
    PI X tg (.Call (.Name "range" p) [a, b] [] pos) (TDI (gx X) W (iRng2 ml)) := by
  refine (pi_range2 hg hm ha hs hs2).weak fun σ H R q => ?_
  refine TG'.imp (TG'.split (rel := RepL (gx X)) q) ?_
  rintro vs H1 ⟨μ1, ds, env, h1, s1, e1, r1, p1⟩
  split at p1
  · rename_i i j
    split at p1
    · rename_i hj
      obtain ⟨v, u, rfl, q1, q2⟩ := r1.two
      exact ⟨i, j, by rw [q1.intv, q2.intv], ⟨(sm62_ok hj.1).1, (sm62_ok hj.1).2, (sm62_ok hj.2).1, (sm62_ok hj.2).2⟩, p1.now s1 (jr i _)⟩
    · exact p1.elim
  · exact p1.elim
theorem RepL.three {G : GX} {μ : List Addr} {H : Hp} {d e f : D} {vs : List V} (r : RepL G H μ [d, e, f] vs) : ∃ v u w, vs = [v, u, w] ∧ Rep G H μ d v ∧ Rep G H μ e u ∧ Rep G H μ f w := by
  unfold RepL at r
  obtain ⟨v, t, rfl, r1, r2⟩ := r
  obtain ⟨u, w, rfl, r3, r4⟩ := r2.two
  exact ⟨v, u, w, rfl, r1, r3, r4⟩
theorem i_rng3 (hg : Gl X "range") (hm : X.mg "range" = none) (ha : PA X [a, b, c] (TDL (gx X) W ml)) (hs : starEach [a, b, c] X.env = (false, eval a X.env) :: starEach [b, c] X.env) (hpl : (backTo pos (starEach [b, c] X.env)).any (·.1) = false) :
    PI X tg (.Call (.Name "range" p) [a, b, c] [] pos) (TDI (gx X) W (iRng3 ml)) := by
  refine (pi_range3 hg hm ha hs hpl).weak fun σ H R q => ?_
  refine TG'.imp (TG'.split (rel := RepL (gx X)) q) ?_
  rintro vs H1 ⟨μ1, ds, env, h1, s1, e1, r1, p1⟩
  split at p1
  · rename_i i j k
    split at p1
    · rename_i n hn
      obtain ⟨v, u, w, rfl, q1, q2, q3⟩ := r1.three
      exact ⟨i, j, k, n, by rw [q1.intv, q2.intv, q3.intv], rgc_ok hn, p1.now s1 (jrc i k n)⟩
    · exact p1.elim
  · exact p1.elim
def dLr1 (ml : DEn (List D)) : DE := ml.bind fun ds _ h => match ds with
  | [.int j] => if sm62 j = true ∧ j.toNat ≤ big then alloc (.lst (rngC 0 1 j.toNat)) h else .bad
  | _ => .bad
def dLr2 (ml : DEn (List D)) : DE := ml.bind fun ds _ h => match ds with
  | [.int i, .int j] => if sm62 i = true ∧ sm62 j = true ∧ (j - i).toNat ≤ big then alloc (.lst (rngC i 1 (j - i).toNat)) h else .bad
  | _ => .bad
def dLr3 (ml : DEn (List D)) : DE := ml.bind fun ds _ h => match ds with
  | [.int i, .int j, .int c] => match rgc i j c with
    | some n => if n ≤ big then alloc (.lst (rngC i c n)) h else .bad
    | none => .bad
  | _ => .bad
theorem rngC_rep {G : GX} {μ : List Addr} {H : Hp} (i c : Int) (n : Nat) : RepL G H μ (rngC i c n) ((List.range n).map fun k => V.int (i + (k : Nat) * c)) := by
  have := intsRep (G := G) (μ := μ) (H := H) ((List.range n).map fun k => (i + (k : Nat) * c : Int))
  rw [List.map_map, List.map_map] at this
  exact this
theorem vals_rgc {i c : Int} {n : Nat} {acc : Array Value} (h : ItemsOf (fun k v => ∃ t, v = .int (i + k * c) t) acc n) : Vals ((List.range n).map fun k => V.int (i + (k : Nat) * c)) acc.toList := by
  have e : acc.toList.length = n := by rw [Array.length_toList]; exact h.1
  rw [← e]
  refine vals_of_get acc.toList _ fun j u hj => ?_
  obtain ⟨t, rfl⟩ := h.2 j u (by rw [← hj, Array.getElem?_toList])
  exact ⟨t, rfl⟩
/-- list(r), r a range object just made -/
theorem list_rng {pins : List (Addr × Obj)} {σ : L2.St} {H : Hp} {s : Shared} {Q : VK} {r : Addr} {i j k : Int} {t u v : Tok} {n : Nat} (hc : X.calm = true) (I : Inv X pins σ H s) (hr : IsRange s.heap r i j k t u v) (hn : RgC i j k n) (hl : n ≤ big)
    (q : ∀ p, H p = none → Q (.ref p) (upd H p (.lst ((List.range n).map fun m => V.int (i + (m : Nat) * k))))) : wpAny (model X.prog X.w) X.A (call (.type "list") [.ref r]) (EP X pins σ Q) X.xe s := by
  refine call_list_range (n := n) (I.ok.hd hc) hr hn.2.2.1 hn.2.2.2 hl fun h' tk acc c' hk e' hi => ?_
  refine ⟨.ref s.heap.objs.size, _, I.laid (o := .lst ((List.range n).map fun m => V.int (i + (m : Nat) * k))) hk (Nat.le_refl _) (show ObjOk X.prog X.w _ _ _ (.lst _) from ⟨?_, acc.toList, c', vals_rgc hi, ?_⟩), rfl, q _ (I.hok.fresh (Nat.le_refl _))⟩
  · rw [List.length_map, List.length_range, sizeLine_eq]; exact hl
  · rw [Array.toArray_toList]; exact e'
theorem rgC_one {i j : Int} (h1 : sm62 i = true) (h2 : sm62 j = true) : RgC i j 1 (j - i).toNat :=
  ⟨by decide, by decide, small_one (sm62_ok h1).1 (sm62_ok h1).2 (sm62_ok h2).1 (sm62_ok h2).2, rangeSize_nat i j⟩
theorem d_lr1 {p2 pos2 : Pos} (hc : X.calm = true) (hg : Gl X "list") (hm : X.mg "list" = none) (hg2 : Gl X "range") (hm2 : X.mg "range" = none) (ha : PA X [a] (TDL (gx X) W ml)) (hs : starEach [a] X.env = (false, eval a X.env) :: starEach [] X.env)
    (na : starEach [.Call (.Name "range" p2) [a] [] pos2] X.env = (false, eval (.Call (.Name "range" p2) [a] [] pos2) X.env) :: starEach [] X.env) : PE X (.Call (.Name "list" p) [.Call (.Name "range" p2) [a] [] pos2] [] pos) (TD (gx X) W (dLr1 ml)) := by
  refine ⟨fun pins s σ H Q I q => ?_⟩
  refine Call_ (ld_blt I hg hm boot_list (PyProof.Rows.callWith_type1 (args_cons (Call_ (ld_blt I hg2 hm2 boot_range (PyProof.Rows.callWith_type1 (thn (ha.run pos2 pins s σ H _ I (TG'.split (rel := RepL (gx X)) q)) fun us s1 ⟨vs, H1, I1, rv, μ1, ds, env, h1, s1', e1, r1, p1⟩ => ?_) hs rfl))) na) na rfl))
  split at p1
  · rename_i j
    split at p1
    · rename_i hj
      obtain ⟨v, rfl, q1⟩ := r1.one
      rw [q1.intv] at rv
      obtain ⟨u, rfl, t, rfl⟩ := vals1 rv
      refine call_range_1 (args_nil ?_)
      have hn := rgC_one (i := 0) (j := j) (by decide) hj.1
      rw [Int.sub_zero] at hn
      exact list_rng hc (I1.kept fun b u e => Heap.get?_push_of_some _ e) (IsRange.new _ _ _ _ _ _ _) hn hj.2 (p1.allocL s1' (rngC_rep 0 1 _))
    · exact p1.elim
  · exact p1.elim
theorem d_lr2 {p2 pos2 : Pos} (hc : X.calm = true) (hg : Gl X "list") (hm : X.mg "list" = none) (hg2 : Gl X "range") (hm2 : X.mg "range" = none) (ha : PA X [a, b] (TDL (gx X) W ml)) (hs : starEach [a, b] X.env = (false, eval a X.env) :: starEach [b] X.env) (hpl : (backTo pos2 (starEach [b] X.env)).any (·.1) = false)
    (na : starEach [.Call (.Name "range" p2) [a, b] [] pos2] X.env = (false, eval (.Call (.Name "range" p2) [a, b] [] pos2) X.env) :: starEach [] X.env) : PE X (.Call (.Name "list" p) [.Call (.Name "range" p2) [a, b] [] pos2] [] pos) (TD (gx X) W (dLr2 ml)) := by
  refine ⟨fun pins s σ H Q I q => ?_⟩
  refine Call_ (ld_blt I hg hm boot_list (PyProof.Rows.callWith_type1 (args_cons (Call_ (ld_blt I hg2 hm2 boot_range (PyProof.Rows.callWith_type1 (thn (ha.run pos2 pins s σ H _ I (TG'.split (rel := RepL (gx X)) q)) fun us s1 ⟨vs, H1, I1, rv, μ1, ds, env, h1, s1', e1, r1, p1⟩ => ?_) hs hpl))) na) na rfl))
  split at p1
  · rename_i i j
    split at p1
    · rename_i hj
      obtain ⟨v, u, rfl, q1, q2⟩ := r1.two
      rw [q1.intv, q2.intv] at rv
      obtain ⟨u1, u2, rfl, ⟨t, rfl⟩, ⟨t2, rfl⟩⟩ := vals2 rv
      refine call_range_2 (args_nil ?_)
      exact list_rng hc (I1.kept fun b u e => Heap.get?_push_of_some _ e) (IsRange.new _ _ _ _ _ _ _) (rgC_one hj.1 hj.2.1) hj.2.2 (p1.allocL s1' (rngC_rep i 1 _))
    · exact p1.elim
  · exact p1.elim
theorem d_lr3 {p2 pos2 : Pos} (hc : X.calm = true) (hg : Gl X "list") (hm : X.mg "list" = none) (hg2 : Gl X "range") (hm2 : X.mg "range" = none) (ha : PA X [a, b, c] (TDL (gx X) W ml)) (hs : starEach [a, b, c] X.env = (false, eval a X.env) :: starEach [b, c] X.env) (hpl : (backTo pos2 (starEach [b, c] X.env)).any (·.1) = false)
    (na : starEach [.Call (.Name "range" p2) [a, b, c] [] pos2] X.env = (false, eval (.Call (.Name "range" p2) [a, b, c] [] pos2) X.env) :: starEach [] X.env) : PE X (.Call (.Name "list" p) [.Call (.Name "range" p2) [a, b, c] [] pos2] [] pos) (TD (gx X) W (dLr3 ml)) := by
  refine ⟨fun pins s σ H Q I q => ?_⟩
  refine Call_ (ld_blt I hg hm boot_list (PyProof.Rows.callWith_type1 (args_cons (Call_ (ld_blt I hg2 hm2 boot_range (PyProof.Rows.callWith_type1 (thn (ha.run pos2 pins s σ H _ I (TG'.split (rel := RepL (gx X)) q)) fun us s1 ⟨vs, H1, I1, rv, μ1, ds, env, h1, s1', e1, r1, p1⟩ => ?_) hs hpl))) na) na rfl))
  split at p1
  · rename_i i j k
    split at p1
    · rename_i n hn
      split at p1
      · rename_i hl
        obtain ⟨v, u, w, rfl, q1, q2, q3⟩ := r1.three
        rw [q1.intv, q2.intv, q3.intv] at rv
        cases rv with
        | cons a1 rv =>
          obtain ⟨u1, u2, rfl, ⟨t, rfl⟩, ⟨t2, rfl⟩⟩ := vals2 rv
          obtain ⟨t0, rfl⟩ := a1
          have hk := rgc_ok hn
          refine call_range_3 hk.1 (args_nil ?_) (.inl (PyProof.noPylong_small hk.2.1))
          exact list_rng hc (I1.kept fun b u e => Heap.get?_push_of_some _ e) (IsRange.new _ _ _ _ _ _ _) hk hl (p1.allocL s1' (rngC_rep i k _))
      · exact p1.elim
    · exact p1.elim
  · exact p1.elim
end
end DV
namespace DV
open PySem PySem.Spec PyProof.Rows L2
def R.noX {α : Type} (r : R α) : R α :=
  match r with
  | .exc _ _ _ => .bad
  | r => r
def wipeE (env : Env) : List Nat → Env
  | [] => env
  | v :: vs => (wipeE env vs).set v none
theorem wipe_get {σ : L2.St} : ∀ {vs : List Nat} {j : Nat}, (wipe σ vs)[j]? = if j ∈ vs ∧ j < σ.length then some none else σ[j]?
  | [], j => by simp [wipe]
  | v :: vs, j => by
    unfold wipe
    by_cases hj : v = j
    · subst hj
      by_cases hl : v < σ.length
      · rw [List.getElem?_set_self (by rw [wipe_length]; exact hl), if_pos ⟨List.mem_cons_self, hl⟩]
      · rw [if_neg fun z => hl z.2, List.getElem?_eq_none (by rw [List.length_set, wipe_length]; omega), List.getElem?_eq_none (by omega)]
    · rw [List.getElem?_set_ne hj, wipe_get]
      by_cases hm : j ∈ vs ∧ j < σ.length
      · rw [if_pos hm, if_pos ⟨List.mem_cons_of_mem _ hm.1, hm.2⟩]
      · rw [if_neg hm, if_neg]
        rintro ⟨h1, h2⟩
        rcases List.mem_cons.mp h1 with z | z
        · exact hj z.symm
        · exact hm ⟨z, h2⟩
theorem wipe_agree {σ σ' : L2.St} {is vs : List Nat} (a : Agree is σ σ') (hs : ∀ i ∈ is, i ∈ vs) : wipe σ' vs = wipe σ vs := by
  apply List.ext_getElem?
  intro j
  rw [wipe_get, wipe_get, a.1]
  by_cases hj : j ∈ vs ∧ j < σ.length
  · rw [if_pos hj, if_pos hj]
  · rw [if_neg hj, if_neg hj]
    by_cases hm : j ∈ vs
    · have : σ.length ≤ j := by
        rcases Nat.lt_or_ge j σ.length with z | z
        · exact absurd ⟨hm, z⟩ hj
        · exact z
      rw [List.getElem?_eq_none (by rw [a.1]; exact this), List.getElem?_eq_none this]
    · exact a.2 j fun z => hm (hs j z)
theorem wipe_wipe {σ : L2.St} {vs : List Nat} : wipe (wipe σ vs) vs = wipe σ vs :=
  wipe_agree (is := vs) ⟨wipe_length _ _, fun j hj => by rw [wipe_get, if_neg fun z => hj z.1]⟩ fun _ h => h
theorem wipeE_length (env : Env) : ∀ vs : List Nat, (wipeE env vs).length = env.length
  | [] => rfl
  | v :: vs => by unfold wipeE; rw [List.length_set, wipeE_length env vs]
theorem ERep.wipe {G : GX} {H : Hp} {μ : List Addr} {env : Env} {σ : L2.St} (e : ERep G H μ env σ) : ∀ vs : List Nat, ERep G H μ (wipeE env vs) (L2.wipe σ vs)
  | [] => e
  | v :: vs => by
    have ih := ERep.wipe e vs
    unfold wipeE L2.wipe
    refine ⟨by rw [List.length_set, List.length_set]; exact ih.1, fun j d h => ?_⟩
    by_cases hj : v = j
    · subst hj
      exfalso
      by_cases hl : v < (wipeE env vs).length
      · rw [List.getElem?_set_self hl] at h; cases h
      · rw [List.getElem?_eq_none (by rw [List.length_set]; omega)] at h; cases h
    · rw [List.getElem?_set_ne hj] at h ⊢
      exact ih.2 j d h
def lcT (tt : DEn Bool) (te : DE) (env1 : Env) (h : DH) (k : List D → DH → R (List D)) (rest : DH → R (List D)) : R (List D) :=
  (tt env1 h).noX.bind fun b h1 => if b = true then (te env1 h1).noX.bind fun y h2 => (rest h2).bind fun r h3 => .ok (y :: r) h3 else rest h1
/-- over items: env is the block's, its own names forgotten -/
def lcS (g : AG) (tt : DEn Bool) (te : DE) (env : Env) : List D → DH → R (List D)
  | [], h => .ok [] h
  | d :: ds, h => match g d env with
    | none => .bad
    | some env1 => (tt env1 h).noX.bind fun b h1 => if b = true then (te env1 h1).noX.bind fun y h2 => (lcS g tt te env ds h2).bind fun r h3 => .ok (y :: r) h3 else lcS g tt te env ds h1
def lcR (g : AG) (tt : DEn Bool) (te : DE) (env : Env) (n : Nat) : Nat → Nat → DH → R (List D)
  | 0, _, _ => .bad
  | f + 1, i, h => match h[n]? with
    | some (.lst ds) => match ds[i]? with
      | none => .ok [] h
      | some d => match g d env with
        | none => .bad
        | some env1 => (tt env1 h).noX.bind fun b h1 => if b = true then (te env1 h1).noX.bind fun y h2 => (lcR g tt te env n f (i + 1) h2).bind fun r h3 => .ok (y :: r) h3 else lcR g tt te env n f (i + 1) h1
    | _ => .bad
def lcI (g : AG) (tt : DEn Bool) (te : DE) (f : Nat) (env : Env) : IS → DH → R (List D)
  | .items ds, h => lcS g tt te env ds h
  | .lst n, h => lcR g tt te env n f 0 h
def lcEnd (acc : List D) (rest : List D) (h : DH) : R D := if (acc ++ rest).length ≤ big then alloc (.lst (acc ++ rest)) h else .bad
def dLc (f : Nat) (mi : DEn IS) (g : AG) (tt : DEn Bool) (te : DE) (vs : List Nat) : DE := fun env h => (mi env h).bind fun is h1 => (lcI g tt te f (wipeE env vs) is h1).bind fun r h2 => lcEnd [] r h2
section
variable {G : GX} {μ μ' : List Addr} {H H' : Hp} {h : DH} {A : Addr} {o : HO}
theorem Ex0.out (hA : ∀ u, H A = some u → Mut (some u)) : Ex0 μ H μ (upd H A o) where
  pre := ⟨[], by simp⟩
  tup := fun b xs e => by
    rw [upd_ne]; exact e
    rintro rfl
    exact hA _ e
  frz := fun b ob u e _ => by
    rw [upd_ne]; exact e
    rintro rfl
    exact hA _ e
theorem SRep.out (s : SRep G μ h H) (hA : ∀ u, H A = some u → Mut (some u)) (hm : A ∉ μ) : SRep G μ h (upd H A o) :=
  ⟨s.len, s.nd, fun n u a e1 e2 => (s.ob n u a e1 e2).ext0 (Ex0.out hA) (upd_ne fun z => hm (z ▸ List.mem_of_getElem? e2))⟩
theorem Ext.out (x : Ext μ H μ' H') (hA : H A = none) : Ext μ H μ' (upd H' A o) where
  pre := x.pre
  keep := fun b u e n => by rw [upd_ne (ne_of_none e hA)]; exact x.keep b u e n
  fresh := x.fresh
  tup := fun b u e => by rw [upd_ne (ne_of_none e hA)]; exact x.tup b u e
  frz := fun b ob u e => by rw [upd_ne (ne_of_none e hA)]; exact x.frz b ob u e
/-- .. becomes one of them -/
theorem SRep.adopt {do_ : DO} (s : SRep G μ h H) (hm : A ∉ μ) (r : ORep G H μ do_ A) : SRep G (μ ++ [A]) (h ++ [do_]) H := by
  have x : Ex0 μ H (μ ++ [A]) H := ⟨⟨[A], rfl⟩, fun _ _ q => q, fun _ _ _ q _ => q⟩
  refine ⟨by simp [s.len], ?_, fun n o' a e1 e2 => ?_⟩
  · rw [List.nodup_append]
    refine ⟨s.nd, by simp, fun a ha b hb => ?_⟩
    rw [List.mem_singleton.mp hb]
    exact fun z => hm (z ▸ ha)
  · by_cases hn : n < h.length
    · rw [List.getElem?_append_left hn] at e1
      rw [List.getElem?_append_left (by rw [s.len]; exact hn)] at e2
      exact (s.ob n o' a e1 e2).ext0 x rfl
    · have hn' : n = h.length := by
        have := (List.getElem?_eq_some_iff.mp e1).1
        simp at this; omega
      subst hn'
      rw [List.getElem?_append_right (Nat.le_refl _)] at e1
      rw [List.getElem?_append_right (by rw [s.len]; exact Nat.le_refl _)] at e2
      simp [s.len] at e1 e2
      subst e1 e2
      exact r.ext0 x rfl
theorem Ext.adopt (x : Ext μ H μ' H') (hA : H A = none) : Ext μ H (μ' ++ [A]) H' where
  pre := x.pre.trans ⟨[A], rfl⟩
  keep := x.keep
  fresh := fun b m => by
    rcases List.mem_append.mp m with q | q
    · exact x.fresh b q
    · rw [List.mem_singleton.mp q]; exact .inr hA
  tup := x.tup
  frz := x.frz
end
section
variable {X : Cx} {W : XW}
abbrev W0 : XWS := fun _ _ _ _ _ _ => False
/-- a turn's test and element: from the outcome that is not bad -/
theorem lc_turn {G : GX} {μ0 : List Addr} {H0 : Hp} {Q : VK} {tt : DEn Bool} {te : DE} {env1 : Env} {h : DH} {acc : List D} {rest : DH → R (List D)} {μ : List Addr} {H : Hp} {σ : L2.St} {tT : TT} {tE : TE}
    (p : Post (Rep G) G W μ0 H0 (((tt env1 h).noX.bind fun b h1 => if b = true then (te env1 h1).noX.bind fun y h2 => (rest h2).bind fun r h3 => .ok (y :: r) h3 else rest h1).bind fun r h2 => lcEnd acc r h2) Q)
    (s : SRep G μ h H) (e : ERep G H μ env1 σ) {Z : Bool → Hp → Prop}
    (h1 : ∀ h1 μ1 H1, SRep G μ1 h1 H1 → Ext μ H μ1 H1 → Post (Rep G) G W μ0 H0 ((rest h1).bind fun r h2 => lcEnd acc r h2) Q → Z false H1)
    (h2 : ∀ h1 μ1 H1, SRep G μ1 h1 H1 → Ext μ H μ1 H1 → ∀ y h2, te env1 h1 = .ok y h2 → Post (Rep G) G W μ0 H0 ((rest h2).bind fun r h3 => lcEnd (acc ++ [y]) r h3) Q → Z true H1) : TDB G W0 tt σ H Z := by
  refine ⟨μ, env1, h, s, e, ?_⟩
  cases q : tt env1 h with
  | bad => rw [q] at p; exact p.elim
  | exc c a h' => rw [q] at p; exact p.elim
  | ok b hb =>
    rw [q] at p
    rintro μ1 H1 b' s1 x1 rfl
    cases b with
    | false => exact h1 hb μ1 H1 s1 x1 p
    | true =>
      have p : Post (Rep G) G W μ0 H0 (((te env1 hb).noX.bind fun y h2 => (rest h2).bind fun r h3 => .ok (y :: r) h3).bind fun r h2 => lcEnd acc r h2) Q := p
      cases q2 : te env1 hb with
      | bad => rw [q2] at p; exact p.elim
      | exc c a h' => rw [q2] at p; exact p.elim
      | ok y hy =>
        rw [q2] at p
        refine h2 hb μ1 H1 s1 x1 y hy q2 ?_
        have p : Post (Rep G) G W μ0 H0 (((rest hy).bind fun r h3 => .ok (y :: r) h3).bind fun r h2 => lcEnd acc r h2) Q := p
        cases q3 : rest hy with
        | bad => rw [q3] at p; exact p
        | exc c a h' => rw [q3] at p; exact p
        | ok r h3 =>
          rw [q3] at p
          have p : Post (Rep G) G W μ0 H0 (lcEnd acc (y :: r) h3) Q := p
          show Post (Rep G) G W μ0 H0 (lcEnd (acc ++ [y]) r h3) Q
          have ee : acc ++ [y] ++ r = acc ++ y :: r := by simp
          unfold lcEnd at p ⊢
          rw [ee]; exact p
theorem lcEnd_len {G : GX} {μ0 : List Addr} {H0 : Hp} {Q : VK} {acc : List D} {r : R (List D)} (p : Post (Rep G) G W μ0 H0 (r.bind fun r h2 => lcEnd acc r h2) Q) (hx : ∀ c a h', r ≠ .exc c a h') : acc.length ≤ big := by
  cases r with
  | bad => exact p.elim
  | exc c a h' => exact absurd rfl (hx c a h')
  | ok r h' =>
    have p : Post (Rep G) G W μ0 H0 (lcEnd acc r h') Q := p
    unfold lcEnd at p
    split at p
    · rename_i h
      rw [List.length_append] at h
      omega
    · exact p.elim
theorem lcS_noX {g : AG} {tt : DEn Bool} {te : DE} {env : Env} : ∀ (ds : List D) (h : DH) c a h', lcS g tt te env ds h ≠ .exc c a h'
  | [], h, c, a, h' => fun z => by cases z
  | d :: ds, h, c, a, h' => fun z => by
    unfold lcS at z
    split at z
    · cases z
    · rename_i env1 _
      cases q : tt env1 h with
      | bad => rw [q] at z; cases z
      | exc c a h' => rw [q] at z; cases z
      | ok b hb =>
        rw [q] at z
        cases b with
        | false => exact lcS_noX ds hb c a h' z
        | true =>
          have z : ((te env1 hb).noX.bind fun y h2 => (lcS g tt te env ds h2).bind fun r h3 => .ok (y :: r) h3) = .exc c a h' := z
          cases q2 : te env1 hb with
          | bad => rw [q2] at z; cases z
          | exc c a h' => rw [q2] at z; cases z
          | ok y hy =>
            rw [q2] at z
            have z : ((lcS g tt te env ds hy).bind fun r h3 => .ok (y :: r) h3) = .exc c a h' := z
            cases q3 : lcS g tt te env ds hy with
            | bad => rw [q3] at z; cases z
            | exc c a h' => exact lcS_noX ds hy _ _ _ q3
            | ok r h3 => rw [q3] at z; cases z
theorem lcR_noX {g : AG} {tt : DEn Bool} {te : DE} {env : Env} {n : Nat} : ∀ (f i : Nat) (h : DH) c a h', lcR g tt te env n f i h ≠ .exc c a h'
  | 0, i, h, c, a, h' => fun z => by cases z
  | f + 1, i, h, c, a, h' => fun z => by
    unfold lcR at z
    split at z
    · split at z
      · cases z
      · split at z
        · cases z
        · rename_i env1 _
          cases q : tt env1 h with
          | bad => rw [q] at z; cases z
          | exc c a h' => rw [q] at z; cases z
          | ok b hb =>
            rw [q] at z
            cases b with
            | false => exact lcR_noX f (i + 1) hb c a h' z
            | true =>
              have z : ((te env1 hb).noX.bind fun y h2 => (lcR g tt te env n f (i + 1) h2).bind fun r h3 => .ok (y :: r) h3) = .exc c a h' := z
              cases q2 : te env1 hb with
              | bad => rw [q2] at z; cases z
              | exc c a h' => rw [q2] at z; cases z
              | ok y hy =>
                rw [q2] at z
                have z : ((lcR g tt te env n f (i + 1) hy).bind fun r h3 => .ok (y :: r) h3) = .exc c a h' := z
                cases q3 : lcR g tt te env n f (i + 1) hy with
                | bad => rw [q3] at z; cases z
                | exc c a h' => exact lcR_noX f (i + 1) hy _ _ _ q3
                | ok r h3 => rw [q3] at z; cases z
    · cases z
/-- the reading of a comprehension -/
theorem lc_d {W : XWS} {f : Nat} {mi : DEn IS} {g : AG} {tt : DEn Bool} {te : DE} {vs is : List Nat} {σ : L2.St} {H : Hp} {Q : VK} (hs : ∀ i ∈ is, i ∈ vs) (q : TD (gx X) W (dLc f mi g tt te vs) σ H Q) :
    tLc (TDI (gx X) W mi) (TGD (gx X) is g) (TDB (gx X) W0 tt) (TD (gx X) W0 te) vs σ H Q := by
  refine TG'.imp (TG'.split (rel := relI (gx X)) (k := fun is env h1 => (lcI g tt te f (wipeE env vs) is h1).bind fun r h2 => lcEnd [] r h2) q) ?_
  rintro J H0 ⟨μ0, iss, env, h0, s0, e0, r0, p0⟩
  intro A hA
  have lstA : ∀ {H : Hp} {ys : List V}, H A = some (.lst ys) → ∀ u, H A = some u → Mut (some u) := fun e u z => by rw [e] at z; cases z; trivial
  have nA : ∀ {μ : List Addr} {H : Hp}, Ext μ0 H0 μ H → SRep (gx X) μ0 h0 H0 → True := fun _ _ => trivial
  have ew := e0.wipe vs
  -- the state between two turns
  let St := fun (acc : List D) (μ : List Addr) (h : DH) (H : Hp) => Ext μ0 H0 μ H ∧ A ∉ μ ∧ SRep (gx X) μ h H ∧ ∃ ws, H A = some (.lst ws) ∧ RepL (gx X) H μ acc ws
  have start : St [] μ0 h0 (upd H0 A (.lst [])) := by
    refine ⟨Ext.out .refl hA, s0.not_mem hA, s0.out (fun u z => by rw [hA] at z; cases z) (s0.not_mem hA), [], upd_same, by unfold RepL; rfl⟩
  -- the state moves on
  have move : ∀ {acc μ h H μ1 h1 H1}, St acc μ h H → SRep (gx X) μ1 h1 H1 → Ext μ H μ1 H1 → St acc μ1 h1 H1 := by
    rintro acc μ h H μ1 h1 H1 ⟨a1, a2, a3, ws, a4, a5⟩ s1 x1
    refine ⟨a1.trans x1, fun m => ?_, s1, ws, x1.keep A _ a4 a2, a5.ext x1⟩
    rcases x1.fresh A m with z | z
    · exact a2 z
    · rw [a4] at z; cases z
  have push : ∀ {acc μ h H y v}, St acc μ h H → Rep (gx X) H μ y v → ∃ ws, H A = some (.lst ws) ∧ St (acc ++ [y]) μ h (upd H A (.lst (ws ++ [v]))) ∧ ws.length = acc.length := by
    rintro acc μ h H y v ⟨a1, a2, a3, ws, a4, a5⟩ ry
    refine ⟨ws, a4, ⟨Ext.out a1 hA, a2, a3.out (lstA a4) a2, ws ++ [v], upd_same, ?_⟩, a5.length⟩
    refine (a5.append (?_ : RepL (gx X) H μ [y] [v])).ext0 (Ex0.out (lstA a4))
    unfold RepL
    exact ⟨v, [], rfl, ry, by unfold RepL; rfl⟩
  have fin : ∀ {acc μ h H}, St acc μ h H → Post (Rep (gx X)) (gx X) (W σ) μ0 H0 (lcEnd acc [] h) Q → Q (.ref A) H := by
    rintro acc μ h H ⟨a1, a2, a3, ws, a4, a5⟩ p
    unfold lcEnd at p
    rw [List.append_nil] at p
    split at p
    · refine p (μ ++ [A]) H (.ref A) (a3.adopt a2 (show ORep (gx X) H μ (.lst acc) A from ⟨ws, a4, a5⟩)) (Ext.adopt a1 hA) ?_
      unfold Rep
      exact ⟨A, by rw [List.getElem?_append_right (by rw [a3.len]; exact Nat.le_refl _)]; simp [a3.len], rfl⟩
    · exact p.elim
  have envw : ∀ {μ H}, Ext μ0 H0 μ H → ERep (gx X) H μ (wipeE env vs) (wipe σ vs) := fun x => ew.ext x
  cases iss with
  | items ds =>
    have r0 : JItems (gx X) μ0 H0 ds J := r0
    have p0 : Post (Rep (gx X)) (gx X) (W σ) μ0 H0 ((lcS g tt te (wipeE env vs) ds h0).bind fun r h2 => lcEnd [] r h2) Q := p0
    let Wp := fun (i k : Nat) (H : Hp) => i + k = ds.length ∧ ∃ acc μ h, St acc μ h H ∧ Post (Rep (gx X)) (gx X) (W σ) μ0 H0 ((lcS g tt te (wipeE env vs) (ds.drop i) h).bind fun r h2 => lcEnd acc r h2) Q
    refine ⟨Wp, ⟨ds.length, by simp, [], μ0, h0, start, p0⟩, ?_⟩
    rintro i k H1 ⟨hk, acc, μ, h, hS, p⟩
    by_cases hi : i < ds.length
    · right
      refine ⟨r0.go i μ H1 hS.1 hi, fun H' => Wp (i + 1) (k - 1) H', fun H' z => ⟨k - 1, by omega, z⟩, fun x H' hy => ?_⟩
      obtain ⟨s', x', ry⟩ := r0.yld i μ h H1 ds[i] x H' hS.1 hS.2.2.1 (List.getElem?_eq_getElem hi) hy
      have hS' := move hS s' x'
      rw [List.drop_eq_getElem_cons hi] at p
      unfold lcS at p
      split at p
      · exact p.elim
      · rename_i env1 hg1
        refine ⟨μ, wipeE env vs, h, ds[i], env1, s', envw hS'.1, ry, hg1, fun σ2 e2 ag => ⟨(wipe_agree ag hs).trans wipe_wipe, ?_⟩⟩
        refine lc_turn (rest := fun h => lcS g tt te (wipeE env vs) (ds.drop (i + 1)) h) (tT := fun _ _ _ => True) (tE := fun _ _ _ => True) p s' e2 (fun h1 μ1 H3 s1 x1 p1 => ?_) (fun h1 μ1 H3 s1 x1 y h2 qy p1 => ?_)
        · rw [if_neg (by decide)]
          exact ⟨by omega, acc, μ1, h1, move hS' s1 x1, p1⟩
        · rw [if_pos rfl]
          refine ⟨μ1, env1, h1, s1, e2.ext x1, ?_⟩
          rw [qy]
          intro μ2 H4 v s2 x2 r2
          obtain ⟨ws, w1, w2, w3⟩ := push (move (move hS' s1 x1) s2 x2) r2
          refine ⟨ws, w1, ?_, by omega, acc ++ [y], μ2, h2, w2, p1⟩
          have := lcEnd_len p1 (lcS_noX _ _)
          rw [List.length_append] at this
          rw [big_eq, w3]
          simp at this
          omega
    · left
      refine ⟨r0.stop i μ H1 hS.1 (by omega), fin hS ?_⟩
      rw [List.drop_eq_nil_of_le (by omega)] at p
      exact p
  | lst n =>
    obtain ⟨a, ea, rfl⟩ := r0
    have p0 : Post (Rep (gx X)) (gx X) (W σ) μ0 H0 ((lcR g tt te (wipeE env vs) n f 0 h0).bind fun r h2 => lcEnd [] r h2) Q := p0
    let Wp := fun (i k : Nat) (H : Hp) => ∃ acc μ h, St acc μ h H ∧ Post (Rep (gx X)) (gx X) (W σ) μ0 H0 ((lcR g tt te (wipeE env vs) n k i h).bind fun r h2 => lcEnd acc r h2) Q
    refine ⟨Wp, ⟨f, [], μ0, h0, start, p0⟩, ?_⟩
    rintro i k H1 ⟨acc, μ, h, hS, p⟩
    have ea' := pre_get hS.1.pre ea
    cases k with
    | zero => exact p.elim
    | succ k =>
      unfold lcR at p
      split at p
      · rename_i ds hd
        obtain ⟨vs', h1, l1⟩ := hS.2.2.1.list hd ea'
        have hsq : SqL (gx X).K H1 a vs' := .of h1
        split at p
        · rename_i hi
          left
          refine ⟨⟨vs', hsq, ?_⟩, fin hS p⟩
          rw [l1.length]
          exact List.getElem?_eq_none_iff.mp hi
        · rename_i d hi
          obtain ⟨y0, hy0, ry0⟩ := l1.get hi
          right
          refine ⟨⟨vs', y0, hsq, hy0⟩, fun H' => Wp (i + 1) k H', fun H' z => ⟨k, Nat.lt_succ_self k, z⟩, ?_⟩
          rintro y H' ⟨rfl, hy⟩
          have := hy vs' hsq
          rw [hy0] at this
          cases this
          split at p
          · exact p.elim
          · rename_i env1 hg1
            refine ⟨μ, wipeE env vs, h, d, env1, hS.2.2.1, envw hS.1, ry0, hg1, fun σ2 e2 ag => ⟨(wipe_agree ag hs).trans wipe_wipe, ?_⟩⟩
            refine lc_turn (rest := fun h => lcR g tt te (wipeE env vs) n k (i + 1) h) (tT := fun _ _ _ => True) (tE := fun _ _ _ => True) p hS.2.2.1 e2 (fun h1 μ1 H3 s1 x1 p1 => ?_) (fun h1 μ1 H3 s1 x1 y h2 qy p1 => ?_)
            · rw [if_neg (by decide)]
              exact ⟨acc, μ1, h1, move hS s1 x1, p1⟩
            · rw [if_pos rfl]
              refine ⟨μ1, env1, h1, s1, e2.ext x1, ?_⟩
              rw [qy]
              intro μ2 H4 v s2 x2 r2
              obtain ⟨ws, w1, w2, w3⟩ := push (move (move hS s1 x1) s2 x2) r2
              refine ⟨ws, w1, ?_, acc ++ [y], μ2, h2, w2, p1⟩
              have := lcEnd_len p1 (lcR_noX _ _ _)
              rw [List.length_append] at this
              rw [big_eq, w3]
              simp at this
              omega
      · exact p.elim
end
end DV
namespace DV
open PySem PySem.Spec PyProof.Rows L2
structure FnG (P : Program) (w : World) (K : PySem.W.Frag) (mg : Str → Option Value) (base : Heap) (CX : CXT) (k : Nat) (f : Addr) (fd : FuncData) (ps : List Str) (sp : Sp) : Prop where
  len : ∀ vs H Q E, sp vs H Q E → vs.length = ps.length
  run : ∀ (A : Around) (outer : List PySem.Env) (s : Shared) (H : Hp) (args : Args) (us : List Value) (vs : List V) (Q : VK) (E : XK), A.guards = some [] → Room k A → Env0 P w K mg base A outer s H →
    BindsTo s fd args (ps.zip us) → Vals vs us → sp vs H Q E → codeAny (model P w) A (.call (.ref f) args) (CR CX outer P w H s Q E) s
/-- the tables: classes of errors -/
structure Tabs where
  ename : Nat → Txt
  eflds : Nat → List Txt
/-- an exception by its data, as the wish E has it -/
def WE (T : Tabs) (G : GX) (E : XK) : XW := fun μ H c a h => ∀ dx vs, H dx = none → RepL G H μ a vs → E (.ref (He.ga G.K (sOf (T.ename c)))) (some dx) (upd H dx (.xd (((T.eflds c).map sOf).zip vs)))
/-- a def's promise by its data function -/
def spF (T : Tabs) (G : GX) (n : Nat) (φ : DF) : Sp := fun vs H Q E => vs.length = n ∧ ∃ μ h ds, SRep G μ h H ∧ RepL G H μ ds vs ∧ Post (Rep G) G (WE T G E) μ H (φ ds h) Q
theorem Post.wimp {α β : Type} {rel : Hp → List Addr → α → β → Prop} {G : GX} {W W' : XW} {μ : List Addr} {H : Hp} {r : R α} {Q : β → Hp → Prop} (p : Post rel G W μ H r Q) (hw : ∀ μ' H' c a h', SRep G μ' h' H' → W μ' H' c a h' → W' μ' H' c a h') : Post rel G W' μ H r Q := by
  cases r with
  | ok d h => exact p
  | exc c a h => exact fun μ' H' s x => hw μ' H' c a h s (p μ' H' s x)
  | bad => exact p.elim
/-- the wish W of data exceptions says the wish WX of exceptions -/
def Links (T : Tabs) (G : GX) (W : XWS) (w : WX) : Prop := ∀ σ μ H c a h, SRep G μ h H → W σ μ H c a h → WE T G (fun cls d H => w cls d σ H) μ H c a h
section
variable {X : Cx} {k : Nat} {f : Addr} {fd : FuncData} {ps : List Str} {sp : Sp} {dvs : List V} {ds : List Value} {E : XK} {x : Str} {p pos : Pos} {e : Expr} {es : List Expr}
theorem run_fnG {CX : CXT} {pins : List (Addr × Obj)} {σ : L2.St} {H : Hp} {s : Shared} {Q : VK} {us : List Value} {vs : List V} (F : FnG X.prog X.w X.K X.mg X.base CX k f fd ps sp) (hr : Room k X.A) (hgd : X.A.guards = some []) (hb : Binds X.K fd ps ds) (hd : Vals dvs ds)
    (I : Inv X pins σ H s) (hx : ∀ e s', CX X.stack H s E e s' → X.xe e s') (r : Vals vs us) (h : sp (vs ++ dvs) H Q E) : wpAny (model X.prog X.w) X.A (call (.ref f) us) (EP X pins σ Q) X.xe s := by
  have r2 : Vals (vs ++ dvs) (us ++ ds) := r.append hd
  have hl : (us ++ ds).length = ps.length := by
    rw [← r2.length]
    exact F.len _ _ _ _ h
  refine wpAny_call (codeAny_mono (F.run X.A X.stack s H ⟨us, []⟩ (us ++ ds) (vs ++ dvs) Q E hgd hr I.env0 (hb s us I.kIn hl) r2 h) ?_)
  intro r s' hq
  cases r with
  | error e => exact hx e s' hq
  | ok fl =>
    cases fl with
    | ret u => exact I.after hq
    | next => exact hq.elim
    | brk => exact hq.elim
    | cont => exact hq.elim
variable {T : Tabs} {W : XWS} {w : WX} {n : Nat} {φ : DF} {ml : DEn (List D)} {dd : List D}
/-- the promise at a call -/
theorem spF_at {σ : L2.St} {H : Hp} {vs : List V} {Q : VK} {μ : List Addr} {h : DH} {as : List D} (lw : Links T (gx X) W w) (s : SRep (gx X) μ h H) (r : RepL (gx X) H μ as vs) (hl : vs.length = n) (P : Post (Rep (gx X)) (gx X) (W σ) μ H (φ as h) Q) :
    spF T (gx X) n φ vs H Q (fun cls d H => w cls d σ H) := ⟨hl, μ, h, as, s, r, P.wimp fun μ' H' c a h' s' z => lw σ μ' H' c a h' s' z⟩
def dCallF (ml : DEn (List D)) (dd : List D) (n : Nat) (φ : DF) : DE := ml.bind fun ds _ h => if (ds ++ dd).length = n then φ (ds ++ dd) h else .bad
/-- the defaults are data, whatever the heap -/
def IsD (G : GX) (dd : List D) (dvs : List V) : Prop := ∀ μ H, RepL G H μ dd dvs
theorem call_d {pins : List (Addr × Obj)} {σ : L2.St} {H1 : Hp} {s1 : Shared} {Q : VK} {us : List Value} {vs : List V} (F : FnG X.prog X.w X.K X.mg X.base (CX X.prog X.w) k f fd ps (spF T (gx X) n φ)) (hr : Room k X.A) (hgd : X.A.guards = some []) (hb : Binds X.K fd ps ds) (hd : Vals dvs ds) (hdd : IsD (gx X) dd dvs)
    (tk : Takes X w) (lw : Links T (gx X) W w) (I1 : Inv X pins σ H1 s1) (r : Vals vs us)
    (q : ∃ μ1 as env h1, SRep (gx X) μ1 h1 H1 ∧ ERep (gx X) H1 μ1 env σ ∧ RepL (gx X) H1 μ1 as vs ∧ Post (Rep (gx X)) (gx X) (W σ) μ1 H1 (if (as ++ dd).length = n then φ (as ++ dd) h1 else .bad) Q) :
    wpAny (model X.prog X.w) X.A (call (.ref f) us) (EP X pins σ Q) X.xe s1 := by
  obtain ⟨μ1, as, env, h1, s1', e1, r1, p1⟩ := q
  split at p1
  · rename_i hn
    have rr := r1.append (hdd μ1 H1)
    exact run_fnG F hr hgd hb hd I1 (E := fun cls d H => w cls d σ H) (fun e s' z => tk e s' (XE.of_call I1 (fun cls d H' z => z) z)) r (spF_at lw s1' rr (by rw [rr.length]; exact hn) p1)
  · exact p1.elim
theorem d_call (F : FnG X.prog X.w X.K X.mg X.base (CX X.prog X.w) k f fd ps (spF T (gx X) n φ)) (hr : Room k X.A) (hgd : X.A.guards = some []) (hg : Gl X x) (hm : X.mg x = some (.ref f)) (hk : PySem.W.keepIn X.K (.ref f) = true) (hb : Binds X.K fd ps ds) (hd : Vals dvs ds) (hdd : IsD (gx X) dd dvs)
    (tk : Takes X w) (lw : Links T (gx X) W w) (ha : PA X (e :: es) (TDL (gx X) W ml)) (hdb : (x == ("__debug__" : Str)) = false) (he : starEach (e :: es) X.env = (false, eval e X.env) :: starEach es X.env) (hpl : (backTo pos (starEach es X.env)).any (·.1) = false) :
    PE X (.Call (.Name x p) (e :: es) [] pos) (TD (gx X) W (dCallF ml dd n φ)) := by
  refine ⟨fun pins s σ H Q I q => ?_⟩
  refine wpAny_Call_Name_kw (ld_glob I hg hm ?_ hdb)
  refine PySem.W.callWith_K (h₀ := X.base) I.ok.mod.kin hk (thn (ha.run pos pins s σ H _ I (TG'.split (rel := RepL (gx X)) q)) ?_) he hpl
  rintro us s1 ⟨vs, H1, I1, r, q1⟩
  exact ⟨I1.kIn, call_d F hr hgd hb hd hdd tk lw I1 r q1⟩
theorem d_call0 (F : FnG X.prog X.w X.K X.mg X.base (CX X.prog X.w) k f fd ps (spF T (gx X) n φ)) (hr : Room k X.A) (hgd : X.A.guards = some []) (hg : Gl X x) (hm : X.mg x = some (.ref f)) (hk : PySem.W.keepIn X.K (.ref f) = true) (hb : Binds X.K fd ps ds) (hd : Vals dvs ds) (hdd : IsD (gx X) dd dvs)
    (tk : Takes X w) (lw : Links T (gx X) W w) (hdb : (x == ("__debug__" : Str)) = false) : PE X (.Call (.Name x p) [] [] pos) (TD (gx X) W (dCallF dNil dd n φ)) := by
  refine ⟨fun pins s σ H Q I q => ?_⟩
  refine wpAny_Call_Name_kw (ld_glob I hg hm ?_ hdb)
  refine PySem.W.callWith_K0 I.kIn hk (call_d (us := []) (vs := []) F hr hgd hb hd hdd tk lw I .nil ?_)
  obtain ⟨μ, env, h, S, e, P⟩ := q
  exact ⟨μ, [], env, h, S, e, by unfold RepL; rfl, P⟩
end
/-- a def by its body -/
theorem fnG_of {CX : CXT} {P : Program} {w : World} {K : PySem.W.Frag} {mg : Str → Option Value} {base : Heap} {k : Nat} {f : Addr} {name qual : Str} {params : Arguments} {body : List Stmt} {scope : Scope} {dV kV doc pm cdv ct oc : Value} {an od : Option Addr}
    {osl : Array (Option Value)} {N ps : List Str} {sp : Sp} (lk : K.lookup f = some ⟨oc, od, .func (PySem.W.fnOf name qual params body scope dV kV doc pm an cdv ct), osl⟩) (hcd : PySem.W.codeIn K cdv qual = true) (S : FnScope N ps scope)
    (len : ∀ vs H Q E, sp vs H Q E → vs.length = ps.length)
    (hbody : ∀ (A : Around) (outer : List PySem.Env) (s : Shared) (H : Hp) (vs : List V) (Q : VK) (E : XK), A.guards = some [] → Room k (A.deeper (envOfC qual scope s.heap.objs.size f cdv)) → sp vs H Q E →
      ∃ t, PSs (cxOf CX P w K mg base N qual scope f cdv A outer s H E) body t ∧ t { nx := fun _ H' => Q .non H', rt := Q } (start N vs) H) :
    FnG P w K mg base CX (k + 1) f (PySem.W.fnOf name qual params body scope dV kV doc pm an cdv ct) ps sp := by
  refine ⟨len, ?_⟩
  intro A outer s H args us vs Q E hgd hr e0 hb r hsp
  have hl := len _ _ _ _ hsp
  have stays : ∀ b o, base.get? b = some o → s.heap.get? b = some o := fun b o e => (e0.bs b o e).1
  have KX : K.In s.heap := e0.mod.kin.keeps stays
  have lim : s.heap.NoLimit := e0.mod.nolimit.keeps stays
  have hkind : ∀ y ∈ ps.zip us, scope.names.lookup y.1 = some .local ∨ (scope.names.lookup y.1 = some .cell ∧ ((cellsFrom (s.heap.objs.size + 1) scope.names []).lookup y.1).isSome = true) := by
    intro y hy
    rcases S.par y.1 (List.of_mem_zip (a := y.1) (b := y.2) hy).1 with q | q
    · exact .inl q
    · exact .inr ⟨q, PySem.W.cellsFrom_some _ _ _ (.inl q)⟩
  refine codeAny_call_function hr.depth (KX _ _ lk) rfl S.co S.gen rfl (PySem.W.codeRec_of KX hcd) (hb _ _ _ _ (wpAny_newFunctionEnv_cells S.kind hkind ?_))
  intro env he s1 x
  subst he
  refine ⟨lim.keeps x.toInCall.keep, codeAny_func ?_⟩
  obtain ⟨t, ht, hq⟩ := hbody A outer s H vs Q E hgd (hr.deeper _) hsp
  have I := inv_start (CX := CX) (P := P) (w := w) (E := E) S hr.hd e0 hl r x
  refine wpAny_mono (ht.run [] s1 (start N vs) H _ I hq) ?_ fun e s' hs => hs
  intro fl s' hs
  cases fl with
  | ret u =>
    obtain ⟨v, σ', H', J, rv, q⟩ := hs
    exact ⟨v, H', J.os, J.bare, J.base, J.hok, rv, q⟩
  | next =>
    obtain ⟨σ', H', J, q⟩ := hs
    exact ⟨V.non, H', J.os, J.bare, J.base, J.hok, rfl, q⟩
  | brk =>
    obtain ⟨_, _, _, q⟩ := hs
    exact q.elim
  | cont =>
    obtain ⟨_, _, _, q⟩ := hs
    exact q.elim
end DV
namespace DV
open PySem PySem.Spec PyProof.Rows L2
def negD : D → DH → R D
  | .int i, h => .ok (.int (-i)) h
  | _, _ => .bad
def dNeg (m : DE) : DE := m.bind fun d _ h => negD d h
section
variable {X : Cx} {W : XWS} {pos : Pos} {a : Expr} {ma : DE}
theorem d_neg (ha : PE X a (TD (gx X) W ma)) : PE X (.UnaryOp .USub a pos) (TD (gx X) W (dNeg ma)) := by
  refine (pe_un un_neg ha).weak fun σ H Q q => ?_
  refine TG'.imp (TG'.split (rel := Rep (gx X)) q) ?_
  rintro x H1 ⟨μ1, d, env, h1, s1, e1, r1, p1⟩
  cases d with
  | int i => exact ⟨i, r1.intv, p1.now s1 (by unfold Rep; rfl)⟩
  | _ => exact p1.elim
end
/-- list(x), x a list, a tuple, a text -/
def listF2 : DF
  | [.str t], h => if t.length ≤ big then alloc (.lst (chars t)) h else .bad
  | ds, h => listF ds h
theorem charsRep {G : GX} {μ : List Addr} {H : Hp} : ∀ t : Txt, RepL G H μ (chars t) (t.map fun c => V.str ⟨#[c]⟩)
  | [] => by unfold chars RepL; rfl
  | c :: t => by
    show RepL G H μ (D.str [c] :: chars t) _
    unfold RepL
    exact ⟨_, _, rfl, by unfold Rep; rfl, charsRep t⟩
section
variable {X : Cx} {W : XW}
theorem c_list2 (hc : X.calm = true) : CallR X (.type "list") (rCD (gx X) W listF2) := by
  intro pins s σ H vs us Q I rv ⟨μ, h, ds, S, r, P⟩
  unfold listF2 at P
  split at P
  · rename_i h t
    obtain ⟨v, rfl, r1⟩ := r.one
    rw [r1.strv] at rv
    obtain ⟨u, rfl, tk, rfl⟩ := vals1 rv
    split at P
    · rename_i hl
      have hz : (sOf t).cps.size ≤ sizeLine := by rw [big_eq]; simpa [sOf] using hl
      refine call_list_str (I.ok.hd hc) (sOf t) tk (fun h' tk' acc' c' hk e' hi => ?_) hz
      have hsz : acc'.toList.length = t.length := by rw [Array.length_toList, hi.1]; simp [sOf]
      have hv : Vals (t.map fun c => V.str ⟨#[c]⟩) acc'.toList := by
        refine vals_of_at (by rw [List.length_map]; exact hsz.symm) fun j x u h1 h2 => ?_
        obtain ⟨c, tk2, hc', hu⟩ := hi.2 j u (by rw [← h2, Array.getElem?_toList])
        have hc'' : t[j]? = some c := by simpa [sOf] using hc'
        rw [List.getElem?_map, hc''] at h1
        cases h1
        exact ⟨tk2, hu⟩
      refine ⟨.ref s.heap.objs.size, _, I.laid (o := .lst (t.map fun c => V.str ⟨#[c]⟩)) hk (Nat.le_refl _) (show ObjOk X.prog X.w _ _ _ (.lst _) from ⟨?_, acc'.toList, c', hv, ?_⟩), rfl, P.allocL S (charsRep t) _ (I.hok.fresh (Nat.le_refl _))⟩
      · rw [List.length_map, big_eq]; exact hl
      · rw [Array.toArray_toList]; exact e'
    · exact P.elim
  · exact c_list pins s σ H vs us Q I rv ⟨μ, h, _, S, r, P⟩
theorem c_str : CallR X (.type "str") (rCD (gx X) W strF) := by
  intro pins s σ H vs us Q I rv ⟨μ, h, ds, S, r, P⟩
  unfold strF at P
  split at P
  · rename_i h i
    obtain ⟨v, rfl, r1⟩ := r.one
    split at P
    · rename_i hl
      refine call_str_int pins s σ H _ us Q I rv ⟨i, by rw [r1.intv], hl, P.now S ?_⟩
      unfold Rep
      show V.str (Str.ofString (toString i)) = _
      refine congrArg V.str ?_
      rw [Str.ofString_eq_toList]
      rfl
    · exact P.elim
  · exact P.elim
/-- repr(x), where nothing is being shown -/
theorem c_repr (hu : X.A.units + 70 < cLine) (hgd : X.A.guards = some []) : CallR X (.builtin "repr") (rCD (gx X) W reprF) := by
  intro pins s σ H vs us Q I rv ⟨μ, h, ds, S, r, PP⟩
  unfold reprF at PP
  split at PP
  · rename_i h d
    obtain ⟨v, rfl, r1⟩ := r.one
    obtain ⟨u, rfl, ru⟩ := vals1 rv
    split at PP
    · rename_i p hp
      split at PP
      · rename_i hs
        obtain ⟨h1, h2, h3, h4⟩ := hs
        have dp := toPy_ok S _ _ _ _ hp r1
        obtain ⟨as, rd⟩ := Dp.reads I p v u dp ru
        have fin : ∀ s', Inv X pins σ H s' → ∀ t, EP X pins σ Q (.str p.shown t) s' := fun s' I' t => ⟨.str p.shown, H, I', ⟨t, rfl⟩, PP.now S (by unfold Rep; simp [sOf])⟩
        have hsz : p.shown.length ≤ sizeLine := by rw [big_eq]; exact h3
        cases dp with
        | non =>
          cases ru
          exact PySem.P.repr_of_none (fin _ (I.tok _) _)
        | bl b => cases ru; exact PySem.P.repr_of_bool (fin _ (I.tok _) _)
        | int i => obtain ⟨t, rfl⟩ := ru; exact PySem.P.repr_of_int (by simpa [PyData.showable] using h1) (fin _ (I.tok _) _)
        | str x => obtain ⟨t, rfl⟩ := ru; exact PySem.P.repr_of_str (fin _ (I.tok _) _) hsz
        | lst _ _ =>
          cases ru
          exact repr_of_reads' rd h1 (fun z => by rw [h4] at z; cases z) hgd (by omega) (fun _ _ e => e) (fun h' t tk hk => fin _ (I.kept hk) t) hsz
        | tup _ _ =>
          cases ru
          exact repr_of_reads' rd h1 (fun z => by rw [h4] at z; cases z) hgd (by omega) (fun _ _ e => e) (fun h' t tk hk => fin _ (I.kept hk) t) hsz
      · exact PP.elim
    · exact PP.elim
  · exact PP.elim
end
end DV
namespace DV
open PySem PySem.Spec PyProof.Rows L2
section
variable {G : GX} {μ : List Addr} {H : Hp}
theorem RepK.put {k d : D} {key : Key} {v : V} (hk : keyD k = some key) (rd : Rep G H μ d v) : ∀ {kvs : List (D × D)} {kv : List (Key × V)}, RepK G H μ kvs kv → (kv.map (·.1)).Nodup → RepK G H μ (putD k d kvs) (putK kv key v)
  | [], kv, r, _ => by
    have r : kv = [] := r
    subst r
    exact ⟨key, v, [], rfl, hk, rd, rfl⟩
  | (x, e) :: t, kv, r, nd => by
    obtain ⟨a, w, u, rfl, h1, h2, h3⟩ := r
    have h1 : keyD x = some a := h1
    rw [List.map_cons, List.nodup_cons] at nd
    unfold putD
    rw [keq_key h1 hk]
    by_cases e' : a = key
    · subst e'
      rw [if_pos (decide_eq_true rfl)]
      have hin : putK ((a, w) :: u) a v = (a, v) :: u := by
        unfold putK
        rw [if_pos (by simp)]
        rw [List.map_cons, if_pos rfl]
        congr 1
        conv => rhs; rw [← List.map_id u]
        refine List.map_congr_left fun p hp => ?_
        rw [if_neg]
        · rfl
        · intro z
          exact nd.1 (List.mem_map.mpr ⟨p, hp, z⟩)
      rw [hin]
      exact ⟨a, v, u, rfl, h1, rd, h3⟩
    · rw [if_neg (by rw [decide_eq_true_eq]; exact e')]
      have hin : putK ((a, w) :: u) key v = (a, w) :: putK u key v := by
        unfold putK
        rw [List.any_cons, decide_eq_false e', Bool.false_or]
        split
        · rw [List.map_cons, if_neg e']
        · rfl
      rw [hin]
      exact ⟨a, w, _, rfl, h1, h2, RepK.put hk rd h3 nd.2⟩
end
theorem putK_keys {kv : List (Key × V)} {k : Key} {v : V} (nd : (kv.map (·.1)).Nodup) : ((putK kv k v).map (·.1)).Nodup := by
  cases e : valV kv k with
  | none => exact nd_putK v nd e
  | some w =>
    have hany : (kv.any fun p => decide (p.1 = k)) = true := by rw [valV_any, e]; rfl
    unfold putK
    rw [if_pos hany, List.map_map]
    have : (fun p : Key × V => p.1) ∘ (fun p => if p.1 = k then (p.1, v) else p) = fun p => p.1 := by
      funext p
      show (if p.1 = k then (p.1, v) else p).1 = p.1
      split <;> rfl
    rw [this]
    exact nd
def mergeD (kvs : List (D × D)) (more : List (D × D)) : List (D × D) := more.foldl (fun acc p => putD p.1 p.2 acc) kvs
theorem RepK.merge {G : GX} {μ : List Addr} {H : Hp} : ∀ {more kvs : List (D × D)} {mv kv : List (Key × V)}, RepK G H μ kvs kv → (kv.map (·.1)).Nodup → RepK G H μ more mv → RepK G H μ (mergeD kvs more) (mergeK kv mv)
  | [], kvs, mv, kv, r, nd, m => by
    have m : mv = [] := m
    subst m
    exact r
  | (k, d) :: t, kvs, mv, kv, r, nd, m => by
    obtain ⟨a, w, u, rfl, h1, h2, h3⟩ := m
    show RepK G H μ (mergeD (putD k d kvs) t) (mergeK (putK kv a w) u)
    exact RepK.merge (RepK.put h1 h2 r nd) (putK_keys nd) h3
/-- pairs of a display, one after another -/
def dPairs : List (DE × DE) → DEn (List (D × D))
  | [] => fun _ h => .ok [] h
  | (mk, mv) :: r => mk.bind fun k => mv.bind fun v => (dPairs r).bind fun ps _ h => .ok ((k, v) :: ps) h
def RepP (G : GX) (H : Hp) (μ : List Addr) : List (D × D) → List (V × V) → Prop
  | [], vs => vs = []
  | p :: r, vs => ∃ x y t, vs = (x, y) :: t ∧ Rep G H μ p.1 x ∧ Rep G H μ p.2 y ∧ RepP G H μ r t
theorem RepP.ext {G : GX} {μ μ' : List Addr} {H H' : Hp} (x : Ext μ H μ' H') : ∀ {ps : List (D × D)} {vs : List (V × V)}, RepP G H μ ps vs → RepP G H' μ' ps vs
  | [], _, e => e
  | p :: r, _, ⟨a, b, t, e1, e2, e3, e4⟩ => ⟨a, b, t, e1, e2.ext x, e3.ext x, RepP.ext x e4⟩
theorem pairs_d {G : GX} {W : XWS} : ∀ {trs : List (DE × DE)} {σ : L2.St} {H : Hp} {Q : List (V × V) → Hp → Prop}, TG' (fun H μ => RepP G H μ) G W (dPairs trs) σ H Q → tPairs (trs.map fun p => (TD G W p.1, TD G W p.2)) σ H Q
  | [], σ, H, Q, ⟨μ, env, h, s, e, p⟩ => p.now s (show RepP G H μ [] [] from rfl)
  | (mk, mv) :: r, σ, H, Q, q => by
    refine TG'.imp (TG'.split (rel := Rep G) (k := fun k => mv.bind fun v => (dPairs r).bind fun ps _ h => .ok ((k, v) :: ps) h) q) ?_
    rintro x H1 ⟨μ1, d, env, h1, s1, e1, r1, p1⟩
    refine ⟨μ1, env, h1, s1, e1, Post.imp (Post.bind (rel := Rep G) p1) ?_⟩
    rintro y H2 ⟨μ2, d2, h2, s2, x2, r2, p2⟩
    refine pairs_d ⟨μ2, env, h2, s2, e1.ext x2, Post.imp (Post.bind (rel := fun H μ => RepP G H μ) p2) ?_⟩
    rintro ps H3 ⟨μ3, d3, h3, s3, x3, r3, p3⟩
    exact p3.now s3 (show RepP G H3 μ3 ((d, d2) :: d3) ((x, y) :: ps) from ⟨x, y, ps, rfl, (r1.ext x2).ext x3, r2.ext x3, r3⟩)
def keysOk (ps : List (D × D)) : Bool := ps.all fun p => (keyD p.1).isSome
def dDic (trs : List (DE × DE)) : DE := (dPairs trs).bind fun ps _ h => if keysOk ps = true ∧ ps.length ≤ 15 then alloc (.dct (mergeD [] ps)) h else .bad
theorem RepP.keys {G : GX} {μ : List Addr} {H : Hp} : ∀ {ps : List (D × D)} {vs : List (V × V)}, RepP G H μ ps vs → keysOk ps = true → ∃ kv : List (Key × V), vs = kv.map (fun p => (kV p.1, p.2)) ∧ RepK G H μ ps kv ∧ kv.length = ps.length
  | [], vs, r, _ => ⟨[], r, rfl, rfl⟩
  | (k, d) :: t, vs, r, hk => by
    obtain ⟨x, y, u, rfl, h1, h2, h3⟩ := r
    unfold keysOk at hk
    rw [List.all_cons, Bool.and_eq_true] at hk
    obtain ⟨kv, e1, e2, e3⟩ := RepP.keys h3 hk.2
    cases q : keyD k with
    | none => rw [q] at hk; cases hk.1
    | some key =>
      refine ⟨(key, y) :: kv, ?_, ⟨key, y, kv, rfl, q, h2, e2⟩, by rw [List.length_cons, List.length_cons, e3]⟩
      rw [List.map_cons, e1, Rep.key q h1]
section
variable {X : Cx} {W : XWS} {pos : Pos}
theorem d_dic {keys : List (Option Expr)} {values : List Expr} {trs : List (DE × DE)} (hp : PPs X pos keys values (trs.map fun p => (TD (gx X) W p.1, TD (gx X) W p.2))) (hall : keys.all (·.isSome) = true) (hl : keys.length = values.length) (h0 : keys ≠ [])
    (h15 : keys.length ≤ 15) : PE X (.Dict keys values pos) (TD (gx X) W (dDic trs)) := by
  refine (pe_disp hp hall hl h0 h15).weak fun σ H Q q => ?_
  obtain ⟨μ0, env, h0', s0, e0, P⟩ := q
  intro A hA
  have x0 : Ex0 μ0 H μ0 (upd H A (.dK [])) := Ex0.out fun u z => by rw [hA] at z; cases z
  have xE : Ext μ0 H μ0 (upd H A (.dK [])) := Ext.out .refl hA
  have s1 : SRep (gx X) μ0 h0' (upd H A (.dK [])) := s0.out (fun u z => by rw [hA] at z; cases z) (s0.not_mem hA)
  refine pairs_d ⟨μ0, env, h0', s1, e0.ext0 x0, ?_⟩
  unfold dDic DEn.bind at P
  cases q : dPairs trs env h0' with
  | bad => rw [q] at P; exact P.elim
  | exc c a h' =>
    rw [q] at P
    exact fun μ' H' s' x' => P μ' H' s' (xE.trans x')
  | ok ps h' =>
    rw [q] at P
    intro μ' H' vs s' x' rp
    have P : Post (Rep (gx X)) (gx X) (W σ) μ0 H (if keysOk ps = true ∧ ps.length ≤ 15 then alloc (.dct (mergeD [] ps)) h' else .bad) Q := P
    split at P
    · rename_i hk
      have hm : A ∉ μ0 := s0.not_mem hA
      have eA : H' A = some (.dK []) := x'.keep A _ upd_same hm
      have nA : A ∉ μ' := fun m => by
        rcases x'.fresh A m with z | z
        · exact hm z
        · rw [upd_same] at z; cases z
      obtain ⟨kv, e1, e2, e3⟩ := RepP.keys rp hk.1
      refine ⟨eA, kv, e1, by rw [e3]; exact hk.2, ?_⟩
      have mA : ∀ u, H' A = some u → Mut (some u) := fun u z => by rw [eA] at z; cases z; trivial
      have s2 : SRep (gx X) μ' h' (upd H' A (.dK (mergeK [] kv))) := s'.out mA nA
      have r2 : RepK (gx X) (upd H' A (.dK (mergeK [] kv))) μ' (mergeD [] ps) (mergeK [] kv) := (RepK.merge (show RepK (gx X) H' μ' [] [] from rfl) List.nodup_nil e2).ext0 (Ex0.out mA)
      have xf : Ext μ0 H μ' (upd H' A (.dK (mergeK [] kv))) := Ext.out (xE.trans x') hA
      refine P (μ' ++ [A]) _ (.ref A) (s2.adopt nA (show ORep (gx X) _ μ' (.dct (mergeD [] ps)) A from ⟨_, upd_same, r2⟩)) (xf.adopt hA) ?_
      unfold Rep
      exact ⟨A, by rw [List.getElem?_append_right (by rw [s2.len]; exact Nat.le_refl _)]; simp [s2.len], rfl⟩
    · exact P.elim
def dDic0 : DE := fun _ h => alloc (.dct []) h
theorem d_dic0 : PE X (.Dict [] [] pos) (TD (gx X) W dDic0) := by
  refine pe_dnewK.weak fun σ H Q ⟨μ, env, h, s, e, P⟩ => ?_
  intro A hA
  exact P.allo s hA ⟨[], upd_same, rfl⟩
/-- o[i] = v -/
def setD : D → D → D → DH → R Unit
  | .ref n, .int i, v, h => match h[n]? with
    | some (.lst ds) => match ixN ds.length i with
      | some j => .ok () (h.set n (.lst (ds.set j v)))
      | none => .bad
    | some (.dct kvs) => if kvs.length < big then .ok () (h.set n (.dct (putD (.int i) v kvs))) else .bad
    | _ => .bad
  | .ref n, .str k, v, h => match h[n]? with
    | some (.dct kvs) => if kvs.length < big then .ok () (h.set n (.dct (putD (.str k) v kvs))) else .bad
    | _ => .bad
  | _, _, _, _ => .bad
def sSet (mo mi mv : DE) : SD := fun env h => (mv env h).toS env fun v h1 => (mo env h1).toS env fun o h2 => (mi env h2).toS env fun i h3 => (setD o i v h3).toS env fun _ h4 => .nx env h4
theorem RepL.setAt {G : GX} {μ : List Addr} {H : Hp} {d : D} {v : V} (rd : Rep G H μ d v) : ∀ {ds : List D} {vs : List V} (j : Nat), RepL G H μ ds vs → RepL G H μ (ds.set j d) (vs.set j v)
  | [], vs, j, r => by unfold RepL at r; subst r; cases j <;> (show RepL G H μ [] []; unfold RepL; rfl)
  | e :: t, vs, 0, r => by
    unfold RepL at r
    obtain ⟨w, u, rfl, r1, r2⟩ := r
    show RepL G H μ (d :: t) (v :: u)
    unfold RepL
    exact ⟨v, u, rfl, rd, r2⟩
  | e :: t, vs, j + 1, r => by
    unfold RepL at r
    obtain ⟨w, u, rfl, r1, r2⟩ := r
    show RepL G H μ (e :: t.set j d) (w :: u.set j v)
    unfold RepL
    exact ⟨w, _, rfl, r1, RepL.setAt rd j r2⟩
theorem KV.keys {κ : Type} {kv : List (κ × V)} {vs : List (κ × Value)} (r : KV kv vs) : kv.map (·.1) = vs.map (·.1) := by
  unfold KV at r
  induction r with
  | nil => rfl
  | cons h t ih => rw [List.map_cons, List.map_cons, h.1, ih]
theorem set_key {pins : List (Addr × Obj)} {s : Shared} {σ : L2.St} {H : Hp} {x y z : V} {ov iv u : Value} {Q : Hp → Prop} (hu : X.A.units + 1 < cLine) (I : Inv X pins σ H s) (rx : RelV x ov) (ry : RelV y iv) (rz : RelV z u) {μ : List Addr} {h : DH} {n : Nat} {i v : D} {key : Key} {kvs : List (D × D)}
    (hk : keyD i = some key) (S : SRep (gx X) μ h H) (r1 : Rep (gx X) H μ (.ref n) x) (r2 : Rep (gx X) H μ i y) (r3 : Rep (gx X) H μ v z) (e : h[n]? = some (.dct kvs)) (hl : kvs.length < big)
    (q : ∀ H', SRep (gx X) μ (h.set n (.dct (putD i v kvs))) H' → Ext μ H μ H' → Q H') : wpAny (model X.prog X.w) X.A (setItem ov iv u) (fun _ s' => ∃ H', Inv X pins σ H' s' ∧ Q H') X.xe s := by
  obtain ⟨a, ea, rfl⟩ := r1.ref
  obtain ⟨kv, q1, q2⟩ := S.ob n _ a e ea
  cases rx
  have ey := r2.key hk
  subst ey
  obtain ⟨z0, _, vs0, r0, o, es, ep, _, _, _, hes, hnd⟩ := (show ObjOk X.prog X.w H s.heap a (.dK kv) from I.hok a _ q1)
  have hn2 : (kv.map (·.1)).Nodup := by
    rw [KV.keys r0]
    exact hnd.2
  refine d_setItem hu I (DPut.k (k := key) q1 (by rw [q2.length, big_eq]; exact hl)) ry rz fun s' I' => ?_
  refine ⟨_, I', q _ (S.write e rfl ea (o := .dct (putD i v kvs)) ⟨_, upd_same, ?_⟩) (Ext.write S e ea rfl)⟩
  exact (RepK.put hk r3 q2 hn2).ext0 (Ext.write S e ea rfl).x0
theorem set_d {pins : List (Addr × Obj)} {s : Shared} {σ : L2.St} {H : Hp} {x y z : V} {ov iv u : Value} {Q : Hp → Prop} (hu : X.A.units + 1 < cLine) (I : Inv X pins σ H s) (rx : RelV x ov) (ry : RelV y iv) (rz : RelV z u) {μ : List Addr} {h h' : DH} {o i v : D}
    (S : SRep (gx X) μ h H) (r1 : Rep (gx X) H μ o x) (r2 : Rep (gx X) H μ i y) (r3 : Rep (gx X) H μ v z) (e : setD o i v h = .ok () h')
    (q : ∀ H', SRep (gx X) μ h' H' → Ext μ H μ H' → Q H') : wpAny (model X.prog X.w) X.A (setItem ov iv u) (fun _ s' => ∃ H', Inv X pins σ H' s' ∧ Q H') X.xe s := by
  unfold setD at e
  split at e
  · rename_i n k
    split at e
    · rename_i ds hd
      split at e
      · rename_i j hj
        cases e
        obtain ⟨a, ea, rfl⟩ := r1.ref
        obtain ⟨vs, q1, l1⟩ := S.list hd ea
        refine set_list pins s σ H _ _ _ ov iv u Q I rx ry rz ⟨a, vs, k, j, rfl, r2.intv, q1, by rw [l1.length]; exact hj, ?_⟩
        refine q _ (S.write hd rfl ea (o := .lst (ds.set j _)) ⟨_, upd_same, ?_⟩) (Ext.write S hd ea rfl)
        exact (l1.setAt r3 j).ext (Ext.write S hd ea rfl)
      · cases e
    · rename_i kvs hd
      split at e
      · rename_i hl
        cases e
        exact set_key hu I rx ry rz rfl S r1 r2 r3 hd hl q
      · cases e
    · cases e
  · rename_i n k
    split at e
    · rename_i kvs hd
      split at e
      · rename_i hl
        cases e
        exact set_key hu I rx ry rz rfl S r1 r2 r3 hd hl q
      · cases e
    · cases e
  · cases e
theorem s_set {o i e : Expr} {mo mi mv : DE} {pos' : Pos} (hu : X.A.units + 1 < cLine) (ho : PE X o (TD (gx X) W mo)) (hi : PE X i (TD (gx X) W mi)) (he : PE X e (TD (gx X) W mv)) (hs : swapsWith e (some (.Subscript o i pos')) pos.line X.env = pure false) :
    PS X (.Assign [.Subscript o i pos'] e pos) (TDS (gx X) W (sSet mo mi mv)) := by
  refine ⟨fun pins s σ H E I q => ?_⟩
  refine wpAny_Assign_Subscript (thn (he.run pins s σ H _ I (TDS.split (rel := Rep (gx X)) (k := fun v env h1 => (mo env h1).toS env fun o h2 => (mi env h2).toS env fun i h3 => (setD o i v h3).toS env fun _ h4 => .nx env h4) q)) ?_) hs
  rintro u s1 ⟨z, H1, I1, rz, μ1, v, env, h1, S1, E1, R1, P1⟩
  refine thn (ho.run pins s1 σ H1 _ I1 ⟨μ1, env, h1, S1, E1, SPost.bind (rel := Rep (gx X)) E1 P1⟩) ?_
  rintro ov s2 ⟨x, H2, I2, rx, μ2, o, h2, S2, X2, R2, P2⟩
  refine thn (hi.run pins s2 σ H2 _ I2 ⟨μ2, env, h2, S2, E1.ext X2, SPost.bind (rel := Rep (gx X)) (E1.ext X2) P2⟩) ?_
  rintro iv s3 ⟨y, H3, I3, ry, μ3, i, h3, S3, X3, R3, P3⟩
  cases hq : setD o i v h3 with
  | bad => rw [hq] at P3; exact P3.elim
  | exc c a h' =>
    exfalso
    unfold setD at hq
    repeat (first | cases hq | split at hq)
  | ok w h' =>
    rw [hq] at P3
    exact thn (set_d hu I3 rx ry rz S3 (R2.ext X3) R3 ((R1.ext X2).ext X3) hq fun H' S' X' => P3 μ3 H' σ S' X' (((E1.ext X2).ext X3).ext X')) fun _ s4 ⟨H', I', q'⟩ => ⟨σ, H', I', q'⟩
end
end DV
namespace DV
open PySem PySem.Spec PyProof.Rows L2
namespace Ve
abbrev vb : Value := .builtin "ValueError.__init__"
/-- the slot bound to x -/
abbrev bnd (x : Addr) : Obj := ⟨.type "method-wrapper", none, .fields #[vb, .ref x], #[]⟩
abbrev sob (D x C : Addr) : Obj := ⟨.type "super", none, .fields #[.ref D, .ref x, .ref C], #[]⟩
theorem ty_vb : typeOf vb = pure (.type "wrapper_descriptor") := by
  show builtinType _ = _
  rw [builtinType_eq_fast]
  kernel_rfl
theorem nc_vb : (kfb_private% "nameAndClass") vb = (pure (("__init__" : Str), Value.type "ValueError") : Sem (Str × Value)) := by kernel_rfl
theorem along_ve (K : PySem.W.Frag) : PySem.W.alongIn K "__init__" HandSPX.veTail = some (some vb) := by kernel_rfl
theorem along_refs (K : PySem.W.Frag) : ∀ l : List Value, HandSPX.refsVE l = true → (∀ c ∈ l, ∀ a, c = .ref a → PySem.W.ownIn K "__init__" c = some none) → PySem.W.alongIn K "__init__" l = some (some vb) := by
  intro l
  induction l with
  | nil => intro e; exact absurd e (by decide)
  | cons a r ih =>
    intro e ho
    rcases HandSPX.refsVE_cases (a :: r) e with ⟨c, r', q, h⟩ | q
    · obtain ⟨rfl, rfl⟩ := List.cons.inj q
      unfold PySem.W.alongIn
      rw [ho (.ref c) List.mem_cons_self c rfl]
      exact ih h fun c' hc a ha => ho c' (List.mem_cons_of_mem _ hc) a ha
    · rw [q]; exact along_ve K
section
variable {prog : Program} {w : World} {M : Model} {A : Around} {E : Value → Shared → Prop} {h : Heap} {g : Array GenState} {d : Drawn} {t : Nat} {os : OsState}
theorem wd {x C : Addr} {P : Fin → Shared → Prop} (hin : PySem.W.Looks M h (isInstance (.ref x) (.type "ValueError")) true) (hq : P (.done (.ret (.ref h.objs.size))) ⟨h.push (bnd x), g, d, t, os⟩) : wpAny M A (Builtin.«wrapper_descriptor.__get__» ⟨[vb, .ref x, .ref C], []⟩) P E ⟨h, g, d, t, os⟩ := by
  unfold Builtin.«wrapper_descriptor.__get__»
  apply wpAny_bind
  apply wpAny_of_eq (a := (vb, some (.ref x), some (.ref C))) (by kernel_rfl)
  show wpAny M A ((kfb_private% "checkInstance") vb (.ref x) >>= fun _ => newFields "method-wrapper" [vb, .ref x] >>= fun r => ret r) P E _
  apply wpAny_bind
  show wpAny M A ((kfb_private% "nameAndClass") vb >>= _) _ E _
  apply wpAny_bind
  apply wpAny_of_eq nc_vb
  show wpAny M A (isInstance (.ref x) (.type "ValueError") >>= _) _ E _
  apply wpAny_bind
  apply hin.at
  apply PySem.W.KFB.if_not rfl
  exact wpAny_pure (wpAny_bind (wpAny_newObj_type (wpAny_pure hq)))
theorem ga {so D x C : Addr} {l₀ l : List Value} {K : PySem.W.Frag} {name : Str} {tk : Tok} {Q : Fin → Shared → Prop} (hso : h.get? so = some (sob D x C)) (hno : PySem.W.Looks (model prog w) h (opaqueClassAbove (.ref C)) none) (hC : PySem.W.Looks (model prog w) h (mroOf (.ref C)) l₀) (hl : (l₀.dropWhile (· != .ref D)).drop 1 = l)
    (X : K.In h) (hf : PySem.W.alongIn K name l = some (some vb)) (hxC : x ≠ C) (hn : (name == ("__class__" : Str)) = false) (hin : PySem.W.Looks (model prog w) h (isInstance (.ref x) (.type "ValueError")) true) (hq : Q (.done (.ret (.ref h.objs.size))) ⟨h.push (bnd x), g, d, t, os⟩) :
    wpAny (model prog w) A (Builtin.«super.__getattribute__» ⟨[.ref so, .str name tk], []⟩) Q E ⟨h, g, d, t, os⟩ := by
  have s1 := ESX.slot_wd.lookup
  have ne : (Value.ref x == Value.ref C) = false := by simp [hxC]
  have ti : Shared.TypeIs ⟨h, g, d, t, os⟩ vb "wrapper_descriptor" := ty_vb
  have dt : (sob D x C).data = .fields #[.ref D, .ref x, .ref C] := rfl
  have a0 : (#[.ref D, .ref x, .ref C] : Array Value)[0]? = some (.ref D) := rfl
  have a1 : (#[.ref D, .ref x, .ref C] : Array Value)[1]? = some (.ref x) := rfl
  have a2 : (#[.ref D, .ref x, .ref C] : Array Value)[2]? = some (.ref C) := rfl
  unfold Builtin.«super.__getattribute__»
  repeat (first | (with_reducible refine wpAny_field hso dt a0 ?_) | (with_reducible refine wpAny_field hso dt a1 ?_) | (with_reducible refine wpAny_field hso dt a2 ?_) | (with_reducible refine ks_wpAny_notOpaque hno ?_) | (with_reducible refine PySem.W.Looks.at hC ?_; rw [hl]) | (refine ks_forIn_along X (fun _ _ => rfl) rfl ?_ hf) |
    (with_reducible refine wpAny_call_entry ESX.slot_wd ti ESX.entry_wd ?_ (ESX.args_wd _ _ _)) | (with_reducible refine wd hin ?_) | (with_reducible refine ⟨_, rfl, ?_⟩) | (simp only [hn, ne, Bool.or_false, Bool.false_eq_true, if_false]) | wp_step | dsimp only)
  all_goals exact hq
theorem gm {so D x C : Addr} {l₀ l : List Value} {K : PySem.W.Frag} {name : Str} {pl : Sem Bool} {Q : Value × List Value → Shared → Prop} (hso : h.get? so = some (sob D x C)) (hno : PySem.W.Looks (model prog w) h (opaqueClassAbove (.ref C)) none) (hC : PySem.W.Looks (model prog w) h (mroOf (.ref C)) l₀) (hl : (l₀.dropWhile (· != .ref D)).drop 1 = l)
    (X : K.In h) (hf : PySem.W.alongIn K name l = some (some vb)) (hxC : x ≠ C) (hn : (name == ("__class__" : Str)) = false) (hin : PySem.W.Looks (model prog w) h (isInstance (.ref x) (.type "ValueError")) true) (hq : Q (.ref h.objs.size, []) ⟨h.push (bnd x), g, d, t + 1, os⟩) :
    wpAny (model prog w) A (getMethod (.ref so) name pl) Q E ⟨h, g, d, t, os⟩ := by
  have lk := F.ks_slot_super_ga.lookup
  have tt : ∀ t', (⟨h, g, d, t', os⟩ : Shared).TypeIs (.ref so) "super" := fun _ => ⟨_, hso, rfl⟩
  unfold getMethod
  apply wpAny_bind
  apply wpAny_specialOf (tt _) lk
  show wpAny _ _ (if (Manifest.canonical "super.__getattribute__" != "object.__getattribute__") = true then _ else _) _ _ _
  rw [if_pos F.ks_canon_super_ga]
  unfold getAttr getAttrBy
  refine wpAny_bind (wpAny_bind (wpAny_mkText (wpAny_holding (wpAny_bind (wpAny_typeOf (tt _) (wpAny_bind (wpAny_of_eq lk ?_)))))))
  show wpAny _ _ (getAttrByItsOwn (.ref so) (.str name t) (.type "super") (.builtin "super.__getattribute__") true false) _ _ _
  unfold getAttrByItsOwn hookBefore callGetattribute boundAndCalled
  apply wpAny_bind
  apply wpAny_of_eq (show (if onTheHeap (.type "super") then typeLookup (.type "super") "__getattr__" else pure none) = pure none from rfl)
  apply wpAny_bind
  apply wpAny_attempt
  apply wpAny_holding
  show wpAny _ _ (bindSpecial (.builtin "super.__getattribute__") (.ref so) >>= _) _ _ _
  apply wpAny_bind
  apply wpAny_of_eq (F.ks_slot_super_ga.bind _)
  refine wpAny_mono (Q := fun v s' => v = .ref h.objs.size ∧ s' = ⟨h.push (bnd x), g, d, t + 1, os⟩) (E := fun _ _ => False) (wpAny_call_entry F.ks_slot_super_ga (tt _) F.ks_entry_super_ga (ga hso hno hC hl X hf hxC hn hin ⟨_, rfl, rfl, rfl⟩) (F.ks_gaArgs_super _ _)) ?_ fun _ _ z => z.elim
  rintro v s' ⟨rfl, rfl⟩
  exact wpAny_pure (wpAny_pure hq)
end
section
variable {M : Model} {A : Around} {E : Value → Shared → Prop} {s : Shared} {pos : Pos} {u x : Addr} {first : List Value} {env : PySem.Env} {e : Expr} {rest : List Expr} {Q : Value → Shared → Prop}
theorem cw {args : List (Bool × Sem Value)} (hpl : args.any (·.1) = false) (h : wpAny M A (evalArgs (.ref u) true args []) (fun a s₁ => s₁.heap.get? u = some (bnd x) ∧ wpAny M A (call (.ref u) (first ++ a.pos) a.kw) Q E s₁) E s) : wpAny M A (callWith pos (.ref u) first args []) Q E s := by
  unfold callWith
  refine wpAny_bind (wpAny_holding (wpAny_mono h ?_ fun _ _ z => z))
  rintro a s₁ ⟨ho, hc⟩
  refine wpAny_bind (wpAny_standAt ?_)
  simp only [hpl, List.any_nil, Bool.or_false]
  refine wpAny_bind (m := keeperOf (.ref u)) ?_
  unfold keeperOf
  refine wpAny_bind (wpAny_load ho ?_)
  simp only [bnd, show (Value.type "method-wrapper" != Value.type "method") = true by decide, show (Value.type "method-wrapper" == Value.type "builtin_function_or_method" || Value.type "method-wrapper" == Value.type "method-wrapper") = true by decide, if_true]
  exact wpAny_pure (wpAny_bind (wpAny_mono hc (fun r s₂ hr => wpAny_bind (wpAny_holding (wpAny_point (wpAny_pure hr)))) fun _ _ z => z))
theorem cwe (h : wpAny M A (spliced (backTo pos (starEach (e :: rest) env))) (fun vs s₁ => s₁.heap.get? u = some (bnd x) ∧ wpAny M A (call (.ref u) (first ++ vs)) Q E s₁) E s)
    (he : starEach (e :: rest) env = (false, eval e env) :: starEach rest env) (hpl : (backTo pos (starEach rest env)).any (·.1) = false) : wpAny M A (callWith pos (.ref u) first (backTo pos (starEach (e :: rest) env)) []) Q E s := by
  rw [he] at h ⊢
  refine cw (x := x) (by show (false || (backTo pos (starEach rest env)).any (·.1)) = false; rw [hpl]; rfl) ?_
  exact PySem.Calls.evalArgs_plain h
end
section
variable {prog : Program} {w : World} {A : Around} {E : Value → Shared → Prop} {h : Heap} {g : Array GenState} {d : Drawn} {t : Nat} {os : OsState} {nm q : Str} {C N : Addr} {bs bm : List Value} {hd : Bool} {sn : List Str} {sub : List Value} {ab : Bool} {col : Option Bool} {dd : Option Addr} {k0 k1 k2 k3 k5 : Option Value}
theorem cbnd {u e t0 : Addr} {rest : List Value} {Q : Value → Shared → Prop} (hbm : HandSPX.refsVE bm = true) (hC : h.get? C = some (excClassObj nm q C N bs bm hd sn sub ab col dd k0 k1 k2 k3 k5 "ValueError.__new__")) (he : h.get? e = some (HandSPX.excO C t0)) (hu : h.get? u = some (bnd e)) (hr : rest.length ≤ sizeLine)
    (hq : ∀ h' t1, (∀ b o, b ≠ e → h.get? b = some o → h'.get? b = some o) → h'.get? e = some (HandSPX.excO C t1) → Q .none ⟨h', g, d, t, os⟩) : wpAny (model prog w) A (call (.ref u) rest) Q E ⟨h, g, d, t, os⟩ := by
  refine wpAny_call (codeAny_of_tree ?_)
  show wpAny _ A.in1 (callAny (.ref u) ⟨rest, []⟩) _ _ _
  simp only [callAny]
  refine wpAny_bind (wpAny_load hu ?_)
  simp only [bnd, show (Value.type "method-wrapper" == Value.type "method" || Value.type "method-wrapper" == Value.type "builtin_function_or_method" || Value.type "method-wrapper" == Value.type "method-wrapper") = true by decide, if_true]
  refine PySem.W.KFB.if_so (by decide) ?_
  have FF := F.excBase_ValueError
  have hst := FF.noStar
  have chk : ∀ {Q : Unit → Shared → Prop} {E : Value → Shared → Prop}, Q () ⟨h, g, d, t, os⟩ → wpAny (model prog w) A.in1 (checkBoundCall "ValueError.__init__" ⟨.ref e :: rest, []⟩) Q E ⟨h, g, d, t, os⟩ := fun {Q E} hq => by
    simp only [checkBoundCall, FF.initKind, FF.initRow]
    repeat (first | (with_reducible refine wpAny_loadPart_at he ?_) | with_reducible refine wpAny_loadPart_at hC ?_ | wp_step)
    refine wpAny_onRaise ?_
    rw [show ∀ (a b : String) (n : Nat), Bind.check ⟨.positional, "*", "ValueError", .self, [⟨"args", .varPos, false⟩]⟩ a b n (List.map (fun x => x.fst) ({ pos := Value.ref e :: rest } : Args).kw) = pure () from fun a b n => check_star_args _ _ _ _ _ _]
    exact wpAny_pure hq
  refine wpAny_bind (chk ?_)
  refine wpAny_bind (wpAny_pure (wpAny_pure ⟨Code.quiet_builtin _ (by decide +kernel), codeAny_builtin FF.initEntry ?_⟩))
  rw [Around.under_plainId FF.init.plain _]
  wp_walk
  refine hq _ h.objs.size (fun b o hb ho => ?_) ?_
  · rw [Heap.get?_update_other _ _ (Ne.symm hb)]
    exact Heap.get?_push_of_some _ ho
  · rw [Heap.get?_update_self _ (Heap.get?_push_of_some _ he) rfl] <;> rfl
end
def sup (q0 q1 q2 q3 q4 : Pos) (args : List Expr) : Stmt := .Expr (.Call (.Attribute (.Call (.Name "super" q0) [] [] q1) "__init__" q2) args [] q3) q4
def sto (f : Str) (r0 r1 r2 r3 : Pos) : Stmt := .Assign [.Attribute (.Name "self" r0) f r1] (.Name f r2) r3
/-- what the written part says of the class at C and of its __init__ at fI, whose fields are fs -/
structure Ini (P : Program) (K : PySem.W.Frag) (C fI : Addr) (fs : List Str) (body : List Stmt) : Prop where
  oex : OexC K C
  xf : XfC K C
  iC : PySem.W.findIn K (.ref C) "__init__" = some (some (.ref fI))
  tI : PySem.W.typeIn K (.ref fI) = some (.type "function")
  al : ∀ cd, PySem.W.clsIn K C = some cd → PySem.W.alongIn K "__init__" ((cd.mro.dropWhile (· != .ref C)).drop 1) = some (some vb)
  sb : PySem.W.mroIn K C (.ref C) = some true
  sv : PySem.W.mroIn K C (.type "ValueError") = some true
  third : PySem.W.nsIn K cStatics "thirdparty.any" = some none
  no : ∀ f ∈ fs, PySem.W.findIn K (.ref C) f = some none
  top : (P.main.scope.names.lookup ("super" : Str)).isSome = false
  ex : ∃ (o : Obj) (fd : FuncData) (cc cda : Addr) (oc occ : Obj) (vs : Array Value) (file : Str) (tf : Tok) (ar : Arg), K.lookup fI = some o ∧ o.data = .func fd ∧ fd.body = .stmts body ∧ fd.closure = [(("__class__" : Str), cc)] ∧ fd.globals = mainGlobals ∧ fd.builtins = builtinsNs ∧ fd.code = .ref cda ∧ PySem.W.codeIn K fd.code fd.qualname = true ∧
    K.lookup cda = some oc ∧ oc.data = .fields vs ∧ vs[2]? = some (.str file tf) ∧ ((P.main.file : Str) == file) = true ∧ K.lookup cc = some occ ∧ occ.data = .cell (some (.ref C)) ∧ (fd.params.posonlyargs ++ fd.params.args).head? = some ar ∧ ar.arg = ("self" : Str) ∧
    fd.scope.kind = .function ∧ fd.scope.isCoroutine = false ∧ fd.scope.isGenerator = false ∧ (∀ x ∈ fd.scope.names, x.2 ≠ .cell) ∧ (∀ f ∈ ("self" : Str) :: fs, fd.scope.names.lookup f = some .local) ∧ fd.scope.names.lookup ("super" : Str) = some .globalImplicit ∧ fd.scope.names.lookup ("__class__" : Str) = some .free ∧
    ∀ us : List Value, us.length = fs.length + 1 → bindArgs fd ⟨us, []⟩ = pure ((("self" : Str) :: fs).zip us)
section
variable {prog : Program} {w : World} {A : Around} {E : Value → Shared → Prop} {h : Heap} {g : Array GenState} {d : Drawn} {t : Nat} {os : OsState} {K : PySem.W.Frag} {C a dx L : Addr} {env : PySem.Env} {m mA : Str → Option Value} {f : Str} {u : Value} {r0 r1 r2 r3 : Pos} {Q : Flow → Shared → Prop}
theorem cls_of (T : OexC K C) : ∃ cd, PySem.W.clsIn K C = some cd ∧ HandSPX.refsVE cd.mro = true ∧ cd.hasDict = true := by
  obtain ⟨nm, q, N, bs, bm, sn, sub, ab, col, dd, k0, k1, k2, k3, k5, hC, hbm⟩ := T.cls
  exact ⟨{ name := nm, bases := bs, mro := .ref C :: bm, ns := N, qualname := q, hasDict := true, slotNames := sn, subclasses := sub, abstract := ab, collection := col, hasDel := false }, by unfold PySem.W.clsIn; rw [hC] <;> rfl, hbm, rfl⟩
/-- env's local names lie at L -/
structure At (env : PySem.Env) (L : Addr) (h : Heap) (m : Str → Option Value) : Prop where
  k : env.scope.kind = .function
  l : env.locals = L
  n : h.Ns L m
theorem At.ld {x : Str} {p : Pos} {v : Value} {Q : Value → Shared → Prop} {M : Model} {s : Shared} (T : At env L s.heap m) (hl : env.kindOf x = some .local) (hm : m x = some v) (hd : (x == ("__debug__" : Str)) = false) (q : Q v s) : wpAny M A (eval (.Name x p) env) Q E s :=
  wpAny_Name (wpAny_loadName_local T.k hl (by rw [T.l]; exact T.n) hm q) hd
theorem ex_new (T : OexC K C) (X : K.In h) (F : At env L h m) (hs : env.kindOf "self" = some .local) (hf : env.kindOf f = some .local) (ms : m "self" = some (.ref a)) (mf : m f = some u) (hd : (f == ("__debug__" : Str)) = false) (hno : PySem.W.findIn K (.ref C) f = some none) {t0 : Addr} (ha : h.get? a = some (HandSPX.excO C t0)) (hL : L ≠ a)
    (q : ∀ h' t' dx, (∀ b o, b ≠ a → h.get? b = some o → h'.get? b = some o) → h.objs.size ≤ dx → dx ≠ a → h'.get? a = some { cls := .ref C, dict := some dx, data := .fields #[.ref t0, .none, .none, .none, .bool false, .none] } → h'.Ns1 dx (fun y => if y = f then some u else none) → Q .next ⟨h', g, d, t', os⟩) :
    wpAny (model prog w) A (exec (sto f r0 r1 r2 r3) env) Q E ⟨h, g, d, t, os⟩ := by
  obtain ⟨cd, hcl, hm, hh⟩ := cls_of T
  unfold sto
  refine plainObj_wpAny_Assign_Attribute (F.ld (s := ⟨h, g, d, t, os⟩) hf mf hd (F.ld (s := ⟨h, g, d, t, os⟩) hs ms (by decide) ?_))
  refine PySem.W.set_plain X (ox := HandSPX.excO C t0) (od := none) ⟨ha, rfl, rfl, trivial⟩ T.sa ?_
  exact HandSPX.exc_osa X ha hcl hm hh hno fun h' tk' dx k dn dne hx hn => q h' tk' dx k dn dne hx hn
theorem ex_old (T : OexC K C) (X : K.In h) (F : At env L h m) (hs : env.kindOf "self" = some .local) (hf : env.kindOf f = some .local) (ms : m "self" = some (.ref a)) (mf : m f = some u) (hd : (f == ("__debug__" : Str)) = false) (hno : PySem.W.findIn K (.ref C) f = some none) {fv : Array Value} (ha : h.get? a = some { cls := .ref C, dict := some dx, data := .fields fv })
    {nl : List Str} (hns : h.Ns1 dx mA) (hw : Within mA nl) (hz : nl.length ≤ 1000) (q : ∀ h' t', (∀ b o, b ≠ dx → h.get? b = some o → h'.get? b = some o) → h'.Ns1 dx (fun y => if y = f then some u else mA y) → Q .next ⟨h', g, d, t', os⟩) :
    wpAny (model prog w) A (exec (sto f r0 r1 r2 r3) env) Q E ⟨h, g, d, t, os⟩ := by
  obtain ⟨cd, hcl, hm, hh⟩ := cls_of T
  obtain ⟨oD, _, _, hoD, _, _⟩ := hns.count hw
  unfold sto
  refine plainObj_wpAny_Assign_Attribute (F.ld (s := ⟨h, g, d, t, os⟩) hf mf hd (F.ld (s := ⟨h, g, d, t, os⟩) hs ms (by decide) ?_))
  refine PySem.W.set_plain X (ox := { cls := .ref C, dict := some dx, data := .fields fv }) (od := some oD) ⟨ha, rfl, rfl, hoD⟩ T.sa ?_
  exact OEX.osa_old X ha hns hw hz hcl hm hh hno fun h' tk' k hn => q h' tk' k hn
end
section
variable {prog : Program} {w : World} {A : Around} {E : Value → Shared → Prop} {h : Heap} {g : Array GenState} {d : Drawn} {t : Nat} {os : OsState} {K : PySem.W.Frag} {C a L fI : Addr} {env : PySem.Env} {m mg mb : Str → Option Value} {q0 q1 q2 q3 q4 : Pos} {Q : Flow → Shared → Prop} {fs : List Str} {body bd : List Stmt} {fd : FuncData}
/-- super().__init__(x, ..): the exception's own args alone change -/
theorem ex_sup (Y : Ini prog K C fI fs body) (X : K.In h) (G : h.Ns mainGlobals mg) (hmg : mg "super" = none) (B : h.Ns builtinsNs mb) (hmb : mb "super" = some (.type "super")) (oF : ∃ o, K.lookup fI = some o ∧ o.data = .func fd) (F : At (callEnv fd L fI) L h m) (ms : m "self" = some (.ref a)) {t0 : Addr} (ha : h.get? a = some (HandSPX.excO C t0)) (haL : a ≠ L) {e : Expr} {es : List Expr} {us : List Value}
    (hargs : ∀ (h1 : Heap) (t1 : Nat) (pos : Pos) (Q1 : List Value → Shared → Prop), h1.Ns L m → Q1 us ⟨h1, g, d, t1, os⟩ → wpAny (model prog w) A (spliced (backTo pos (starEach (e :: es) (callEnv fd L fI)))) Q1 E ⟨h1, g, d, t1, os⟩) (hus : us.length ≤ sizeLine)
    {pl : Sem Bool} (hev : ∀ env : PySem.Env, eval (.Call (.Attribute (.Call (.Name "super" q0) [] [] q1) "__init__" q2) (e :: es) [] q3) env = (do
      let ov ← attributeBase (.Call (.Name "super" q0) [] [] q1) "__init__" env (eval (.Call (.Name "super" q0) [] [] q1) env)
      standAt q2.atName
      let (f, first) ← holding [ov] (getMethod ov "__init__" pl)
      callWith q3 f first (backTo q3 (starEach (e :: es) env)) []))
    (he : starEach (e :: es) (callEnv fd L fI) = (false, eval e (callEnv fd L fI)) :: starEach es (callEnv fd L fI)) (hpl : ∀ pos, (backTo pos (starEach es (callEnv fd L fI))).any (·.1) = false)
    (q : ∀ h' t' t1, (∀ b o, b ≠ a → h.get? b = some o → h'.get? b = some o) → h'.get? a = some (HandSPX.excO C t1) → Q .next ⟨h', g, d, t', os⟩) :
    _root_.PySem.wpAt (model prog w) A (.func bd (callEnv fd L fI)) (exec (sup q0 q1 q2 q3 q4 (e :: es)) (callEnv fd L fI)) Q E ⟨h, g, d, t, os⟩ := by
  obtain ⟨o, fd', cc, cda, oc, occ, vs, file, tf, ar, hlk, hdt, hbd, hcl, hgl, hbl, hcode, hci, hoc, hocd, hvs, hfile, hocc, hoccd, hhead, har, hk, hco, hgen, hnc, hloc, hsup, hcls, hb⟩ := Y.ex
  obtain ⟨o', hlk', hdt'⟩ := oF
  rw [hlk] at hlk'
  cases hlk'
  rw [hdt] at hdt'
  cases hdt'
  obtain ⟨cd, hcd, hm, hh⟩ := cls_of Y.oex
  obtain ⟨nm, qn, N, bs, bm, sn, sub, ab, col, dd, k0, k1, k2, k3, k5, hC, hbm⟩ := Y.oex.cls
  have hCh := X _ _ hC
  unfold sup
  refine ks_wpAt_Expr_any ?_ (by show (fd.scope.kind == .module && _) = false; rw [hk]; rfl) (by rfl)
  refine ks_wpAt_MethodCall (pl := pl) ?_ (hev _)
  refine ks_wpAt_super_base (env := callEnv fd L fI) (f := fI) (cc := cda) (fd := fd) (ar := ar) hsup hcls rfl rfl (X _ _ hlk) hdt hhead hcode (X _ _ hoc) hocd hvs hfile Y.top ?_
  refine PySem.W.ks_loadName_global hk hsup (PySem.Calls.loadGlobal_builtin (by show h.Ns fd.globals _; rw [hgl]; exact G) hmg (by show h.Ns fd.builtins _; rw [hbl]; exact B) hmb ⟨rfl, ?_⟩)
  refine wpAny_loadName_free (env := callEnv fd L fI) hk hcls (by show fd.closure.lookup _ = _; rw [hcl]; rfl) ⟨_, X _ _ hocc, hoccd⟩ ?_
  rw [har]
  refine wpAny_loadName_local (env := callEnv fd L fI) hk (hloc _ List.mem_cons_self) (by rw [F.l]; exact F.n) ms ?_
  refine ks_wpAny_isType_cls hCh rfl ⟨rfl, ?_⟩
  refine ks_wpAny_call_super hCh rfl ha rfl (fun c z => by cases z) (PySem.W.looks_mroIn X Y.sb) fun h1 e1 k1 => ?_
  have hin : PySem.W.Looks (model prog w) h1 (isInstance (.ref a) (.type "ValueError")) true := by
    have I : PySem.W.InstAt h1 a (HandSPX.excO C t0) C none := ⟨k1 _ _ ha, rfl, rfl, trivial⟩
    exact I.type.andThen (PySem.W.looks_mroIn (X.keeps k1) Y.sv)
  have haC : a ≠ C := fun z => by
    rw [z, hCh] at ha
    cases ha
  have hmro : PySem.W.Looks (model prog w) h1 (mroOf (.ref C)) cd.mro := (PySem.W.looks_clsIn (X.keeps k1) hcd).andThen .now
  refine gm e1 (PySem.W.looks_opaque (X.keeps k1) Y.third) hmro rfl (X.keeps k1) (Y.al cd hcd) haC rfl hin ?_
  have k2 : ∀ b o, h1.get? b = some o → (h1.push (bnd a)).get? b = some o := fun b o e => Heap.get?_push_of_some _ e
  refine cwe (x := a) ?_ he (hpl _)
  refine hargs _ _ _ _ ((F.n.keeps k1).keeps k2) ⟨Heap.get?_push_at rfl rfl, ?_⟩
  refine cbnd hbm (k2 _ _ (k1 _ _ hCh)) (k2 _ _ (k1 _ _ ha)) (Heap.get?_push_at rfl rfl) (by simpa using hus) fun h' t1 k3 e3 => ?_
  exact q h' _ t1 (fun b o hb e => k3 b o hb (k2 _ _ (k1 _ _ e))) e3
end
/-- the call's evaluation, whatever the frame -/
def Form (q0 q1 q2 q3 : Pos) (es : List Expr) : Prop := ∃ pl : Sem Bool, ∀ env : PySem.Env, eval (.Call (.Attribute (.Call (.Name "super" q0) [] [] q1) "__init__" q2) es [] q3) env = (do
      let ov ← attributeBase (.Call (.Name "super" q0) [] [] q1) "__init__" env (eval (.Call (.Name "super" q0) [] [] q1) env)
      standAt q2.atName
      let (f, first) ← holding [ov] (getMethod ov "__init__" pl)
      callWith q3 f first (backTo q3 (starEach es env)) [])
section
variable {prog : Program} {w : World} {A : Around} {h : Heap} {g : Array GenState} {d : Drawn} {t : Nat} {os : OsState} {K : PySem.W.Frag} {C a fI : Addr} {mg mb : Str → Option Value} {q0 q1 q2 q3 q4 n1 n2 r0 r1 r2 r3 s0 s1 s2 s3 : Pos} {R : Result → Shared → Prop} {f1 f2 : Str} {u1 u2 : Value}
abbrev xob (C dx t1 : Addr) : Obj := { cls := .ref C, dict := some dx, data := .fields #[.ref t1, .none, .none, .none, .bool false, .none] }
theorem gone {h h2 : Heap} {a dx : Addr} (k : ∀ b o, b ≠ a → h.get? b = some o → h2.get? b = some o) (hs : h2.objs.size ≤ dx) (n : dx ≠ a) : h.get? dx = none := by
  cases e : h.get? dx with
  | none => rfl
  | some o => exact absurd (Heap.lt_size (k dx o n e)) (Nat.not_lt.mpr hs)
theorem init1 (Y : Ini prog K C fI [f1] [sup q0 q1 q2 q3 q4 [.Name f1 n1], sto f1 r0 r1 r2 r3]) (hev : Form q0 q1 q2 q3 [.Name f1 n1]) (hs1 : f1 ≠ "self") (hd1 : (f1 == ("__debug__" : Str)) = false) (hroom : A.depth < recursionLimit)
    (X : K.In h) (G : h.Ns mainGlobals mg) (hmg : mg "super" = none) (B : h.Ns builtinsNs mb) (hmb : mb "super" = some (.type "super")) (hlim : h.NoLimit) {t0 : Addr} (ha : h.get? a = some (HandSPX.excO C t0)) (hKa : K.lookup a = none)
    (q : ∀ h' t' dx t1, (∀ b o, b ≠ a → h.get? b = some o → h'.get? b = some o) → h.get? dx = none → dx ≠ a → h'.get? a = some (xob C dx t1) → h'.Ns1 dx (fun y => if y = f1 then some u1 else none) → R (.ok (.ret .none)) ⟨h', g, d, t', os⟩) :
    codeAny (model prog w) A (.call (.ref fI) ⟨[.ref a, u1], []⟩) R ⟨h, g, d, t, os⟩ := by
  obtain ⟨o, fd, cc, cda, oc, occ, vs, file, tf, ar, hlk, hdt, hbd, hcl, hgl, hbl, hcode, hci, hoc, hocd, hvs, hfile, hocc, hoccd, hhead, har, hk, hco, hgen, hnc, hloc, hsup, hcls, hb⟩ := id Y.ex
  obtain ⟨pl, hev⟩ := hev
  have l0 := hloc _ List.mem_cons_self
  have l1 : fd.scope.names.lookup f1 = some .local := hloc _ (by simp)
  refine ks_codeAny_call_defAt hroom (X _ _ hlk) hdt hlim (PySem.W.codeRec_of X hci) hbd (BindsTo.of_eq (hb [.ref a, u1] rfl)) hnc ?_ (fun h0 hn k0 => ?_) hco hgen hk
  · intro x hx
    have hx : x ∈ [(("self" : Str), Value.ref a), (f1, u1)] := hx
    simp only [List.mem_cons, List.mem_nil_iff, or_false] at hx
    rcases hx with rfl | rfl
    · exact l0
    · exact l1
  · have ms : (fun x => (List.zip (("self" : Str) :: [f1]) [Value.ref a, u1]).reverse.lookup x) "self" = some (.ref a) := by
      show List.lookup ("self" : Str) [(f1, u1), (("self" : Str), Value.ref a)] = _
      have e : (("self" : Str) == f1) = false := by simpa using fun z => hs1 z.symm
      simp [List.lookup, e]
    have m1 : (fun x => (List.zip (("self" : Str) :: [f1]) [Value.ref a, u1]).reverse.lookup x) f1 = some u1 := by
      show List.lookup f1 [(f1, u1), (("self" : Str), Value.ref a)] = _
      simp [List.lookup]
    have haL : a ≠ h.objs.size := Nat.ne_of_lt (Heap.lt_size ha)
    have aF : ∀ {h2 : Heap}, h2.Ns h.objs.size (fun x => (List.zip (("self" : Str) :: [f1]) [Value.ref a, u1]).reverse.lookup x) → At (callEnv fd h.objs.size fI) h.objs.size h2 _ := fun {h2} hn => ⟨hk, rfl, hn⟩
    refine ks_wpAt_execs_cons ?_
    refine ex_sup (us := [u1]) Y (X.keeps k0) (G.keeps k0) hmg (B.keeps k0) hmb ⟨o, hlk, hdt⟩ (aF hn) ms (k0 _ _ ha) haL (fun h1 t1 pos Q1 hn1 hq => ?_) (by simp [sizeLine_eq]) hev (by rfl) (fun _ => by rfl) fun h2 t2 t1 k2 e2 => ?_
    · refine PySem.Calls.spliced_cons ?_
      exact (aF hn1).ld (s := ⟨h1, g, d, t1, os⟩) l1 m1 hd1 (PySem.Calls.spliced_nil hq)
    · have F2 := hn.at fun o e => k2 _ o haL.symm e
      have X2 : K.In h2 := fun b o e => k2 b o (fun z => by rw [z, hKa] at e; cases e) (k0 _ _ (X _ _ e))
      refine _root_.PySem.wpAt_of_wpAny (wpAny_execs_cons ?_)
      refine ex_new Y.oex X2 (aF F2) l0 l1 ms m1 hd1 (Y.no _ (by simp)) e2 haL.symm fun h3 t3 dx k3 hdx dxa e3 n3 => wpAny_execs_nil ?_
      exact q h3 t3 dx t1 (fun b o hb e => k3 b o hb (k2 b o hb (k0 b o e))) (gone (fun b o hb e => k2 b o hb (k0 b o e)) hdx dxa) dxa e3 n3
theorem init2 (Y : Ini prog K C fI [f1, f2] [sup q0 q1 q2 q3 q4 [.Name f1 n1, .Name f2 n2], sto f1 r0 r1 r2 r3, sto f2 s0 s1 s2 s3]) (hev : Form q0 q1 q2 q3 [.Name f1 n1, .Name f2 n2]) (hs1 : f1 ≠ "self") (hs2 : f2 ≠ "self") (h12 : f1 ≠ f2) (hd1 : (f1 == ("__debug__" : Str)) = false) (hd2 : (f2 == ("__debug__" : Str)) = false) (hroom : A.depth < recursionLimit)
    (X : K.In h) (G : h.Ns mainGlobals mg) (hmg : mg "super" = none) (B : h.Ns builtinsNs mb) (hmb : mb "super" = some (.type "super")) (hlim : h.NoLimit) {t0 : Addr} (ha : h.get? a = some (HandSPX.excO C t0)) (hKa : K.lookup a = none)
    (q : ∀ h' t' dx t1, (∀ b o, b ≠ a → h.get? b = some o → h'.get? b = some o) → h.get? dx = none → dx ≠ a → h'.get? a = some (xob C dx t1) → h'.Ns1 dx (fun y => if y = f2 then some u2 else if y = f1 then some u1 else none) → R (.ok (.ret .none)) ⟨h', g, d, t', os⟩) :
    codeAny (model prog w) A (.call (.ref fI) ⟨[.ref a, u1, u2], []⟩) R ⟨h, g, d, t, os⟩ := by
  obtain ⟨o, fd, cc, cda, oc, occ, vs, file, tf, ar, hlk, hdt, hbd, hcl, hgl, hbl, hcode, hci, hoc, hocd, hvs, hfile, hocc, hoccd, hhead, har, hk, hco, hgen, hnc, hloc, hsup, hcls, hb⟩ := id Y.ex
  obtain ⟨pl, hev⟩ := hev
  have l0 := hloc _ List.mem_cons_self
  have l1 : fd.scope.names.lookup f1 = some .local := hloc _ (by simp)
  have l2 : fd.scope.names.lookup f2 = some .local := hloc _ (by simp)
  refine ks_codeAny_call_defAt hroom (X _ _ hlk) hdt hlim (PySem.W.codeRec_of X hci) hbd (BindsTo.of_eq (hb [.ref a, u1, u2] rfl)) hnc ?_ (fun h0 hn k0 => ?_) hco hgen hk
  · intro x hx
    have hx : x ∈ [(("self" : Str), Value.ref a), (f1, u1), (f2, u2)] := hx
    simp only [List.mem_cons, List.mem_nil_iff, or_false] at hx
    rcases hx with rfl | rfl | rfl
    · exact l0
    · exact l1
    · exact l2
  · have e1 : (("self" : Str) == f1) = false := by simpa using fun z => hs1 z.symm
    have e2 : (("self" : Str) == f2) = false := by simpa using fun z => hs2 z.symm
    have e3 : (f1 == f2) = false := by simpa using h12
    have ms : (fun x => (List.zip (("self" : Str) :: [f1, f2]) [Value.ref a, u1, u2]).reverse.lookup x) "self" = some (.ref a) := by
      show List.lookup ("self" : Str) [(f2, u2), (f1, u1), (("self" : Str), Value.ref a)] = _
      simp [List.lookup, e1, e2]
    have m1 : (fun x => (List.zip (("self" : Str) :: [f1, f2]) [Value.ref a, u1, u2]).reverse.lookup x) f1 = some u1 := by
      show List.lookup f1 [(f2, u2), (f1, u1), (("self" : Str), Value.ref a)] = _
      simp [List.lookup, e3]
    have m2 : (fun x => (List.zip (("self" : Str) :: [f1, f2]) [Value.ref a, u1, u2]).reverse.lookup x) f2 = some u2 := by
      show List.lookup f2 [(f2, u2), (f1, u1), (("self" : Str), Value.ref a)] = _
      simp [List.lookup]
    have haL : a ≠ h.objs.size := Nat.ne_of_lt (Heap.lt_size ha)
    have aF : ∀ {h2 : Heap}, h2.Ns h.objs.size (fun x => (List.zip (("self" : Str) :: [f1, f2]) [Value.ref a, u1, u2]).reverse.lookup x) → At (callEnv fd h.objs.size fI) h.objs.size h2 _ := fun {h2} hn => ⟨hk, rfl, hn⟩
    refine ks_wpAt_execs_cons ?_
    refine ex_sup (us := [u1, u2]) Y (X.keeps k0) (G.keeps k0) hmg (B.keeps k0) hmb ⟨o, hlk, hdt⟩ (aF hn) ms (k0 _ _ ha) haL (fun h1 t1 pos Q1 hn1 hq => ?_) (by simp [sizeLine_eq]) hev (by rfl) (fun _ => by rfl) fun h2 t2 t1 k2 e2 => ?_
    · refine PySem.Calls.spliced_cons ?_
      refine (aF hn1).ld (s := ⟨h1, g, d, t1, os⟩) l1 m1 hd1 (PySem.Calls.spliced_cons ?_)
      exact (aF hn1).ld (s := ⟨h1, g, d, t1, os⟩) l2 m2 hd2 (PySem.Calls.spliced_nil hq)
    · have F2 := hn.at fun o e => k2 _ o haL.symm e
      have X2 : K.In h2 := fun b o e => k2 b o (fun z => by rw [z, hKa] at e; cases e) (k0 _ _ (X _ _ e))
      have hL2 : ∃ oL, h2.get? h.objs.size = some oL := by
        obtain ⟨oL, _, _, z, _⟩ := F2
        exact ⟨oL, z⟩
      refine _root_.PySem.wpAt_of_wpAny (wpAny_execs_cons ?_)
      refine ex_new Y.oex X2 (aF F2) l0 l1 ms m1 hd1 (Y.no _ (by simp)) e2 haL.symm fun h3 t3 dx k3 hdx dxa e3 n3 => wpAny_execs_cons ?_
      have dx2 : ∀ b o, h2.get? b = some o → b ≠ dx := fun b o e z => absurd (Heap.lt_size e) (by rw [z]; exact Nat.not_lt.mpr hdx)
      have F3 := F2.at fun o e => k3 _ o haL.symm e
      have X3 : K.In h3 := fun b o e => k3 b o (fun z => by rw [z, hKa] at e; cases e) (X2 _ _ e)
      have hw : Within (fun y => if y = f1 then some u1 else none) [f1] := fun y hy => by
        by_cases z : y = f1
        · rw [z]; exact List.mem_cons_self
        · exact absurd (if_neg z) hy
      refine ex_old Y.oex X3 (aF F3) l0 l2 ms m2 hd2 (Y.no _ (by simp)) e3 n3 hw (by simp) fun h4 t4 k4 n4 => wpAny_execs_nil ?_
      exact q h4 t4 dx t1 (fun b o hb e => k4 b o (dx2 b o (k2 b o hb (k0 b o e))) (k3 b o hb (k2 b o hb (k0 b o e)))) (gone (fun b o hb e => k2 b o hb (k0 b o e)) hdx dxa) dxa (k4 _ _ (fun z => dxa z.symm) e3) n4
end
end Ve
end DV
namespace DV
open PySem PySem.Spec PyProof.Rows L2
/-- C's __init__ with the fields fs, called on a new exception -/
def InitOk (P : Program) (w : World) (K : PySem.W.Frag) (C fI : Addr) (fs : List Str) : Prop :=
  ∀ (A : Around) (h : Heap) (g : Array GenState) (d : Drawn) (t : Nat) (os : OsState) (mg mb : Str → Option Value) (a t0 : Addr) (us : List Value) (R : Result → Shared → Prop), us.length = fs.length → A.depth < recursionLimit → K.In h → h.Ns mainGlobals mg → mg "super" = none → h.Ns builtinsNs mb → mb "super" = some (.type "super") → h.NoLimit → h.get? a = some (HandSPX.excO C t0) → K.lookup a = none →
    (∀ h' t' dx t1 mA, (∀ b o, b ≠ a → h.get? b = some o → h'.get? b = some o) → h.get? dx = none → dx ≠ a → h'.get? a = some (Ve.xob C dx t1) → h'.Ns1 dx mA → (∀ y, mA y = (fs.zip us).lookup y) → R (.ok (.ret .none)) ⟨h', g, d, t', os⟩) → codeAny (model P w) A (.call (.ref fI) ⟨.ref a :: us, []⟩) R ⟨h, g, d, t, os⟩
/-- what a class of errors has -/
structure ErrOk (P : Program) (w : World) (K : PySem.W.Frag) (C fI : Addr) (fs : List Str) : Prop where
  oex : OexC K C
  xf : XfC K C
  iC : PySem.W.findIn K (.ref C) "__init__" = some (some (.ref fI))
  tI : PySem.W.typeIn K (.ref fI) = some (.type "function")
  no : ∀ f ∈ fs, PySem.W.findIn K (.ref C) f = some none
  run : InitOk P w K C fI fs
section
variable {P : Program} {w : World} {K : PySem.W.Frag} {C fI : Addr} {f1 f2 : Str} {q0 q1 q2 q3 q4 n1 n2 r0 r1 r2 r3 s0 s1 s2 s3 : Pos}
theorem err1 (Y : Ve.Ini P K C fI [f1] [Ve.sup q0 q1 q2 q3 q4 [.Name f1 n1], Ve.sto f1 r0 r1 r2 r3]) (hev : Ve.Form q0 q1 q2 q3 [.Name f1 n1]) (hs1 : f1 ≠ "self") (hd1 : (f1 == ("__debug__" : Str)) = false) : ErrOk P w K C fI [f1] := by
  refine ⟨Y.oex, Y.xf, Y.iC, Y.tI, Y.no, fun A h g d t os mg mb a t0 us R hl hr X G hmg B hmb hlim ha hKa q => ?_⟩
  obtain ⟨u1, rfl⟩ := List.length_eq_one_iff.mp hl
  refine Ve.init1 Y hev hs1 hd1 hr X G hmg B hmb hlim ha hKa fun h' t' dx t1 k n na e ns => q h' t' dx t1 _ k n na e ns fun y => ?_
  show _ = List.lookup y [(f1, u1)]
  by_cases z : y = f1
  · subst z; simp [List.lookup]
  · have z' : (y == f1) = false := by simpa using z
    simp [List.lookup, z, z']
theorem err2 (Y : Ve.Ini P K C fI [f1, f2] [Ve.sup q0 q1 q2 q3 q4 [.Name f1 n1, .Name f2 n2], Ve.sto f1 r0 r1 r2 r3, Ve.sto f2 s0 s1 s2 s3]) (hev : Ve.Form q0 q1 q2 q3 [.Name f1 n1, .Name f2 n2]) (hs1 : f1 ≠ "self") (hs2 : f2 ≠ "self") (h12 : f1 ≠ f2) (hd1 : (f1 == ("__debug__" : Str)) = false) (hd2 : (f2 == ("__debug__" : Str)) = false) : ErrOk P w K C fI [f1, f2] := by
  refine ⟨Y.oex, Y.xf, Y.iC, Y.tI, Y.no, fun A h g d t os mg mb a t0 us R hl hr X G hmg B hmb hlim ha hKa q => ?_⟩
  obtain ⟨u1, us, rfl⟩ : ∃ u1 r, us = u1 :: r := by cases us with
    | nil => cases hl
    | cons u r => exact ⟨u, r, rfl⟩
  obtain ⟨u2, rfl⟩ := List.length_eq_one_iff.mp (show us.length = 1 by simpa using hl)
  refine Ve.init2 Y hev hs1 hs2 h12 hd1 hd2 hr X G hmg B hmb hlim ha hKa fun h' t' dx t1 k n na e ns => q h' t' dx t1 _ k n na e ns fun y => ?_
  show _ = List.lookup y [(f1, u1), (f2, u2)]
  by_cases z : y = f1
  · subst z
    have z' : ¬ y = f2 := h12
    simp [List.lookup, z']
  · have z' : (y == f1) = false := by simpa using z
    by_cases y2 : y = f2
    · subst y2; simp [List.lookup, z']
    · have y3 : (y == f2) = false := by simpa using y2
      simp [List.lookup, z, z', y2, y3]
end
theorem relO_zip {fs : List Str} : ∀ {vs : List V} {us : List Value}, Vals vs us → ∀ y, RelO ((fs.zip vs).lookup y) ((fs.zip us).lookup y) := by
  induction fs with
  | nil => intro vs us r y; exact True.intro
  | cons f fs ih =>
    intro vs us r y
    cases r with
    | nil => exact True.intro
    | @cons v u vs us rv rr =>
      show RelO (((f, v) :: fs.zip vs).lookup y) (((f, u) :: fs.zip us).lookup y)
      cases z : (y == f) with
      | true =>
        simp only [List.lookup, z]
        exact rv
      | false =>
        simp only [List.lookup, z]
        exact ih rr y
def sRaise (c n : Nat) (ml : DEn (List D)) : SD := fun env h => (ml env h).toS env fun ds h1 => if ds.length = n then .exc c ds env h1 else .bad
section
variable {X : Cx} {T : Tabs} {W : XWS} {wx : WX} {k : Nat} {c n : Nat} {C fI : Addr} {x : Str} {p pos pos' : Pos} {e : Expr} {es : List Expr} {ml : DEn (List D)}
/-- C(e, ..) made, to be raised -/
theorem pmk_err {fs : List Str} {ta : TA} (O : ErrOk X.prog X.w X.K C fI fs) (hr : Room k X.A) (hg : Gl X x) (hm : X.mg x = some (.ref C)) (hsup : X.mg "super" = none) (ha : PA X (e :: es) ta) (hdb : (x == ("__debug__" : Str)) = false) (he : starEach (e :: es) X.env = (false, eval e X.env) :: starEach es X.env) (hpl : (backTo pos (starEach es X.env)).any (·.1) = false) :
    PMk X (.Call (.Name x p) (e :: es) [] pos) (fun σ H Q => ta σ H fun vs H1 => vs.length = fs.length ∧ vs.length ≤ 1000 ∧ ∀ dx, H1 dx = none → Q (.ref C) (some dx) (upd H1 dx (.xd (fs.zip vs)))) := by
  intro pins s σ H Q I h
  have T := O.oex
  obtain ⟨nm, q, N, bs, bm, sn, sub, ab, col, dd, k0, k1, k2, k3, k5, hC, hbm⟩ := T.cls
  refine wpAny_Call_Name_kw (ld_glob I hg hm ?_ hdb)
  refine PySem.W.callWith_K (h₀ := X.base) I.ok.mod.kin T.kC (thn (ha.run pos pins s σ H _ I h) fun us s1 ⟨vs, H1, I1, r1, hlen, hz, q1⟩ => ⟨I1.kIn, ?_⟩) he hpl
  show wpAny _ _ (call (.ref C) us) _ _ _
  obtain ⟨hp, g, dr, tk, os⟩ := s1
  have hus : us.length = vs.length := (Paired.length r1).symm
  have kk : ∀ b o, hp.get? b = some o → ((hp.push (PySem.W.kdv_tup us)).push (HandSPX.excO C hp.objs.size)).get? b = some o := fun b o e => Heap.get?_push_of_some _ (Heap.get?_push_of_some _ e)
  have hget : ((hp.push (PySem.W.kdv_tup us)).push (HandSPX.excO C hp.objs.size)).get? (hp.objs.size + 1) = some (HandSPX.excO C hp.objs.size) := by heap_get
  have hn : hp.get? (hp.objs.size + 1) = none := by
    cases z : hp.get? (hp.objs.size + 1) with
    | none => rfl
    | some o => exact absurd (Heap.lt_size z) (Nat.not_lt.mpr (Nat.le_succ _))
  have hKa : X.K.lookup (hp.objs.size + 1) = none := by
    cases z : X.K.lookup (hp.objs.size + 1) with
    | none => rfl
    | some o =>
      have z2 := I1.kIn _ _ z
      rw [hn] at z2
      cases z2
  have st : ∀ b o, X.base.get? b = some o → ((hp.push (PySem.W.kdv_tup us)).push (HandSPX.excO C hp.objs.size)).get? b = some o := fun b o e => kk b o (I1.bs b o e).1
  obtain ⟨mb, hmb, hbb⟩ := I1.ok.mod.blt
  have hbs : mb "super" = some (.type "super") := (hbb _ (by decide)).trans (by rfl)
  refine wpAny_call (HandSPX.call_own F.excBase_ValueError (fun Y => HandSPX.refsVE_contains Y bm hbm) (I1.kIn _ _ hC) (PySem.W.looks_findIn I1.kIn O.iC) (fun self => PySem.W.bind_fn I1.kIn self O.tI) (by rw [hus]; exact Nat.le_trans hz (by rw [sizeLine_eq]; decide)) ?_)
  refine O.run _ _ g dr tk os X.mg mb (hp.objs.size + 1) hp.objs.size us _ (hus.trans hlen) (by rw [make_depth]; have := hr.dp; omega) (I1.kIn.keeps kk) (I1.ok.mod.glob.keeps st) hsup (hmb.keeps st) hbs (I1.ok.mod.nolimit.keeps st) hget hKa fun h' t' dx t1 mA k2 n2 na e2 ns rel => ⟨rfl, ?_⟩
  have hdx : hp.get? dx = none := by
    cases z : hp.get? dx with
    | none => rfl
    | some o =>
      have z2 := kk _ _ z
      rw [n2] at z2
      cases z2
  have hH : H1 dx = none := I1.hok.gone hdx
  obtain ⟨G, g1, g2⟩ := restrict h' fun b => decide (b ≠ hp.objs.size + 1)
  have gk : ∀ b, b ≠ hp.objs.size + 1 → G.get? b = h'.get? b := fun b hb => g1 b (decide_eq_true hb)
  have ge : G.get? (hp.objs.size + 1) = none := g2 _ (by simp)
  have kG : ∀ b o, hp.get? b = some o → G.get? b = some o := fun b o e => by
    have hb : b ≠ hp.objs.size + 1 := fun z => by rw [z, hn] at e; cases e
    rw [gk b hb]
    exact k2 b o hb (kk b o e)
  have J : Inv X pins σ (upd H1 dx (.xd (fs.zip vs))) ⟨G, g, dr, t', os⟩ := L2.Inv.laidN (t' := t') (h' := G) I1 kG hdx hH ⟨mA, ns.at fun o y => (gk dx na).trans y, fun y => by rw [rel y]; exact relO_zip r1 y⟩
  refine ⟨hp.objs.size + 1, _, _, ⟨G, g, dr, t', os⟩, _, .ref C, some dx, rfl, J, fun b o z => ?_, ge, e2, ⟨rfl, rfl⟩, rfl, rfl, ?_, rfl, I1.bare, raises_own T.exC T.tyC, q1 dx hH⟩
  · by_cases hb : b = hp.objs.size + 1
    · rw [hb, ge] at z; cases z
    · exact (gk b hb).symm.trans z
  · rw [upd_ne (Ne.symm na)]
    exact I1.hok.gone hn
theorem s_raise {fs : List Txt} (hcalm : X.calm = true) (tk : Takes X wx) (lw : Links T (gx X) W wx) (O : ErrOk X.prog X.w X.K C fI (fs.map sOf)) (hC : C = He.ga X.K (sOf (T.ename c))) (hf : T.eflds c = fs) (hn : fs.length = n) (h1000 : n ≤ 1000) (hr : Room k X.A) (hg : Gl X x) (hm : X.mg x = some (.ref C)) (hsup : X.mg "super" = none)
    (ha : PA X (e :: es) (TDL (gx X) W ml)) (hdb : (x == ("__debug__" : Str)) = false) (he : starEach (e :: es) X.env = (false, eval e X.env) :: starEach es X.env) (hpl : (backTo pos (starEach es X.env)).any (·.1) = false) :
    PS X (.Raise (some (.Call (.Name x p) (e :: es) [] pos)) none pos') (TDS (gx X) W (sRaise c n ml)) := by
  refine (ps_raise hcalm tk (pmk_err O hr hg hm hsup ha hdb he hpl)).weak fun E σ H q => ?_
  have q2 := TDS.split (rel := RepL (gx X)) (k := fun ds env h1 => if ds.length = n then .exc c ds env h1 else .bad) q
  obtain ⟨μ, env, h, S, er, P⟩ := q2
  refine ⟨μ, env, h, S, er, P.imp ?_⟩
  rintro vs H1 ⟨μ1, ds, env1, h1, S1, er1, r1, p1⟩
  split at p1
  · rename_i hl
    have hlv : vs.length = n := by rw [r1.length]; exact hl
    refine ⟨by rw [List.length_map, hn]; exact hlv, by omega, fun dx hdx => ?_⟩
    have p2 : W σ μ1 H1 c ds h1 := p1 μ1 H1 σ S1 .refl er1
    have p3 := lw σ μ1 H1 c ds h1 S1 p2 dx vs hdx r1
    rw [hf] at p3
    rw [hC]
    exact p3
  · exact p1.elim
end
/-- an element of the tuple: a constant, the caught exception's j-th field -/
inductive SufE where
  | con (d : D)
  | fld (j : Nat)
def SufE.d (as : List D) : SufE → Option D
  | .con d => some d
  | .fld j => as[j]?
def sufD (as : List D) (els : List SufE) : Option (List D) := els.mapM (SufE.d as)
/-- a constant as value -/
def cstV : D → Option V
  | .non => some .non
  | .bl b => some (.bl b)
  | .int i => some (.int i)
  | .str t => some (.str (sOf t))
  | _ => none
theorem cstV_rep {G : GX} {H : Hp} {μ : List Addr} : ∀ {d : D} {v : V}, cstV d = some v → Rep G H μ d v := by
  intro d v e
  cases d <;> first | (cases e; unfold Rep; rfl) | cases e
def SufE.v (vs : List V) : SufE → Option V
  | .con d => cstV d
  | .fld j => vs[j]?
def sufV (vs : List V) : List SufE → Option (List V)
  | [] => some []
  | e :: r => match e.v vs, sufV vs r with
    | some v, some l => some (v :: l)
    | _, _ => none
/-- all constants are constants -/
def SufE.ok : SufE → Bool
  | .con d => (cstV d).isSome
  | .fld _ => true
def sufOk (els : List SufE) : Bool := els.all SufE.ok
theorem suf_rep {G : GX} {H : Hp} {μ : List Addr} {as : List D} {vs : List V} (r : RepL G H μ as vs) : ∀ {els : List SufE} {ds : List D}, sufOk els = true → sufD as els = some ds → ∃ ws, sufV vs els = some ws ∧ RepL G H μ ds ws
  | [], ds, _, e => by
    cases e
    exact ⟨[], rfl, by unfold RepL; rfl⟩
  | x :: t, ds, ok, e => by
    obtain ⟨o1, o2⟩ := Bool.and_eq_true_iff.mp (show (x.ok && sufOk t) = true from ok)
    unfold sufD at e
    rw [List.mapM_cons] at e
    cases h1 : x.d as with
    | none => rw [h1] at e; cases e
    | some d =>
      rw [h1] at e
      cases h2 : t.mapM (SufE.d as) with
      | none => rw [h2] at e; cases e
      | some l =>
        rw [h2] at e
        cases e
        obtain ⟨ws, q1, q2⟩ := suf_rep r o2 h2
        have hv : ∃ v, x.v vs = some v ∧ Rep G H μ d v := by
          cases x with
          | con d' =>
            cases h1
            obtain ⟨v, hv⟩ := Option.isSome_iff_exists.mp o1
            exact ⟨v, hv, cstV_rep hv⟩
          | fld j => exact r.get h1
        obtain ⟨v, q3, q4⟩ := hv
        refine ⟨v :: ws, ?_, by unfold RepL; exact ⟨v, ws, rfl, q4, q2⟩⟩
        unfold sufV
        rw [q3, q1]
section
variable {X : Cx} {a C : Addr} {oe : Obj} {cls : Value} {d : Option Addr} {pn : List (Addr × Obj)} {i : Nat} {fs : List Str} {e : Expr} {es : List Expr} {el : SufE} {els : List SufE} {pos p : Pos} {n f : Str} {c : V} {dd : D} {j : Nat}
/-- the slots and the heap as the suite has them: the exception a of the class at C, its fields' values -/
def SufH (C a : Addr) (cls : Value) (d : Option Addr) (i : Nat) (fs : List Str) (vs : List V) (σ : L2.St) (H : Hp) : Prop := σ[i]? = some (some (.ref a)) ∧ cls = .ref C ∧ ∃ dx, d = some dx ∧ H dx = some (.xd (fs.zip vs)) ∧ vs.length = fs.length
def tSufE (C a : Addr) (cls : Value) (d : Option Addr) (i : Nat) (fs : List Str) (el : SufE) : TE := fun σ H Q => ∃ vs v, SufH C a cls d i fs vs σ H ∧ el.v vs = some v ∧ Q v H
def tSufL (C a : Addr) (cls : Value) (d : Option Addr) (i : Nat) (fs : List Str) (els : List SufE) : TA := fun σ H Q => ∃ vs ws, SufH C a cls d i fs vs σ H ∧ sufV vs els = some ws ∧ Q ws H
theorem suf_con {v : V} (he : PE (X.suite a ((a, oe) :: pn)) e (tC v)) (hv : cstV dd = some v) : PE (X.suite a ((a, oe) :: pn)) e (tSufE C a cls d i fs (.con dd)) := he.weak fun σ H Q ⟨vs, v', _, e, q⟩ => by
  have e' : cstV dd = some v' := e
  rw [hv] at e'
  cases e'
  exact q
theorem lookup_zip_get : ∀ {fs : List Str} {vs : List V} {j : Nat} {f : Str} {v : V}, fs.Nodup → fs[j]? = some f → vs[j]? = some v → (fs.zip vs).lookup f = some v
  | [], _, _, _, _, _, h, _ => by simp at h
  | g :: fs, [], _, _, _, _, _, h => by simp at h
  | g :: fs, w :: vs, 0, f, v, _, h1, h2 => by
    simp at h1 h2
    subst h1 h2
    simp [List.lookup]
  | g :: fs, w :: vs, j + 1, f, v, nd, h1, h2 => by
    rw [List.nodup_cons] at nd
    have ne : (f == g) = false := by
      have : f ≠ g := fun z => nd.1 (z ▸ List.mem_of_getElem? h1)
      simpa using this
    show List.lookup f ((g, w) :: fs.zip vs) = some v
    simp only [List.lookup, ne]
    exact lookup_zip_get nd.2 (by simpa using h1) (by simpa using h2)
theorem suf_fld (T : XfC X.K C) (hno : PySem.W.findIn X.K (.ref C) f = some none) (hz : Zc cls d oe) (hf : ∃ vs, oe.data = .fields vs) (hnd : fs.Nodup) (hj : fs[j]? = some f) (he : PE (X.suite a ((a, oe) :: pn)) e (tVar i)) (hb : attributeBase e f X.env (eval e X.env) = eval e X.env) :
    PE (X.suite a ((a, oe) :: pn)) (.Attribute e f pos) (tSufE C a cls d i fs (.fld j)) := by
  refine (pe_xf T hno hz hf he hb).weak fun σ H Q ⟨vs, v, ⟨h1, h2, dx, h3, h4, h5⟩, e, q⟩ => ?_
  exact ⟨_, h1, rfl, h2, dx, _, v, h3, h4, lookup_zip_get hnd hj e, q⟩
theorem suf_nil : PA (X.suite a ((a, oe) :: pn)) [] (tSufL C a cls d i fs []) := pa_nil.weak fun σ H Q ⟨vs, ws, _, e, q⟩ => by
  cases e
  exact q
theorem suf_cons (he : PE (X.suite a ((a, oe) :: pn)) e (tSufE C a cls d i fs el)) (hr : PA (X.suite a ((a, oe) :: pn)) es (tSufL C a cls d i fs els)) (hs : starEach (e :: es) X.env = (false, eval e X.env) :: starEach es X.env) : PA (X.suite a ((a, oe) :: pn)) (e :: es) (tSufL C a cls d i fs (el :: els)) := by
  refine (pa_cons he hr hs).weak fun σ H Q ⟨vs, ws, hh, e, q⟩ => ?_
  unfold sufV at e
  split at e
  · rename_i v l e1 e2
    cases e
    exact ⟨vs, v, hh, e1, vs, l, hh, e2, q⟩
  · cases e
/-- the suite's return -/
def tSufR (C a : Addr) (cls : Value) (d : Option Addr) (i : Nat) (fs : List Str) (els : List SufE) : TS := fun E σ H => ∃ vs ws, SufH C a cls d i fs vs σ H ∧ sufV vs els = some ws ∧ ws.length ≤ sizeLine ∧ ∀ b, H b = none → E.rt (.ref b) (upd H b (.tup ws))
def tSufT (C a : Addr) (cls : Value) (d : Option Addr) (i : Nat) (fs : List Str) (els : List SufE) : TE := fun σ H Q => ∃ vs ws, SufH C a cls d i fs vs σ H ∧ sufV vs els = some ws ∧ ws.length ≤ sizeLine ∧ ∀ b, H b = none → Q (.ref b) (upd H b (.tup ws))
theorem suf_tup {k} (hl : PA (X.suite a ((a, oe) :: pn)) es (tSufL C a cls d i fs els)) : PE (X.suite a ((a, oe) :: pn)) (.Tuple es k pos) (tSufT C a cls d i fs els) :=
  (pe_tup hl).weak fun σ H Q ⟨vs, ws, h1, h2, h3, h4⟩ => ⟨vs, ws, h1, h2, h3, h4⟩
theorem suf_ret (he : PE (X.suite a ((a, oe) :: pn)) e (tSufT C a cls d i fs els)) : PSs (X.suite a ((a, oe) :: pn)) [.Return (some e) pos] (tSufR C a cls d i fs els) :=
  (pss_one (ps_ret he)).weak fun E σ H ⟨vs, ws, h1, h2, h3, h4⟩ => ⟨vs, ws, h1, h2, h3, h4⟩
end
/-- what an exception of class c0 becomes -/
def sTry (mb : SD) (N c0 n i : Nat) (els : List SufE) : SD := fun env h => match mb env h with
  | .exc c a env1 h1 => if c < N then (if c = c0 then (match sufD a els with
    | some ds => if ds.length < big ∧ a.length = n ∧ i < env1.length then .rt (.tup ds) h1 else .bad
    | none => .bad) else .exc c a env1 h1) else .bad
  | r => r
section
variable {X : Cx} {T : Tabs} {W : XWS} {wx : WX} {N c0 i : Nat} {C : Addr} {x n : Str} {np pos pos' : Pos} {body : List Stmt} {es : List Expr} {e : Expr} {els : List SufE} {mb : SD} {fs : List Txt} {b₀ : Stmt}
theorem s_try (hs : X.stack = X.env :: X.outer) (hf : X.env.frame = some X.env.locals) (hN : X.N.Nodup) (hi : X.N[i]? = some n) (hln : X.env.kindOf n = some .local) (hc : Names X x (.ref C)) (tk : Takes X wx) (lw : Links T (gx X) W wx) (hC : C = He.ga X.K (sOf (T.ename c0))) (hfs : T.eflds c0 = fs) (hok : sufOk els = true)
    (hx : ∀ c, c < N → PySem.W.exmOne X.K (.ref (He.ga X.K (sOf (T.ename c)))) (.ref C) = some (decide (c = c0)))
    (hb : ∀ (W' : XWS) (w' : WX) (pn : List (Addr × Obj)) (xe : Value → Shared → Prop), Takes (X.tr pn xe) w' → Links T (gx X) W' w' → PassesOwn (model X.prog X.w) X.A X.env xe → PSs (X.tr pn xe) body (TDS (gx X) W' mb))
    (hsu : ∀ (a : Addr) (oe : Obj) (cls : Value) (d : Option Addr) (pn : List (Addr × Obj)), Zc cls d oe → (∃ vs, oe.data = .fields vs) → PSs (X.suite a ((a, oe) :: pn)) [b₀] (tSufR C a cls d i (fs.map sOf) els)) :
    PS X (.Try body [.ExceptHandler (some (.Name x np)) (some n) [b₀] pos'] [] [] pos) (TDS (gx X) W (sTry mb N c0 fs.length i els)) := by
  refine (ps_try_as (tb := fun w' E σ H => ∃ W', Links T (gx X) W' w' ∧ TDS (gx X) W' mb E σ H) (ts := fun a cls d => tSufR C a cls d i (fs.map sOf) els) (Wout := wx) hs hf hN hi hln hc tk (fun w' pn xe tk' pas => ?_) hsu).weak fun E σ H q => ?_
  · exact ⟨fun pins s σ H E I ⟨W', l', q⟩ => (hb W' w' pn xe tk' l' pas).run pins s σ H E I q⟩
  · obtain ⟨μ, env, h, S, er, P⟩ := q
    let W' : XWS := fun σ' μ' H' c a h' => c < N ∧ if c = c0 then (a.length = fs.length ∧ i < σ'.length) ∧ ∃ ds, sufD a els = some ds ∧ ds.length < big ∧ SPost (gx X) W μ' H' (.rt (.tup ds) h') E else W σ' μ' H' c a h'
    refine ⟨W', fun σ' μ' H' c a h' S' w' dx vs hdx rl => ?_, μ, env, h, S, er, ?_⟩
    · obtain ⟨hcN, w'⟩ := w'
      refine ⟨_, hx c hcN, fun ht ax hax => ?_, fun hf => ?_⟩
      · have ec : c = c0 := of_decide_eq_true ht
        subst ec
        rw [if_pos rfl] at w'
        obtain ⟨⟨hla, hil⟩, ds, e1, e2, p⟩ := w'
        obtain ⟨ws, v1, v2⟩ := suf_rep rl hok e1
        have x1 : Ext μ' H' μ' (upd H' dx (.xd (((T.eflds c).map sOf).zip vs))) := Ext.tupled S' hdx
        have S1 : SRep (gx X) μ' h' (upd H' dx (.xd (((T.eflds c).map sOf).zip vs))) := S'.tupled hdx
        refine ⟨vs, ws, ⟨List.getElem?_set_self hil, by rw [hC] <;> rfl, dx, rfl, by rw [upd_same, hfs], by rw [rl.length, List.length_map]; exact hla⟩, v1, by rw [v2.length, big_eq]; exact Nat.le_of_lt e2, fun b hb => ?_⟩
        exact p μ' _ (.ref b) (S1.tupled hb) (x1.trans (Ext.tupled S1 hb)) (by unfold Rep; exact ⟨b, ws, rfl, .inl (.inl upd_same), (v2.ext x1).ext (Ext.tupled S1 hb)⟩)
      · have ec : ¬ c = c0 := of_decide_eq_false hf
        rw [if_neg ec] at w'
        exact lw σ' μ' H' c a h' S' w' dx vs hdx rl
    · unfold sTry at P
      split at P
      · rename_i c a env1 h1 e1
        rw [e1]
        intro μ' H' σ' S' x' er'
        split at P
        · rename_i hcN
          refine ⟨hcN, ?_⟩
          split at P
          · rename_i ec
            rw [if_pos ec]
            split at P
            · rename_i ds e2
              split at P
              · rename_i e3
                exact ⟨⟨e3.2.1, by rw [← er'.1]; exact e3.2.2⟩, ds, e2, e3.1, SPost.mono x' P⟩
              · exact P.elim
            · exact P.elim
          · rename_i ec
            rw [if_neg ec]
            exact P μ' H' σ' S' x' er'
        · exact P.elim
      · rename_i r hr
        cases e1 : mb env h with
        | nx env' h' => rw [e1] at P; exact P
        | rt v h' => rw [e1] at P; exact P
        | bk env' h' => rw [e1] at P; exact P
        | ct env' h' => rw [e1] at P; exact P
        | bad => rw [e1] at P; exact P
        | exc c a env' h' => exact absurd e1 (hr c a env' h')
end
end DV
namespace DV
open PySem PySem.Spec PyProof.Rows L2
namespace Ve
section
open PySem.W PySem.Calls
variable {prog : Program} {w : World} {A : Around} {E : Value → Shared → Prop} {s : Shared} {K : Frag} {x D : Addr} {ox : Obj} {od : Option Obj}
/-- x.__class__, the dict never asked -/
theorem kcl {Q : Option Value → Shared → Prop} (C : ExcC K D) (X : K.In s.heap) (I : InstAt s.heap x ox D od) (h : Q (some (.ref D)) { s with toks := s.toks + 1 }) : wpAny (model prog w) A (getAttr? (.ref x) "__class__") Q E s := by
  have hcs : (clsIn K D).isSome = true := by
    obtain ⟨cd, hc, _⟩ := any_some C.hd
    rw [hc] <;> rfl
  have hf : findObj K D od "__class__" = some (.bind (.builtin "getset_descriptor.__get__") (.builtin "object.__class__")) := findObj_dataE hcs C.ha C.hn C.ht
  obtain ⟨hp, g, d, t, os⟩ := s
  have T0 := I.type (M := model prog w)
  have T1 := looks_findIn (M := model prog w) X C.hg
  have T2 := looks_findIn (M := model prog w) X C.hk
  have T3 := looks_find (M := model prog w) X I hf
  have sub : Looks (model prog w) hp (isInstance (.ref x) (.type "BaseException")) true := T0.andThen (looks_subIn X C.hs)
  have no2 : (Value.builtin "BaseException.__getattribute__" == Value.builtin "object.__getattribute__") = false := by decide +kernel
  have no1 : (onTheHeap (Value.ref D) && Value.builtin "BaseException.__getattribute__" == Value.builtin "object.__getattribute__") = false := by rw [no2]; rfl
  unfold getAttr? getAttrBy? getAttrBy
  refine wpAny_bind (wpAny_mkText (wpAny_bind (wpAny_attempt (wpAny_holding (wpAny_bind (T0.at (wpAny_bind (T1.at ?_))))))))
  show wpAny _ _ (if (onTheHeap (Value.ref D) && Value.builtin "BaseException.__getattribute__" == Value.builtin "object.__getattribute__") = true then _ else _) _ _ _
  rw [no1, if_neg Bool.false_ne_true]
  unfold getAttrByItsOwn hookBefore
  refine wpAny_bind ?_
  rw [if_pos (show onTheHeap (Value.ref D) = true from rfl)]
  refine T2.at (wpAny_bind (wpAny_attempt (wpAny_holding ?_)))
  unfold callGetattribute
  rw [show (false && onTheHeap (Value.builtin "BaseException.__getattribute__")) = false from rfl, if_neg Bool.false_ne_true]
  unfold boundAndCalled
  rw [PySem.F.excAttr_ValueError.ga.bind (.ref x)]
  refine wpAny_bind (wpAny_pure ?_)
  show wpAny _ _ (call (.builtin "BaseException.__getattribute__") [.ref x, .str "__class__" t]) _ _ _
  refine wpAny_call (codeAny_call_builtin PySem.F.excAttr_ValueError.ga.plain PySem.F.entry_bexc_ga ?_)
  refine @check_slot (model prog w) _ _ ⟨hp, g, d, t + 1, os⟩ "BaseException.__getattribute__" "BaseException" "__getattribute__" (.ref x) [.str "__class__" t] [] _ (by decide +kernel) (by decide +kernel) sub (PySem.F.args_bexc_ga (.ref x) (.str "__class__" t)) ?_
  unfold Builtin.«object.__getattribute__»
  refine wpAny_bind (wpAny_of_eq (a := ((Value.ref x : Value), [Value.str "__class__" t])) (by first | rfl | (simp only [slotArgs]; rfl)) ?_)
  refine wpAny_bind (wpAny_pure (wpAny_bind (T0.at (wpAny_bind (T3.at ?_)))))
  show wpAny _ _ (holding [Value.builtin "object.__class__"] (call (.builtin "getset_descriptor.__get__") [.builtin "object.__class__", .ref x, .ref D]) >>= ret) _ _ _
  refine wpAny_bind (wpAny_holding (wpAny_call (class_get (s := ⟨hp, g, d, t + 1, os⟩) (ox := ox) (od := od) X I C.hm ?_)))
  refine wpAny_pure ?_
  show wpAny _ _ (handedOut (.ref D)) _ _ _
  rw [handedOut_of (v := .ref D) rfl]
  first | exact wpAny_pure (wpAny_pure h) | exact wpAny_pure h | exact wpAny_pure (wpAny_bind (wpAny_pure (wpAny_pure h)))
theorem kitE (C : ExcC K D) : KitX K (.ref x) (.ref D) (fun h => ∃ ox od, InstAt h x ox D od) where
  ty := fun _ _ _ ⟨_, _, I⟩ => I.type
  it := fun M h X I => by
    obtain ⟨cdD, hcD, _⟩ := any_some C.hd
    unfold clsIn at hcD
    split at hcD
    · rename_i ho
      intro A' Q' E' s' k q
      unfold isType loadHead
      exact wpAny_bind (wpAny_loadPart (k _ _ (X _ _ ho)) (wpAny_pure q))
    · cases hcD
  ne := fun h tp dd its n sl X htp => by
    obtain ⟨cdD, hcD, _⟩ := any_some C.hd
    cases q : (Value.ref D == Value.ref tp) with
    | false => rfl
    | true =>
      have e : D = tp := Value.ref.inj (beq_iff_eq.mp q)
      subst e
      unfold clsIn at hcD
      split at hcD
      · rename_i ho
        have z := (X _ _ ho).symm.trans htp
        cases z
      · cases hcD
  ca := fun X ⟨_, _, I⟩ k => kcl C X I k
end
end Ve
section
variable {X : Cx} {a C Pc : Addr} {oe : Obj} {cls : Value} {d : Option Addr} {pn : List (Addr × Obj)} {i : Nat} {fs : List Str} {e e1 e2 : Expr} {els : List SufE} {pos p p1 p2 : Pos} {x : Str}
/-- in the suite: isinstance(error, P) is true -/
theorem suf_is (Y : ExcC X.K C) (hk : PySem.W.kitOne X.K (.ref C) (.ref Pc) = some true) (hz : Zc cls d oe) (hf : ∃ vs, oe.data = .fields vs) (hg : Gl X "isinstance") (hm : X.mg "isinstance" = none) (hgx : Gl X x) (hmx : X.mg x = some (.ref Pc)) (hdx : (x == ("__debug__" : Str)) = false)
    (he : PE (X.suite a ((a, oe) :: pn)) e (tVar i)) (h1 : PE (X.suite a ((a, oe) :: pn)) e1 (tSufT C a cls d i fs els)) (h2 : PE (X.suite a ((a, oe) :: pn)) e2 tt)
    (hs : starEach [e, .Name x p1] X.env = (false, eval e X.env) :: starEach [.Name x p1] X.env) (hpl : (backTo p2 (starEach [.Name x p1] X.env)).any (·.1) = false) (hs2 : starEach [.Name x p1] X.env = (false, eval (.Name x p1) X.env) :: starEach [] X.env)
    (htr : ∀ whole, isTrue (.Call (.Name "isinstance" p) [e, .Name x p1] [] p2) X.env whole = (do let v ← whole; standAt (Expr.Call (.Name "isinstance" p) [e, .Name x p1] [] p2).pos; holding [v] (truthy v))) :
    PE (X.suite a ((a, oe) :: pn)) (.IfExp (.Call (.Name "isinstance" p) [e, .Name x p1] [] p2) e1 e2 pos) (tSufT C a cls d i fs els) := by
  have hcall : CallR (X.suite a ((a, oe) :: pn)) (.builtin "isinstance") (fun xs H Q => xs = [.ref a, .ref Pc] ∧ cls = .ref C ∧ (∃ dx fs', d = some dx ∧ H dx = some (.xd fs')) ∧ Q (.bl true) H) := by
    intro pins s σ H xs us Q I r h
    obtain ⟨rfl, ec, ⟨dx, fs', ed, eH⟩, q⟩ := h
    cases r with
    | cons rx rr => cases rr with
      | cons rt rr =>
        cases rr
        cases rx
        cases rt
        obtain ⟨hget, _⟩ := I.pin (a, oe) (List.mem_append.mpr (.inl List.mem_cons_self))
        obtain ⟨vs, hv⟩ := hf
        obtain ⟨mA, hns, _⟩ := (show ObjOk X.prog X.w H s.heap dx (.xd fs') from I.hok dx _ eH)
        obtain ⟨od, ho, _⟩ := lookIn_ns hns
        have J : PySem.W.InstAt s.heap a oe C (some od) := ⟨hget, hz.1.trans ec, by unfold PySem.W.notCls; rw [hv] <;> rfl, by rw [hz.2, ed]; exact ho⟩
        exact PySem.W.kia_one (Ve.kitE Y) I.kIn ⟨_, _, J⟩ hk (fun z => nomatch z) fun tk => ⟨.bl true, H, I.kept (t' := tk) fun _ _ z => z, rfl, q⟩
  have pt := pt_truth (pe_callB (X := X.suite a ((a, oe) :: pn)) (x := "isinstance") hcall hg hm (by rfl) (pa_cons he (pa_cons (pe_glob (X := X.suite a ((a, oe) :: pn)) hgx hmx (v := .ref Pc) rfl hdx) pa_nil hs2) hs) (by decide) (by decide) hs hpl) htr
  refine (pe_ifExp pt h1 h2).weak fun σ H Q q => ?_
  obtain ⟨vs, ws, ⟨g1, g2, dx, g3, g4, g5⟩, k1, k2, k3⟩ := q
  exact ⟨_, g1, rfl, g2, ⟨dx, _, g3, g4⟩, true, rfl, vs, ws, ⟨g1, g2, dx, g3, g4, g5⟩, k1, k2, k3⟩
end
end DV
namespace DV
open PySem PySem.Spec PyProof.Rows L2
/-- keys met, each once -/
def addKey (l : List Key) (k : Key) : List Key := if l.any (· == k) then l else l ++ [k]
def metKeys (ks : List Key) : List Key := ks.foldl addKey []
theorem addKey_any (l : List Key) (k j : Key) : (addKey l k).any (· == j) = (l.any (· == j) || decide (j = k)) := by
  unfold addKey
  by_cases h : l.any (· == k) = true
  · rw [if_pos h]
    by_cases e : j = k
    · subst e; rw [h]; simp
    · simp [e]
  · rw [if_neg h, List.any_append]
    by_cases e : j = k
    · subst e; simp
    · have e2 : (k == j) = false := by simpa using fun z : k = j => e z.symm
      simp [e2, e]
theorem addKey_length (l : List Key) (k : Key) : (addKey l k).length = if l.any (· == k) then l.length else l.length + 1 := by
  unfold addKey
  split <;> simp
theorem foldKey_le : ∀ (ks l : List Key), (ks.foldl addKey l).length ≤ l.length + ks.length
  | [], l => by simp
  | k :: ks, l => by
    rw [List.foldl_cons]
    refine Nat.le_trans (foldKey_le ks _) ?_
    rw [addKey_length, List.length_cons]
    split <;> omega
theorem metTake (ks : List Key) {i : Nat} {k : Key} (h : ks[i]? = some k) : metKeys (ks.take (i + 1)) = addKey (metKeys (ks.take i)) k := by
  unfold metKeys
  rw [List.take_succ, h, Option.toList_some, List.foldl_append]
  rfl
section
variable {P : Program} {w : World} {A : Around} {R : Result → Shared → Prop} {E : Value → Shared → Prop} {I : Addr} {fp wr : List Addr} {G : Array GenState → Array GenState → Prop} {n : Nat} {Pv : Nat → Value → Prop} {St : Nat → Shared → Prop}
theorem setCongr {h : Heap} {a : Addr} {S S' : Key → Bool} {n n' : Nat} (r : h.SetOf (mixKind P w) a S n) (e : ∀ k, S k = S' k) (en : n = n') : h.SetOf (mixKind P w) a S' n' := by
  cases funext e
  cases en
  exact r
theorem setAt {h h' : Heap} {a : Addr} {S : Key → Bool} {n : Nat} (r : h.SetOf (mixKind P w) a S n) (k : ∀ o, h.get? a = some o → h'.get? a = some o) : h'.SetOf (mixKind P w) a S n := by
  obtain ⟨o, es, ep, t, ho, q⟩ := r
  exact ⟨o, es, ep, t, k o ho, q⟩
/-- the update's loop over n items that are the keys ks -/
theorem upLoop (W : WalksS P w A.in1 I fp wr G n Pv St) (S : Addr) (hS : S ∉ fp) (ks : List Key) (hn : ks.length = n) (hv : ∀ i v k, Pv i v → ks[i]? = some k → RelV (kV k) v) (hb : n + 1 < scanBound) :
    ∀ (m i : Nat) (s : Shared), n - i = m → i ≤ n → St i s → s.heap.SetOf (mixKind P w) S (fun k => (metKeys (ks.take i)).any (· == k)) (metKeys (ks.take i)).length →
      (∀ s', Moved (S :: wr) G s s' → s'.heap.SetOf (mixKind P w) S (fun k => (metKeys ks).any (· == k)) (metKeys ks).length → R (.ok (.ret .none)) s') → codeAny (model P w) A (.builtin "set.update.loop" ⟨[.ref S, .ref I], []⟩) R s := by
  have nw : S ∉ wr := fun h => hS (W.sub _ h)
  have sb : ∀ b ∈ wr, b ∈ S :: wr := fun b h => List.mem_cons_of_mem _ h
  intro m
  induction m with
  | zero =>
    intro i s hk hi st hs hR
    obtain rfl : i = n := by omega
    refine codeAny_builtin F.entry_set_update_loop ?_
    rw [Around.under_plainId F.plain_set_update_loop _]
    show wpAny _ A.in1 (pyNext (.ref I) >>= _) _ _ s
    refine wpAny_bind (W.done s _ _ st fun s' hm => ?_)
    show wpAny _ A.in1 (ret Value.none) _ _ s'
    refine wpAny_pure (hR s' (hm.mono sb) ?_)
    have e : ks.take i = ks := by rw [← hn, List.take_length]
    rw [e] at hs
    exact setAt hs fun o => hm.heap S _ nw
  | succ m ih =>
    intro i s hk hi st hs hR
    have lt : i < n := by omega
    refine codeAny_builtin F.entry_set_update_loop ?_
    rw [Around.under_plainId F.plain_set_update_loop _]
    show wpAny _ A.in1 (pyNext (.ref I) >>= _) _ _ s
    refine wpAny_bind (W.item i s _ _ lt st fun v s' hP st' hm => ?_)
    have hk' : ks[i]? = some ks[i] := List.getElem?_eq_getElem (by omega)
    have rv := hv i v _ hP hk'
    have hs' := setAt hs fun o => hm.heap S o nw
    show wpAny _ A.in1 (holding [v] (setAdd S v) >>= _) _ _ s'
    refine wpAny_bind (wpAny_holding ?_)
    unfold setAdd
    refine wpAny_holding (wpAny_bind ((mixKind P w).pyHash (k := ks[i]) (kV_is rv) ?_))
    have room : (metKeys (ks.take i)).length + 1 < scanBound := by
      have h1 := foldKey_le (ks.take i) []
      have h2 : (ks.take i).length ≤ n := by rw [List.length_take]; omega
      unfold metKeys
      simp at h1
      omega
    refine wpAny_setAddHashed_of (knd := mixKind P w) (s := { s' with toks := s'.toks + 1 }) (kV_is rv) (key_scan rv) hs' room fun h' sb2 h2 => ?_
    have h3 := setCongr (S' := fun k => (metKeys (ks.take (i + 1))).any (· == k)) (n' := (metKeys (ks.take (i + 1))).length) h2 (fun k => by rw [metTake ks hk', addKey_any]) (by rw [metTake ks hk', addKey_length])
    refine wpAny_pure ⟨plainId_quiet F.plain_set_update_loop _, ih (i + 1) _ (by omega) lt (W.frame _ s' _ _ st' (Nat.le_succ _) fun b hb o e => ?_) h3 fun s'' hm' hs'' => ?_⟩
    · rw [sb2.2 b fun h : b = S => hS (h ▸ hb)]
      exact e
    · refine hR s'' (Moved.trans W.gtrans ((hm.mono sb).then_heap (Nat.le_succ _) fun b o hb e => ?_) hm') hs''
      rw [sb2.2 b fun h : b = S => hb (h ▸ List.mem_cons_self)]
      exact e
/-- set(xs), xs a list of keys -/
theorem callSet {s : Shared} {l : Addr} {items : Array Value} {ks : List Key} {Q : Value → Shared → Prop} (hh : A.handled = none) (hl : s.heap.IsList l items) (hi : Vals (ks.map kV) items.toList) (hb : items.size + 1 < scanBound)
    (h : ∀ (h' : Heap) (tk : Nat), h'.SetOf (mixKind P w) s.heap.objs.size (fun k => (metKeys ks).any (· == k)) (metKeys ks).length → (∀ b o, b < s.heap.objs.size → s.heap.get? b = some o → h'.get? b = some o) → Q (.ref s.heap.objs.size) { s with heap := h', toks := tk }) :
    wpAny (model P w) A (call (.type "set") [.ref l]) Q E s := by
  obtain ⟨c, tl, mro⟩ := F.called_set.mro
  have made := F.called_set.made
  have sub := F.called_set.sub
  have hlen : ks.length = items.size := by
    have z := hi.length
    rw [List.length_map, Array.length_toList] at z
    exact z
  let so : Bool → Obj := fun led => { cls := .type "set", dict := none, data := .set #[] 0 (.fresh 0 0 led) }
  refine wpAny_call (codeAny_of_tree ?_)
  show wpAny _ _ (callAny (.type "set") _) _ _ _
  refine wpAny_pure ⟨Code.quiet_builtin _ (by decide +kernel), codeAny_builtin F.entry_type_call ?_⟩
  rw [Around.under_plain (weight_type_call_type "set" [.ref l] []) rfl]
  have g1 := F.called_set.notType
  have g2 := F.called_set.canCreate
  have g3 := F.typeCall_set_1 (.ref l)
  repeat (any_goals (first | assumption | wp_step))
  refine codeAny_mono (code_set_new_1 (.ref l) (E := E) (Q₁ := fun obj s₁ => ∃ led : Bool, obj = .ref s.heap.objs.size ∧ s₁ = { s with heap := s.heap.push (so led) }) fun led => ⟨led, rfl, rfl⟩) fun r s₁ hr => ?_
  cases r with
  | error e => exact hr
  | ok fl => cases fl with
    | ret obj =>
      obtain ⟨led, rfl, rfl⟩ := hr
      have at1 : (s.heap.push (so led)).get? s.heap.objs.size = some (so led) := Heap.get?_push_size _ rfl
      have ty1 : Shared.TypeIs { s with heap := s.heap.push (so led) } (.ref s.heap.objs.size) "set" := ⟨_, at1, rfl⟩
      have li := F.called_set.init.lookup
      have bi := F.called_set.init.bind (.ref s.heap.objs.size)
      repeat (any_goals (first | assumption | wp_step))
      refine codeAny_mono (codeAny_call_builtin (R := wants (fun r s₂ => r = .none ∧ ∃ h' tk, s₂ = { s with heap := h', toks := tk } ∧ h'.SetOf (mixKind P w) s.heap.objs.size (fun k => (metKeys ks).any (· == k)) (metKeys ks).length ∧ (∀ b o, b < s.heap.objs.size → s.heap.get? b = some o → h'.get? b = some o)) E)
        F.called_set.init.plain F.entry_set_init (check_set_init_1 ty1 ?_)) fun r₂ s₂ hr₂ => ?_
      · obtain ⟨ol, hol, hcl, nl, hdl⟩ := hl
        obtain ⟨ocls, odict, odata, oslots⟩ := ol
        simp only at hcl hdl
        subst hcl hdl
        have hol' : (s.heap.push (so led)).get? l = some { cls := .type "list", dict := odict, data := .seq items nl, slots := oslots } := Heap.get?_push_of_some _ hol
        have n1 := F.sub_list_set
        have n2 := F.sub_list_frozenset
        have n3 : (Value.type "list" == Value.type "dict") = false := by decide
        have l1 : (s.heap.push (so led)).IsList l items := ⟨_, hol', rfl, nl, rfl⟩
        have ls : l < s.heap.objs.size := Heap.lt_size hol
        unfold Builtin.«set.__init__» noKeywords Builtin.Frozenset.updateFrom
        generalize hPI : pyIter = PI
        wp_walk
        subst hPI
        refine wpAny_pyIter_list l1 ?_
        refine wpAny_bind (wpAny_runValue ?_)
        have h3 : A.in1.in1.in1.handled = none := by simp [hh]
        have ne : l ≠ (s.heap.push (so led)).objs.size := by
          rw [Heap.size_push]
          exact Nat.ne_of_lt (Nat.lt_succ_of_lt ls)
        have nf : s.heap.objs.size ∉ [(s.heap.push (so led)).objs.size, l] := by
          rw [Heap.size_push]
          simp only [List.mem_cons, List.not_mem_nil, or_false, not_or]
          exact ⟨Nat.ne_of_lt (Nat.lt_succ_self _), Nat.ne_of_gt ls⟩
        refine upLoop ((Walks.list h3 _ l ne items).toS) s.heap.objs.size nf ks hlen (fun i v k hv hk => ?_) hb (items.size - 0) 0 _ (by omega) (Nat.zero_le _) ⟨⟨_, Heap.get?_push_size _ rfl, rfl, rfl⟩, l1.push _⟩ ?c0 ?c1
        · have z : items.toList[i]? = some v := by rw [Array.getElem?_toList]; exact hv
          have z2 : (ks.map kV)[i]? = some (kV k) := by rw [List.getElem?_map, hk]; rfl
          obtain ⟨u, e1, e2⟩ := hi.get z2
          rw [z] at e1
          cases e1
          exact e2
        case c0 =>
          have hg : ((s.heap.push (so led)).push { cls := .type "list_iterator", data := .fields #[.ref l, .int 0 0] }).get? s.heap.objs.size = some (so led) := Heap.get?_push_of_some _ at1
          exact setCongr ((PyProof.Rows.setObjOf_fresh (knd := mixKind P w) led).setOf hg (by unfold scanBound; omega)) (fun _ => rfl) rfl
        case c1 =>
          intro s' hm hs'
          obtain ⟨h', g', d', tk', os'⟩ := s'
          cases (show g' = s.gens from hm.gens)
          cases (show d' = s.drawn from hm.drawn)
          cases (show os' = s.os from hm.os)
          show wpAny _ _ _ _ _ _
          refine wpAny_pure ?_
          show wpAny _ _ (ret Value.none) _ _ _
          refine wpAny_pure ⟨rfl, h', tk', rfl, hs', fun b o b_lt e => ?_⟩
          refine hm.heap b o ?_ (Heap.get?_push_of_some _ (Heap.get?_push_of_some _ e))
          rw [Heap.size_push]
          simp only [List.mem_cons, List.not_mem_nil, or_false, not_or]
          exact ⟨Nat.ne_of_lt b_lt, Nat.ne_of_lt (Nat.lt_succ_of_lt b_lt)⟩
      · cases r₂ with
        | error e => exact hr₂
        | ok fl₂ => cases fl₂ with
          | ret r =>
            obtain ⟨rfl, h', tk, rfl, hs', hk'⟩ := hr₂
            repeat (any_goals (first | assumption | wp_step))
            exact h _ _ hs' hk'
          | _ => exact hr₂.elim
    | _ => exact hr.elim
end
def addKd (l : List D) (d : D) : List D := if (l.map keyD).any (· == keyD d) then l else l ++ [d]
def dedupD (ds : List D) : List D := ds.foldl addKd []
def isKey (d : D) : Bool := (keyD d).isSome
theorem keys_of {ds : List D} (h : ds.all isKey = true) : ∃ kk : List Key, ds.map keyD = kk.map some := by
  induction ds with
  | nil => exact ⟨[], rfl⟩
  | cons d ds ih =>
    obtain ⟨h1, h2⟩ := Bool.and_eq_true_iff.mp (show (isKey d && ds.all isKey) = true from h)
    obtain ⟨k, hk⟩ := Option.isSome_iff_exists.mp h1
    obtain ⟨kk, e⟩ := ih h2
    exact ⟨k :: kk, by rw [List.map_cons, List.map_cons, hk, e]⟩
theorem any_some (kk : List Key) (k : Key) : (kk.map some).any (· == some k) = kk.any (· == k) := by
  rw [List.any_map]
  congr 1
theorem addKd_key {l : List D} {lk : List Key} {d : D} {k : Key} (e : l.map keyD = lk.map some) (hd : keyD d = some k) : (addKd l d).map keyD = (addKey lk k).map some := by
  unfold addKd addKey
  rw [e, hd, any_some]
  by_cases h : lk.any (· == k) = true
  · rw [if_pos h, if_pos h, e]
  · rw [if_neg h, if_neg h, List.map_append, List.map_append, e]
    simp [hd]
theorem dedup_go : ∀ (ds : List D) (kk : List Key) (l : List D) (lk : List Key), ds.map keyD = kk.map some → l.map keyD = lk.map some → (ds.foldl addKd l).map keyD = (kk.foldl addKey lk).map some
  | [], [], l, lk, _, e => e
  | [], _ :: _, _, _, h, _ => by cases h
  | _ :: _, [], _, _, h, _ => by cases h
  | d :: ds, k :: kk, l, lk, h, e => by
    rw [List.map_cons, List.map_cons] at h
    injection h with h1 h2
    exact dedup_go ds kk _ _ h2 (addKd_key e h1)
def setF : DF
  | [.ref n], h => match h[n]? with
    | some (.lst ds) => if ds.all isKey ∧ ds.length < 4095 then alloc (.set (dedupD ds)) h else .bad
    | _ => .bad
  | _, _ => .bad
theorem key_vals {G : GX} {H : Hp} {μ : List Addr} : ∀ {ds : List D} {kk : List Key} {vs : List V}, ds.map keyD = kk.map some → RepL G H μ ds vs → vs = kk.map kV
  | [], [], vs, _, r => by unfold RepL at r; exact r
  | [], _ :: _, _, h, _ => by cases h
  | _ :: _, [], _, h, _ => by cases h
  | d :: ds, k :: kk, vs, h, r => by
    rw [List.map_cons, List.map_cons] at h
    injection h with h1 h2
    unfold RepL at r
    obtain ⟨v, r', rfl, r1, r2⟩ := r
    rw [List.map_cons, key_vals h2 r2, r1.key h1]
section
variable {X : Cx} {W : XW}
theorem c_set (hc : X.calm = true) : CallR X (.type "set") (rCD (gx X) W setF) := by
  intro pins s σ H vs us Q I rv ⟨μ, h, ds, S, r, P⟩
  unfold setF at P
  split at P
  · rename_i h n
    obtain ⟨v, rfl, r1⟩ := r.one
    obtain ⟨a, ea, rfl⟩ := r1.ref
    split at P
    · rename_i es e
      split at P
      · rename_i hk
        obtain ⟨ws, q1, l1⟩ := S.list e ea
        obtain ⟨u, rfl, ru⟩ := vals1 rv
        cases ru
        obtain ⟨kk, hkk⟩ := keys_of hk.1
        have hw := key_vals hkk l1
        subst hw
        obtain ⟨z, its, m, rr, hl, hat⟩ := I.lstM q1
        have hsz : es.length = its.length := by
          rw [← l1.length]
          exact hl
        have hb : its.toArray.size + 1 < scanBound := by
          rw [List.size_toArray, ← hsz]
          have := hk.2
          unfold scanBound
          omega
        refine callSet (I.ok.hd hc) (items := its.toArray) ⟨_, hat, rfl, m, rfl⟩ (by simpa using rr) hb fun h' tk hs' k => ?_
        have k' : ∀ b u, s.heap.get? b = some u → h'.get? b = some u := fun b u q => k b u (Heap.lt_size q) q
        refine ⟨.ref s.heap.objs.size, upd H s.heap.objs.size (SetK X.prog X.w s.heap.objs.size (fun j => (metKeys kk).any (· == j)) (metKeys kk).length), I.laid k' (Nat.le_refl _) (setK_new hs'), rfl, ?_⟩
        exact P.allo S (I.hok.fresh (Nat.le_refl _)) ⟨metKeys kk, upd_same, dedup_go es kk [] [] hkk rfl⟩
      · exact P.elim
    · exact P.elim
  · exact P.elim
end
/-- len, of a set and a dict too -/
def lenF2 : DF
  | [.ref n], h => match h[n]? with
    | some (.set ks) => if ks.length < big then .ok (.int ks.length) h else .bad
    | _ => lenF [.ref n] h
  | ds, h => lenF ds h
section
variable {X : Cx} {W : XW}
theorem c_len2 : CallR X (.builtin "len") (rCD (gx X) W lenF2) := by
  intro pins s σ H vs us Q I rv ⟨μ, h, ds, S, r, P⟩
  unfold lenF2 at P
  split at P
  · rename_i h n
    split at P
    · rename_i ks e
      split at P
      · rename_i hl
        obtain ⟨v, rfl, r1⟩ := r.one
        obtain ⟨a, ea, rfl⟩ := r1.ref
        obtain ⟨u, rfl, ru⟩ := vals1 rv
        cases ru
        obtain ⟨kk, q1, q2⟩ := S.ob n _ a e ea
        have hlen : ks.length = kk.length := by
          have z := congrArg List.length q2
          simpa using z
        obtain ⟨o, es, ep, t, ho, hex, hd, _, _, _, hf, hn⟩ := setK_get I q1
        refine call_len_set ho hex hd hf (by rw [hn, ← hlen]; unfold big at hl; omega) ?_
        rw [hn, ← hlen]
        exact ⟨.int ks.length, H, I.tok _, ⟨_, rfl⟩, P.now S (by unfold Rep; rfl)⟩
      · exact P.elim
    · exact c_len pins s σ H vs us Q I rv ⟨μ, _, _, S, r, P⟩
  · exact c_len pins s σ H vs us Q I rv ⟨μ, _, _, S, r, P⟩
end
end DV
namespace DV
open PySem PySem.Spec PyProof.Rows L2
abbrev DM := D → List D → DH → R D
def rMD (G : GX) (W : XW) (g : DM) : V → List V → Hp → VK → Prop := fun x xs H Q => ∃ μ h d ds, SRep G μ h H ∧ Rep G H μ d x ∧ RepL G H μ ds xs ∧ Post (Rep G) G W μ H (g d ds h) Q
/-- the receiver is of that type -/
def tyD (T : String) : D → DH → Bool
  | .str _, _ => decide (T = "str")
  | .frz _, _ => decide (T = "list")
  | .ref n, h => match h[n]? with
    | some (.lst _) => decide (T = "list")
    | some (.dct _) => decide (T = "dict")
    | _ => false
  | _, _ => false
theorem tyD_ok {G : GX} {μ : List Addr} {h : DH} {H : Hp} {T : String} {d : D} {x : V} (S : SRep G μ h H) (r : Rep G H μ d x) (e : tyD T d h = true) : tyV G.K T x H := by
  unfold tyD at e
  split at e
  · rename_i t
    rw [r.strv]
    have e' : T = "str" := of_decide_eq_true e
    exact e'
  · rename_i ds
    obtain ⟨a, vs, rfl, q, _⟩ := r.frzl
    exact .inl ⟨of_decide_eq_true e, vs, q.sq⟩
  · rename_i n
    obtain ⟨a, ea, rfl⟩ := r.ref
    split at e
    · rename_i ds e2
      obtain ⟨vs, q, _⟩ := S.list e2 ea
      exact .inl ⟨of_decide_eq_true e, vs, .of q⟩
    · rename_i kvs e2
      obtain ⟨kv, q, _⟩ := S.ob n _ a e2 ea
      exact .inr (.inr (.inl ⟨of_decide_eq_true e, .inl ⟨kv, q⟩⟩))
    · cases e
  · cases e
def dMeth (T : String) (mo : DE) (ml : DEn (List D)) (g : DM) : DE := mo.bind fun d env h => if tyD T d h then (ml env h).bind fun ds h2 => g d ds h2 else .bad
section
variable {X : Cx} {W : XWS} {o e : Expr} {es : List Expr} {name : Str} {apos cpos : Pos} {T id : String} {g : DM} {mo : DE} {ml : DEn (List D)}
theorem d_meth (pa : PlainAttrs T) (slot : Slot T name id) (hty : typeOf (.builtin id) = pure (.type "method_descriptor")) (hm : ∀ W, MtR X id (rMD (gx X) W g)) (ho : PE X o (TD (gx X) W mo)) (ha : PA X (e :: es) (TDL (gx X) W ml))
    (hbase : attributeBase o name X.env (eval o X.env) = eval o X.env)
    (hfew : ((backTo cpos (starEach (e :: es) X.env)).all (fun x => !x.1) && (backToKw cpos (keywordEach [] X.env)).all (fun x => x.1.isSome) && decide ((e :: es).length + ([] : List Keyword).length + (if ([] : List Keyword).isEmpty then 0 else 1) < 30)) = true)
    (hline : (apos.endLine == cpos.line) = true) (hs : starEach (e :: es) X.env = (false, eval e X.env) :: starEach es X.env) (hplain : (backTo cpos (starEach es X.env)).any (·.1) = false) :
    PE X (.Call (.Attribute o name apos) (e :: es) [] cpos) (TD (gx X) W (dMeth T mo ml g)) := by
  refine PE.weakS (fun σ => pe_bm pa slot hty (hm (W σ)) ho ha hbase hfew hline hs hplain) fun σ H Q q => ?_
  refine TG'.imp (TG'.split (rel := Rep (gx X)) q) ?_
  rintro x H1 ⟨μ1, d, env, h1, s1, e1, r1, p1⟩
  split at p1
  · rename_i ht
    refine ⟨tyD_ok s1 r1 ht, μ1, env, h1, s1, e1, (Post.bind (rel := RepL (gx X)) p1).imp ?_⟩
    rintro xs H2 ⟨μ2, ds, h2, s2, x2, r2, p2⟩
    exact ⟨μ2, h2, d, ds, s2, r1.ext x2, r2, p2⟩
  · exact p1.elim
theorem d_meth0 (pa : PlainAttrs T) (slot : Slot T name id) (hty : typeOf (.builtin id) = pure (.type "method_descriptor")) (hm : ∀ W, MtR X id (rMD (gx X) W g)) (ho : PE X o (TD (gx X) W mo)) (hbase : attributeBase o name X.env (eval o X.env) = eval o X.env) (hline : (apos.endLine == cpos.line) = true) :
    PE X (.Call (.Attribute o name apos) [] [] cpos) (TD (gx X) W (dMeth T mo dNil g)) := by
  refine PE.weakS (fun σ => pe_bm0 pa slot hty (hm (W σ)) ho hbase hline) fun σ H Q q => ?_
  refine TG'.imp (TG'.split (rel := Rep (gx X)) q) ?_
  rintro x H1 ⟨μ1, d, env, h1, s1, e1, r1, p1⟩
  split at p1
  · rename_i ht
    exact ⟨tyD_ok s1 r1 ht, μ1, h1, d, [], s1, r1, by unfold RepL; rfl, p1⟩
  · exact p1.elim
end
def appendM : DM
  | .ref n, [d], h => match h[n]? with
    | some (.lst ds) => if ds.length < big then .ok .non (h.set n (.lst (ds ++ [d]))) else .bad
    | _ => .bad
  | _, _, _ => .bad
section
variable {X : Cx} {W : XW}
theorem m_append : MtR X "list.append" (rMD (gx X) W appendM) := by
  intro pins s σ H x xs v us Q I rx rxs ⟨μ, h, d, ds, S, r, rl, P⟩
  unfold appendM at P
  split at P
  · rename_i h n y
    obtain ⟨a, ea, rfl⟩ := r.ref
    obtain ⟨yv, rfl, ry⟩ := rl.one
    split at P
    · rename_i es e
      split at P
      · rename_i hl
        obtain ⟨vs, q1, l1⟩ := S.list e ea
        refine mt_append pins s σ H _ _ v us Q I rx rxs ⟨a, vs, yv, rfl, rfl, q1, by rw [l1.length, big_eq]; exact hl, ?_⟩
        refine P μ _ .non (S.write e rfl ea (o := .lst (es ++ [y])) ⟨_, upd_same, ?_⟩) (Ext.write S e ea rfl) (by unfold Rep; rfl)
        exact (l1.ext (Ext.write S e ea rfl)).append (by unfold RepL; exact ⟨yv, [], rfl, ry.ext (Ext.write S e ea rfl), by unfold RepL; rfl⟩)
      · exact P.elim
    · exact P.elim
  · exact P.elim
end
theorem sOf_cps (s : Str) : sOf s.cps.toList = s := by
  cases s
  simp [sOf]
def upperT (t : Txt) : Txt := (PySem.Txt.upper (sOf t)).cps.toList
theorem sOf_upper (t : Txt) : sOf (upperT t) = PySem.Txt.upper (sOf t) := sOf_cps _
def upperM : DM
  | .str t, [], h => if t.length ≤ 5592405 then .ok (.str (upperT t)) h else .bad
  | _, _, _ => .bad
/-- all texts -/
def txtsD : List D → Option (List Txt)
  | [] => some []
  | .str t :: r => match txtsD r with
    | some l => some (t :: l)
    | none => none
  | _ => none
def joinT (sep : Txt) (ts : List Txt) : Txt := (PySem.Txt.join (sOf sep) (ts.map sOf)).cps.toList
theorem sOf_join (sep : Txt) (ts : List Txt) : sOf (joinT sep ts) = PySem.Txt.join (sOf sep) (ts.map sOf) := sOf_cps _
def joinF (t : Txt) (ds : List D) (h : DH) : R D := match txtsD ds with
  | some ts => if (ts.map List.length).sum + ts.length * t.length ≤ 16777216 then .ok (.str (joinT t ts)) h else .bad
  | none => .bad
def joinM : DM
  | .str t, [.tup ds], h => joinF t ds h
  | .str t, [.frz ds], h => joinF t ds h
  | .str t, [.ref n], h => match h[n]? with
    | some (.lst ds) => joinF t ds h
    | _ => .bad
  | _, _, _ => .bad
theorem txts_vals {G : GX} {H : Hp} {μ : List Addr} : ∀ {ds : List D} {ts : List Txt} {vs : List V}, txtsD ds = some ts → RepL G H μ ds vs → vs = (ts.map sOf).map V.str
  | [], ts, vs, e, r => by
    cases e
    unfold RepL at r
    exact r
  | .str t :: ds, ts, vs, e, r => by
    unfold txtsD at e
    split at e
    · rename_i l el
      cases e
      unfold RepL at r
      obtain ⟨v, r', rfl, r1, r2⟩ := r
      rw [List.map_cons, List.map_cons, ← txts_vals el r2, r1.strv]
    · cases e
  | .non :: ds, ts, vs, e, r => by cases e
  | .bl _ :: ds, ts, vs, e, r => by cases e
  | .int _ :: ds, ts, vs, e, r => by cases e
  | .tup _ :: ds, ts, vs, e, r => by cases e
  | .frz _ :: ds, ts, vs, e, r => by cases e
  | .ref _ :: ds, ts, vs, e, r => by cases e
  | .cdt _ :: ds, ts, vs, e, r => by cases e
  | .fn _ :: ds, ts, vs, e, r => by cases e
  | .ty _ :: ds, ts, vs, e, r => by cases e
section
variable {X : Cx} {W : XW}
theorem m_upper : MtR X "str.upper" (rMD (gx X) W upperM) := by
  intro pins s σ H x xs v us Q I rx rxs ⟨μ, h, d, ds, S, r, rl, P⟩
  unfold upperM at P
  split at P
  · rename_i h t
    split at P
    · rename_i hl
      have e := r.strv
      subst e
      have e2 : xs = [] := by unfold RepL at rl; exact rl
      subst e2
      exact mt_upper pins s σ H _ _ v us Q I rx rxs ⟨sOf t, rfl, rfl, by rw [sOf_len]; exact hl, P.now S (by unfold Rep; rw [sOf_upper])⟩
    · exact P.elim
  · exact P.elim
theorem join_ok {pins : List (Addr × Obj)} {s : Shared} {σ : L2.St} {H : Hp} {v : Value} {us : List Value} {Q : VK} {μ : List Addr} {h : DH} {t : Txt} {ds : List D} {a : Addr} {vs : List V} (I : Inv X pins σ H s) (rx : RelV (.str (sOf t)) v) (rxs : Vals [.ref a] us) (S : SRep (gx X) μ h H)
    (hq : SqL X.K H a vs ∨ SqT X.K H a vs) (r : RepL (gx X) H μ ds vs) (P : Post (Rep (gx X)) (gx X) W μ H (joinF t ds h) Q) : wpAny (model X.prog X.w) X.A (call (.builtin "str.join") (v :: us)) (EP X pins σ Q) X.xe s := by
  unfold joinF at P
  split at P
  · rename_i ts e
    split at P
    · rename_i hl
      have ev := txts_vals e r
      subst ev
      refine mt_join pins s σ H _ _ v us Q I rx rxs ⟨sOf t, a, ts.map sOf, rfl, rfl, hq, ?_, P.now S (by unfold Rep; rw [sOf_join])⟩
      have e1 : ((ts.map sOf).map fun x => x.length) = ts.map List.length := by
        rw [List.map_map]
        exact List.map_congr_left fun x _ => sOf_len x
      rw [e1, List.length_map, sOf_len]
      exact hl
    · exact P.elim
  · exact P.elim
theorem m_join : MtR X "str.join" (rMD (gx X) W joinM) := by
  intro pins s σ H x xs v us Q I rx rxs ⟨μ, h, d, ds, S, r, rl, P⟩
  unfold joinM at P
  split at P
  · rename_i h t es
    have e := r.strv
    subst e
    obtain ⟨yv, rfl, ry⟩ := rl.one
    obtain ⟨a, vs, rfl, q, l⟩ := ry.tupl
    exact join_ok I rx rxs S (.inr q) l P
  · rename_i h t es
    have e := r.strv
    subst e
    obtain ⟨yv, rfl, ry⟩ := rl.one
    obtain ⟨a, vs, rfl, q, l⟩ := ry.frzl
    exact join_ok I rx rxs S (.inl q.sq) l P
  · rename_i h t n
    have e := r.strv
    subst e
    obtain ⟨yv, rfl, ry⟩ := rl.one
    obtain ⟨a, ea, rfl⟩ := ry.ref
    split at P
    · rename_i es e2
      obtain ⟨vs, q, l⟩ := S.list e2 ea
      exact join_ok I rx rxs S (.inl (.of q)) l P
    · exact P.elim
  · exact P.elim
end
/-- tuple(x), of a text too -/
def tupleF2 : DF
  | [.str t], h => if t.length ≤ big then .ok (.tup (chars t)) h else .bad
  | ds, h => tupleF ds h
section
variable {X : Cx} {W : XW}
theorem c_tuple2 (hc : X.calm = true) : CallR X (.type "tuple") (rCD (gx X) W tupleF2) := by
  intro pins s σ H vs us Q I rv ⟨μ, h, ds, S, r, P⟩
  unfold tupleF2 at P
  split at P
  · rename_i h t
    obtain ⟨v, rfl, r1⟩ := r.one
    rw [r1.strv] at rv
    obtain ⟨u, rfl, tk, rfl⟩ := vals1 rv
    split at P
    · rename_i hl
      have hz : (sOf t).cps.size ≤ sizeLine := by rw [big_eq]; simpa [sOf] using hl
      refine call_tuple_str (I.ok.hd hc) (sOf t) tk (fun h' tk' acc hk hi => ?_) hz
      have hsz : acc.toList.length = t.length := by rw [Array.length_toList, hi.1]; simp [sOf]
      have hv : Vals (t.map fun c => V.str ⟨#[c]⟩) acc.toList := by
        refine vals_of_at (by rw [List.length_map]; exact hsz.symm) fun j x u h1 h2 => ?_
        obtain ⟨c, tk2, hc', hu⟩ := hi.2 j u (by rw [← h2, Array.getElem?_toList])
        have hc'' : t[j]? = some c := by simpa [sOf] using hc'
        rw [List.getElem?_map, hc''] at h1
        cases h1
        exact ⟨tk2, hu⟩
      have I1 : Inv X pins σ H { s with heap := h', toks := tk' } := I.kept (t' := tk') hk
      have I2 : Inv X pins σ (upd H h'.objs.size (.tup (t.map fun c => V.str ⟨#[c]⟩))) { s with heap := h'.push { cls := .type "tuple", data := .seq acc }, toks := tk' } :=
        I1.laid (t' := tk') (fun b o e => Heap.get?_push_of_some _ e) (Nat.le_refl _) (show ObjOk X.prog X.w _ _ _ (.tup _) from ⟨by rw [List.length_map, big_eq]; exact hl, acc.toList, hv, by simpa using IsTup.new _ acc⟩)
      exact ⟨.ref h'.objs.size, _, I2, rfl, P.tup S (charsRep t) _ (I1.hok.fresh (Nat.le_refl _))⟩
    · exact P.elim
  · exact c_tuple pins s σ H vs us Q I rv ⟨μ, _, _, S, r, P⟩
end
end DV
namespace DV
open PySem PySem.Spec PyProof.Rows L2
def tYesD : DEn Bool := fun _ h => .ok true h
section
variable {X : Cx} {W : XWS} {elt tg iter c : Expr} {ifs : List Expr} {scope : Scope} {own : List (Str × Nat)} {pos : Pos} {f : Nat} {mi : DEn IS} {is : List Nat} {g : AG} {tt : DEn Bool} {te : DE}
theorem ts_nil : PTs X [] (TDB (gx X) W tYesD) := ⟨fun pins s σ H Q I h => pts_nil.run pins s σ H Q I (by
  obtain ⟨μ, env, h, S, e, P⟩ := h
  exact P μ H true S .refl rfl)⟩
theorem ts_one (h : PT X c (TDB (gx X) W tt)) : PTs X [c] (TDB (gx X) W tt) := pts_one h
theorem d_lc (hc : X.calm = true) (hN : X.N.Nodup) (hi : PI X tg iter (TDI (gx X) W mi)) (ok : BlkOk X.N X.env.scope scope own) (his : ∀ i ∈ is, i ∈ own.map (·.2))
    (hg : ∀ (s : Shared) (H : Hp) (C : Addr) (cl : List (Str × Addr)) (fp : List Addr), PG (X.blk s H scope (compEnvC scope cl C X.env) fp) tg (TGD (gx X) is g)) (ht : ∀ (s : Shared) (H : Hp) (C : Addr) (cl : List (Str × Addr)) (fp : List Addr), PTs (X.blk s H scope (compEnvC scope cl C X.env) fp) ifs (TDB (gx X) W0 tt))
    (he : ∀ (s : Shared) (H : Hp) (C : Addr) (cl : List (Str × Addr)) (fp : List Addr), PE (X.blk s H scope (compEnvC scope cl C X.env) fp) elt (TD (gx X) W0 te)) (hs : ∀ x, foldedSetIterable iter X.env x = pure x) :
    PE X (.ListComp elt [⟨tg, iter, ifs, 0⟩] scope pos) (TD (gx X) W (dLc f mi g tt te (own.map (·.2)))) :=
  (pe_lc hc hN hi ok hg ht he hs).weak fun σ H Q q => lc_d his q
theorem s_setLc {i : Nat} {y : Str} {py spos : Pos} (hc : X.calm = true) (hN : X.N.Nodup) (hy : X.N[i]? = some y) (hyl : X.env.scope.names.lookup y = some .local) (hsw : swapsWith (.ListComp elt [⟨tg, iter, ifs, 0⟩] scope pos) (some (.Name y py)) spos.line X.env = pure true)
    (hi : PI X tg iter (TDI (gx X) W mi)) (ok : BlkOk X.N X.env.scope scope own) (his : ∀ i ∈ is, i ∈ own.map (·.2))
    (hg : ∀ (s : Shared) (H : Hp) (C : Addr) (cl : List (Str × Addr)) (fp : List Addr), PG (X.blk s H scope (compEnvC scope cl C X.env) fp) tg (TGD (gx X) is g)) (ht : ∀ (s : Shared) (H : Hp) (C : Addr) (cl : List (Str × Addr)) (fp : List Addr), PTs (X.blk s H scope (compEnvC scope cl C X.env) fp) ifs (TDB (gx X) W0 tt))
    (he : ∀ (s : Shared) (H : Hp) (C : Addr) (cl : List (Str × Addr)) (fp : List Addr), PE (X.blk s H scope (compEnvC scope cl C X.env) fp) elt (TD (gx X) W0 te)) (hs : ∀ x, foldedSetIterable iter X.env x = pure x) :
    PS X (.Assign [.Name y py] (.ListComp elt [⟨tg, iter, ifs, 0⟩] scope pos) spos) (TDS (gx X) W (sAsg (dLc f mi g tt te (own.map (·.2))) (aName i))) := by
  refine (ps_setLc hc hN hy hyl hsw hi ok hg ht he hs).weak fun E σ H q => ?_
  have q2 := TDS.split (rel := Rep (gx X)) (k := fun d env h1 => match aName i d env with | some env1 => .nx env1 h1 | none => .bad) q
  refine lc_d (Q := fun x H1 => gName i x σ H1 E.nx) his (TG'.imp q2 ?_)
  rintro v H1 ⟨μ1, d, env, h1, S1, e1, r1, P1⟩
  exact P1 μ1 H1 _ S1 .refl (e1.set r1 i)
end
end DV
namespace DV
open PySem PySem.Spec PyProof.Rows L2
/-- enumerate(v), one argument -/
theorem en_new {v : Value} {o : Obj} {H : Heap → Prop} (B : Begins v o H) :
    Meets (Builtin.«enumerate.__new__» ⟨[.type "enumerate", v], []⟩) (fun _ R s => H s.heap ∧ R (.ok (.ret (.ref (s.heap.push o).objs.size))) { s with heap := (s.heap.push o).push { cls := .type "enumerate", data := .fields #[.none, .bool false, .ref s.heap.objs.size, rawInt 0, .none, .none] } }) :=
  .of_wp fun prog w A R s h => by
    obtain ⟨hp, g, d, tk, os⟩ := s
    obtain ⟨h1, h⟩ := h
    have hsub := sub_enumerate
    have q1 : ∀ {A' : Around} {E : Value → Shared → Prop} {Q : Value → Shared → Prop}, Q (.ref hp.objs.size) ⟨hp.push o, g, d, tk, os⟩ → wpAny (model prog w) A' (pyIter v) Q E ⟨hp, g, d, tk, os⟩ := fun q => B.iter prog w _ _ ⟨hp, g, d, tk, os⟩ _ h1 q
    wp_walk using q1
    refine wpAny_stack_any fun st => wpAny_pure ?_
    split
    · rename_i c _ _ _ _ _
      cases (c == Value.type "enumerate") <;> (wp_walk using q1; exact ⟨_, rfl, h⟩)
    · wp_walk using q1
      exact ⟨_, rfl, h⟩
theorem en_call {prog : Program} {w : World} {A : Around} {E : Value → Shared → Prop} {s : Shared} {v : Value} {o : Obj} {H : Heap → Prop} {Q : Value → Shared → Prop} (B : Begins v o H) (h1 : H s.heap)
    (h : ∀ h', IsEnum h' (s.heap.objs.size + 1) s.heap.objs.size 0 .none → h'.get? s.heap.objs.size = some o → h'.objs.size = s.heap.objs.size + 2 → (∀ b o, s.heap.get? b = some o → h'.get? b = some o) → Q (.ref (s.heap.objs.size + 1)) { s with heap := h' }) :
    wpAny (model prog w) A (call (.type "enumerate") [v]) Q E s := by
  refine callType_new F.called_enumerate (by decide) (F.typeCall_enumerate_1 _) (F.newCall_enumerate_1 _) (fun obj => F.args_object_init_2 obj _) F.entry_enumerate_new (en_new B) ⟨h1, ?_⟩
  have hz : (s.heap.push o).objs.size = s.heap.objs.size + 1 := Heap.size_push ..
  show _ ∧ _
  rw [hz]
  have he : IsEnum ((s.heap.push o).push { cls := .type "enumerate", data := .fields #[.none, .bool false, .ref s.heap.objs.size, rawInt 0, .none, .none] }) (s.heap.objs.size + 1) s.heap.objs.size 0 .none := by
    have z := Heap.get?_push_size (s.heap.push o) (o := { cls := .type "enumerate", data := .fields #[.none, .bool false, .ref s.heap.objs.size, rawInt 0, .none, .none] }) rfl
    rw [hz] at z
    exact z
  exact ⟨⟨_, he, rfl⟩, h _ he (Heap.get?_push_of_some _ (Heap.get?_push_size _ B.free)) (by rw [Heap.size_push, hz]) fun b o x => Heap.get?_push_of_some _ (Heap.get?_push_of_some _ x)⟩
/-- the tuple at a, each item in a new pair -/
def ItE (K : PySem.W.Frag) (a : Addr) : It :=
  ⟨fun i H => ∃ (xs : List V) (x : V), SqT K H a xs ∧ xs[i]? = some x, fun i H v H' => ∃ T x, v = .ref T ∧ H T = none ∧ H' = upd H T (.tup [.int (i : Nat), x]) ∧ ∀ xs, SqT K H a xs → xs[i]? = some x, fun i H => ∃ xs : List V, SqT K H a xs ∧ xs.length ≤ i⟩
theorem tup_inj {X : Cx} {pins : List (Addr × Obj)} {σ : L2.St} {H : Hp} {s : Shared} {a : Addr} {xs ys : List V} (I : Inv X pins σ H s) (h1 : SqT X.K H a xs) (h2 : SqT X.K H a ys) : xs = ys := I.tuple_inj h1 h2
theorem turn_en {P : Program} {w : World} {K : PySem.W.Frag} {elts : List Expr} {kk : Nat} {tpos : Pos} (a e it : Addr) (hat : a ≠ it) (hae : a ≠ e) :
    Turn P w K (.Tuple elts kk tpos) (ItE K a) [e, it] e (fun i h => (∃ old, IsEnum h e it ((i : Nat) : Int) old) ∧ h.IsTupleIter it a i ∧ e ≠ it) where
  mem := by simp
  obj := fun i h st b hb => by
    obtain ⟨⟨old, he⟩, ⟨o, ho, hc, hd⟩, _⟩ := st
    have e' : b = e ∨ b = it := by simpa using hb
    rcases e' with z | z
    · rw [z]; exact ⟨_, he, fun v q => nomatch q⟩
    · rw [z]; exact ⟨o, ho, fun v q => by rw [hd] at q; cases q⟩
  keep := fun i h h' st k => let ⟨⟨old, he⟩, hi, hne⟩ := st; ⟨⟨old, k e (by simp) _ he⟩, hi.at fun o q => k it (by simp) o q, hne⟩
  item := by
    intro X hP hw hK hc i pins s σ H E I hf st hg
    subst hP hw hK
    obtain ⟨⟨old, he⟩, hit, hne⟩ := st
    obtain ⟨xs, x, hq, hx⟩ := hg
    obtain ⟨its, rv, p, hz⟩ := I.tuple hq
    obtain ⟨u, hu, ru⟩ := rv.get hx
    have hlt : i < its.length := (List.getElem?_eq_some_iff.mp hu).1
    have hel : e < s.heap.objs.size := Heap.lt_size he
    have hil : it < s.heap.objs.size := by obtain ⟨_, q, _⟩ := hit; exact Heap.lt_size q
    refine wpAny_pyNext_enum_itemC (Draws.tuple (A := X.A.in1) (I.ok.hd hc) it a hat its.toArray) he ⟨hit, p⟩ (by simpa using hlt) hne (by simp [hne, Ne.symm hae]) fun y h' tk hy ho hst' hT hsz hk => ?_
    have ey : y = u := by
      have z : its.toArray[i]? = some y := hy
      rw [List.getElem?_toArray, hu] at z
      exact (Option.some.inj z).symm
    subst ey
    refine ⟨_, rfl, wpAny_letOwnedTupleGo_enum (s := { s with heap := h', toks := tk + 1 }) ho fun h'' he' sb => ?_⟩
    have hT2 : h''.get? s.heap.objs.size = some { cls := .type "tuple", data := .seq #[.int i tk, y] } := (sb.2 _ (Nat.ne_of_gt hel)).trans hT
    have new : ObjOk X.prog X.w (upd H s.heap.objs.size (.tup [.int (i : Nat), x])) h'' s.heap.objs.size (.tup [.int (i : Nat), x]) := ⟨by show 2 ≤ sizeLine; decide, [.int i tk, y], .cons ⟨_, rfl⟩ (.cons ru .nil), ⟨_, hT2, rfl, _, rfl⟩⟩
    have I1 : Inv X pins σ (upd H s.heap.objs.size (.tup [.int (i : Nat), x])) { s with heap := h'', toks := tk + 1 } :=
      I.turnedNew (ch := [e, it]) (fun b ob hb q => (sb.2 b (fun z => hb (by simp [z]))).trans (hk b ob (fun z => hb (by simp [z])) (fun z => hb (by simp [z])) q)) hf (Nat.le_refl _) new
    refine ⟨.ref s.heap.objs.size, _, I1, rfl, ⟨_, x, rfl, I.hok.fresh (Nat.le_refl _), rfl, fun ys hy => by rw [tup_inj I hy hq]; exact hx⟩, ⟨⟨y, ?_⟩, hst'.1.at fun o q => (sb.2 it (Ne.symm hne)).trans q, hne⟩, fun b hb => ?_⟩
    · have e1 : ((i + 1 : Nat) : Int) = (i : Int) + 1 := by omega
      rw [e1]
      exact he'
    · have hb' : b < s.heap.objs.size := by
        have e' : b = e ∨ b = it := by simpa using hb
        rcases e' with z | z
        · rw [z]; exact hel
        · rw [z]; exact hil
      rw [upd_ne (Nat.ne_of_lt hb')]
      exact (hf b hb).1
  done := by
    intro X hP hw hK hc i pins s σ H E I hf st hg
    subst hP hw hK
    obtain ⟨⟨old, he⟩, hit, hne⟩ := st
    obtain ⟨xs, hq, hx⟩ := hg
    obtain ⟨its, rv, p, hz⟩ := I.tuple hq
    obtain ⟨f0, f1, f2, f3, f4, f5⟩ := hf it (by simp)
    have hl := rv.length
    have hT : s.TypeIs (.ref e) "enumerate" := ⟨_, he, rfl⟩
    unfold pyNext
    refine wpAny_bind (wpAny_attempt (wpAny_callSpecial?_slot (name := Str.ofString "__next__") hT F.slot_enumerate_next (wpAny_call_entry F.slot_enumerate_next hT F.entry_enumerate_next ?_ (F.args_enumerate_next_1 _))))
    show wpAny _ _ (field (.ref e) 2 >>= _) _ _ _
    refine wpAny_bind (wpAny_field he rfl (x := .ref it) rfl ?_)
    refine wpAny_bind (wpAny_nextOf_tuple_end (A := X.A.in1) (I.ok.hd hc) hit p (by rw [List.getElem?_toArray]; exact List.getElem?_eq_none (by omega)) fun h' x hx1 hx2 => ?_)
    obtain ⟨o, ho, hcl⟩ := hx2
    refine wpAny_bind (wpAny_isInstance (T := "StopIteration") (b := true) ⟨o, ho, hcl⟩ isSubtype_stop ?_)
    exact wpAny_pure ⟨rfl, I.turned (t' := s.toks) (fun b o hb q => hx1 b o hb q) f0 f1 f3 f4 f5⟩
  self := fun A i s Q E st h => let ⟨⟨_, he⟩, _⟩ := st; wpAny_pyIter_enum he h
def enumD (ds : List D) : List D := (List.range ds.length).map fun i => .tup [.int (i : Nat), (ds.getD i .non)]
def enK : D → DH → R IS
  | .tup ds, h => .ok (.items (enumD ds)) h
  | _, _ => .bad
def iEn (m : DE) : DEn IS := m.bind fun d _ h => enK d h
theorem jE {G : GX} {μ : List Addr} {H : Hp} {a : Addr} {vs : List V} {ds : List D} (q : SqT G.K H a vs) (l : RepL G H μ ds vs) : JItems G μ H (enumD ds) (ItE G.K a) where
  go := fun i μ1 H1 x hi => by
    have hi' : i < ds.length := by simpa [enumD] using hi
    obtain ⟨v, hv, _⟩ := l.get (List.getElem?_eq_getElem hi')
    exact ⟨vs, v, DV.SqT.ext x q, hv⟩
  yld := fun i μ1 h1 H1 d y H' x s hd hy => by
    obtain ⟨T, u, rfl, hT, rfl, hy⟩ := hy
    have hi' : i < ds.length := by
      have := (List.getElem?_eq_some_iff.mp hd).1
      simpa [enumD] using this
    obtain ⟨v, hv, rv⟩ := l.get (List.getElem?_eq_getElem hi')
    have e1 := hy vs (DV.SqT.ext x q)
    rw [hv] at e1
    cases e1
    have ed : d = .tup [.int (i : Nat), ds[i]] := by
      unfold enumD at hd
      rw [List.getElem?_map, List.getElem?_range hi'] at hd
      simp [List.getD, hi'] at hd
      exact hd.symm
    subst ed
    have x2 : Ext μ1 H1 μ1 (upd H1 T (.tup [.int (i : Nat), u])) := Ext.tupled s hT
    refine ⟨s.tupled hT, x2, ?_⟩
    unfold Rep
    refine ⟨T, _, rfl, .inl (.inl upd_same), ?_⟩
    unfold RepL
    refine ⟨_, _, rfl, by unfold Rep; rfl, ?_⟩
    unfold RepL
    exact ⟨_, _, rfl, (rv.ext x).ext x2, by unfold RepL; rfl⟩
  stop := fun i μ1 H1 x hi => ⟨vs, DV.SqT.ext x q, by rw [l.length]; simpa [enumD] using hi⟩
section
variable {X : Cx} {W : XWS} {e : Expr} {m : DE} {p pos tpos : Pos} {elts : List Expr} {kk : Nat}
theorem i_en (hg : Gl X "enumerate") (hm : X.mg "enumerate" = none) (he : PE X e (TD (gx X) W m)) (hs : starEach [e] X.env = [(false, eval e X.env)]) : PI X (.Tuple elts kk tpos) (.Call (.Name "enumerate" p) [e] [] pos) (TDI (gx X) W (iEn m)) := by
  refine ⟨fun pins s σ H R I h => ?_⟩
  have q := TG'.split (rel := Rep (gx X)) (k := fun d _ h => enK d h) h
  refine Call_ (ld_blt I hg hm boot_enumerate (PyProof.Rows.callWith_type1 (thn ((pa_cons he pa_nil (by rw [hs]; rfl)).run pos pins s σ H (fun vs H1 => ∃ v, vs = [v] ∧ ∃ μ1 d env h1, SRep (gx X) μ1 h1 H1 ∧ ERep (gx X) H1 μ1 env σ ∧ Rep (gx X) H1 μ1 d v ∧ Post (relI (gx X)) (gx X) (W σ) μ1 H1 (enK d h1) R) I (TG'.imp q fun v H1 z => ⟨v, rfl, z⟩)) fun us s1 ⟨vs, H1, I1, r1, q1⟩ => ?_) hs rfl))
  obtain ⟨x, rfl, μ1, d, env, h1, S1, e1, rd, P1⟩ := q1
  cases d with
  | tup ds =>
    obtain ⟨a, ws, rfl, hq, l⟩ := rd.tupl
    cases r1 with
    | cons r rr =>
      cases rr
      cases r
      obtain ⟨its, rv, p', hz⟩ := I1.tuple hq
      have ha : a < s1.heap.objs.size := by obtain ⟨_, z, _⟩ := p'; exact Heap.lt_size z
      refine en_call (begins_tuple a its.toArray) p' fun h' he' hit hsz hk => wpAny_pyIter_enum he' ?_
      have I2 : Inv X pins σ H1 { s1 with heap := h' } := I1.kept (t' := s1.toks) hk
      refine ⟨s1.heap.objs.size + 1, [s1.heap.objs.size + 1, s1.heap.objs.size], _, _, H1, rfl, I2, turn_en a (s1.heap.objs.size + 1) s1.heap.objs.size (Nat.ne_of_lt ha) (Nat.ne_of_lt (Nat.lt_succ_of_lt ha)), ⟨⟨.none, he'⟩, ⟨_, hit, rfl, rfl⟩, Nat.succ_ne_self _⟩, fun b hb => ?_, ?_⟩
      · have e' : b = s1.heap.objs.size + 1 ∨ b = s1.heap.objs.size := by simpa using hb
        have hle : s1.heap.objs.size ≤ b := by
          rcases e' with z | z
          · rw [z]; exact Nat.le_add_right _ _
          · rw [z]; exact Nat.le_refl _
        exact I1.fpOk hle (I1.hok.fresh hle)
      · exact P1 μ1 H1 _ S1 .refl (jE hq l)
  | _ => exact P1.elim
end
end DV
namespace DV
open PySem PySem.Spec PyProof.Rows L2
/-- n positional values and the keywords ks fill the parameters by g -/
structure KBd (K : PySem.W.Frag) (fd : FuncData) (ps : List Str) (n : Nat) (ks : List Str) (ds : List Value) (g : {α : Type} → List α → List α → List α → List α) : Prop where
  to : ∀ (s : Shared) (us ws : List Value), K.In s.heap → us.length = n → ws.length = ks.length → BindsTo s fd ⟨us, ks.zip ws⟩ (ps.zip (g us ds ws))
  rel : ∀ {vs dvs zs : List V} {us ws : List Value}, Vals vs us → Vals dvs ds → Vals zs ws → Vals (g vs dvs zs) (g us ds ws)
  rep : ∀ {G : GX} {H : Hp} {μ : List Addr} {as dd zs : List D} {vs dvs ws : List V}, RepL G H μ as vs → RepL G H μ dd dvs → RepL G H μ zs ws → RepL G H μ (g as dd zs) (g vs dvs ws)
def dCallK (ml mk : DEn (List D)) (dd : List D) (n k : Nat) (m : Nat) (g : {α : Type} → List α → List α → List α → List α) (φ : DF) : DE := ml.bind fun as env h => (mk env h).bind fun zs h2 => if as.length = n ∧ zs.length = k ∧ (g as dd zs).length = m then φ (g as dd zs) h2 else .bad
section
variable {X : Cx} {k n m : Nat} {f : Addr} {fd : FuncData} {ps ks : List Str} {dvs : List V} {ds : List Value} {x : Str} {p pos : Pos} {e : Expr} {es : List Expr} {kws : List Keyword} {T : Tabs} {W : XWS} {w : WX} {φ : DF} {ml mk : DEn (List D)} {dd : List D} {g : {α : Type} → List α → List α → List α → List α}
theorem runK {pins : List (Addr × Obj)} {σ : L2.St} {H2 : Hp} {s : Shared} {Q : VK} {us ws : List Value} {vs zs : List V} (F : FnG X.prog X.w X.K X.mg X.base (CX X.prog X.w) k f fd ps (spF T (gx X) m φ)) (hr : Room k X.A) (hgd : X.A.guards = some []) (hb : KBd X.K fd ps n ks ds g) (hd : Vals dvs ds) (hdd : IsD (gx X) dd dvs) (tk : Takes X w) (lw : Links T (gx X) W w)
    (I : Inv X pins σ H2 s) (r : Vals vs us) (rz : Vals zs ws) {μ : List Addr} {h : DH} {as bs : List D} (S : SRep (gx X) μ h H2) (ra : RepL (gx X) H2 μ as vs) (rb : RepL (gx X) H2 μ bs zs)
    (P : Post (Rep (gx X)) (gx X) (W σ) μ H2 (if as.length = n ∧ bs.length = ks.length ∧ (g as dd bs).length = m then φ (g as dd bs) h else .bad) Q) : wpAny (model X.prog X.w) X.A (call (.ref f) us (ks.zip ws)) (EP X pins σ Q) X.xe s := by
  split at P
  · rename_i hl
    have rg := hb.rep ra (hdd μ H2) rb
    refine wpAny_call (codeAny_mono (F.run X.A X.stack s H2 ⟨us, ks.zip ws⟩ (g us ds ws) (g vs dvs zs) Q (fun cls d H => w cls d σ H) hgd hr I.env0 (hb.to s us ws I.kIn (by rw [← r.length, ra.length]; exact hl.1) (by rw [← rz.length, rb.length]; exact hl.2.1)) (hb.rel r hd rz) (spF_at lw S rg (by rw [rg.length]; exact hl.2.2) P)) ?_)
    intro r s' hq
    cases r with
    | error e => exact tk e s' (XE.of_call I (fun cls d H' z => z) hq)
    | ok fl => cases fl with
      | ret u => exact I.after hq
      | next => exact hq.elim
      | brk => exact hq.elim
      | cont => exact hq.elim
  · exact P.elim
theorem pk_d {X : Cx} {W : XWS} {mk : DEn (List D)} {kws : List Keyword} {t : TA} (h : PK X kws t) (w : ∀ σ H Q, TDL (gx X) W mk σ H Q → t σ H Q) : PK X kws (TDL (gx X) W mk) := ⟨fun pos pins s σ H Q I q => h.run pos pins s σ H Q I (w σ H Q q)⟩
theorem k_nil : PK X [] (TDL (gx X) W dNil) := pk_d pk_nil fun σ H Q ⟨μ, env, h, S, e, P⟩ => P μ H [] S .refl (by unfold RepL; rfl)
theorem k_cons {nm : Option Str} {kpos : Pos} {ma : DE} (ha : PE X e (TD (gx X) W ma)) (hr : PK X kws (TDL (gx X) W mk)) : PK X (⟨nm, e, kpos⟩ :: kws) (TDL (gx X) W (dCons ma mk)) := by
  refine pk_d (pk_cons ha hr) fun σ H Q q => ?_
  refine TG'.imp (TG'.split (rel := Rep (gx X)) q) ?_
  rintro x H1 ⟨μ1, d, env, h1, s1, e1, r1, p1⟩
  refine ⟨μ1, env, h1, s1, e1, (Post.bind (rel := RepL (gx X)) p1).imp ?_⟩
  rintro xs H2 ⟨μ2, ds, h2, s2, x2, r2, p2⟩
  exact p2 μ2 H2 _ s2 .refl (by unfold RepL; exact ⟨_, _, rfl, r1.ext x2, r2⟩)
/-- f(k = v, ..) -/
theorem d_callK0 (F : FnG X.prog X.w X.K X.mg X.base (CX X.prog X.w) k f fd ps (spF T (gx X) m φ)) (hr : Room k X.A) (hgd : X.A.guards = some []) (hg : Gl X x) (hm : X.mg x = some (.ref f)) (hk : PySem.W.keepIn X.K (.ref f) = true) (hb : KBd X.K fd ps 0 ks ds g) (hd : Vals dvs ds) (hdd : IsD (gx X) dd dvs) (tk : Takes X w) (lw : Links T (gx X) W w)
    (hkw : PK X kws (TDL (gx X) W mk)) (hall : (backToKw pos (keywordEach kws X.env)).all (·.1.isSome) = true) (hks : (backToKw pos (keywordEach kws X.env)).filterMap (·.1) = ks) (hdb : (x == ("__debug__" : Str)) = false)
    (hpl : ((backTo pos (starEach [] X.env)).any (·.1) || (backToKw pos (keywordEach kws X.env)).any (·.1.isNone)) = false) :
    PE X (.Call (.Name x p) [] kws pos) (TD (gx X) W (dCallK dNil mk dd 0 ks.length m g φ)) := by
  refine ⟨fun pins s σ H Q I q => ?_⟩
  obtain ⟨μ, env, h, S, er, P⟩ := q
  refine wpAny_Call_Name_kw (ld_glob I hg hm ?_ hdb)
  refine PySem.W.callWith_KW0 (h₀ := X.base) I.ok.mod.kin hk hall ?_ hpl
  refine thn (hkw.run pos pins s σ H _ I ⟨μ, env, h, S, er, Post.bind (rel := RepL (gx X)) P⟩) ?_
  rintro ws s2 ⟨zs, H2, I2, rz, μ2, bs, h2, S2, x2, rb, P2⟩
  refine ⟨I2.kIn, ?_⟩
  rw [hks]
  exact runK (us := []) (vs := []) (as := []) F hr hgd hb hd hdd tk lw I2 .nil rz S2 (by unfold RepL; rfl) rb P2
theorem d_callKN (F : FnG X.prog X.w X.K X.mg X.base (CX X.prog X.w) k f fd ps (spF T (gx X) m φ)) (hr : Room k X.A) (hgd : X.A.guards = some []) (hg : Gl X x) (hm : X.mg x = some (.ref f)) (hk : PySem.W.keepIn X.K (.ref f) = true) (hb : KBd X.K fd ps n ks ds g) (hd : Vals dvs ds) (hdd : IsD (gx X) dd dvs) (tk : Takes X w) (lw : Links T (gx X) W w)
    (ha : PA X (e :: es) (TDL (gx X) W ml)) (hkw : PK X kws (TDL (gx X) W mk)) (hall : (backToKw pos (keywordEach kws X.env)).all (·.1.isSome) = true) (hks : (backToKw pos (keywordEach kws X.env)).filterMap (·.1) = ks) (hdb : (x == ("__debug__" : Str)) = false)
    (he : starEach (e :: es) X.env = (false, eval e X.env) :: starEach es X.env) (hpl : ((backTo pos (starEach (e :: es) X.env)).any (·.1) || (backToKw pos (keywordEach kws X.env)).any (·.1.isNone)) = false) :
    PE X (.Call (.Name x p) (e :: es) kws pos) (TD (gx X) W (dCallK ml mk dd n ks.length m g φ)) := by
  refine ⟨fun pins s σ H Q I q => ?_⟩
  refine wpAny_Call_Name_kw (ld_glob I hg hm ?_ hdb)
  refine PySem.W.callWith_KW (h₀ := X.base) I.ok.mod.kin hk hall (thn (ha.run pos pins s σ H _ I (TG'.split (rel := RepL (gx X)) q)) ?_) hpl he
  rintro us s1 ⟨vs, H1, I1, r, μ1, as, env, h1, S1, e1, ra, P1⟩
  refine thn (hkw.run pos pins s1 σ H1 _ I1 ⟨μ1, env, h1, S1, e1, Post.bind (rel := RepL (gx X)) P1⟩) ?_
  rintro ws s2 ⟨zs, H2, I2, rz, μ2, bs, h2, S2, x2, rb, P2⟩
  refine ⟨I2.kIn, ?_⟩
  rw [hks]
  exact runK F hr hgd hb hd hdd tk lw I2 r rz S2 (ra.ext x2) rb P2
end
end DV
namespace DV
open PySem PySem.Spec PyProof.Rows L2
section
variable {prog : Program} {w : World} {A : Around} {E : Value → Shared → Prop} {s : Shared}
theorem fm_congr {α β : Type} {f g : α → Option β} : ∀ {l : List α}, (∀ a ∈ l, f a = g a) → l.filterMap f = l.filterMap g
  | [], _ => rfl
  | a :: l, h => by
    rw [List.filterMap_cons, List.filterMap_cons, h a List.mem_cons_self, fm_congr fun b hb => h b (List.mem_cons_of_mem _ hb)]
theorem pick_rev (xs : Array Value) : ((List.range xs.size).filterMap fun (m : Nat) => xs[(((xs.size : Int) - 1) + (m : Int) * (-1)).toNat]?).toArray = xs.toList.reverse.toArray := by
  congr 1
  have e : ∀ m ∈ List.range xs.size, xs[(((xs.size : Int) - 1) + (m : Int) * (-1)).toNat]? = some (xs.toList.reverse.getD m .none) := by
    intro m hm
    have hm : m < xs.size := List.mem_range.mp hm
    have h1 : (((xs.size : Int) - 1) + (m : Int) * (-1)).toNat = xs.size - 1 - m := by omega
    have h2 : xs.size - 1 - m < xs.size := by omega
    rw [h1, Array.getElem?_eq_getElem h2, List.getD_eq_getElem?_getD, List.getElem?_reverse (by simpa using hm)]
    have h3 : xs.toList.length - 1 - m = xs.size - 1 - m := by simp
    rw [h3, Array.getElem?_toList, Array.getElem?_eq_getElem h2]
    rfl
  have e2 : (List.range xs.size).filterMap (fun (m : Nat) => xs[(((xs.size : Int) - 1) + (m : Int) * (-1)).toNat]?) = (List.range xs.size).filterMap (fun m => some (xs.toList.reverse.getD m .none)) := fm_congr e
  rw [e2, List.filterMap_eq_map']
  apply List.ext_getElem
  · simp
  · intro i h1 h2
    have h1' : i < xs.size := by simpa using h1
    simp [List.getD_eq_getElem?_getD, h1']
theorem getItem_tuple_rev {t sl : Addr} {items : Array Value} {vs : Value} {Q : Value → Shared → Prop} (ht : IsTup s.heap t items) (hs : s.heap.IsSliceOf sl .none .none vs) (ps : IsPart vs (some (-1)))
    (h : Q (.ref s.heap.objs.size) { s with heap := s.heap.push { cls := .type "tuple", data := .seq items.toList.reverse.toArray } }) (hsz : items.size ≤ sizeLine) : wpAny (model prog w) A (getItem (.ref t) (.ref sl)) Q E s := by
  have hso : sizeOk (.seq items.toList.reverse.toArray) := by
    show items.toList.reverse.toArray.size ≤ sizeLine
    simpa using hsz
  obtain ⟨os, hos, hcs, hds⟩ := id hs
  have hTs : s.TypeIs (.ref sl) "slice" := ⟨os, hos, hcs⟩
  unfold getItem
  try with_reducible refine wpAny_holding ?_
  first | refine wpAny_bind (wpAny_pure ?_) | skip
  refine wpAny_bind (wpAny_sequenceKey ht.typeIs (by decide) ?_)
  refine wpAny_bind (wpAny_callSpecial?_slot (name := Str.ofString "__getitem__") ht.typeIs PyProof.Rows.slot_tuple_getitem (wpAny_call_entry PyProof.Rows.slot_tuple_getitem ht.typeIs entry_tuple_getitem ?_ (args_tuple_getitem _ _)))
  show wpAny _ _ (Builtin.Tuple.tupleItemsOf (.ref t) >>= _) _ _ s
  refine wpAny_bind (tupleItemsOf_ ht ?_)
  refine wpAny_bind (wpAny_typeOf hTs ?_)
  rw [if_pos (by decide)]
  have ap : ∀ {Q' : Int × Int × Nat → Shared → Prop} {E' : Value → Shared → Prop} {A' : Around}, Q' ((items.size : Int) - 1, -1, items.size) s → wpAny (model prog w) A' (Builtin.Slice.sliceApplied (.ref sl) (pure (items.size : Int))) Q' E' s := fun {Q' E' A'} q => by
    unfold Builtin.Slice.sliceApplied Builtin.Slice.sliceFields
    refine wpAny_bind (wpAny_bind (wpAny_field hos hds (x := .none) rfl (wpAny_bind (wpAny_field hos hds (x := .none) rfl (wpAny_bind (wpAny_field hos hds (x := vs) rfl (wpAny_pure ?_)))))))
    refine wpAny_bind (HT.slicePart_ ps ?_)
    show wpAny _ _ (if ((-1 : Int) == 0) = true then _ else _) _ _ s
    rw [if_neg (by decide)]
    refine wpAny_bind (HT.slicePart_ .none (wpAny_bind (HT.slicePart_ .none (wpAny_bind (wpAny_pure ?_)))))
    show wpAny _ _ (match Builtin.Slice.sliceAdjust none none (-1) (items.size : Int) with | (lo, hi) => pure (lo, (-1 : Int), Builtin.Slice.slicePlaces lo hi (-1))) _ _ s
    have e1 : Builtin.Slice.sliceAdjust none none (-1) (items.size : Int) = ((items.size : Int) - 1, -1) := by
      unfold Builtin.Slice.sliceAdjust
      simp
    have e2 : Builtin.Slice.slicePlaces ((items.size : Int) - 1) (-1) (-1) = items.size := by
      unfold Builtin.Slice.slicePlaces
      have h1 : ¬ ((-1 : Int) > 0) := by omega
      simp only [h1, if_false]
      have h2 : (items.size : Int) - 1 - -1 - 1 = (items.size : Int) - 1 := by omega
      have h3 : (- -1 : Int) = 1 := by decide
      split
      · first | (rw [h2, h3, Int.ediv_one]; omega) | (simp; omega) | omega
      · omega
    rw [e1]
    show wpAny _ _ (pure ((items.size : Int) - 1, (-1 : Int), Builtin.Slice.slicePlaces ((items.size : Int) - 1) (-1) (-1))) _ _ s
    rw [e2]
    exact wpAny_pure q
  refine wpAny_bind (ap ?_)
  have hno : ¬ ((((items.size : Int) - 1) == 0 && (-1 : Int) == 1 && items.size == items.size) = true) := by simp
  show wpAny _ _ (if (((items.size : Int) - 1) == 0 && (-1 : Int) == 1 && items.size == items.size) = true then _ else _) _ _ s
  rw [if_neg hno, pick_rev]
  first
    | exact wpAny_bind (m := Builtin.Tuple.tupleExact _) (wpAny_newObj_type (wpAny_pure ⟨_, rfl, wpAny_pure h⟩) hso)
    | exact wpAny_bind (m := Builtin.Tuple.tupleExact _) (wpAny_newObj_type (wpAny_bind (wpAny_pure (wpAny_pure ⟨_, rfl, wpAny_pure h⟩))) hso)
    | exact wpAny_bind (wpAny_bind (m := Builtin.Tuple.tupleExact _) (wpAny_newObj_type (wpAny_pure (wpAny_pure ⟨_, rfl, wpAny_pure h⟩)) hso))
    | exact wpAny_bind (wpAny_bind (m := Builtin.Tuple.tupleExact _) (wpAny_newObj_type (wpAny_pure ⟨_, rfl, wpAny_pure h⟩) hso))
end
def tRevA (K : PySem.W.Frag) (te : TE) : TE := fun σ H Q => te σ H fun x H1 => ∃ a xs, x = .ref a ∧ ((SqL K H1 a xs ∧ ∀ p, H1 p = none → Q (.ref p) (upd H1 p (.lst xs.reverse))) ∨ (SqT K H1 a xs ∧ ∀ p, H1 p = none → Q (.ref p) (upd H1 p (.tup xs.reverse))))
theorem pe_revA {X : Cx} {e : Expr} {te : TE} {k : Nat} {p1 p2 p3 pos : Pos} (he : PE X e te) : PE X (.Subscript e (.Slice none none (some (.UnaryOp .USub (.Constant (.int 1) k p1) p2)) p3) pos) (tRevA X.K te) := by
  refine ⟨fun pins s σ H Q I h => ?_⟩
  refine Subscript_ (thn (he.run pins s σ H _ I h) fun v s1 ⟨x, H1, I1, r1, q1⟩ => ?_)
  obtain ⟨a, xs, ex, hx⟩ := q1
  subst ex
  cases r1
  have hst : PO X (some (.UnaryOp .USub (.Constant (.int 1) k p1) p2)) (tPart (tUn (rU fun i => .int (-i)) (tC (.int 1)))) := po_some (pe_un un_neg pe_int)
  refine wpAny_Slice (thn (po_none.run pins s1 σ H1 (fun o H2 => o = none ∧ H2 = H1) I1 ⟨rfl, rfl⟩) fun vl s2 ⟨l, H2, I2, pl, el, e2⟩ => ?_)
  subst el e2
  refine thn (po_none.run pins s2 σ H2 (fun o H3 => o = none ∧ H3 = H2) I2 ⟨rfl, rfl⟩) fun vu s3 ⟨u, H3, I3, pu, eu, e3⟩ => ?_
  subst eu e3
  refine thn (hst.run pins s3 σ H3 (fun o H4 => o = some (-1) ∧ H4 = H3) I3 ⟨1, rfl, -1, rfl, rfl, rfl⟩) fun vs s4 ⟨o, H4, I4, ps, eo, e4⟩ => ?_
  subst eo e4
  have I5 : Inv X pins σ H4 { s4 with heap := s4.heap.push { cls := .type "slice", data := .fields #[vl, vu, vs] } } := I4.kept (t' := s4.toks) fun b ob q => Heap.get?_push_of_some _ q
  show wpAny (model X.prog X.w) X.A (subscriptTail e (.Slice none none (some (.UnaryOp .USub (.Constant (.int 1) k p1) p2)) p3) (.ref a) (.ref s4.heap.objs.size)) (EP X pins σ Q) X.xe { s4 with heap := s4.heap.push { cls := .type "slice", data := .fields #[vl, vu, vs] } }
  rcases hx with ⟨hx, q⟩ | ⟨hx, q⟩
  · obtain ⟨its, r, ht, hz⟩ := I5.list hx
    have hlen := r.length
    refine tail_any (ops := [.ref a, .ref s4.heap.objs.size]) ht.isList.typeIs (PySem.slot_list_getitem.lookup) ?_ (by with_unfolding_all rfl)
    refine wpAny_getItem_list_slice ht.isList (Heap.IsSliceOf.new _ vl vu vs) pl pu ps (by decide) ?_ (by rw [List.size_toArray]; omega)
    rw [PySem.W.krv_pick]
    refine ⟨.ref _, _, I5.laid (t' := s4.toks) (o := .lst xs.reverse) (fun b ob q => Heap.get?_push_of_some _ q) (Nat.le_refl _) ?_, rfl, q _ (I5.hok.fresh (Nat.le_refl _))⟩
    exact ⟨by rw [List.length_reverse]; exact hz, _, 0, r.reverse, Heap.get?_push_size _ rfl⟩
  · obtain ⟨its, r, ht, hz⟩ := I5.tuple hx
    have hlen := r.length
    refine tail_any (ops := [.ref a, .ref s4.heap.objs.size]) ht.typeIs (PyProof.Rows.slot_tuple_getitem.lookup) ?_ (by with_unfolding_all rfl)
    cases pl
    cases pu
    refine getItem_tuple_rev ht (Heap.IsSliceOf.new _ .none .none vs) ps ?_ (by rw [List.size_toArray]; omega)
    refine ⟨.ref _, _, I5.laid (t' := s4.toks) (o := .tup xs.reverse) (fun b ob q => Heap.get?_push_of_some _ q) (Nat.le_refl _) ?_, rfl, q _ (I5.hok.fresh (Nat.le_refl _))⟩
    refine ⟨by rw [List.length_reverse]; exact hz, its.reverse, r.reverse, ?_⟩
    have e : its.toArray.toList.reverse = its.reverse := by simp
    rw [e]
    exact IsTup.new _ its.reverse.toArray
theorem RepL.rev {G : GX} {H : Hp} {μ : List Addr} : ∀ {ds : List D} {vs : List V}, RepL G H μ ds vs → RepL G H μ ds.reverse vs.reverse
  | [], vs, r => by
    unfold RepL at r
    subst r
    show RepL G H μ [] []
    unfold RepL; rfl
  | d :: ds, vs, r => by
    unfold RepL at r
    obtain ⟨v, t, rfl, r1, r2⟩ := r
    rw [List.reverse_cons, List.reverse_cons]
    exact (RepL.rev r2).append (by unfold RepL; exact ⟨v, [], rfl, r1, by unfold RepL; rfl⟩)
def revD : D → DH → R D
  | .tup ds, h => .ok (.tup ds.reverse) h
  | .frz ds, h => alloc (.lst ds.reverse) h
  | .ref n, h => match h[n]? with
    | some (.lst ds) => alloc (.lst ds.reverse) h
    | _ => .bad
  | _, _ => .bad
def dRev (m : DE) : DE := m.bind fun d _ h => revD d h
section
variable {X : Cx} {W : XWS} {e : Expr} {m : DE} {k : Nat} {p1 p2 p3 pos : Pos}
theorem d_rev (he : PE X e (TD (gx X) W m)) : PE X (.Subscript e (.Slice none none (some (.UnaryOp .USub (.Constant (.int 1) k p1) p2)) p3) pos) (TD (gx X) W (dRev m)) := by
  refine (pe_revA he).weak fun σ H Q q => ?_
  refine TG'.imp (TG'.split (rel := Rep (gx X)) (k := fun d _ h => revD d h) q) ?_
  rintro x H1 ⟨μ1, d, env, h1, s1, e1, r1, p⟩
  unfold revD at p
  split at p
  · obtain ⟨a, vs, rfl, q1, l1⟩ := r1.tupl
    exact ⟨a, vs, rfl, .inr ⟨q1, p.tup s1 l1.rev⟩⟩
  · obtain ⟨a, vs, rfl, q1, l1⟩ := r1.frzl
    exact ⟨a, vs, rfl, .inl ⟨q1.sq, p.allocL s1 l1.rev⟩⟩
  · obtain ⟨a, ea, rfl⟩ := r1.ref
    split at p
    · rename_i ds hd
      obtain ⟨vs, q1, l1⟩ := s1.list hd ea
      exact ⟨a, vs, rfl, .inl ⟨.of q1, p.allocL s1 l1.rev⟩⟩
    · exact p.elim
  · exact p.elim
/-- a name of the module that stands for plain data -/
theorem d_glob {x : Str} {u : Value} {d : D} (hg : Gl X x) (hm : X.mg x = some u) (r : ∃ v, RelV v u ∧ ∀ H μ, Rep (gx X) H μ d v) (hd : (x == ("__debug__" : Str)) = false) : PE X (.Name x pos) (TD (gx X) W (dCst d)) := by
  obtain ⟨v, rv, r⟩ := r
  exact (pe_glob hg hm rv hd).weak fun σ H Q ⟨μ, env, h, s, e, p⟩ => p.now s (r H μ)
/-- a built-in type's name -/
theorem d_tyN {x : Str} {n : String} (hg : Gl X x) (hm : X.mg x = none) (hv : bootBuiltins x = some (.type n)) (hn : x ≠ "__name__") (hd : (x == ("__debug__" : Str)) = false) : PE X (.Name x pos) (TD (gx X) W (dCst (.ty n))) :=
  (pe_bltn (v := .ty n) hg hm hv rfl hn hd).weak fun σ H Q ⟨μ, env, h, s, e, p⟩ => p.now s (by unfold Rep; rfl)
end
end DV
namespace DV
open PySem PySem.Spec PyProof.Rows L2
section
variable {P : Program} {w : World} {K : PySem.W.Frag} {mg mb : Str → Option Value} {CXx : CXT} {k : Nat} {fa a : Addr} {fd : FuncData} {x : Str} {sp : Sp} {s₁ : Shared} {vs : List Value} {ns : List Int}
/-- from an abstract heap that knows the script at most -/
theorem law_core {H : Hp} (KX : K.In s₁.heap) (hns : s₁.heap.Ns mainGlobals mg) (hb : s₁.heap.Ns builtinsNs mb) (hbb : ∀ x : Str, x ≠ "__name__" → mb x = bootBuiltins x) (hlim : s₁.heap.NoLimit) (hg : s₁.gens = #[])
    (ha : s₁.heap.get? a = some { cls := .type "list", data := .seq vs.toArray }) (hr : Room k callerA)
    (F : ∀ base : Heap, K.In base → base.Ns mainGlobals mg → FnG P w K mg base CXx k fa fd [x] sp) (hbind : ∀ (s : Shared) (u : Value), BindsTo s fd ⟨[u], []⟩ [(x, u)])
    (hsp : sp [.ref a] H (fun v _ => v = .bl true) fun _ _ _ => False) (hCX : ∀ e s', CXx [] H s₁ (fun _ _ _ => False) e s' → False)
    (hO : Only H) (hok : HOk P w H s₁.heap) (hA : ∀ b, H b ≠ none → b = a) (hK : H a ≠ none → K.lookup a = none) :
    codeAny (model P w) callerA (.call (.ref fa) ⟨[.ref a], []⟩) (fun r s' => r = .ok (.ret (.bool true)) ∧ OldK s₁.heap s'.heap ∧ s'.os = s₁.os ∧ AllBare s'.gens) s₁ := by
  have isA : ∀ {b : Addr} {u : HO}, H b = some u → b = a := fun {b u} e => hA b (by rw [e]; exact fun z => nomatch z)
  have notDict : ∀ {b : Addr} {o : Obj} {es : Array DictEntry} {ep : Nat}, s₁.heap.get? b = some o → o.data = .dict es ep → H b = none := by
    intro b o es ep e d
    cases q : H b with
    | none => rfl
    | some u =>
      rw [isA q, ha] at e
      cases e
      cases (show Data.seq vs.toArray _ = Data.dict es ep from d)
  have nsK : ∀ {b : Addr} {m : Str → Option Value}, s₁.heap.Ns b m → (hidT s₁.heap H).Ns b m := by
    rintro b m ⟨o, es, ep, e, d, r⟩
    exact ⟨o, es, ep, hidT_get e (notDict e d), d, r⟩
  have hKb : K.In (hidT s₁.heap H) := by
    intro b o e
    refine hidT_get (KX b o e) ?_
    cases q : H b with
    | none => rfl
    | some u =>
      have eb := isA q
      subst eb
      rw [hK (by rw [q]; exact fun z => nomatch z)] at e
      cases e
  obtain ⟨mc, m1, m2⟩ := hlim
  have hM : Mod K mg (hidT s₁.heap H) := ⟨hKb, nsK hns, ⟨mb, nsK hb, hbb⟩, ⟨mc, nsK m1, m2⟩⟩
  have e0 : Env0 P w K mg (hidT s₁.heap H) callerA [] s₁ H := ⟨rfl, hM, fun b o e => of_hidT e, Nat.le_of_eq (hidT_size _ _), trivial, fun b z => absurd (show b ∈ ([] : List Addr) from z) (by simp), hok, .of_eq hg⟩
  refine codeAny_mono ((F _ hKb (nsK hns)).run callerA [] s₁ H ⟨[.ref a], []⟩ [.ref a] [.ref a] _ _ rfl hr e0 (hbind s₁ (.ref a)) (.cons rfl .nil) hsp) ?_
  intro r s' h
  cases r with
  | error e => exact (hCX e s' h).elim
  | ok fl =>
    cases fl with
    | next => exact h.elim
    | brk => exact h.elim
    | cont => exact h.elim
    | ret u =>
      obtain ⟨v, H', os, bare, un, hok', r', q⟩ := h
      have q' : v = .bl true := q
      subst q'
      have r' : u = Value.bool true := r'
      subst r'
      refine ⟨rfl, OldK.of_keep fun b o e => ?_, os, bare⟩
      cases q : H b with
      | none => exact un.keep b o e q (fun z => absurd (show b ∈ ([] : List Addr) from z) (by simp)) (by simp)
      | some u =>
        rcases hO b with z | ⟨ob, xs, z⟩
        · rw [q] at z; cases z
        · obtain ⟨e1, _⟩ := hok b _ z
          obtain ⟨e2, _⟩ := hok' b _ (un.frzs b ob _ z)
          rw [e] at e1
          cases e1
          exact e2
theorem law_end (KX : K.In s₁.heap) (hns : s₁.heap.Ns mainGlobals mg) (hb : s₁.heap.Ns builtinsNs mb) (hbb : ∀ x : Str, x ≠ "__name__" → mb x = bootBuiltins x) (hlim : s₁.heap.NoLimit) (hg : s₁.gens = #[])
    (ha : s₁.heap.get? a = some { cls := .type "list", data := .seq vs.toArray }) (hi : IntsAre vs ns) (hl : ns.length ≤ sizeLine) (hr : Room k callerA)
    (F : ∀ base : Heap, K.In base → base.Ns mainGlobals mg → FnG P w K mg base CXx k fa fd [x] sp) (hbind : ∀ (s : Shared) (u : Value), BindsTo s fd ⟨[u], []⟩ [(x, u)])
    (hsp : ∀ H : Hp, Only H → SqF K H a (ns.map V.int) → sp [.ref a] H (fun v _ => v = .bl true) fun _ _ _ => False) (hCX : ∀ H e s', CXx [] H s₁ (fun _ _ _ => False) e s' → False) :
    codeAny (model P w) callerA (.call (.ref fa) ⟨[.ref a], []⟩) (fun r s' => r = .ok (.ret (.bool true)) ∧ OldK s₁.heap s'.heap ∧ s'.os = s₁.os ∧ AllBare s'.gens) s₁ := by
  have rv := vals_ints hi
  cases hk : K.lookup a with
  | some o =>
    have e := KX a o hk
    rw [ha] at e
    cases e
    have hO : Only (fun _ => none) := fun _ => .inl rfl
    have hS : SqF K (fun _ => none) a (ns.map V.int) := .inr ⟨_, vs.toArray, _, hk, rfl, rfl, rfl, by rw [List.size_toArray, hi.length]; exact hl, by simpa using rv⟩
    exact law_core KX hns hb hbb hlim hg ha hr F hbind (hsp _ hO hS) (hCX _) hO (fun b u z => nomatch (show (none : Option HO) = some u from z)) (fun b z => absurd rfl z) fun z => absurd rfl z
  | none =>
    let H : Hp := upd (fun _ => none) a (.frz { cls := .type "list", data := .seq vs.toArray } (.lst (ns.map V.int)))
    have at_ : ∀ b u, H b = some u → b = a ∧ u = .frz { cls := .type "list", data := .seq vs.toArray } (.lst (ns.map V.int)) := by
      intro b u z
      by_cases hb : b = a
      · subst hb
        rw [show H b = some _ from upd_same] at z
        exact ⟨rfl, (Option.some.inj z).symm⟩
      · rw [show H b = none from upd_ne hb] at z
        cases z
    have hO : Only H := by
      intro b
      cases q : H b with
      | none => exact .inl rfl
      | some u => exact .inr ⟨_, _, by rw [(at_ b u q).2]⟩
    have hok : HOk P w H s₁.heap := by
      intro b u z
      obtain ⟨rfl, rfl⟩ := at_ b u z
      exact ⟨ha, by rw [List.length_map]; exact hl, vs, _, rv, ha⟩
    refine law_core KX hns hb hbb hlim hg ha hr F hbind (hsp H hO (.inl ⟨_, upd_same⟩)) (hCX _) hO hok (fun b z => ?_) fun _ => hk
    cases q : H b with
    | none => exact absurd q z
    | some u => exact (at_ b u q).1
end
/-- a law's end over a head by facts -/
theorem walk_G {l : PySem.W.OpenLaw} {n k : Nat} {q : Program} {loose : List Str} {XP : (Str → Option Value) → Heap → Prop} {YP : World → Heap → Prop} {d : DefRec} {CXx : CXT} {x : Str}
    (hn : l.most = some n) (hn2 : n ≤ sizeLine) (hdf : d.params.defaults = []) (hr : Room k callerA)
    (F : ∀ (w : World) (mg : Str → Option Value) (fa : Addr) (h : Heap), YP w h → h.Ns mainGlobals mg → mg d.name = some (.ref fa) →
      ∃ (K : PySem.W.Frag) (fd : FuncData) (sp : Sp) (CXx : CXT), K.In h ∧ (∀ (s : Shared) (u : Value), BindsTo s fd ⟨[u], []⟩ [(x, u)]) ∧
        (∀ (H : Hp) (a : Addr) (ns : List Int), ns.length ≤ n → Only H → SqF K H a (ns.map V.int) → sp [.ref a] H (fun v _ => v = .bl true) fun _ _ _ => False) ∧
        (∀ base : Heap, K.In base → base.Ns mainGlobals mg → FnG l.prog w K mg base CXx k fa fd [x] sp) ∧ ∀ (H : Hp) (s : Shared) (e : Value) (s' : Shared), CXx [] H s (fun _ _ _ => False) e s' → False) :
    PySem.W.WalkO q loose XP YP l.row.toRowW d [] (fun f vs => PySem.call f vs) := by
  refine Att.attach_call hn hdf ?_
  intro w s₀ s₁ mg mb fa o pm cd doc a vs ns G Y ho hd hcd hmg hobj hints hlen hg
  obtain ⟨K, fd, sp, CXx, KX, hb, hsp, hF, hCX⟩ := F w mg fa _ Y G.T.g hmg
  exact law_end KX G.T.g G.T.b G.T.builtins G.T.nolimit hg hobj hints (Nat.le_trans hlen hn2) hr hF hb (fun H hO hS => hsp H a ns hlen hO hS) fun H e s' => hCX H s₁ e s'
end DV
namespace DV
open PySem PySem.Spec PyProof.Rows L2
def runB (n N : Nat) (m : SD) : DF := fun as h => if as.length = n then (match m (as.map some ++ List.replicate (N - n) none) h with
  | .rt d h' => .ok d h'
  | .nx _ h' => .ok .non h'
  | .exc c a _ h' => .exc c a h'
  | _ => .bad) else .bad
/-- what a body's proof is given -/
structure Bd (T : Tabs) (k : Nat) (X : Cx) (W : XWS) (wx : WX) : Prop where
  gd : X.A.guards = some []
  rm : Room k X.A
  tk : Takes X wx
  lw : Links T (gx X) W wx
  po : PassesOwn (model X.prog X.w) X.A X.env X.xe
theorem Bd.hu64 {T : Tabs} {k : Nat} {X : Cx} {W : XWS} {wx : WX} (b : Bd T k X W wx) : X.A.units + 64 < cLine := by
  have := b.rm.un
  omega
theorem Bd.hu65 {T : Tabs} {k : Nat} {X : Cx} {W : XWS} {wx : WX} (b : Bd T k X W wx) : X.A.units + 65 < cLine := by
  have := b.rm.un
  omega
theorem Bd.hu70 {T : Tabs} {k : Nat} {X : Cx} {W : XWS} {wx : WX} (b : Bd T k X W wx) : X.A.units + 70 < cLine := by
  have := b.rm.un
  omega
theorem Bd.hu1 {T : Tabs} {k : Nat} {X : Cx} {W : XWS} {wx : WX} (b : Bd T k X W wx) : X.A.units + 1 < cLine := by
  have := b.rm.un
  omega
theorem links0 {T : Tabs} {G : GX} : Links T G W0 (fun _ _ _ _ => False) := fun _ _ _ _ _ _ _ z => z.elim
/-- .. in a comprehension's block -/
theorem Bd.blk {T : Tabs} {k : Nat} {X : Cx} {W : XWS} {wx : WX} (b : Bd T k X W wx) (s : Shared) (H : Hp) (scope : Scope) (cenv : PySem.Env) (fp : List Addr) : Bd T k (X.blk s H scope cenv fp) W0 (fun _ _ _ _ => False) :=
  ⟨b.gd, b.rm, takes_none5, links0, PassesOwn.never⟩
/-- .. in a try's body -/
theorem Bd.tr {T : Tabs} {k : Nat} {X : Cx} {W W' : XWS} {wx wx' : WX} (b : Bd T k X W wx) {pn : List (Addr × Obj)} {xe : Value → Shared → Prop} (tk : Takes (X.tr pn xe) wx') (lw : Links T (gx X) W' wx') (po : PassesOwn (model X.prog X.w) X.A X.env xe) : Bd T k (X.tr pn xe) W' wx' :=
  ⟨b.gd, b.rm, tk, lw, po⟩
section
variable {T : Tabs} {P : Program} {w : World} {K : PySem.W.Frag} {mg : Str → Option Value} {base : Heap} {x q : Str} {params : Arguments} {body : List Stmt} {scope : Scope} {dvs : List V} {kws : List (Str × V)} {f : Addr} {fd : FuncData} {N ps : List Str} {k : Nat} {m : SD}
theorem fn_d (F : FunD K x q params body scope dvs kws f fd) (S : FnScope N ps scope)
    (hb : ∀ (cdv : Value) (A : Around) (outer : List PySem.Env) (s : Shared) (H : Hp) (E : XK) (W : XWS) (wx : WX), Bd T k (cxOf (CX P w) P w K mg base N q scope f cdv A outer s H E) W wx → PSs (cxOf (CX P w) P w K mg base N q scope f cdv A outer s H E) body (TDS ⟨K, w, P⟩ W m)) :
    FnG P w K mg base (CX P w) (k + 1) f fd ps (spF T ⟨K, w, P⟩ ps.length (runB ps.length N.length m)) := by
  obtain ⟨oc, od, dV, kV, doc, pm, an, cdv, ct, osl, rfl, lk, hcd, _, _⟩ := F.ex
  refine fnG_of lk hcd S (fun vs H Q E h => h.1) fun A outer s H vs Q E hgd hr hsp => ?_
  obtain ⟨hl, μ, h, ds, SR, rl, Pq⟩ := hsp
  let X := cxOf (CX P w) P w K mg base N q scope f cdv A outer s H E
  let W : XWS := fun σ μ' H' c a h' => WE T ⟨K, w, P⟩ E μ' H' c a h'
  let wx : WX := fun cls d σ H' => E cls d H'
  have bd : Bd T k X W wx := ⟨hgd, hr, takes_of rfl rfl rfl rfl, fun σ μ' H' c a h' S' z => z, passes_of rfl⟩
  refine ⟨TDS ⟨K, w, P⟩ W m, hb cdv A outer s H E W wx bd, ?_⟩
  have hdl : ds.length = ps.length := by rw [← rl.length]; exact hl
  have hNp : ps.length ≤ N.length := by
    have z := congrArg List.length S.pre
    rw [List.length_take] at z
    omega
  refine ⟨μ, ds.map some ++ List.replicate (N.length - ps.length) none, h, SR, ⟨?_, fun i d hi => ?_⟩, ?_⟩
  · unfold L2.start
    simp [hdl, hl]
  · unfold L2.start
    have hi' : i < ds.length := by
      by_cases z : i < ds.length
      · exact z
      · rw [List.getElem?_append_right (by simpa using z), List.getElem?_replicate] at hi
        split at hi <;> cases hi
    rw [List.getElem?_append_left (by simpa using hi'), List.getElem?_map] at hi
    cases e : ds[i]? with
    | none => rw [e] at hi; cases hi
    | some d' =>
      rw [e] at hi
      cases hi
      obtain ⟨v, hv, rv⟩ := rl.get e
      refine ⟨v, ?_, rv⟩
      rw [List.getElem?_append_left (by rw [List.length_map, rl.length]; exact hi'), List.getElem?_map, hv]
      rfl
  · unfold runB at Pq
    rw [if_pos hdl] at Pq
    cases e : m (ds.map some ++ List.replicate (N.length - ps.length) none) h with
    | rt d h' => rw [e] at Pq; exact fun μ' H' v s' x' r' => Pq μ' H' v s' x' r'
    | nx env' h' => rw [e] at Pq; exact fun μ' H' σ' s' x' r' => Pq μ' H' .non s' x' (by unfold Rep; rfl)
    | exc c a env' h' => rw [e] at Pq; exact fun μ' H' σ' s' x' r' => Pq μ' H' s' x'
    | bk env' h' => rw [e] at Pq; exact Pq.elim
    | ct env' h' => rw [e] at Pq; exact Pq.elim
    | bad => rw [e] at Pq; exact Pq.elim
/-- at no depth -/
theorem fn_0 : FnG P w K mg base (CX P w) 0 f fd ps (spF T ⟨K, w, P⟩ ps.length (fun _ _ => .bad)) := ⟨fun vs H Q E h => h.1, fun A outer s H args us vs Q E _ _ _ _ _ h => by
  obtain ⟨_, _, _, _, _, _, z⟩ := h
  exact z.elim⟩
end
/-- a def of the module, without defaults, as it may be called -/
def Cal (T : Tabs) (P : Program) (w : World) (K : PySem.W.Frag) (mg : Str → Option Value) (base : Heap) (k : Nat) (x : Str) (ps : List Str) (φ : DF) : Prop :=
  ∃ f fd, FnG P w K mg base (CX P w) k f fd ps (spF T ⟨K, w, P⟩ ps.length φ) ∧ mg x = some (.ref f) ∧ PySem.W.keepIn K (.ref f) = true ∧ (∀ us : List Value, us.length = ps.length → bindArgs fd ⟨us, []⟩ = pure (ps.zip us)) ∧ (∀ ws : List Value, ws.length = ps.length → bindArgs fd ⟨[], ps.zip ws⟩ = pure (ps.zip ws))
theorem isD_nil {G : GX} : IsD G [] [] := fun _ _ => by unfold RepL; rfl
section
variable {T : Tabs} {k : Nat} {X : Cx} {W : XWS} {wx : WX} {x : Str} {ps : List Str} {φ : DF} {ml mk : DEn (List D)} {p pos : Pos} {e : Expr} {es : List Expr} {kws : List Keyword}
theorem d_cal (c : Cal T X.prog X.w X.K X.mg X.base k x ps φ) (b : Bd T k X W wx) (hg : Gl X x) (hdb : (x == ("__debug__" : Str)) = false) (ha : PA X (e :: es) (TDL (gx X) W ml)) (he : starEach (e :: es) X.env = (false, eval e X.env) :: starEach es X.env) (hpl : (backTo pos (starEach es X.env)).any (·.1) = false) :
    PE X (.Call (.Name x p) (e :: es) [] pos) (TD (gx X) W (dCallF ml [] ps.length φ)) := by
  obtain ⟨f, fd, F, hm, hk, hb, _⟩ := c
  exact d_call F b.rm b.gd hg hm hk (.all hb) .nil isD_nil b.tk b.lw ha hdb he hpl
theorem d_cal0 (c : Cal T X.prog X.w X.K X.mg X.base k x ps φ) (b : Bd T k X W wx) (hg : Gl X x) (hdb : (x == ("__debug__" : Str)) = false) : PE X (.Call (.Name x p) [] [] pos) (TD (gx X) W (dCallF dNil [] ps.length φ)) := by
  obtain ⟨f, fd, F, hm, hk, hb, _⟩ := c
  exact d_call0 F b.rm b.gd hg hm hk (.all hb) .nil isD_nil b.tk b.lw hdb
def dCalK (mk : DEn (List D)) (n : Nat) (φ : DF) : DE := dCallF mk [] n φ
/-- all parameters by their names, in their order -/
theorem d_calK (c : Cal T X.prog X.w X.K X.mg X.base k x ps φ) (b : Bd T k X W wx) (hg : Gl X x) (hdb : (x == ("__debug__" : Str)) = false) (hkw : PK X kws (TDL (gx X) W mk)) (hall : (backToKw pos (keywordEach kws X.env)).all (·.1.isSome) = true) (hks : (backToKw pos (keywordEach kws X.env)).filterMap (·.1) = ps)
    (hpl : ((backTo pos (starEach [] X.env)).any (·.1) || (backToKw pos (keywordEach kws X.env)).any (·.1.isNone)) = false) : PE X (.Call (.Name x p) [] kws pos) (TD (gx X) W (dCallF mk [] ps.length φ)) := by
  obtain ⟨f, fd, F, hm, hk, _, hb⟩ := c
  have kb : KBd X.K fd ps 0 ps [] (fun {α} us ds ws => ws) := ⟨fun s us ws _ h0 hw => by
    cases List.length_eq_zero_iff.mp h0
    exact .of_eq (hb ws hw), fun _ _ r => r, fun _ _ r => r⟩
  refine (d_callK0 F b.rm b.gd hg hm hk kb .nil isD_nil b.tk b.lw hkw hall hks hdb hpl).weak fun σ H Q q => ?_
  obtain ⟨μ, env, h, S, e, P⟩ := q
  refine ⟨μ, env, h, S, e, ?_⟩
  unfold dCallF DEn.bind at P
  unfold dCallK dNil DEn.bind
  show Post _ _ _ _ _ ((mk env h).bind fun zs h2 => _) _
  cases e2 : mk env h with
  | bad => rw [e2] at P; exact P
  | exc c a h' => rw [e2] at P; exact P
  | ok ds h' =>
    rw [e2] at P
    have P : Post (Rep (gx X)) (gx X) (W σ) μ H (if (ds ++ []).length = ps.length then φ (ds ++ []) h' else .bad) Q := P
    show Post (Rep (gx X)) (gx X) (W σ) μ H (if ([] : List D).length = 0 ∧ ds.length = ps.length ∧ ds.length = ps.length then φ ds h' else .bad) Q
    rw [List.append_nil] at P
    by_cases hl : ds.length = ps.length
    · rw [if_pos hl] at P
      rw [if_pos ⟨rfl, hl, hl⟩]
      exact P
    · rw [if_neg hl] at P
      exact P.elim
end
def tx (s : String) : Txt := (Str.ofString s).cps.toList
theorem sOf_tx (s : String) : sOf (tx s) = Str.ofString s := sOf_cps _
theorem d_strS {X : Cx} {W : XWS} {s : String} {j} {pos : Pos} : PE X (.Constant (.str (Str.ofString s)) j pos) (TD (gx X) W (dCst (.str (tx s)))) := d_str (sOf_tx s).symm
theorem d_globE {X : Cx} {W : XWS} {x : Str} {d : D} {pos : Pos} (hg : Gl X x) (h : ∃ u, X.mg x = some u ∧ ∃ v, RelV v u ∧ ∀ H μ, Rep (gx X) H μ d v) (hd : (x == ("__debug__" : Str)) = false) : PE X (.Name x pos) (TD (gx X) W (dCst d)) := by
  obtain ⟨u, hm, r⟩ := h
  exact d_glob hg hm r hd
def blkB (N : List Str) (sc scope : Scope) (own : List (Str × Nat)) : Bool :=
  decide (scope.kind = .function) && (scope.names.all fun y => decide (scope.names.lookup y.1 = some y.2)) && (own.all fun p => decide (N[p.2]? = some p.1)) && (scope.names.all fun y => !decide (y.2 = .free) || (decide (sc.names.lookup y.1 = some .cell) || decide (sc.names.lookup y.1 = some .free))) &&
    (scope.names.all fun y => !(decide (y.2 = .local) || decide (y.2 = .cell)) || (decide (y.1 ∈ own.map (·.1)) || decide (y.1 ∉ N)))
theorem blkB_ok {N : List Str} {sc scope : Scope} {own : List (Str × Nat)} (h : blkB N sc scope own = true) : BlkOk N sc scope own := by
  unfold blkB at h
  simp only [Bool.and_eq_true, List.all_eq_true, decide_eq_true_eq, Bool.or_eq_true, Bool.not_eq_true', decide_eq_false_iff_not] at h
  obtain ⟨⟨⟨⟨h1, h2⟩, h3⟩, h4⟩, h5⟩ := h
  refine ⟨h1, h2, h3, fun y hy e => ?_, fun y hy e => ?_⟩
  · rcases h4 y hy with z | z
    · exact absurd e z
    · exact z
  · rcases h5 y hy with z | z
    · rw [Bool.or_eq_false_iff, decide_eq_false_iff_not, decide_eq_false_iff_not] at z
      exact (e.elim z.1 z.2).elim
    · exact z
end DV
namespace DV
open PySem PySem.Spec PyProof.Rows L2
theorem ba2 {a b : Bool} (h : (a && b) = true) : a = true ∧ b = true := Bool.and_eq_true_iff.mp h
def oexB (K : PySem.W.Frag) (C : Addr) : Bool := match K.lookup C with
  | some ⟨.type t, _, .cls cd, sl⟩ => (match cd.mro, sl.toList with
    | .ref C' :: bm, [_, _, _, _, some (.builtin n), _] => decide (t = "type") && (decide (C' = C) && (decide (n = "ValueError.__new__") && (!cd.hasDel && (cd.hasDict && HandSPX.refsVE bm))))
    | _, _ => false)
  | _ => false
theorem oexB_ok {K : PySem.W.Frag} {C : Addr} (q : oexB K C = true) : ∃ nm qn N bs bm sn sub ab col dd k0 k1 k2 k3 k5, K.lookup C = some (excClassObj nm qn C N bs bm true sn sub ab col dd k0 k1 k2 k3 k5 "ValueError.__new__") ∧ HandSPX.refsVE bm = true := by
  unfold oexB at q
  split at q
  · rename_i t dd cd sl ho
    split at q
    · rename_i C' bm k0 k1 k2 k3 n k5 hm hs
      obtain ⟨h1, q⟩ := ba2 q
      obtain ⟨h2, q⟩ := ba2 q
      obtain ⟨h3, q⟩ := ba2 q
      obtain ⟨h4, q⟩ := ba2 q
      obtain ⟨h5, h6⟩ := ba2 q
      have e1 : t = "type" := of_decide_eq_true h1
      have e2 : C' = C := of_decide_eq_true h2
      have e3 : n = "ValueError.__new__" := of_decide_eq_true h3
      subst e1 e2 e3
      obtain ⟨nm, bs, mro, ns, qn, hd, sn, sub, ab, col, del⟩ := cd
      dsimp only at hm h4 h5
      have e4 : del = false := by simpa using h4
      subst hm e4 h5
      have hsl : sl = #[k0, k1, k2, k3, some (.builtin "ValueError.__new__"), k5] := by
        obtain ⟨l⟩ := sl
        simp only at hs
        rw [hs]
      subst hsl
      exact ⟨nm, qn, ns, bs, bm, sn, sub, ab, col, dd, k0, k1, k2, k3, k5, ho, h6⟩
    · cases q
  · cases q
/-- where the __init__ of the module's class x stands -/
abbrev iAd (K : PySem.W.Frag) (x : Str) : Addr := He.fAd K (x, some "__init__")
/-- the code object, the cell of __class__ -/
def iniB (K : PySem.W.Frag) (C fI : Addr) (file : Str) : Bool := match K.lookup fI with
  | some ⟨_, _, .func fd, _⟩ => PySem.W.codeIn K fd.code fd.qualname && (decide (fd.defaults = .none) && ((match fd.code with
    | .ref cda => (match K.lookup cda with
      | some ⟨_, _, .fields vs, _⟩ => (match vs[2]? with
        | some (Value.str f _) => decide (f = file)
        | _ => false)
      | _ => false)
    | _ => false) && (match fd.closure with
    | [(_, cc)] => (match K.lookup cc with
      | some ⟨_, _, .cell (some (.ref D)), _⟩ => decide (D = C)
      | _ => false)
    | _ => false)))
  | _ => false
def errB (K : PySem.W.Frag) (file x : Str) (fs : List Str) : Bool :=
  oexB K (He.ga K x) && (decide (PySem.W.findIn K (.ref (He.ga K x)) "__setattr__" = some (some (.builtin "object.__setattr__"))) && (decide (PySem.W.subIn K (.ref (He.ga K x)) (.type "BaseException") = some true) && (decide (PySem.W.typeIn K (.ref (He.ga K x)) = some (.type "type")) &&
    (PySem.W.keepIn K (.ref (He.ga K x)) && (xfB K (He.ga K x) && (decide (PySem.W.findIn K (.ref (He.ga K x)) "__init__" = some (some (.ref (iAd K x)))) && (decide (PySem.W.typeIn K (.ref (iAd K x)) = some (.type "function")) &&
      ((match PySem.W.clsIn K (He.ga K x) with
        | some cd => decide (PySem.W.alongIn K "__init__" ((cd.mro.dropWhile (· != .ref (He.ga K x))).drop 1) = some (some Ve.vb))
        | none => false) && (decide (PySem.W.mroIn K (He.ga K x) (.ref (He.ga K x)) = some true) && (decide (PySem.W.mroIn K (He.ga K x) (.type "ValueError") = some true) && (decide (PySem.W.nsIn K cStatics "thirdparty.any" = some none) &&
          ((fs.all fun f => decide (PySem.W.findIn K (.ref (He.ga K x)) f = some none)) && iniB K (He.ga K x) (iAd K x) file))))))))))))
abbrev IniW : Type := Option (Arguments × FuncBody × Scope × List Str × Addr × Addr)
def iniW (K : PySem.W.Frag) (x : Str) : IniW := match K.lookup (iAd K x) with
  | some ⟨_, _, .func fd, _⟩ => some (fd.params, fd.body, fd.scope, fd.closure.map (·.1), fd.globals, fd.builtins)
  | _ => none
/-- what the text says of the __init__: its parameters, its names -/
structure IniT (params : Arguments) (scope : Scope) (fs : List Str) : Prop where
  head : ∃ ar : Arg, (params.posonlyargs ++ params.args).head? = some ar ∧ ar.arg = ("self" : Str)
  kind : scope.kind = .function
  co : scope.isCoroutine = false
  gen : scope.isGenerator = false
  nc : ∀ x ∈ scope.names, x.2 ≠ .cell
  loc : ∀ f ∈ ("self" : Str) :: fs, scope.names.lookup f = some .local
  sup : scope.names.lookup ("super" : Str) = some .globalImplicit
  cls : scope.names.lookup ("__class__" : Str) = some .free
  bind : ∀ (n1 n2 : Str) (bd : FuncBody) (sc : Scope) (g : Addr) (cl : List (Str × Addr)) (kd doc pm : Value) (an : Option Addr) (cd ct : Value) (bi : Addr) (us : List Value), us.length = fs.length + 1 → bindArgs ⟨n1, n2, params, bd, sc, g, cl, .none, kd, doc, pm, an, cd, ct, bi⟩ ⟨us, []⟩ = pure ((("self" : Str) :: fs).zip us)
theorem ini_of {P : Program} {K : PySem.W.Frag} {x : Str} {fs : List Str} {body : List Stmt} {params : Arguments} {scope : Scope} (hB : errB K P.main.file x fs = true) (hW : iniW K x = some (params, FuncBody.stmts body, scope, ([("__class__" : Str)] : List Str), mainGlobals, builtinsNs)) (t : IniT params scope fs) (htop : (P.main.scope.names.lookup ("super" : Str)).isSome = false) :
    Ve.Ini P K (He.ga K x) (iAd K x) fs body := by
  unfold errB at hB
  obtain ⟨b1, hB⟩ := ba2 hB
  obtain ⟨b2, hB⟩ := ba2 hB
  obtain ⟨b3, hB⟩ := ba2 hB
  obtain ⟨b4, hB⟩ := ba2 hB
  obtain ⟨b5, hB⟩ := ba2 hB
  obtain ⟨b6, hB⟩ := ba2 hB
  obtain ⟨b7, hB⟩ := ba2 hB
  obtain ⟨b8, hB⟩ := ba2 hB
  obtain ⟨b9, hB⟩ := ba2 hB
  obtain ⟨b10, hB⟩ := ba2 hB
  obtain ⟨b11, hB⟩ := ba2 hB
  obtain ⟨b12, hB⟩ := ba2 hB
  obtain ⟨b13, b14⟩ := ba2 hB
  refine ⟨⟨oexB_ok b1, of_decide_eq_true b2, of_decide_eq_true b3, of_decide_eq_true b4, b5⟩, xfB_ok b6, of_decide_eq_true b7, of_decide_eq_true b8, fun cd hcd => ?_, of_decide_eq_true b10, of_decide_eq_true b11, of_decide_eq_true b12, fun f hf => of_decide_eq_true (List.all_eq_true.mp b13 f hf), htop, ?_⟩
  · rw [hcd] at b9
    exact of_decide_eq_true b9
  · unfold iniB at b14
    unfold iniW at hW
    cases e : K.lookup (iAd K x) with
    | none => rw [e] at hW; cases hW
    | some o =>
      obtain ⟨oc, od, dt, osl⟩ := o
      rw [e] at hW b14
      cases dt with
      | func fd =>
        obtain ⟨n1, n2, pa, bd, sc, g, cl, dV, kV, doc, pm, an, cdv, ct, bi⟩ := fd
        have hW : (some (pa, bd, sc, cl.map (·.1), g, bi) : IniW) = some (params, FuncBody.stmts body, scope, ([("__class__" : Str)] : List Str), mainGlobals, builtinsNs) := hW
        simp only [Option.some.injEq, Prod.mk.injEq] at hW
        obtain ⟨rfl, rfl, rfl, w4, rfl, rfl⟩ := hW
        obtain ⟨c1, b14⟩ := ba2 b14
        obtain ⟨c2, b14⟩ := ba2 b14
        obtain ⟨c3, c4⟩ := ba2 b14
        have e2 : dV = .none := of_decide_eq_true c2
        subst e2
        split at c4
        · rename_i nm cc hcl
          have hcl : cl = [(nm, cc)] := hcl
          subst hcl
          have enm : nm = "__class__" := by simpa using w4
          subst enm
          split at c4
          · rename_i occ1 occ2 D occ3 hcc
            have eD : D = He.ga K x := of_decide_eq_true c4
            subst eD
            split at c3
            · rename_i cda hcda
              have hcda : cdv = .ref cda := hcda
              split at c3
              · rename_i o1 o2 vs o3 hco
                split at c3
                · rename_i f tf hvs
                  have ef : f = P.main.file := of_decide_eq_true c3
                  obtain ⟨ar, a1, a2⟩ := t.head
                  refine ⟨_, _, cc, cda, _, _, vs, f, tf, ar, rfl, rfl, rfl, rfl, rfl, rfl, hcda, c1, hco, rfl, hvs, by rw [ef]; exact beq_self_eq_true _, hcc, rfl, a1, a2, t.kind, t.co, t.gen, t.nc, t.loc, t.sup, t.cls, fun us hl => t.bind _ _ _ _ _ _ _ _ _ _ _ _ _ us hl⟩
                · cases c3
              · cases c3
            · cases c3
          · cases c4
        · cases c4
      | _ => cases hW
/-- isinstance's facts of a class of errors -/
def excB (K : PySem.W.Frag) (D : Addr) : Bool := xfB K D && (decide (PySem.W.findIn K (.ref D) "__class__" = some (some (.builtin "object.__class__"))) && (decide (PySem.W.specialIn K (.builtin "object.__class__") "__get__" = some (some (.builtin "getset_descriptor.__get__"))) && (decide (PySem.W.takesIn K (.builtin "object.__class__") = some true) && decide (PySem.W.mroIn K D (.type "object") = some true))))
theorem excB_ok {K : PySem.W.Frag} {D : Addr} (h : excB K D = true) : ExcC K D := by
  obtain ⟨h1, h⟩ := ba2 h
  obtain ⟨h2, h⟩ := ba2 h
  obtain ⟨h3, h⟩ := ba2 h
  obtain ⟨h4, h5⟩ := ba2 h
  have x := xfB_ok h1
  exact ⟨x.ga, x.gg, x.exC, x.hdC, of_decide_eq_true h2, of_decide_eq_true h3, of_decide_eq_true h4, of_decide_eq_true h5⟩
theorem keyOf_isStr {e : DictEntry} {x : Str} {i : Int} (h : He.keyOf e = some (x, i)) (y : Str) : e.key.isStr y = decide (x = y) := by
  unfold He.keyOf at h
  split at h
  · rename_i z t hz
    have h2 := Option.some.inj h
    obtain ⟨h3, _⟩ := Prod.mk.inj h2
    subst h3
    rw [hz]
    show (z == y) = decide (z = y)
    by_cases q : z = y
    · subst q; simp
    · have : (z == y) = false := by simpa using q
      simp [this, q]
  · cases h
theorem keyOf_ref {e : DictEntry} {q : Str × Int} (h : He.keyOf e = some q) : e.refKey = false := by
  unfold He.keyOf at h
  unfold DictEntry.refKey
  cases hk : e.key with
  | str x t => rfl
  | _ => (rw [hk] at h; first | done | cases h)
theorem find_none {P : Params} {x : Str} : ∀ {l : List DictEntry} {ks : List Str}, l.map He.keyOf = He.keysIn P ks → x ∉ ks → l.find? (·.key.isStr x) = none ∧ l.any (·.refKey) = false
  | [], [], _, _ => ⟨rfl, rfl⟩
  | [], _ :: _, h, _ => by cases h
  | _ :: _, [], h, _ => by cases h
  | e :: r, k :: ks, h, hx => by
    have h1 : He.keyOf e :: r.map He.keyOf = some (k, PyData.keyHash P k) :: He.keysIn P ks := h
    injection h1 with h2 h3
    obtain ⟨a, b⟩ := find_none h3 fun z => hx (List.mem_cons_of_mem _ z)
    have ne : e.key.isStr x = false := by
      rw [keyOf_isStr h2]
      exact decide_eq_false fun z => hx (z ▸ List.mem_cons_self)
    refine ⟨?_, ?_⟩
    · rw [List.find?_cons, ne]
      exact a
    · rw [List.any_cons, keyOf_ref h2, b]
      rfl
theorem cdict_of {w : World} {P : Program} {K : PySem.W.Frag} {a : Addr} {kvs : List (Txt × D)} {dvs : List He.Dv} (h : He.dicW K a = some (He.keysIn w.params (kvs.map fun q => sOf q.1))) (hv : He.valsB K a ((kvs.map fun q => sOf q.1).zip dvs) = true) (hl : dvs.length = kvs.length) (hr : ∀ (i : Nat) (d : He.Dv) (q : Txt × D), dvs[i]? = some d → kvs[i]? = some q → ∀ H μ, Rep ⟨K, w, P⟩ H μ q.2 (d.v K)) :
    ∀ H μ, Rep ⟨K, w, P⟩ H μ (.cdt kvs) (.ref a) := by
  obtain ⟨es, n, kd⟩ := He.dicW_ok h
  have hw : es.toList.map He.keyOf = He.keysIn w.params (kvs.map fun q => sOf q.1) := by
    have z := h
    unfold He.dicW at z
    rw [kd.at_] at z
    have z : (match decide ("dict" = "dict") && ((#[] : Array (Option Value)).isEmpty && !(a == sysModules)) with | true => some (es.toList.map He.keyOf) | false => none) = some (He.keysIn w.params (kvs.map fun q => sOf q.1)) := z
    rw [kd.low] at z
    exact Option.some.inj z
  have us : ∃ us : List Value, us.length = kvs.length ∧ Vals (dvs.map (He.Dv.v K)) us ∧ ∀ (i : Nat) (q : Txt × D) u, kvs[i]? = some q → us[i]? = some u → PySem.W.nsIn K a (sOf q.1) = some (some u) := by
    clear h hr hw
    induction kvs generalizing dvs with
    | nil => cases dvs with
      | nil => exact ⟨[], rfl, .nil, fun i q u z => by simp at z⟩
      | cons d ds => cases hl
    | cons q kvs ih => cases dvs with
      | nil => cases hl
      | cons d ds =>
        obtain ⟨v1, v2⟩ := Bool.and_eq_true_iff.mp (show ((match PySem.W.nsIn K a (sOf q.1) with | some (some u) => He.relB (d.v K) u | _ => false) && He.valsB K a ((kvs.map fun q => sOf q.1).zip ds)) = true from hv)
        obtain ⟨us, u1, u2, u3⟩ := ih v2 (by simpa using hl)
        split at v1
        · rename_i u hu
          refine ⟨u :: us, by simp [u1], .cons (He.relB_ok v1) u2, fun i p w' z1 z2 => ?_⟩
          cases i with
          | zero =>
            simp at z1 z2
            subst z1 z2
            exact hu
          | succ i => exact u3 i p w' (by simpa using z1) (by simpa using z2)
        · cases v1
  obtain ⟨us, u1, u2, u3⟩ := us
  intro H μ
  unfold Rep
  refine ⟨a, us, dvs.map (He.Dv.v K), rfl, ⟨⟨es, n, kd⟩, fun i k u z1 z2 => ?_, fun x hx => ?_, by rw [u1, List.length_map]⟩, u2, ?_⟩
  · rw [List.getElem?_map] at z1
    cases e : kvs[i]? with
    | none => rw [e] at z1; cases z1
    | some q =>
      rw [e] at z1
      cases z1
      exact u3 i q u e z2
  · unfold PySem.W.nsIn
    show (match K.lookup a with | some ⟨_, _, .dict es _, _⟩ => (match es.toList.find? (·.key.isStr x) with | some e => some (some e.val) | none => if es.toList.any (·.refKey) then none else some none) | _ => none) = some none
    rw [kd.at_]
    have hx' : x ∉ kvs.map fun q => sOf q.1 := by
      rw [List.map_map] at hx
      exact hx
    obtain ⟨z1, z2⟩ := find_none hw hx'
    show (match es.toList.find? (·.key.isStr x) with | some e => some (some e.val) | none => if es.toList.any (·.refKey) then none else some none) = some none
    rw [z1]
    show (if es.toList.any (·.refKey) then none else some none) = some none
    rw [z2]
    rfl
  · clear h hv hw u1 u2 u3 us kd
    induction kvs generalizing dvs with
    | nil => cases dvs with
      | nil => unfold RepV; rfl
      | cons d ds => cases hl
    | cons q kvs ih => cases dvs with
      | nil => cases hl
      | cons d ds =>
        unfold RepV
        exact ⟨_, _, rfl, hr 0 d q rfl rfl H μ, ih (by simpa using hl) fun i d' q' z1 z2 => hr (i + 1) d' q' (by simpa using z1) (by simpa using z2)⟩
end DV
namespace DV
open PySem PySem.Spec PyProof.Rows L2
abbrev AlV : Type := He.AlD × List (Option (List (Option (Str × Int)))) × List IniW × Bool
def frV (n : Nat) (g : Addr → Option Obj) : PySem.W.Frag := He.frG g (cStatics :: He.asD g n)
def obV (fa : List He.Fa) (fn : List He.DefD) (ts : List He.Tab) (ini : List (Str × IniW)) (ex : PySem.W.Frag → Bool) (K : PySem.W.Frag) : AlV := (He.obsD fa fn K, ts.map (fun t => He.dicW K (t.1 K)), ini.map (fun p => iniW K p.1), ex K)
def vaV (fn : List He.DefD) (ts : List He.Tab) (ini : List (Str × IniW)) (w : World) : AlV := (He.valD fn, ts.map (fun t => some (He.keysIn w.params t.2)), ini.map (·.2), true)
def SaysV (fa : List He.Fa) (fn : List He.DefD) (ts : List He.Tab) (ini : List (Str × IniW)) (ex : PySem.W.Frag → Bool) (w : World) (K : PySem.W.Frag) : Prop := obV fa fn ts ini ex K = vaV fn ts ini w
def hookV (n : Nat) (fa : List He.Fa) (fn : List He.DefD) (ts : List He.Tab) (ini : List (Str × IniW)) (ex : PySem.W.Frag → Bool) : PySem.W.Hook where
  α := AlV
  obs := fun s => obV fa fn ts ini ex (frV n s.heap.get?)
  val := fun w => vaV fn ts ini w
  says := fun w h => ∃ K : PySem.W.Frag, K.In h ∧ SaysV fa fn ts ini ex w K
  of := fun _ _ e => ⟨_, He.frG_in, e⟩
  keeps := fun _ _ _ ⟨K, hK, c⟩ k => ⟨K, PySem.W.Frag.In.keeps hK k, c⟩
theorem obV_eq {n : Nat} {fa : List He.Fa} {fn : List He.DefD} {ts : List He.Tab} {ini : List (Str × IniW)} {ex : PySem.W.Frag → Bool} {g : Addr → Option Obj} {s : Shared} (h : ∀ a, g a = s.heap.get? a) : obV fa fn ts ini ex (frV n g) = (hookV n fa fn ts ini ex).obs s := by
  have e : g = s.heap.get? := funext h
  rw [e] <;> rfl
section
variable {fa : List He.Fa} {fn : List He.DefD} {ts : List He.Tab} {ini : List (Str × IniW)} {ex : PySem.W.Frag → Bool} {w : World} {K : PySem.W.Frag}
theorem SaysV.d (c : SaysV fa fn ts ini ex w K) : He.SaysD fa fn K := congrArg (fun z : AlV => z.1) c
theorem SaysV.ex_ (c : SaysV fa fn ts ini ex w K) : ex K = true := congrArg (fun z : AlV => z.2.2.2) c
theorem SaysV.tab (c : SaysV fa fn ts ini ex w K) (i : Nat) {t : He.Tab} (h : ts[i]? = some t) : He.dicW K (t.1 K) = some (He.keysIn w.params t.2) := by
  have e : ts.map (fun t => He.dicW K (t.1 K)) = ts.map (fun t => some (He.keysIn w.params t.2)) := congrArg (fun z : AlV => z.2.1) c
  have e2 : (ts.map fun t => He.dicW K (t.1 K))[i]? = (ts.map fun t => some (He.keysIn w.params t.2))[i]? := by rw [e]
  rw [List.getElem?_map, List.getElem?_map, h] at e2
  exact Option.some.inj e2
theorem SaysV.ini_ (c : SaysV fa fn ts ini ex w K) (i : Nat) {p : Str × IniW} (h : ini[i]? = some p) : iniW K p.1 = p.2 := by
  have e : ini.map (fun p => iniW K p.1) = ini.map (·.2) := congrArg (fun z : AlV => z.2.2.1) c
  have e2 : (ini.map fun p => iniW K p.1)[i]? = (ini.map (·.2))[i]? := by rw [e]
  rw [List.getElem?_map, List.getElem?_map, h] at e2
  exact Option.some.inj e2
end
section
variable {K : PySem.W.Frag} {x qual : Str} {params : Arguments} {body : List Stmt} {scope : Scope} {kws : List (Str × V)} {f : Addr} {fd : FuncData} {ps : List Str}
theorem bindEq (F : FunD K x qual params body scope [] kws f fd) (h : ∀ (kV doc pm : Value) (an : Option Addr) (cdv ct : Value) (us : List Value), us.length = ps.length → bindArgs (PySem.W.fnOf x qual params body scope .none kV doc pm an cdv ct) ⟨us, []⟩ = pure (ps.zip us)) :
    ∀ us : List Value, us.length = ps.length → bindArgs fd ⟨us, []⟩ = pure (ps.zip us) := by
  obtain ⟨oc, od, dV, kV, doc, pm, an, cdv, ct, osl, rfl, lk, hcd, hD, hK⟩ := F.ex
  rcases hD with ⟨_, rfl⟩ | ⟨e, _⟩
  · exact h kV doc pm an cdv ct
  · exact absurd rfl e
theorem bindKw (F : FunD K x qual params body scope [] kws f fd) (h : ∀ (kV doc pm : Value) (an : Option Addr) (cdv ct : Value) (us : List Value), us.length = ps.length → bindArgs (PySem.W.fnOf x qual params body scope .none kV doc pm an cdv ct) ⟨[], ps.zip us⟩ = pure (ps.zip us)) :
    ∀ us : List Value, us.length = ps.length → bindArgs fd ⟨[], ps.zip us⟩ = pure (ps.zip us) := by
  obtain ⟨oc, od, dV, kV, doc, pm, an, cdv, ct, osl, rfl, lk, hcd, hD, hK⟩ := F.ex
  rcases hD with ⟨_, rfl⟩ | ⟨e, _⟩
  · exact h kV doc pm an cdv ct
  · exact absurd rfl e
theorem bindA (F : FunD K x qual params body scope [] kws f fd) (p : Str) (h : ∀ (kV doc pm : Value) (an : Option Addr) (cdv ct : Value) (us : List Value), us.length = 1 → bindArgs (PySem.W.fnOf x qual params body scope .none kV doc pm an cdv ct) ⟨us, []⟩ = pure ([p].zip us)) (s : Shared) (u : Value) : BindsTo s fd ⟨[u], []⟩ [(p, u)] := by
  have z := FunD.bindsA (ps := [p]) F (fun kV doc pm an cdv ct us hl => h kV doc pm an cdv ct us (by simpa using hl)) s [u] rfl
  exact z
end
/-- a text of the module's own -/
theorem k_str {P : Program} {w : World} {K : PySem.W.Frag} {h : Heap} {mg : Str → Option Value} (X : K.In h) (G : h.Ns mainGlobals mg) {x : Str} {s : String} (c : (He.Fa.str x (Str.ofString s)).ok K = true) : ∃ u, mg x = some u ∧ ∃ v, RelV v u ∧ ∀ H μ, Rep ⟨K, w, P⟩ H μ (.str (tx s)) v := by
  obtain ⟨t, e⟩ := He.str_ok X G c
  exact ⟨_, e, .str (Str.ofString s), ⟨t, rfl⟩, fun H μ => by unfold Rep; rw [sOf_tx]⟩
theorem ints_rep {G : GX} {H : Hp} : ∀ {ns : List Int}, RepL G H [] (ns.map D.int) (ns.map V.int)
  | [] => by
    show RepL G H [] [] []
    unfold RepL; rfl
  | n :: ns => by
    show RepL G H [] (D.int n :: ns.map D.int) _
    unfold RepL
    exact ⟨_, _, rfl, by unfold Rep; rfl, ints_rep⟩
/-- the law's own promise -/
theorem sp_law {T : Tabs} {G : GX} {φ : DF} {H : Hp} {a : Addr} {ns : List Int} (hS : SqF G.K H a (ns.map V.int)) {h' : DH} (e : φ [.frz (ns.map D.int)] [] = .ok (.bl true) h') : spF T G 1 φ [.ref a] H (fun v _ => v = .bl true) fun _ _ _ => False := by
  refine ⟨rfl, [], [], [.frz (ns.map D.int)], ⟨rfl, by simp, fun n o a z => by simp at z⟩, ?_, ?_⟩
  · unfold RepL
    refine ⟨_, _, rfl, ?_, by unfold RepL; rfl⟩
    unfold Rep
    exact ⟨a, _, rfl, hS, ints_rep⟩
  · rw [e]
    intro μ' H' v _ _ r
    exact r.blv

def clsB : Stmt → List Stmt
  | .ClassDef _ _ _ b _ _ _ _ _ _ _ => b
  | _ => []
def inB_ (s : Stmt) (i : Nat) : Stmt := (clsB s).getD i (.Pass ⟨0, 0, 0, 0⟩)

theorem cx_no {P : Program} {w : World} : ∀ (H : Hp) (s : Shared) (e : Value) (s' : Shared), CX P w [] H s (fun _ _ _ => False) e s' → False := fun _ _ _ _ ⟨_, _, _, _, _, _, _, _, _, _, _, _, z⟩ => z
end DV
namespace DV
open PySem PySem.Spec PyProof.Rows L2
section
variable {P : Program} {w : World} {H H' : Hp} {h' : Heap} {a : Addr} {xs : List (NestedKey × Addr × Value)}
theorem nk_new (d : h'.DictOfH (nestedKind P w) a xs) : ObjOk P w H' h' a (NkH P w a xs) := by
  obtain ⟨o, es, ep, h1, h2, h3, h4, h5, h6⟩ := d
  refine ⟨⟨o, es, ep, h1, h2, h3, h4, h6⟩, ⟨o, h1⟩, ?_⟩
  rintro g1 g2 ⟨o', es', ep', q1, q2⟩ k
  exact ⟨o', es', ep', k _ q1, q2⟩
end
/-- o[k] = v, k a nested tuple -/
def setN : D → D → D → DH → R Unit
  | .ref n, .tup ks, v, h => match h[n]? with
    | some (.dcn kvs) => if nkOk (.tup ks) = true ∧ kvs.length < big then .ok () (h.set n (.dcn (putN (.tup ks) v kvs))) else .bad
    | some (.dct []) => if nkOk (.tup ks) = true then .ok () (h.set n (.dcn [(.tup ks, v)])) else .bad
    | _ => setD (.ref n) (.tup ks) v h
  | o, i, v, h => setD o i v h
def sSetN (mo mi mv : DE) : SD := fun env h => (mv env h).toS env fun v h1 => (mo env h1).toS env fun o h2 => (mi env h2).toS env fun i h3 => (setN o i v h3).toS env fun _ h4 => .nx env h4
section
variable {X : Cx} {W : XWS} {pos : Pos}
theorem set_nk {pins : List (Addr × Obj)} {s : Shared} {σ : L2.St} {H : Hp} {x y z : V} {ov iv u : Value} {Q : Hp → Prop} (hu : X.A.units + 65 < cLine) (I : Inv X pins σ H s) (rx : RelV x ov) (ry : RelV y iv) (rz : RelV z u) {μ : List Addr} {h : DH} {n : Nat} {k v : D} {kvs : List (D × D)} {oo : DO}
    (hk : nkOk k = true) (S : SRep (gx X) μ h H) (r1 : Rep (gx X) H μ (.ref n) x) (r2 : Rep (gx X) H μ k y) (r3 : Rep (gx X) H μ v z) (e0 : h[n]? = some oo) (f0 : oo.free = true) (e : dkN h n = some kvs) (hl : kvs.length < big)
    (q : ∀ H', SRep (gx X) μ (h.set n (.dcn (putN k v kvs))) H' → Ext μ H μ H' → Q H') : wpAny (model X.prog X.w) X.A (setItem ov iv u) (fun _ s' => ∃ H', Inv X pins σ H' s' ∧ Q H') X.xe s := by
  obtain ⟨ds, key, rfl, hk1, hk2⟩ := nkOk_some hk
  obtain ⟨a, ea, rfl⟩ := r1.ref
  cases rx
  obtain ⟨xs, zz, rn, dd⟩ := dkN_ok I S e ea
  have kis := nk_is I _ _ _ _ hk1 r2 ry
  obtain ⟨b, vs, rfl, _, _⟩ := id r2.tupl
  cases ry
  have room : (nestedKind X.prog X.w).room X.A.in1 := by
    show X.A.in1.units + 8 < cLine
    rw [Around.in1_units]
    omega
  have hsz : xs.length ≤ sizeLine := by rw [rn.length, big_eq]; omega
  obtain ⟨hp, hp2, mu⟩ := (S.ob n oo a e0 ea).mut f0
  refine wpAny_setItem_heap (hsz := hsz) room ⟨kis, hk2⟩ dd fun h' dd' hs => ?_
  have he : ∃ q, h'.get? a = some q := let ⟨q, _, _, hq, _⟩ := dd'; ⟨q, hq⟩
  have I' := d_write (t' := s.toks + (nestedKind X.prog X.w).draws key) I (by rw [hp2]; exact mu) hs he (nk_new (H' := upd H a (NkH X.prog X.w a (storedH xs key b u))) dd')
  refine ⟨_, I', q _ (S.write e0 f0 ea (o := .dcn (putN (.tup ds) v kvs)) ⟨zz, _, upd_same, ?_⟩) (Ext.write S e0 ea f0)⟩
  obtain ⟨_, _, _, _, _, _, _, _, nd⟩ := dd
  exact (RepN.put hk1 hk2 r2 r3 rz rn nd).ext0 (Ext.write S e0 ea f0).x0
theorem set_dN {pins : List (Addr × Obj)} {s : Shared} {σ : L2.St} {H : Hp} {x y z : V} {ov iv u : Value} {Q : Hp → Prop} (hu : X.A.units + 65 < cLine) (I : Inv X pins σ H s) (rx : RelV x ov) (ry : RelV y iv) (rz : RelV z u) {μ : List Addr} {h h' : DH} {o i v : D}
    (S : SRep (gx X) μ h H) (r1 : Rep (gx X) H μ o x) (r2 : Rep (gx X) H μ i y) (r3 : Rep (gx X) H μ v z) (e : setN o i v h = .ok () h')
    (q : ∀ H', SRep (gx X) μ h' H' → Ext μ H μ H' → Q H') : wpAny (model X.prog X.w) X.A (setItem ov iv u) (fun _ s' => ∃ H', Inv X pins σ H' s' ∧ Q H') X.xe s := by
  unfold setN at e
  split at e
  · rename_i n ks
    split at e
    · rename_i kvs e'
      split at e
      · rename_i hk
        cases e
        exact set_nk hu I rx ry rz hk.1 S r1 r2 r3 e' rfl (by unfold dkN; rw [e']) hk.2 q
      · cases e
    · rename_i e'
      split at e
      · rename_i hk
        cases e
        exact set_nk (kvs := []) hu I rx ry rz hk S r1 r2 r3 e' rfl (by unfold dkN; rw [e']) (by decide) q
      · cases e
    · exact set_d (by omega) I rx ry rz S r1 r2 r3 e q
  · exact set_d (by omega) I rx ry rz S r1 r2 r3 e q
theorem setD_noexc {o i v : D} {h h' : DH} {c : Nat} {a : List D} (hq : setD o i v h = .exc c a h') : False := by
  unfold setD at hq
  repeat (first | cases hq | split at hq)
theorem setN_noexc {o i v : D} {h h' : DH} {c : Nat} {a : List D} (hq : setN o i v h = .exc c a h') : False := by
  unfold setN at hq
  repeat (first | exact setD_noexc hq | cases hq | split at hq)
theorem s_setN {o i e : Expr} {mo mi mv : DE} {pos' : Pos} (hu : X.A.units + 65 < cLine) (ho : PE X o (TD (gx X) W mo)) (hi : PE X i (TD (gx X) W mi)) (he : PE X e (TD (gx X) W mv)) (hs : swapsWith e (some (.Subscript o i pos')) pos.line X.env = pure false) :
    PS X (.Assign [.Subscript o i pos'] e pos) (TDS (gx X) W (sSetN mo mi mv)) := by
  refine ⟨fun pins s σ H E I q => ?_⟩
  refine wpAny_Assign_Subscript (thn (he.run pins s σ H _ I (TDS.split (rel := Rep (gx X)) (k := fun v env h1 => (mo env h1).toS env fun o h2 => (mi env h2).toS env fun i h3 => (setN o i v h3).toS env fun _ h4 => .nx env h4) q)) ?_) hs
  rintro u s1 ⟨z, H1, I1, rz, μ1, v, env, h1, S1, E1, R1, P1⟩
  refine thn (ho.run pins s1 σ H1 _ I1 ⟨μ1, env, h1, S1, E1, SPost.bind (rel := Rep (gx X)) E1 P1⟩) ?_
  rintro ov s2 ⟨x, H2, I2, rx, μ2, o, h2, S2, X2, R2, P2⟩
  refine thn (hi.run pins s2 σ H2 _ I2 ⟨μ2, env, h2, S2, E1.ext X2, SPost.bind (rel := Rep (gx X)) (E1.ext X2) P2⟩) ?_
  rintro iv s3 ⟨y, H3, I3, ry, μ3, i, h3, S3, X3, R3, P3⟩
  cases hq : setN o i v h3 with
  | bad => rw [hq] at P3; exact P3.elim
  | exc c a h' => exact (setN_noexc hq).elim
  | ok w h' =>
    rw [hq] at P3
    exact thn (set_dN hu I3 rx ry rz S3 (R2.ext X3) R3 ((R1.ext X2).ext X3) hq fun H' S' X' => P3 μ3 H' σ S' X' (((E1.ext X2).ext X3).ext X')) fun _ s4 ⟨H', I', q'⟩ => ⟨σ, H', I', q'⟩
def keysN (ps : List (D × D)) : Bool := ps.all fun p => nkOk p.1
def dDicN (trs : List (DE × DE)) : DE := (dPairs trs).bind fun ps _ h => if keysN ps = true ∧ ps.length ≤ 15 then alloc (.dcn (mergeN [] ps)) h else .bad
theorem storedH_nd {K : Type} [DecidableEq K] {k : K} {a : Addr} {u : Value} : ∀ {xs : List (K × Addr × Value)}, (xs.map (·.1)).Nodup → ((storedH xs k a u).map (·.1)).Nodup
  | [], _ => by simp [storedH, atKey]
  | x :: xs, nd => by
    rw [storedH_cons nd]
    rw [List.map_cons, List.nodup_cons] at nd
    by_cases e : x.1 = k
    · rw [if_pos e, List.map_cons, List.nodup_cons]
      exact nd
    · rw [if_neg e, List.map_cons, List.nodup_cons]
      refine ⟨?_, storedH_nd nd.2⟩
      intro m
      obtain ⟨y, hy, hz⟩ := List.mem_map.mp m
      unfold storedH at hy
      split at hy
      · obtain ⟨y', hy', rfl⟩ := List.mem_map.mp hy
        refine nd.1 (List.mem_map.mpr ⟨y', hy', ?_⟩)
        rw [← hz]
        unfold putAt
        split <;> rfl
      · rcases List.mem_append.mp hy with hy | hy
        · exact nd.1 (List.mem_map.mpr ⟨y, hy, hz⟩)
        · rw [List.mem_singleton.mp hy] at hz
          exact e hz.symm
theorem RepN.merge {G : GX} {μ : List Addr} {H : Hp} : ∀ {more kvs : List (D × D)} {ms xs : List (NestedKey × Addr × Value)}, RepN G H μ kvs xs → (xs.map (·.1)).Nodup → RepN G H μ more ms → RepN G H μ (mergeN kvs more) (storedAllH xs ms)
  | [], kvs, ms, xs, r, nd, m => by
    have m : ms = [] := m
    subst m
    exact r
  | (k, d) :: t, kvs, ms, xs, r, nd, ⟨k', a', u', v', ys, e1, e2, e3, e4, e5, e6, e7⟩ => by
    subst e1
    show RepN G H μ (mergeN (putN k d kvs) t) (storedAllH (storedH xs k' a' u') ys)
    exact RepN.merge (RepN.put e2 e3 e4 e5 e6 r nd) (storedH_nd nd) e7
theorem pairsN {pins : List (Addr × Obj)} {s : Shared} {σ : L2.St} {H : Hp} {μ : List Addr} (I : Inv X pins σ H s) : ∀ {ps : List (D × D)} {vs : List (V × V)} {us : List (Value × Value)}, RepP (gx X) H μ ps vs → VV vs us → keysN ps = true →
    ∃ xs, CarriesH (nestedKind X.prog X.w) s.heap us xs ∧ RepN (gx X) H μ ps xs
  | [], vs, us, r, rv, _ => by
    have r : vs = [] := r
    subst r
    cases rv
    exact ⟨[], trivial, rfl⟩
  | (k, d) :: t, vs, us, ⟨x, y, vs', e1, e2, e3, e4⟩, rv, hk => by
    subst e1
    cases rv with
    | @cons _ b _ bs h1 h2 =>
      unfold keysN at hk
      rw [List.all_cons, Bool.and_eq_true] at hk
      obtain ⟨xs, c, rn⟩ := pairsN I e4 h2 hk.2
      obtain ⟨ds, key, hd, hk1, hk2⟩ := nkOk_some hk.1
      have hd : k = .tup ds := hd
      subst hd
      have kis := nk_is I _ _ _ _ hk1 e2 h1.1
      obtain ⟨a, ws, rfl, _, _⟩ := id (Rep.tupl e2)
      obtain ⟨b1, b2⟩ := b
      have z : b1 = .ref a := h1.1
      subst z
      exact ⟨(key, a, b2) :: xs, ⟨rfl, rfl, ⟨kis, hk2⟩, c⟩, key, a, b2, y, xs, rfl, hk1, hk2, e2, e3, h1.2, rn⟩
theorem wpAny_Dict_pairsX {prog : Program} {w : World} {K : Type} [DecidableEq K] {knd : HeapKind prog w K} {A : Around} {E : Value → Shared → Prop} {s : Shared} {env : PySem.Env} {keys : List (Option Expr)} {values : List Expr} {pos : Pos} {pairs : List (Sem Value × Sem Value)} {Q : Value → Shared → Prop} (hu : knd.room A)
    (hshape : (evalEachOpt keys env).zip ((evalEach values env).map fun v => do let x ← v; standAt pos; pure x) = pairs.map fun p => (some p.1, p.2)) (h0 : pairs ≠ []) (hlen : pairs.length ≤ 15)
    (h : wpAny (model prog w) A (evalPairs pairs) (fun vs s₁ => ∃ ps, CarriesH knd s₁.heap vs ps ∧ s₁.heap.DictOfH knd s.heap.objs.size [] ∧
      ∀ h' tk, h'.DictOfH knd s.heap.objs.size (storedAllH [] ps) → Heap.SameBut s.heap.objs.size s₁.heap h' → Q (.ref s.heap.objs.size) { s₁ with heap := h', toks := tk }) E
      { s with heap := s.heap.push { cls := .type "dict", data := .dict #[] } }) :
    wpAny (model prog w) A (eval (.Dict keys values pos) env) Q E s := by
  rw [arm_eval_Dict, hshape, dictDisplay_pairs pairs h0 (by omega)]
  exact wpAny_bind (wpAny_standAt (wpAny_bind (wpAny_subDictH (knd := knd) (Q := fun d s' => wpAny (model prog w) A (pure (Value.ref d)) Q E s') hu hlen
    (wpAny_mono h (fun vs s₁ h₁ => by obtain ⟨ps, hc, hm, hq⟩ := h₁; exact ⟨ps, hc, hm, fun h' tk a b => wpAny_pure (hq h' tk a b)⟩) fun _ _ e => e))))
theorem d_dicN {keys : List (Option Expr)} {values : List Expr} {trs : List (DE × DE)} (hu : X.A.units + 65 < cLine) (hp : PPs X pos keys values (trs.map fun p => (TD (gx X) W p.1, TD (gx X) W p.2))) (hall : keys.all (·.isSome) = true) (hl : keys.length = values.length) (h0 : keys ≠ [])
    (h15 : keys.length ≤ 15) : PE X (.Dict keys values pos) (TD (gx X) W (dDicN trs)) := by
  refine ⟨fun pins s σ H Q I q => ?_⟩
  obtain ⟨μ0, env, h0', s0, e0, P⟩ := q
  have hA := I.hok.fresh (Nat.le_refl s.heap.objs.size)
  have I1 := I.laid (a := s.heap.objs.size) (o := .dK []) (h' := s.heap.push { cls := .type "dict", data := .dict #[] }) (t' := s.toks) (fun _ _ q => Heap.get?_push_of_some _ q) (Nat.le_refl _) (dk_empty s.heap I.big)
  have hpt := pairTrees_length keys values X.env pos hall hl
  have room : (nestedKind X.prog X.w).room X.A := by
    show X.A.units + 8 < cLine
    omega
  have x0 : Ex0 μ0 H μ0 (upd H s.heap.objs.size (.dK [])) := Ex0.out fun u z => by rw [hA] at z; cases z
  have xE : Ext μ0 H μ0 (upd H s.heap.objs.size (.dK [])) := Ext.out .refl hA
  have s1 : SRep (gx X) μ0 h0' (upd H s.heap.objs.size (.dK [])) := s0.out (fun u z => by rw [hA] at z; cases z) (s0.not_mem hA)
  refine wpAny_Dict_pairsX (knd := nestedKind X.prog X.w) room (zip_pairTrees keys values X.env pos hall hl) (fun z => by rw [z] at hpt; exact h0 (List.length_eq_zero_iff.mp hpt.symm)) (by rw [hpt]; exact h15) ?_
  unfold dDicN DEn.bind at P
  refine thn (hp.run pins _ σ _ (fun vs H2 => ∃ μ' h' ps, SRep (gx X) μ' h' H2 ∧ Ext μ0 (upd H s.heap.objs.size (.dK [])) μ' H2 ∧ RepP (gx X) H2 μ' ps vs ∧ Post (Rep (gx X)) (gx X) (W σ) μ0 H (if keysN ps = true ∧ ps.length ≤ 15 then alloc (.dcn (mergeN [] ps)) h' else .bad) Q) I1 (pairs_d ⟨μ0, env, h0', s1, e0.ext0 x0, ?_⟩)) ?_
  · cases q : dPairs trs env h0' with
    | bad => rw [q] at P; exact P.elim
    | exc c a h' =>
      rw [q] at P
      exact fun μ' H' s' x' => P μ' H' s' (xE.trans x')
    | ok ps h' =>
      rw [q] at P
      exact fun μ' H' vs s' x' rp => ⟨μ', h', ps, s', x', rp, P⟩
  · rintro us s2 ⟨vs, H2, I2, rel, μ', h', ps, s', x', rp, P⟩
    split at P
    · rename_i hk
      obtain ⟨xs, c, rn⟩ := pairsN I2 rp rel hk.1
      have hm : s.heap.objs.size ∉ μ0 := s0.not_mem hA
      have eA : H2 s.heap.objs.size = some (.dK []) := x'.keep _ _ upd_same hm
      have nA : s.heap.objs.size ∉ μ' := fun m => by
        rcases x'.fresh _ m with z | z
        · exact hm z
        · rw [upd_same] at z; cases z
      obtain ⟨_, zz, vs0, rel0, o, es, ep, ho, hx, hd, hes⟩ := (show ObjOk X.prog X.w H2 s2.heap s.heap.objs.size (.dK []) from I2.hok _ _ eA)
      have hv : vs0 = [] := by
        have := Paired.length rel0
        exact List.eq_nil_of_length_eq_zero this.symm
      subst hv
      have l1 := hes.2.1.length
      have he : es.toList = [] := List.eq_nil_of_length_eq_zero (by simpa using l1)
      refine ⟨xs, c, ⟨o, es, ep, ho, hx, hd, by rw [he]; rfl, by simp, by simp⟩, fun h2 tk dd' hs => ?_⟩
      have he2 : ∃ q, h2.get? s.heap.objs.size = some q := let ⟨q, _, _, hq, _⟩ := dd'; ⟨q, hq⟩
      have I3 := d_write (t' := tk) I2 (by rw [eA]; exact True.intro) hs he2 (nk_new (H' := upd H2 s.heap.objs.size (NkH X.prog X.w s.heap.objs.size (storedAllH [] xs))) dd')
      have mA : ∀ u, H2 s.heap.objs.size = some u → Mut (some u) := fun u z => by rw [eA] at z; cases z; trivial
      have s3 : SRep (gx X) μ' h' (upd H2 s.heap.objs.size (NkH X.prog X.w s.heap.objs.size (storedAllH [] xs))) := s'.out mA nA
      have r2 : RepN (gx X) (upd H2 s.heap.objs.size (NkH X.prog X.w s.heap.objs.size (storedAllH [] xs))) μ' (mergeN [] ps) (storedAllH [] xs) := (RepN.merge (show RepN (gx X) H2 μ' [] [] from rfl) (by simp) rn).ext0 (Ex0.out mA)
      have xf : Ext μ0 H μ' (upd H2 s.heap.objs.size (NkH X.prog X.w s.heap.objs.size (storedAllH [] xs))) := Ext.out (xE.trans x') hA
      refine ⟨.ref s.heap.objs.size, _, I3, rfl, ?_⟩
      refine P (μ' ++ [s.heap.objs.size]) _ (.ref s.heap.objs.size) (s3.adopt nA (show ORep (gx X) _ μ' (.dcn (mergeN [] ps)) s.heap.objs.size from ⟨zz, _, upd_same, r2⟩)) (xf.adopt hA) ?_
      unfold Rep
      exact ⟨s.heap.objs.size, by rw [List.getElem?_append_right (by rw [s3.len]; exact Nat.le_refl _)]; simp [s3.len], rfl⟩
    · exact P.elim
end
end DV
namespace DV
open PySem PySem.Spec PyProof.Rows L2
abbrev NkX := List (NestedKey × Addr × Value)
section
variable {X : Cx} {pins : List (Addr × Obj)} {σ : L2.St} {H : Hp} {s : Shared} {d : Addr} {o : Obj}
theorem frzN {xs : NkX} (I : Inv X pins σ H s) (h : H d = some (.frz o (NkH X.prog X.w d xs))) :
    s.heap.get? d = some o ∧ o.ExactDict ∧ ∃ (es : Array DictEntry) (ep : Nat), o.data = .dict es ep ∧ es.size = xs.length ∧
      ∀ (i : Nat) (k : NestedKey) (q : Addr) (u : Value), xs[i]? = some (k, q, u) → ∃ en : DictEntry, es[i]? = some en ∧ en.key = .ref q := by
  obtain ⟨hd, ⟨o', es, ep, ho, hx, hdt, he, _⟩, _⟩ := (show ObjOk X.prog X.w H s.heap d (.frz o (NkH X.prog X.w d xs)) from I.hok d _ h)
  rw [hd] at ho
  cases ho
  refine ⟨hd, hx, es, ep, hdt, size_of_entries he, fun i k q u e => ?_⟩
  have z := entry_at he i
  rw [e] at z
  exact ⟨_, z, rfl⟩
end
def Itn (P : Program) (w : World) (d : Addr) (o : Obj) (xs : NkX) : It :=
  ⟨fun i H => H d = some (.frz o (NkH P w d xs)) ∧ i < xs.length, fun i H x H' => H' = H ∧ ∃ (k : NestedKey) (q : Addr) (u : Value), xs[i]? = some (k, q, u) ∧ x = .ref q, fun i H => H d = some (.frz o (NkH P w d xs)) ∧ xs.length ≤ i⟩
theorem turn_N {P : Program} {w : World} {K : PySem.W.Frag} {tg : Expr} {d : Addr} {o : Obj} {es : Array DictEntry} {ep : Nat} {xs : NkX} (it : Addr) (hod : o.data = .dict es ep) : Turn P w K tg (Itn P w d o xs) [it] it (fun i h => h.IsKeyIter it d i xs.length ep) where
  mem := by simp
  obj := fun i h st b hb => by
    have e : b = it := by simpa using hb
    subst e
    obtain ⟨oi, e, c, dd⟩ := st
    exact ⟨oi, e, fun v z => by rw [dd] at z; cases z⟩
  keep := fun i h h' st k => st.at fun oi e => k it (by simp) oi e
  item := by
    intro X hP hw hK hc i pins s σ H E I hf st hg
    subst hP hw hK
    obtain ⟨hd, hi⟩ := hg
    obtain ⟨f0, f1, f2, f3, f4, f5⟩ := hf it (by simp)
    obtain ⟨hgd, hx, es', ep', hdt, hsz, ent⟩ := frzN I hd
    obtain ⟨rfl, rfl⟩ := dict_ep hod hdt
    obtain ⟨⟨k, q, u⟩, hkv⟩ : ∃ p, xs[i]? = some p := ⟨xs[i], List.getElem?_eq_getElem hi⟩
    obtain ⟨en, hen, hkey⟩ := ent i k q u hkv
    refine next_key_item st hgd hdt hsz hen fun h' st' sb => ?_
    have I1 : Inv X pins σ H { s with heap := h' } := I.turned (t' := s.toks) (fun b ob hb e => (sb.2 b hb).trans e) f0 f1 f3 f4 f5
    obtain ⟨oi, e, c, dd⟩ := id st'
    exact ⟨en.key, rfl, go_of (s := { s with heap := h' }) e c dd (by decide) ⟨.ref q, H, I1, hkey, ⟨rfl, k, q, u, hkv, rfl⟩, st', fun b hb => (hf b hb).1⟩⟩
  done := by
    intro X hP hw hK hc i pins s σ H E I hf st hg
    subst hP hw hK
    obtain ⟨hd, hi⟩ := hg
    obtain ⟨f0, f1, f2, f3, f4, f5⟩ := hf it (by simp)
    obtain ⟨hgd, hx, es', ep', hdt, hsz, ent⟩ := frzN I hd
    obtain ⟨rfl, rfl⟩ := dict_ep hod hdt
    exact next_key_end (I.ok.hd hc) st hgd hdt hsz hi fun h' eb => ⟨rfl, I.turned (t' := s.toks) (fun b ob hb e => eb b ob hb e) f0 f1 f3 f4 f5⟩
  self := fun A i s Q E st h => by
    refine wpAny_pyIter_slot st.typeIs F.slot_dict_keyiterator_iter (wpAny_call_entry F.slot_dict_keyiterator_iter st.typeIs F.entry_dict_keyiterator_iter ?_ (F.args_dict_keyiterator_iter_1 _))
    show wpAny _ _ (ret (.ref it)) _ _ s
    exact wpAny_pure ⟨_, rfl, "dict_keyiterator", _, st.typeIs, F.slot_dict_keyiterator_next.lookup, h⟩
/-- the keys of the locked dict -/
def lckK (d : D) (h : DH) : R IS := match d with
  | .ref n => match h[n]? with
    | some (.lck kvs) => .ok (.items (kvs.map (·.1))) h
    | _ => .bad
  | _ => .bad
def iLck (m : DE) : DEn IS := m.bind fun d _ h => lckK d h
theorem RepN.at {G : GX} {μ : List Addr} {H : Hp} : ∀ {kvs : List (D × D)} {xs : NkX}, RepN G H μ kvs xs → ∀ {i : Nat} {d : D} {k : NestedKey} {q : Addr} {u : Value}, (kvs.map (·.1))[i]? = some d → xs[i]? = some (k, q, u) → Rep G H μ d (.ref q)
  | [], xs, r, i, d, k, q, u, e1, e2 => by simp at e1
  | p :: t, xs, ⟨k', a', u', v', ys, e1, e2, e3, e4, e5, e6, e7⟩, i, d, k, q, u, h1, h2 => by
    subst e1
    cases i with
    | zero =>
      simp at h1 h2
      obtain ⟨rfl, rfl, rfl⟩ := h2
      subst h1
      exact e4
    | succ i => exact RepN.at e7 (by simpa using h1) (by simpa using h2)
section
variable {X : Cx} {W : XWS} {e tg : Expr} {m : DE}
theorem i_lck (he : PE X e (TD (gx X) W m)) : PI X tg e (TDI (gx X) W (iLck m)) := by
  refine ⟨fun pins s σ H R I h => ?_⟩
  have q := TG'.split (rel := Rep (gx X)) (k := fun d _ h => lckK d h) h
  refine thn (he.run pins s σ H _ I q) fun u s1 ⟨x, H1, I1, rx, μ1, d, env, h1, S1, E1, R1, P1⟩ => ?_
  cases d with
  | ref n =>
    have P1 : Post (relI (gx X)) (gx X) (W σ) μ1 H1 (match h1[n]? with
      | some (.lck kvs) => .ok (.items (kvs.map (·.1))) h1
      | _ => .bad) R := P1
    split at P1
    · rename_i kvs e'
      obtain ⟨a, ea, rfl⟩ := R1.ref
      obtain rfl : u = Value.ref a := rx
      obtain ⟨z, o, xs, e1, rn⟩ := S1.ob n _ a e' ea
      have e1 : H1 a = some (.frz o (NkH X.prog X.w a xs)) := e1
      obtain ⟨hgd, hx, es, ep, hdt, hsz, ent⟩ := frzN I1 e1
      refine iter_keys z hgd hx hdt (pi_one (tk := s1.toks) I1 _ (turn_N (xs := xs) _ hdt) ⟨_, Heap.get?_push_size _ rfl, rfl, ?_⟩ (P1 μ1 H1 (Itn X.prog X.w a o xs) S1 .refl ?_))
      · rw [hsz] <;> rfl
      · have hl : (kvs.map (·.1)).length = xs.length := by rw [List.length_map, rn.length]
        refine ⟨fun i μ H x li => ⟨x.frz _ _ _ e1, by rw [← hl]; exact li⟩, fun i μ h H d x H' xe S hd hy => ?_, fun i μ H x li => ⟨x.frz _ _ _ e1, by rw [← hl]; exact li⟩⟩
        obtain ⟨rfl, k, q, u, hq, rfl⟩ := hy
        exact ⟨S, .refl, (rn.at hd hq).ext xe⟩
    · exact P1.elim
  | _ => exact P1.elim
/-- behind the loop the dict is as it was -/
def unlk (n : Nat) (r : SR) : SR := match r with
  | .nx e h => match h[n]? with
    | some (.lck kvs) => .nx e (h.set n (.dcn kvs))
    | _ => .bad
  | .rt d h => match h[n]? with
    | some (.lck kvs) => .rt d (h.set n (.dcn kvs))
    | _ => .bad
  | .exc c a e h => .exc c a e h
  | _ => .bad
def sForN (f i : Nat) (g : AG) (m : SD) : SD := fun env h => match env[i]? with
  | some (some (.ref n)) => match h[n]? with
    | some (.dcn kvs) => unlk n (sFor f (iLck (dVar i)) g m env (h.set n (.lck kvs)))
    | _ => .bad
  | _ => .bad
theorem lock_ext {μ μ' : List Addr} {H H' : Hp} {a : Addr} {u w : HO} (m : a ∈ μ) (eH : H a = some u) (mu : Mut (some u)) (x : Ext μ H μ' H') : Ext μ H μ' (upd H' a w) where
  pre := x.pre
  keep := fun b v q n => by
    rw [upd_ne fun z => n (by rw [z]; exact m)]
    exact x.keep b v q n
  fresh := x.fresh
  tup := fun b xs q => by
    rw [upd_ne]
    · exact x.tup b xs q
    · rintro rfl
      rw [eH] at q
      cases q
      exact mu
  frz := fun b o v q => by
    rw [upd_ne]
    · exact x.frz b o v q
    · rintro rfl
      rw [eH] at q
      cases q
      exact mu
/-- unlocking -/
theorem SRep.unlock {G : GX} {μ : List Addr} {h : DH} {H : Hp} {n : Nat} {a : Addr} {kvs : List (D × D)} {od : Obj} {xs0 : NkX} (S : SRep G μ h H) (e : h[n]? = some (.lck kvs)) (ea : μ[n]? = some a) (eH : H a = some (.frz od (NkH G.P G.w a xs0))) : SRep G μ (h.set n (.dcn kvs)) (upd H a (NkH G.P G.w a xs0)) := by
  obtain ⟨z, o, xs, e1, rn⟩ := S.ob n _ a e ea
  rw [eH] at e1
  injection e1 with e1
  injection e1 with e2 e3
  have x0 : Ex0 μ H μ (upd H a (NkH G.P G.w a xs0)) := by
    refine ⟨⟨[], by simp⟩, fun b ys q => ?_, fun b o' v q nv => ?_⟩
    · rw [upd_ne]
      · exact q
      · rintro rfl
        rw [eH] at q
        cases q
    · rw [upd_ne]
      · exact q
      · rintro rfl
        rw [eH] at q
        cases q
        exact nv _ rfl
  refine ⟨by simp [S.len], S.nd, fun k o' b q1 q2 => ?_⟩
  by_cases hk : k = n
  · subst hk
    rw [ea] at q2; cases q2
    have hl : k < h.length := by
      have := (List.getElem?_eq_some_iff.mp q1).1
      simpa using this
    rw [List.getElem?_set_self hl] at q1; cases q1
    refine ⟨z, xs, ?_, rn.ext0 x0⟩
    rw [upd_same, e3]
  · rw [List.getElem?_set_ne (Ne.symm hk)] at q1
    refine (S.ob k o' b q1 q2).ext0 x0 (upd_ne ?_)
    rintro rfl
    exact hk (SRep.write.nodup_idx S.nd q2 ea)
end
section
variable {X : Cx} {W : XWS} {tg : Expr} {g : AG} {is : List Nat} {body : List Stmt} {m : SD} {f i : Nat} {pos p : Pos} {x : Str}
theorem s_forN (hp : PassesOwn (model X.prog X.w) X.A X.env X.xe) (hc : X.calm = true) (hi : PE X (.Name x p) (TD (gx X) W (dVar i))) (hg : PG X tg (TGD (gx X) is g)) (hb : PSs X body (TDS (gx X) W m))
    (hs : ∀ y, foldedSetIterable (.Name x p) X.env y = pure y) : PS X (.For tg (.Name x p) body [] pos) (TDS (gx X) W (sForN f i g m)) := by
  refine (ps_lock (s_for (f := f) hp hc (i_lck hi) hg hb hs)).weak fun E σ H ⟨μ, env, h, S, er, P⟩ => ?_
  unfold sForN at P
  split at P
  · rename_i n en
    split at P
    · rename_i kvs e
      obtain ⟨a, ea⟩ : ∃ a, μ[n]? = some a := by
        have hn := (List.getElem?_eq_some_iff.mp e).1
        exact ⟨μ[n]'(by rw [S.len]; exact hn), List.getElem?_eq_getElem _⟩
      obtain ⟨z, xs, eH, rn⟩ := S.ob n _ a e ea
      have eH : H a = some (NkH X.prog X.w a xs) := eH
      refine ⟨a, _, eH, trivial, fun od => ?_⟩
      have xw : Ext μ H μ (upd H a (.frz od (NkH X.prog X.w a xs))) := Ext.write S e ea rfl
      have S1 : SRep (gx X) μ (h.set n (.lck kvs)) (upd H a (.frz od (NkH X.prog X.w a xs))) := S.write e rfl ea ⟨z, od, xs, upd_same, rn.ext0 xw.x0⟩
      refine ⟨μ, env, _, S1, er.ext xw, ?_⟩
      have back : ∀ {μ' : List Addr} {h' : DH} {H' : Hp} {kvs' : List (D × D)}, SRep (gx X) μ' h' H' → Ext μ (upd H a (.frz od (NkH X.prog X.w a xs))) μ' H' → h'[n]? = some (.lck kvs') →
          H' a = some (.frz od (NkH X.prog X.w a xs)) ∧ SRep (gx X) μ' (h'.set n (.dcn kvs')) (upd H' a (NkH X.prog X.w a xs)) ∧ Ext μ H μ' (upd H' a (NkH X.prog X.w a xs)) ∧ Ex0 μ' H' μ' (upd H' a (NkH X.prog X.w a xs)) := by
        intro μ' h' H' kvs' S' x' e'
        have q : H' a = some (.frz od (NkH X.prog X.w a xs)) := x'.frz _ _ _ upd_same
        refine ⟨q, S'.unlock e' (pre_get x'.pre ea) q, lock_ext (List.mem_of_getElem? ea) eH trivial (xw.trans x'), ⟨[], by simp⟩, fun b ys w => ?_, fun b o' v w nv => ?_⟩
        · rw [upd_ne]
          · exact w
          · rintro rfl
            rw [q] at w
            cases w
        · rw [upd_ne]
          · exact w
          · rintro rfl
            rw [q] at w
            cases w
            exact absurd rfl (nv _)
      cases r : sFor f (iLck (dVar i)) g m env (h.set n (.lck kvs)) with
      | nx e1 h1 =>
        rw [r] at P
        intro μ' H' σ' S' x' er'
        unfold unlk at P
        simp only at P
        split at P
        · rename_i kvs' e'
          obtain ⟨b1, b2, b3, b4⟩ := back S' x' e'
          exact ⟨b1, P μ' _ σ' b2 b3 (er'.ext0 b4)⟩
        · exact P.elim
      | rt d1 h1 =>
        rw [r] at P
        intro μ' H' v S' x' rv
        unfold unlk at P
        simp only at P
        split at P
        · rename_i kvs' e'
          obtain ⟨b1, b2, b3, b4⟩ := back S' x' e'
          exact ⟨b1, P μ' _ v b2 b3 (rv.ext0 b4)⟩
        · exact P.elim
      | exc c a1 e1 h1 =>
        rw [r] at P
        exact fun μ' H' σ' S' x' er' => P μ' H' σ' S' (xw.trans x') er'
      | bk e1 h1 => rw [r] at P; exact P.elim
      | ct e1 h1 => rw [r] at P; exact P.elim
      | bad => rw [r] at P; exact P.elim
    · exact P.elim
  · exact P.elim
end
end DV
namespace DV
open PySem PySem.Spec PyProof.Rows L2
def extendM : DM
  | .ref n, [.ref m], h => match h[n]?, h[m]? with
    | some (.lst xs), some (.lst zs) => if xs.length + zs.length ≤ big then .ok .non (h.set n (.lst (xs ++ zs))) else .bad
    | _, _ => .bad
  | _, _, _ => .bad
def indexM : DM
  | .ref n, [d], h => match toPy h 60 (.ref n), toPy h 60 d with
    | some (.list ps), some p => if SeqAt.shaped (.list ps) = true ∧ SeqAt.shaped p = true then (match ps.findIdx? (fun z => PyData.eqv z p) with
      | some j => .ok (.int (j : Nat)) h
      | none => .bad) else .bad
    | _, _ => .bad
  | _, _, _ => .bad
section
variable {X : Cx} {W : XW}
theorem m_extend : MtR X "list.extend" (rMD (gx X) W extendM) := by
  intro pins s σ H x xs v us Q I rx rxs ⟨μ, h, d, ds, S, r, rl, P⟩
  unfold extendM at P
  split at P
  · rename_i h n m
    obtain ⟨a, ea, rfl⟩ := r.ref
    obtain ⟨yv, rfl, ry⟩ := rl.one
    obtain ⟨b, eb, rfl⟩ := ry.ref
    split at P
    · rename_i es zs e e2
      split at P
      · rename_i hl
        obtain ⟨vs, q1, l1⟩ := S.list e ea
        obtain ⟨ws, q2, l2⟩ := S.list e2 eb
        refine mt_extend pins s σ H _ _ v us Q I rx rxs ⟨a, b, vs, ws, rfl, rfl, q1, q2, by rw [l1.length, l2.length, big_eq]; exact hl, ?_⟩
        refine P μ _ .non (S.write e rfl ea (o := .lst (es ++ zs)) ⟨_, upd_same, ?_⟩) (Ext.write S e ea rfl) (by unfold Rep; rfl)
        exact (l1.ext (Ext.write S e ea rfl)).append (l2.ext (Ext.write S e ea rfl))
      · exact P.elim
    · exact P.elim
  · exact P.elim
theorem m_index (hu : X.A.units + 65 < cLine) : MtR X "list.index" (rMD (gx X) W indexM) := by
  intro pins s σ H x xs v us Q I rx rxs ⟨μ, h, d, ds, S, r, rl, P⟩
  unfold indexM at P
  split at P
  · rename_i h n y
    obtain ⟨a, ea, rfl⟩ := id r.ref
    obtain ⟨yv, rfl, ry⟩ := rl.one
    split at P
    · rename_i ps p e1 e2
      split at P
      · rename_i hs
        split at P
        · rename_i j hj
          obtain ⟨hlt, hp, hno⟩ := List.findIdx?_eq_some_iff_getElem.mp hj
          refine mt_indexD hu pins s σ H _ _ v us Q I rx rxs ⟨a, yv, p, ps, j, ps[j], rfl, rfl, toPy_ok S _ _ _ _ e1 r, toPy_ok S _ _ _ _ e2 ry, hs.1, hs.2, List.getElem?_eq_getElem hlt, hp, ?_, P.now S (by unfold Rep; rfl)⟩
          intro m z' hm hz
          obtain ⟨hl2, e3⟩ := List.getElem?_eq_some_iff.mp hz
          have := hno m hm
          rw [e3] at this
          simpa using this
        · exact P.elim
      · exact P.elim
    · exact P.elim
  · exact P.elim
end
end DV
namespace DV
open PySem L2
section
variable {α β : Type} {env : Env} {h h1 : DH}
theorem R.bind_ok {a : α} {k : α → DH → R β} : (R.ok a h).bind k = k a h := (rfl)
theorem R.bind_exc {c : Nat} {a : List D} {k : α → DH → R β} : (R.exc c a h : R α).bind k = .exc c a h := (rfl)
theorem R.toS_ok {a : α} {k : α → DH → SR} : (R.ok a h).toS env k = k a h := (rfl)
theorem R.toS_exc {c : Nat} {a : List D} {k : α → DH → SR} : (R.exc c a h : R α).toS env k = .exc c a env h := (rfl)
theorem DEn.bind_run {m : DEn α} {k : α → DEn β} : DEn.bind m k env h = (m env h).bind fun d h1 => k d env h1 := (rfl)
theorem sSeq_run {m1 m2 : SD} : sSeq m1 m2 env h = (match m1 env h with | .nx env1 h1 => m2 env1 h1 | r => r) := (rfl)
theorem sNil_run : sNil env h = .nx env h := (rfl)
theorem sRet_run {m : DE} : sRet m env h = (m env h).toS env fun d h1 => .rt d h1 := (rfl)
theorem sExpr_run {m : DE} : sExpr m env h = (m env h).toS env fun _ h1 => .nx env h1 := (rfl)
theorem sIf_run {tb : DEn Bool} {m1 m2 : SD} : sIf tb m1 m2 env h = (tb env h).toS env fun k h1 => if k = true then m1 env h1 else m2 env h1 := (rfl)
theorem dCst_run {d : D} : dCst d env h = .ok d h := (rfl)
theorem dNil_run : dNil env h = .ok [] h := (rfl)
theorem truD_bl {b : Bool} : truD (.bl b) h = .ok b h := (rfl)
theorem truD_non : truD .non h = .ok false h := (rfl)
theorem truD_int {i : Int} : truD (.int i) h = .ok (i != 0) h := (rfl)
theorem truD_tup {ds : List D} : truD (.tup ds) h = .ok (!ds.isEmpty) h := (rfl)
/-- isinstance(d, T), heap-free -/
def isTy (d : D) (c : String) : Bool := match d with
  | .non => false
  | .bl _ => c == "bool" || c == "int"
  | .int _ => c == "int"
  | .str _ => c == "str"
  | .tup _ => c == "tuple"
  | .frz _ => c == "list"
  | .ref _ => c == "list"
  | _ => false
theorem isiF_run {d : D} {c t : String} (ht : tyN d h = some t) (hc : c = "int" ∨ c = "bool" ∨ c = "str" ∨ c = "tuple" ∨ c = "list") : isiF [d, .ty c] h = .ok (.bl (isTy d c)) h := by
  have key : ∀ t c : String, (t = "NoneType" ∨ t = "bool" ∨ t = "int" ∨ t = "str" ∨ t = "tuple" ∨ t = "list") → (c = "int" ∨ c = "bool" ∨ c = "str" ∨ c = "tuple" ∨ c = "list") → kitB t c = some (c == t || (c == "int" && t == "bool")) := by
    intro t c h1 h2
    rcases h1 with rfl | rfl | rfl | rfl | rfl | rfl <;> rcases h2 with rfl | rfl | rfl | rfl | rfl <;> decide +kernel
  have tt : (t = "NoneType" ∨ t = "bool" ∨ t = "int" ∨ t = "str" ∨ t = "tuple" ∨ t = "list") ∧ (c == t || (c == "int" && t == "bool")) = isTy d c := by
    cases d <;> simp only [tyN, Option.some.injEq] at ht
    case ref n =>
      split at ht
      · cases ht
        refine ⟨by simp, ?_⟩
        rcases hc with rfl | rfl | rfl | rfl | rfl <;> simp [isTy]
      · cases ht
    all_goals first | (cases ht; refine ⟨by simp, ?_⟩; rcases hc with rfl | rfl | rfl | rfl | rfl <;> simp [isTy]) | cases ht
  unfold isiF
  simp only [ht, key t c tt.1 hc, tt.2]
end
theorem eqB_int {neg : Bool} {i j : Int} {h : DH} : eqB neg (.int i) (.int j) h = .ok (.bl (if neg then !decide (i = j) else decide (i = j))) h := by
  have e : PyData.eqv (.int i) (.int j) = decide (i = j) := by
    show (i == j) = _
    by_cases z : i = j <;> simp [z]
  simp [eqB, eqB0, toPy, e, SeqAt.shaped, PyData.canLay0, PyData.depth]
theorem sOf_iff {s t : Txt} : sOf s = sOf t ↔ s = t := by
  constructor
  · intro e
    have e2 := congrArg (fun z : Str => z.cps.toList) e
    simpa [sOf] using e2
  · intro e
    rw [e]
theorem eqB_str {neg : Bool} {s t : Txt} {h : DH} : eqB neg (.str s) (.str t) h = .ok (.bl (if neg then !decide (s = t) else decide (s = t))) h := (rfl)
section
variable {env env1 : Env} {h h1 : DH} {m1 m2 : SD} {d : D}
theorem blD_bl {b : Bool} : blD (.bl b) h = .ok b h := (rfl)
theorem seq_nx (e : m1 env h = .nx env1 h1) : sSeq m1 m2 env h = m2 env1 h1 := by rw [sSeq_run, e]
theorem seq_rt (e : m1 env h = .rt d h1) : sSeq m1 m2 env h = .rt d h1 := by rw [sSeq_run, e]
theorem seq_exc {c : Nat} {a : List D} (e : m1 env h = .exc c a env1 h1) : sSeq m1 m2 env h = .exc c a env1 h1 := by rw [sSeq_run, e]
theorem if_t {tb : DEn Bool} (e : tb env h = .ok true h1) : sIf tb m1 m2 env h = m1 env h1 := by rw [sIf_run, e, R.toS_ok, if_pos rfl]
theorem if_f {tb : DEn Bool} (e : tb env h = .ok false h1) : sIf tb m1 m2 env h = m2 env h1 := by rw [sIf_run, e, R.toS_ok, if_neg (by decide)]
theorem run_rt {n N : Nat} {m : SD} {as : List D} (hl : as.length = n) (e : m (as.map some ++ List.replicate (N - n) none) h = .rt d h1) : runB n N m as h = .ok d h1 := by
  unfold runB
  rw [if_pos hl, e]
theorem run_exc {n N c : Nat} {m : SD} {as a : List D} (hl : as.length = n) (e : m (as.map some ++ List.replicate (N - n) none) h = .exc c a env1 h1) : runB n N m as h = .exc c a h1 := by
  unfold runB
  rw [if_pos hl, e]
theorem ret_rt {m : DE} (e : m env h = .ok d h1) : sRet m env h = .rt d h1 := by rw [sRet_run, e, R.toS_ok]
theorem asg_nx {m : DE} {g : AG} (e : m env h = .ok d h1) (hg : g d env = some env1) : sAsg m g env h = .nx env1 h1 := by
  unfold sAsg
  rw [e, R.toS_ok]
  show (match g d env with | some env1 => SR.nx env1 h1 | none => .bad) = _
  rw [hg]
end
theorem lcS_pure {g : AG} {tt : DEn Bool} {te : DE} {env : Env} {h : DH} {e : D → Env} {p : D → Bool} {q : D → D} : ∀ {ds : List D}, (∀ d ∈ ds, g d env = some (e d) ∧ tt (e d) h = .ok (p d) h ∧ (p d = true → te (e d) h = .ok (q d) h)) → lcS g tt te env ds h = .ok ((ds.filter p).map q) h
  | [], _ => rfl
  | d :: ds, hd => by
    obtain ⟨h1, h2, h3⟩ := hd d List.mem_cons_self
    have ih := lcS_pure (ds := ds) fun d' m => hd d' (List.mem_cons_of_mem _ m)
    unfold lcS
    simp only [h1, h2, R.noX, R.bind_ok]
    cases hp : p d with
    | true => simp [h3 hp, R.noX, R.bind_ok, ih, hp]
    | false => simp [ih, hp]
/-- a list display of what stands -/
theorem alloc_run {o : DO} {h : DH} : alloc o h = .ok (.ref h.length) (h ++ [o]) := (rfl)
theorem bls_all {p : D → Bool} : ∀ ds : List D, bls (ds.map fun d => .bl (p d)) = some (ds.map p)
  | [] => rfl
  | d :: ds => by
    simp [bls, bls_all ds]
section
variable {env : Env} {h h1 h2 : DH} {ma mb : DE} {ml : DEn (List D)} {d : D} {ds : List D} {g : DF}
theorem and_t (e : ma env h = .ok (.bl true) h1) : dAnd ma mb env h = mb env h1 := by
  unfold dAnd
  rw [DEn.bind_run, e, R.bind_ok]
  rfl
theorem and_f (e : ma env h = .ok (.bl false) h1) : dAnd ma mb env h = .ok (.bl false) h1 := by
  unfold dAnd
  rw [DEn.bind_run, e, R.bind_ok]
  rfl
theorem call_run (e : ml env h = .ok ds h1) : dCall ml g env h = g ds h1 := by
  unfold dCall
  rw [DEn.bind_run, e, R.bind_ok]
theorem cons_run (e : ma env h = .ok d h1) (e2 : ml env h1 = .ok ds h2) : dCons ma ml env h = .ok (d :: ds) h2 := by
  unfold dCons
  rw [DEn.bind_run, e, R.bind_ok]
  show (ml env h1).bind _ = _
  rw [e2, R.bind_ok]
theorem var_run {i : Nat} (e : env[i]? = some (some d)) : dVar i env h = .ok d h := by
  unfold dVar
  rw [e]
end
end DV
namespace DV
open PySem L2
/-- a mark that keeps simp out of what comes behind -/
structure Tg {α : Sort u} (a : α) : Type where
structure Tg2 {α : Sort u} {β : Sort v} (a : α) (b : β) : Type where
abbrev XQ := Nat → List D → DH → Prop
def wE {α : Type} (r : R α) (Q : α → DH → Prop) (X : XQ) (_t : Tg2 Q X) : Prop := match r with
  | .ok a h => Q a h
  | .exc c a h => X c a h
  | .bad => False
structure PQ where
  nx : Env → DH → Prop
  rt : D → DH → Prop
  bk : Env → DH → Prop
  ct : Env → DH → Prop
  xc : Nat → List D → Env → DH → Prop
def wS (r : SR) (Q : PQ) (_t : Tg Q) : Prop := match r with
  | .nx e h => Q.nx e h
  | .rt d h => Q.rt d h
  | .bk e h => Q.bk e h
  | .ct e h => Q.ct e h
  | .exc c a e h => Q.xc c a e h
  | .bad => False
def wG (o : Option Env) (K : Env → DH → Prop) (h : DH) (_t : Tg2 K h) : Prop := match o with
  | some e => K e h
  | none => False
section
variable {α β : Type} {Q : α → DH → Prop} {Q' : β → DH → Prop} {X : XQ} {env : Env} {h : DH}
theorem wE_ok {a : α} {t : Tg2 Q X} : wE (.ok a h) Q X t = Q a h := (rfl)
theorem wE_exc {c : Nat} {a : List D} {t : Tg2 Q X} : wE (.exc c a h) Q X t = X c a h := (rfl)
theorem wE_bad {t : Tg2 Q X} : wE .bad Q X t = False := (rfl)
theorem wE_bind {r : R α} {k : α → DH → R β} {t : Tg2 Q' X} : wE (r.bind k) Q' X t = wE r (fun a h => wE (k a h) Q' X ⟨⟩) X ⟨⟩ := by cases r <;> rfl
theorem wE_dbind {m : DEn α} {k : α → DEn β} {t : Tg2 Q' X} : wE ((m.bind k) env h) Q' X t = wE (m env h) (fun a h => wE (k a env h) Q' X ⟨⟩) X ⟨⟩ := wE_bind
theorem wE_cg {r : R α} {Q1 : α → DH → Prop} {t : Tg2 Q X} {t1 : Tg2 Q1 X} (e : ∀ a h, Q a h = Q1 a h) : wE r Q X t = wE r Q1 X t1 := by
  cases r with
  | ok a h => exact e a h
  | exc c a h => rfl
  | bad => rfl
theorem wE_noX {r : R α} {t : Tg2 Q X} : wE r.noX Q X t = wE r Q (fun _ _ _ => False) ⟨⟩ := by cases r <;> rfl
theorem wE_mono {r : R α} {Q1 : α → DH → Prop} {X1 : XQ} {t : Tg2 Q X} {t1 : Tg2 Q1 X1} (e : wE r Q1 X1 t1) (m : ∀ a h, Q1 a h → Q a h) (n : ∀ c a h, X1 c a h → X c a h) : wE r Q X t := by
  cases r with
  | ok a h => exact m a h e
  | exc c a h => exact n c a h e
  | bad => exact e
/-- without exceptions -/
abbrev Ok (r : R α) (Q : α → DH → Prop) : Prop := wE r Q (fun _ _ _ => False) ⟨⟩
theorem wE_of {r : R α} {Q1 : α → DH → Prop} {t : Tg2 Q X} (e : Ok r Q1) (m : ∀ a h, Q1 a h → Q a h) : wE r Q X t := wE_mono e m fun _ _ _ f => f.elim
theorem Ok.eq {r : R α} (e : Ok r Q) : ∃ a h, r = .ok a h ∧ Q a h := by
  cases r with
  | ok a h => exact ⟨a, h, rfl, e⟩
  | exc c a h => exact e.elim
  | bad => exact e.elim
theorem Ok.mono {r : R α} {Q1 : α → DH → Prop} (e : Ok r Q1) (m : ∀ a h, Q1 a h → Q a h) : Ok r Q := wE_of e m
theorem Ok.of {r : R α} {a : α} (e : r = .ok a h) (q : Q a h) : Ok r Q := by subst e; exact q
end
section
variable {Q : PQ} {env : Env} {h : DH} {t : Tg Q} {m m1 m2 : SD} {ma : DE}
theorem wS_mono {r : SR} {Q1 : PQ} {t : Tg Q} {t1 : Tg Q1} (e : wS r Q1 t1) (a : ∀ e h, Q1.nx e h → Q.nx e h) (b : ∀ d h, Q1.rt d h → Q.rt d h) (c : ∀ e h, Q1.bk e h → Q.bk e h) (d : ∀ e h, Q1.ct e h → Q.ct e h) (f : ∀ c a e h, Q1.xc c a e h → Q.xc c a e h) : wS r Q t := by
  cases r with
  | nx e h => exact a _ _ ‹_›
  | rt d h => exact b _ _ ‹_›
  | bk e h => exact c _ _ ‹_›
  | ct e h => exact d _ _ ‹_›
  | exc c a e h => exact f _ _ _ _ ‹_›
  | bad => exact e
theorem wS_toS {α : Type} {r : R α} {k : α → DH → SR} : wS (r.toS env k) Q t = wE r (fun a h => wS (k a h) Q ⟨⟩) (fun c a h => Q.xc c a env h) ⟨⟩ := by cases r <;> rfl
theorem wS_seq : wS (sSeq m1 m2 env h) Q t = wS (m1 env h) ⟨fun e h => wS (m2 e h) Q ⟨⟩, Q.rt, Q.bk, Q.ct, Q.xc⟩ ⟨⟩ := by
  rw [sSeq_run]
  cases m1 env h <;> rfl
theorem wS_nil : wS (sNil env h) Q t = Q.nx env h := (rfl)
theorem wS_pass : wS (sPass env h) Q t = Q.nx env h := (rfl)
theorem wS_break : wS (sBreak env h) Q t = Q.bk env h := (rfl)
theorem wS_cont : wS (sCont env h) Q t = Q.ct env h := (rfl)
theorem wS_expr : wS (sExpr ma env h) Q t = wE (ma env h) (fun _ h => Q.nx env h) (fun c a h => Q.xc c a env h) ⟨⟩ := wS_toS
theorem wS_ret : wS (sRet ma env h) Q t = wE (ma env h) (fun d h => Q.rt d h) (fun c a h => Q.xc c a env h) ⟨⟩ := wS_toS
theorem wS_retN : wS (sRetN env h) Q t = Q.rt .non h := (rfl)
theorem wS_if {tb : DEn Bool} : wS (sIf tb m1 m2 env h) Q t = wE (tb env h) (fun k h => if k = true then wS (m1 env h) Q ⟨⟩ else wS (m2 env h) Q ⟨⟩) (fun c a h => Q.xc c a env h) ⟨⟩ := by
  unfold sIf
  rw [wS_toS]
  refine wE_cg fun k h => ?_
  cases k <;> rfl
theorem wG_some {K : Env → DH → Prop} {e : Env} {t : Tg2 K h} : wG (some e) K h t = K e h := (rfl)
theorem wG_none {K : Env → DH → Prop} {t : Tg2 K h} : wG none K h t = False := (rfl)
theorem wS_asg {g : AG} : wS (sAsg ma g env h) Q t = wE (ma env h) (fun d h => wG (g d env) Q.nx h ⟨⟩) (fun c a h => Q.xc c a env h) ⟨⟩ := by
  unfold sAsg
  rw [wS_toS]
  refine wE_cg fun d h => ?_
  cases g d env <;> rfl
theorem wS_par {is : List Nat} {ml : DEn (List D)} : wS (sPar is ml env h) Q t = wE (ml env h) (fun ds h => ds.length = is.length ∧ wG (some (setAll is ds env)) Q.nx h ⟨⟩) (fun c a h => Q.xc c a env h) ⟨⟩ := by
  unfold sPar
  rw [wS_toS]
  refine wE_cg fun d h => ?_
  unfold sParK
  by_cases z : d.length = is.length
  · rw [if_pos z]; simp [z, wS, wG]
  · rw [if_neg z]; simp [z, wS]
theorem wS_set {mo mi mv : DE} : wS (sSet mo mi mv env h) Q t = wE (mv env h) (fun v h => wE (mo env h) (fun o h => wE (mi env h) (fun i h => wE (setD o i v h) (fun _ h => Q.nx env h) (fun c a h => Q.xc c a env h) ⟨⟩) (fun c a h => Q.xc c a env h) ⟨⟩) (fun c a h => Q.xc c a env h) ⟨⟩) (fun c a h => Q.xc c a env h) ⟨⟩ := by
  unfold sSet
  rw [wS_toS]
  refine wE_cg fun v h => ?_
  rw [wS_toS]
  refine wE_cg fun o h => ?_
  rw [wS_toS]
  refine wE_cg fun i h => ?_
  rw [wS_toS]
  rfl
theorem wS_raise {c n : Nat} {ml : DEn (List D)} : wS (sRaise c n ml env h) Q t = wE (ml env h) (fun ds h => ds.length = n ∧ Q.xc c ds env h) (fun c a h => Q.xc c a env h) ⟨⟩ := by
  unfold sRaise
  rw [wS_toS]
  refine wE_cg fun ds h => ?_
  by_cases z : ds.length = n
  · rw [if_pos z]; simp [z, wS]
  · rw [if_neg z]; simp [z, wS]
theorem wS_try {mb : SD} {N c0 n i : Nat} {els : List SufE} : wS (sTry mb N c0 n i els env h) Q t = wS (mb env h) ⟨Q.nx, Q.rt, Q.bk, Q.ct, fun c a e h => c < N ∧ (if c = c0 then (∃ ds, sufD a els = some ds ∧ ds.length < big ∧ a.length = n ∧ i < e.length ∧ Q.rt (.tup ds) h) else Q.xc c a e h)⟩ ⟨⟩ := by
  unfold sTry
  cases mb env h with
  | exc c a e h =>
    show wS (if c < N then (if c = c0 then _ else _) else _) Q t = (c < N ∧ _)
    by_cases z : c < N
    · rw [if_pos z]
      by_cases y : c = c0
      · rw [if_pos y]
        simp only [z, true_and]
        rw [if_pos y]
        cases sufD a els with
        | none => simp [wS]
        | some ds =>
          show wS (if _ then _ else _) Q t = _
          by_cases x : ds.length < big ∧ a.length = n ∧ i < e.length
          · rw [if_pos x]
            simp [x, wS]
          · rw [if_neg x]
            simp only [wS, Option.some.injEq]
            apply Eq.symm
            simp only [eq_iff_iff, iff_false]
            rintro ⟨ds', rfl, p, q, r, _⟩
            exact x ⟨p, q, r⟩
      · rw [if_neg y]
        simp only [z, true_and]
        rw [if_neg y]
        rfl
    · rw [if_neg z]
      simp [z, wS]
  | _ => rfl
/-- a def by its body -/
theorem wE_run {n N : Nat} {as : List D} {Q : D → DH → Prop} {X : XQ} {t : Tg2 Q X} (hl : as.length = n) : wE (runB n N m as h) Q X t = wS (m (as.map some ++ List.replicate (N - n) none) h) ⟨fun _ h => Q .non h, Q, fun _ _ => False, fun _ _ => False, fun c a _ h => X c a h⟩ ⟨⟩ := by
  unfold runB
  rw [if_pos hl]
  cases m (as.map some ++ List.replicate (N - n) none) h <;> rfl
end
section
variable {α : Type} {Q : D → DH → Prop} {QL : List D → DH → Prop} {QB : Bool → DH → Prop} {X : XQ} {env : Env} {h : DH} {ma mb mc : DE} {ml mk : DEn (List D)} {ta tb : DEn Bool} {d : D}
theorem u_var {i : Nat} {t : Tg2 Q X} (e : env[i]? = some (some d)) : wE (dVar i env h) Q X t = Q d h := by
  unfold dVar
  rw [e]
  rfl
theorem u_cst {t : Tg2 Q X} : wE (dCst d env h) Q X t = Q d h := (rfl)
theorem u_nil {t : Tg2 QL X} : wE (dNil env h) QL X t = QL [] h := (rfl)
theorem u_cons {t : Tg2 QL X} : wE (dCons ma ml env h) QL X t = wE (ma env h) (fun d h => wE (ml env h) (fun ds h => QL (d :: ds) h) X ⟨⟩) X ⟨⟩ := by
  unfold dCons
  rw [wE_dbind]
  refine wE_cg fun d h => ?_
  rw [wE_dbind]
  rfl
theorem u_d2 {g : D2} {t : Tg2 Q X} : wE (DV.d2 g ma mb env h) Q X t = wE (ma env h) (fun d h => wE (mb env h) (fun e h => wE (g d e h) Q X ⟨⟩) X ⟨⟩) X ⟨⟩ := by
  unfold DV.d2
  rw [wE_dbind]
  refine wE_cg fun d h => ?_
  rw [wE_dbind]
theorem u_tru {t : Tg2 QB X} : wE (dTru ma env h) QB X t = wE (ma env h) (fun d h => wE (truD d h) QB X ⟨⟩) X ⟨⟩ := wE_bind
theorem u_bl {t : Tg2 QB X} : wE (dBl ma env h) QB X t = wE (ma env h) (fun d h => wE (blD d h) QB X ⟨⟩) X ⟨⟩ := wE_bind
theorem wE_if {β : Type} {c : Prop} [Decidable c] {r s : R β} {Q : β → DH → Prop} {t : Tg2 Q X} : wE (if c then r else s) Q X t = if c then wE r Q X ⟨⟩ else wE s Q X ⟨⟩ := by split <;> rfl
theorem u_and {t : Tg2 Q X} : wE (dAnd ma mb env h) Q X t = wE (ma env h) (fun d h => wE (truD d h) (fun k h => if k = true then wE (mb env h) Q X ⟨⟩ else Q d h) X ⟨⟩) X ⟨⟩ := by
  unfold dAnd
  rw [wE_dbind]
  refine wE_cg fun d h => ?_
  rw [wE_bind]
  refine wE_cg fun k h => ?_
  rw [wE_if]
  rfl
theorem u_or {t : Tg2 Q X} : wE (dOr ma mb env h) Q X t = wE (ma env h) (fun d h => wE (truD d h) (fun k h => if k = true then Q d h else wE (mb env h) Q X ⟨⟩) X ⟨⟩) X ⟨⟩ := by
  unfold dOr
  rw [wE_dbind]
  refine wE_cg fun d h => ?_
  rw [wE_bind]
  refine wE_cg fun k h => ?_
  rw [wE_if]
  rfl
theorem u_tand {t : Tg2 QB X} : wE (tAndB ta tb env h) QB X t = wE (ta env h) (fun k h => if k = true then wE (tb env h) QB X ⟨⟩ else QB false h) X ⟨⟩ := by
  unfold tAndB
  rw [wE_dbind]
  refine wE_cg fun d h => ?_
  rw [wE_if]
  rfl
theorem u_tor {t : Tg2 QB X} : wE (tOrB ta tb env h) QB X t = wE (ta env h) (fun k h => if k = true then QB true h else wE (tb env h) QB X ⟨⟩) X ⟨⟩ := by
  unfold tOrB
  rw [wE_dbind]
  refine wE_cg fun d h => ?_
  rw [wE_if]
  rfl
theorem u_tnot {t : Tg2 QB X} : wE (tNotB ta env h) QB X t = wE (ta env h) (fun k h => QB (!k) h) X ⟨⟩ := by
  unfold tNotB
  rw [wE_dbind]
  rfl
theorem u_not {t : Tg2 Q X} : wE (dNot ma env h) Q X t = wE (ma env h) (fun d h => wE (truD d h) (fun k h => Q (.bl (!k)) h) X ⟨⟩) X ⟨⟩ := by
  unfold dNot
  rw [wE_dbind]
  refine wE_cg fun d h => ?_
  rw [wE_bind]
  rfl
theorem u_neg {t : Tg2 Q X} : wE (dNeg ma env h) Q X t = wE (ma env h) (fun d h => wE (negD d h) Q X ⟨⟩) X ⟨⟩ := wE_bind
theorem u_ite {t : Tg2 Q X} : wE (dIte tb ma mb env h) Q X t = wE (tb env h) (fun k h => if k = true then wE (ma env h) Q X ⟨⟩ else wE (mb env h) Q X ⟨⟩) X ⟨⟩ := by
  unfold dIte
  rw [wE_dbind]
  refine wE_cg fun d h => ?_
  rw [wE_if]
theorem u_tup {t : Tg2 Q X} : wE (dTup ml env h) Q X t = wE (ml env h) (fun ds h => ds.length ≤ big ∧ Q (.tup ds) h) X ⟨⟩ := by
  unfold dTup
  rw [wE_dbind]
  refine wE_cg fun ds h => ?_
  rw [wE_if]
  by_cases z : ds.length ≤ big
  · rw [if_pos z]; simp [z, wE]
  · rw [if_neg z]; simp [z, wE]
theorem u_lst {t : Tg2 Q X} : wE (dLst ml env h) Q X t = wE (ml env h) (fun ds h => ds.length ≤ big ∧ Q (.ref h.length) (h ++ [.lst ds])) X ⟨⟩ := by
  unfold dLst
  rw [wE_dbind]
  refine wE_cg fun ds h => ?_
  rw [wE_if]
  by_cases z : ds.length ≤ big
  · rw [if_pos z]; simp [z, wE, alloc]
  · rw [if_neg z]; simp [z, wE]
theorem u_call {g : DF} {t : Tg2 Q X} : wE (dCall ml g env h) Q X t = wE (ml env h) (fun ds h => wE (g ds h) Q X ⟨⟩) X ⟨⟩ := wE_bind
theorem u_callF {dd : List D} {n : Nat} {φ : DF} {t : Tg2 Q X} : wE (dCallF ml dd n φ env h) Q X t = wE (ml env h) (fun ds h => (ds ++ dd).length = n ∧ wE (φ (ds ++ dd) h) Q X ⟨⟩) X ⟨⟩ := by
  unfold dCallF
  rw [wE_dbind]
  refine wE_cg fun ds h => ?_
  rw [wE_if]
  by_cases z : (ds ++ dd).length = n
  · rw [if_pos z]; simp [z]
  · rw [if_neg z]; simp only [wE_bad, z, false_and]
theorem u_meth {T : String} {g : DM} {t : Tg2 Q X} : wE (dMeth T ma ml g env h) Q X t = wE (ma env h) (fun d h => tyD T d h = true ∧ wE (ml env h) (fun ds h => wE (g d ds h) Q X ⟨⟩) X ⟨⟩) X ⟨⟩ := by
  unfold dMeth
  rw [wE_dbind]
  refine wE_cg fun d h => ?_
  rw [wE_if]
  by_cases z : tyD T d h = true
  · rw [if_pos z]; simp [z, wE_bind]
  · rw [if_neg z]; simp [z, wE]
theorem u_sl {pl ph : DEn (Option Int)} {t : Tg2 Q X} : wE (dSl ma pl ph env h) Q X t = wE (ma env h) (fun d h => wE (pl env h) (fun lo h => wE (ph env h) (fun hi h => wE (slD d lo hi h) Q X ⟨⟩) X ⟨⟩) X ⟨⟩) X ⟨⟩ := by
  unfold dSl
  rw [wE_dbind]
  refine wE_cg fun d h => ?_
  rw [wE_dbind]
  refine wE_cg fun lo h => ?_
  rw [wE_dbind]
theorem u_pNone {QO : Option Int → DH → Prop} {t : Tg2 QO X} : wE (pNone env h) QO X t = QO none h := (rfl)
def pInt : D → DH → R (Option Int)
  | .int i, h => .ok (some i) h
  | _, _ => .bad
theorem u_pSome {QO : Option Int → DH → Prop} {t : Tg2 QO X} : wE (pSome ma env h) QO X t = wE (ma env h) (fun d h => wE (pInt d h) QO X ⟨⟩) X ⟨⟩ := by
  unfold pSome
  rw [wE_dbind]
  refine wE_cg fun d h => ?_
  cases d <;> rfl
theorem u_rev {t : Tg2 Q X} : wE (dRev ma env h) Q X t = wE (ma env h) (fun d h => wE (revD d h) Q X ⟨⟩) X ⟨⟩ := wE_bind
theorem u_dic0 {t : Tg2 Q X} : wE (dDic0 env h) Q X t = Q (.ref h.length) (h ++ [.dct []]) := (rfl)
theorem u_prs0 {QP : List (D × D) → DH → Prop} {t : Tg2 QP X} : wE (dPairs [] env h) QP X t = QP [] h := (rfl)
theorem u_prs {QP : List (D × D) → DH → Prop} {r : List (DE × DE)} {t : Tg2 QP X} : wE (dPairs ((ma, mb) :: r) env h) QP X t = wE (ma env h) (fun k h => wE (mb env h) (fun v h => wE (dPairs r env h) (fun ps h => QP ((k, v) :: ps) h) X ⟨⟩) X ⟨⟩) X ⟨⟩ := by
  conv => lhs; unfold dPairs
  rw [wE_dbind]
  refine wE_cg fun d h => ?_
  rw [wE_dbind]
  refine wE_cg fun lo h => ?_
  rw [wE_dbind]
  rfl
theorem u_dic {trs : List (DE × DE)} {t : Tg2 Q X} : wE (dDic trs env h) Q X t = wE (dPairs trs env h) (fun ps h => (keysOk ps = true ∧ ps.length ≤ 15) ∧ Q (.ref h.length) (h ++ [.dct (mergeD [] ps)])) X ⟨⟩ := by
  unfold dDic
  rw [wE_dbind]
  refine wE_cg fun ps h => ?_
  rw [wE_if]
  by_cases z : keysOk ps = true ∧ ps.length ≤ 15
  · rw [if_pos z]; simp [z, wE, alloc]
  · rw [if_neg z]
    simp only [wE_bad, z, false_and]
/-- what an iteration goes over -/
def itV (d : D) (h : DH) : R IS := match d with
  | .tup ds => .ok (.items ds) h
  | .frz ds => .ok (.items ds) h
  | .ref n => match h[n]? with
    | some (.lst _) => .ok (.lst n) h
    | _ => .bad
  | .str t => if t.length ≤ big then .ok (.items (chars t)) h else .bad
  | _ => .bad
theorem u_iVal {QI : IS → DH → Prop} {t : Tg2 QI X} : wE (iVal ma env h) QI X t = wE (ma env h) (fun d h => wE (itV d h) QI X ⟨⟩) X ⟨⟩ := by
  unfold iVal
  rw [wE_dbind]
  rfl
theorem u_iEn {QI : IS → DH → Prop} {t : Tg2 QI X} : wE (iEn ma env h) QI X t = wE (ma env h) (fun d h => wE (enK d h) QI X ⟨⟩) X ⟨⟩ := wE_bind
theorem u_iRng1 {QI : IS → DH → Prop} {t : Tg2 QI X} : wE (iRng1 ml env h) QI X t = wE (ml env h) (fun ds h => ∃ j, ds = [.int j] ∧ sm62 j = true ∧ QI (.items (rngI 0 j.toNat)) h) X ⟨⟩ := by
  unfold iRng1
  rw [wE_dbind]
  refine wE_cg fun ds h => ?_
  split
  · rename_i j
    rw [wE_if]
    by_cases z : sm62 j = true
    · rw [if_pos z]; simp [z, wE]
    · rw [if_neg z]; simp [z, wE]
  · rename_i z
    simp only [wE_bad]
    apply Eq.symm
    simp only [eq_iff_iff, iff_false]
    rintro ⟨j, rfl, _⟩
    exact z _ rfl
theorem u_lc {f : Nat} {mi : DEn IS} {g : AG} {tt : DEn Bool} {te : DE} {vs : List Nat} {t : Tg2 Q X} : wE (dLc f mi g tt te vs env h) Q X t = wE (mi env h) (fun is h => wE (lcI g tt te f (wipeE env vs) is h) (fun r h => r.length ≤ big ∧ Q (.ref h.length) (h ++ [.lst r])) X ⟨⟩) X ⟨⟩ := by
  unfold dLc
  rw [wE_bind]
  refine wE_cg fun is h => ?_
  rw [wE_bind]
  refine wE_cg fun r h => ?_
  unfold lcEnd
  rw [wE_if]
  simp only [List.nil_append]
  by_cases z : r.length ≤ big
  · rw [if_pos z]; simp [z, wE, alloc]
  · rw [if_neg z]; simp [z, wE]
end
end DV
namespace DV
open PySem L2
mutual
def Is (h : DH) : PyData → D → Prop
  | .none, d => d = .non
  | .bool b, d => d = .bl b
  | .int i, d => d = .int i
  | .str s, d => ∃ t, d = .str t ∧ s = sOf t
  | .tuple ps, d => ∃ ds, d = .tup ds ∧ IsL h ps ds
  | .list ps, d => ∃ ds, (d = .frz ds ∨ ∃ n, d = .ref n ∧ h[n]? = some (.lst ds)) ∧ IsL h ps ds
  | .dict _, _ => False
def IsL (h : DH) : List PyData → List D → Prop
  | [], ds => ds = []
  | p :: ps, ds => ∃ d r, ds = d :: r ∧ Is h p d ∧ IsL h ps r
end
/-- all lists that stand go on standing -/
structure Kp (h h' : DH) : Prop where
  lst : ∀ (n : Nat) (ds : List D), h[n]? = some (DO.lst ds) → h'[n]? = some (DO.lst ds)
  len : h.length ≤ h'.length
instance {h h' : DH} : CoeFun (Kp h h') (fun _ => ∀ (n : Nat) (ds : List D), h[n]? = some (DO.lst ds) → h'[n]? = some (DO.lst ds)) := ⟨Kp.lst⟩
theorem Kp.refl {h : DH} : Kp h h := ⟨fun _ _ e => e, Nat.le_refl _⟩
theorem Kp.trans {h h1 h2 : DH} (a : Kp h h1) (b : Kp h1 h2) : Kp h h2 := ⟨fun n ds e => b.lst n ds (a.lst n ds e), Nat.le_trans a.len b.len⟩
theorem Kp.of_pre {h h' : DH} (a : h <+: h') : Kp h h' := ⟨fun n ds e => pre_get a e, a.length_le⟩
theorem Kp.app {h x : DH} : Kp h (h ++ x) := Kp.of_pre ⟨x, rfl⟩
theorem Kp.set {h h1 : DH} {n : Nat} {o : DO} (k : Kp h h1) (e : ∀ ds : List D, h[n]? ≠ some (DO.lst ds)) : Kp h (h1.set n o) := ⟨fun m ds q => by
  have q1 := k.lst m ds q
  by_cases z : n = m
  · subst z
    exact absurd q (e ds)
  · rw [List.getElem?_set_ne z]
    exact q1, by rw [List.length_set]; exact k.len⟩
mutual
theorem Is.kp {h h' : DH} (k : Kp h h') : ∀ {p : PyData} {d : D}, Is h p d → Is h' p d
  | .none, _, e => by unfold Is at e ⊢; exact e
  | .bool _, _, e => by unfold Is at e ⊢; exact e
  | .int _, _, e => by unfold Is at e ⊢; exact e
  | .str _, _, e => by unfold Is at e ⊢; exact e
  | .tuple ps, _, e => by
    unfold Is at e ⊢
    obtain ⟨ds, rfl, e⟩ := e
    exact ⟨ds, rfl, IsL.kp k e⟩
  | .list ps, _, e => by
    unfold Is at e ⊢
    obtain ⟨ds, e1, e⟩ := e
    exact ⟨ds, e1.imp id (fun ⟨n, a, b⟩ => ⟨n, a, k n ds b⟩), IsL.kp k e⟩
  | .dict _, _, e => by unfold Is at e; exact e.elim
theorem IsL.kp {h h' : DH} (k : Kp h h') : ∀ {ps : List PyData} {ds : List D}, IsL h ps ds → IsL h' ps ds
  | [], _, e => by unfold IsL at e ⊢; exact e
  | p :: ps, _, e => by
    unfold IsL at e ⊢
    obtain ⟨d, r, rfl, e1, e2⟩ := e
    exact ⟨d, r, rfl, Is.kp k e1, IsL.kp k e2⟩
end
theorem depth_tuple {ps : List PyData} : (PyData.tuple ps).depth = PyData.depthAll ps + 1 := by simp only [PyData.depth]
theorem depth_list {ps : List PyData} : (PyData.list ps).depth = PyData.depthAll ps + 1 := by simp only [PyData.depth]
theorem depthAll_le {k : Nat} : ∀ {ps : List PyData}, PyData.depthAll ps ≤ k ↔ ∀ p ∈ ps, p.depth ≤ k
  | [] => by simp [PyData.depthAll]
  | p :: ps => by simp [PyData.depthAll, Nat.max_le, depthAll_le (ps := ps)]
mutual
theorem Is.toPy {h : DH} : ∀ {p : PyData} {d : D} {n : Nat}, Is h p d → p.depth < n → toPy h n d = some p
  | .none, _, n + 1, e, _ => by unfold Is at e; subst e; rfl
  | .bool _, _, n + 1, e, _ => by unfold Is at e; subst e; rfl
  | .int _, _, n + 1, e, _ => by unfold Is at e; subst e; rfl
  | .str _, _, n + 1, e, _ => by unfold Is at e; obtain ⟨t, rfl, rfl⟩ := e; rfl
  | .tuple ps, _, n + 1, e, l => by
    unfold Is at e
    obtain ⟨ds, rfl, e⟩ := e
    rw [depth_tuple] at l
    simp only [DV.toPy]
    rw [IsL.toPy e (by omega)]
    rfl
  | .list ps, _, n + 1, e, l => by
    unfold Is at e
    obtain ⟨ds, e1, e⟩ := e
    rw [depth_list] at l
    have z := IsL.toPy (n := n) e (by omega)
    rcases e1 with rfl | ⟨m, rfl, e2⟩
    · simp only [DV.toPy]
      rw [z]
      rfl
    · simp only [DV.toPy, e2]
      rw [z]
      rfl
  | .dict _, _, _, e, _ => by unfold Is at e; exact e.elim
  | .none, _, 0, _, l => absurd l (Nat.not_lt_zero _)
  | .bool _, _, 0, _, l => absurd l (Nat.not_lt_zero _)
  | .int _, _, 0, _, l => absurd l (Nat.not_lt_zero _)
  | .str _, _, 0, _, l => absurd l (Nat.not_lt_zero _)
  | .tuple _, _, 0, _, l => absurd l (Nat.not_lt_zero _)
  | .list _, _, 0, _, l => absurd l (Nat.not_lt_zero _)
theorem IsL.toPy {h : DH} : ∀ {ps : List PyData} {ds : List D} {n : Nat}, IsL h ps ds → PyData.depthAll ps < n → seqO (ds.map (toPy h n)) = some ps
  | [], _, n, e, _ => by unfold IsL at e; subst e; rfl
  | p :: ps, _, n, e, l => by
    unfold IsL at e
    obtain ⟨d, r, rfl, e1, e2⟩ := e
    simp only [PyData.depthAll] at l
    have z1 := Is.toPy (n := n) e1 (by omega)
    have z2 := IsL.toPy (n := n) e2 (by omega)
    simp only [List.map_cons, z1, seqO, z2]
    rfl
end
section
variable {h : DH} {d : D} {ds es : List D} {p : PyData} {ps qs : List PyData}
theorem IsL.length : ∀ {ps : List PyData} {ds : List D}, IsL h ps ds → ds.length = ps.length
  | [], _, e => by unfold IsL at e; subst e; rfl
  | p :: ps, _, e => by
    unfold IsL at e
    obtain ⟨d, r, rfl, _, e2⟩ := e
    simp [IsL.length e2]
theorem IsL.get : ∀ {ps : List PyData} {ds : List D}, IsL h ps ds → ∀ {i : Nat} {d : D}, ds[i]? = some d → ∃ p, ps[i]? = some p ∧ Is h p d
  | [], _, e, i, d, q => by unfold IsL at e; subst e; simp at q
  | p :: ps, _, e, i, d, q => by
    unfold IsL at e
    obtain ⟨d', r, rfl, e1, e2⟩ := e
    cases i with
    | zero => simp at q; subst q; exact ⟨p, rfl, e1⟩
    | succ i => exact IsL.get e2 (by simpa using q)
theorem IsL.mem (e : IsL h ps ds) (m : d ∈ ds) : ∃ p ∈ ps, Is h p d := by
  obtain ⟨i, q⟩ := List.mem_iff_getElem?.mp m
  obtain ⟨p, a, b⟩ := e.get q
  exact ⟨p, List.mem_of_getElem? a, b⟩
theorem IsL.app : ∀ {ps qs : List PyData} {ds es : List D}, IsL h ps ds → IsL h qs es → IsL h (ps ++ qs) (ds ++ es)
  | [], _, _, _, a, b => by unfold IsL at a; subst a; exact b
  | p :: ps, qs, _, es, a, b => by
    unfold IsL at a
    obtain ⟨d, r, rfl, e1, e2⟩ := a
    show IsL h (p :: (ps ++ qs)) _
    unfold IsL
    exact ⟨d, r ++ es, rfl, e1, IsL.app e2 b⟩
theorem IsL.cons (a : Is h p d) (b : IsL h ps ds) : IsL h (p :: ps) (d :: ds) := by
  unfold IsL
  exact ⟨d, ds, rfl, a, b⟩
theorem IsL.nil : IsL h [] [] := by unfold IsL; rfl
theorem IsL.take : ∀ {ps : List PyData} {ds : List D} (n : Nat), IsL h ps ds → IsL h (ps.take n) (ds.take n)
  | _, _, 0, _ => by simpa using IsL.nil
  | [], _, n + 1, e => by unfold IsL at e; subst e; simpa using IsL.nil
  | p :: ps, _, n + 1, e => by
    unfold IsL at e
    obtain ⟨d, r, rfl, e1, e2⟩ := e
    simpa using IsL.cons e1 (IsL.take n e2)
theorem IsL.drop : ∀ {ps : List PyData} {ds : List D} (n : Nat), IsL h ps ds → IsL h (ps.drop n) (ds.drop n)
  | _, _, 0, e => by simpa using e
  | [], _, n + 1, e => by unfold IsL at e; subst e; simpa using IsL.nil
  | p :: ps, _, n + 1, e => by
    unfold IsL at e
    obtain ⟨d, r, rfl, e1, e2⟩ := e
    simpa using IsL.drop n e2
theorem IsL.rev : ∀ {ps : List PyData} {ds : List D}, IsL h ps ds → IsL h ps.reverse ds.reverse
  | [], _, e => by unfold IsL at e; subst e; simpa using IsL.nil
  | p :: ps, _, e => by
    unfold IsL at e
    obtain ⟨d, r, rfl, e1, e2⟩ := e
    simpa using (IsL.rev e2).app (IsL.cons e1 IsL.nil)
theorem Is.tup (e : IsL h ps ds) : Is h (.tuple ps) (.tup ds) := by unfold Is; exact ⟨ds, rfl, e⟩
theorem Is.ref {n : Nat} (q : h[n]? = some (.lst ds)) (e : IsL h ps ds) : Is h (.list ps) (.ref n) := by unfold Is; exact ⟨ds, .inr ⟨n, rfl, q⟩, e⟩
theorem Is.tup_inv (e : Is h p (.tup ds)) : ∃ ps, p = .tuple ps ∧ IsL h ps ds := by
  cases p <;> unfold Is at e
  case tuple ps => obtain ⟨ds', z, e⟩ := e; cases z; exact ⟨ps, rfl, e⟩
  case str s => obtain ⟨t, z, _⟩ := e; cases z
  case list ps => obtain ⟨ds', z, _⟩ := e; rcases z with z | ⟨_, z, _⟩ <;> cases z
  case dict => exact e.elim
  all_goals cases e
/-- isinstance can be asked of it -/
theorem Is.ty (e : Is h p d) : ∃ t, tyN d h = some t := by
  cases p <;> unfold Is at e
  case tuple ps => obtain ⟨ds', rfl, e⟩ := e; exact ⟨_, rfl⟩
  case str s => obtain ⟨t, rfl, _⟩ := e; exact ⟨_, rfl⟩
  case list ps =>
    obtain ⟨ds', z, _⟩ := e
    rcases z with rfl | ⟨n, rfl, z⟩
    · exact ⟨_, rfl⟩
    · exact ⟨"list", by simp [tyN, z]⟩
  case dict => exact e.elim
  all_goals subst e; exact ⟨_, rfl⟩
end
mutual
def short : PyData → Bool
  | .none | .bool _ | .int _ | .dict _ => true
  | .str s => decide (s.cps.size ≤ 1000)
  | .tuple ps | .list ps => shortAll ps
def shortAll : List PyData → Bool
  | [] => true
  | p :: ps => short p && shortAll ps
end
def nice (p : PyData) : Bool := p.canLay0 && (p.intsShort 70 && (p.showable && short p))
theorem shortAll_all : ∀ ps : List PyData, shortAll ps = ps.all short
  | [] => by simp [shortAll]
  | p :: ps => by simp [shortAll, shortAll_all ps]
theorem canLayAll_all : ∀ ps : List PyData, PyData.canLayAll0 ps = ps.all (·.canLay0)
  | [] => rfl
  | p :: ps => by simp [PyData.canLayAll0, canLayAll_all ps]
theorem intsShortAll_all (B : Nat) : ∀ ps : List PyData, PyData.intsShortAll B ps = ps.all (·.intsShort B)
  | [] => rfl
  | p :: ps => by simp [PyData.intsShortAll, intsShortAll_all B ps]
theorem showableAll_all : ∀ ps : List PyData, PyData.showableAll ps = ps.all (·.showable)
  | [] => rfl
  | p :: ps => by simp [PyData.showableAll, showableAll_all ps]
theorem nice_all (ps : List PyData) : (∀ p ∈ ps, nice p = true) ↔ (PyData.canLayAll0 ps = true ∧ PyData.intsShortAll 70 ps = true ∧ PyData.showableAll ps = true ∧ shortAll ps = true) := by
  rw [canLayAll_all, intsShortAll_all, showableAll_all, shortAll_all]
  simp only [nice, Bool.and_eq_true, List.all_eq_true]
  constructor
  · intro a; exact ⟨fun p m => (a p m).1, fun p m => (a p m).2.1, fun p m => (a p m).2.2.1, fun p m => (a p m).2.2.2⟩
  · intro ⟨a, b, c, d⟩ p m; exact ⟨a p m, b p m, c p m, d p m⟩
theorem nice_tuple {ps : List PyData} : nice (.tuple ps) = true ↔ ∀ p ∈ ps, nice p = true := by
  rw [nice_all]
  simp [nice, PyData.canLay0, PyData.intsShort, PyData.showable, short]
theorem nice_list {ps : List PyData} : nice (.list ps) = true ↔ ∀ p ∈ ps, nice p = true := by
  rw [nice_all]
  simp [nice, PyData.canLay0, PyData.intsShort, PyData.showable, short]
theorem weight_tuple {ps : List PyData} : (PyData.tuple ps).weight = PyData.weightAll ps := by simp only [PyData.weight]
theorem weight_list {ps : List PyData} : (PyData.list ps).weight = PyData.weightAll ps := by simp only [PyData.weight]
theorem weightAll_app : ∀ (ps qs : List PyData), PyData.weightAll (ps ++ qs) = PyData.weightAll ps + PyData.weightAll qs
  | [], qs => by simp [PyData.weightAll]
  | p :: ps, qs => by
    simp only [List.cons_append, PyData.weightAll, weightAll_app ps qs]
    omega
theorem weightAll_rev : ∀ (ps : List PyData), PyData.weightAll ps.reverse = PyData.weightAll ps
  | [] => rfl
  | p :: ps => by
    simp only [List.reverse_cons, weightAll_app, weightAll_rev ps, PyData.weightAll]
    omega
theorem weightAll_take_drop (n : Nat) (ps : List PyData) : PyData.weightAll (ps.take n) + PyData.weightAll (ps.drop n) = PyData.weightAll ps := by
  rw [← weightAll_app, List.take_append_drop]
theorem weight_mem : ∀ {ps : List PyData} {p : PyData}, p ∈ ps → p.weight + 1 ≤ PyData.weightAll ps
  | q :: ps, p, m => by
    simp only [PyData.weightAll]
    rcases List.mem_cons.mp m with rfl | m
    · omega
    · have := weight_mem m; omega
theorem length_weight : ∀ (ps : List PyData), ps.length ≤ PyData.weightAll ps
  | [] => Nat.zero_le _
  | p :: ps => by
    have := length_weight ps
    simp only [PyData.weightAll, List.length_cons]
    omega
/-- a value worth a datum that can be shown: of depth k and weight w at most -/
structure Th (h : DH) (k w : Nat) (d : D) (p : PyData) : Prop where
  is : Is h p d
  ni : nice p = true
  dp : p.depth ≤ k
  wt : p.weight ≤ w
structure ThL (h : DH) (k w : Nat) (ds : List D) (ps : List PyData) : Prop where
  is : IsL h ps ds
  ni : ∀ p ∈ ps, nice p = true
  dp : ∀ p ∈ ps, p.depth ≤ k
  wt : PyData.weightAll ps ≤ w
section
variable {h h' : DH} {k k1 w w1 : Nat} {d : D} {ds es : List D} {p : PyData} {ps qs : List PyData}
theorem Th.kp (t : Th h k w d p) (a : Kp h h') : Th h' k w d p := ⟨t.is.kp a, t.ni, t.dp, t.wt⟩
theorem ThL.kp (t : ThL h k w ds ps) (a : Kp h h') : ThL h' k w ds ps := ⟨t.is.kp a, t.ni, t.dp, t.wt⟩
theorem Th.up (t : Th h k w d p) (a : k ≤ k1) (b : w ≤ w1) : Th h k1 w1 d p := ⟨t.is, t.ni, Nat.le_trans t.dp a, Nat.le_trans t.wt b⟩
theorem ThL.up (t : ThL h k w ds ps) (a : k ≤ k1) (b : w ≤ w1) : ThL h k1 w1 ds ps := ⟨t.is, t.ni, fun p m => Nat.le_trans (t.dp p m) a, Nat.le_trans t.wt b⟩
theorem ThL.nil : ThL h k w [] [] := ⟨IsL.nil, by simp, by simp, Nat.zero_le _⟩
theorem ThL.cons (a : Th h k w d p) (b : ThL h k w1 ds ps) : ThL h k (w + 1 + w1) (d :: ds) (p :: ps) := ⟨.cons a.is b.is, by simpa using ⟨a.ni, b.ni⟩, by simpa using ⟨a.dp, b.dp⟩, by
  have := a.wt
  have := b.wt
  simp only [PyData.weightAll]
  omega⟩
theorem ThL.app (a : ThL h k w ds ps) (b : ThL h k w1 es qs) : ThL h k (w + w1) (ds ++ es) (ps ++ qs) := ⟨a.is.app b.is, by
  intro p m
  exact (List.mem_append.mp m).elim (a.ni p) (b.ni p), by
  intro p m
  exact (List.mem_append.mp m).elim (a.dp p) (b.dp p), by
  have := a.wt
  have := b.wt
  rw [weightAll_app]
  omega⟩
theorem ThL.take (n : Nat) (a : ThL h k w ds ps) : ThL h k w (ds.take n) (ps.take n) := ⟨a.is.take n, fun p m => a.ni p (List.mem_of_mem_take m), fun p m => a.dp p (List.mem_of_mem_take m), by
  have := weightAll_take_drop n ps
  have := a.wt
  omega⟩
theorem ThL.drop (n : Nat) (a : ThL h k w ds ps) : ThL h k w (ds.drop n) (ps.drop n) := ⟨a.is.drop n, fun p m => a.ni p (List.mem_of_mem_drop m), fun p m => a.dp p (List.mem_of_mem_drop m), by
  have := weightAll_take_drop n ps
  have := a.wt
  omega⟩
theorem ThL.rev (a : ThL h k w ds ps) : ThL h k w ds.reverse ps.reverse := ⟨a.is.rev, fun p m => a.ni p (List.mem_reverse.mp m), fun p m => a.dp p (List.mem_reverse.mp m), by
  rw [weightAll_rev]
  exact a.wt⟩
theorem ThL.filter (q : D → Bool) : ∀ {ds : List D} {ps : List PyData} {w : Nat}, ThL h k w ds ps → ∃ qs, ThL h k w (ds.filter q) qs
  | [], ps, w, a => ⟨ps, by simpa using a⟩
  | d :: ds, ps, w, a => by
    have i := a.is
    cases ps with
    | nil => unfold IsL at i; cases i
    | cons p ps =>
      unfold IsL at i
      obtain ⟨d', r, e, i1, i2⟩ := i
      cases e
      have wt := a.wt
      simp only [PyData.weightAll] at wt
      have b : ThL h k (PyData.weightAll ps) ds ps := ⟨i2, fun p m => a.ni p (List.mem_cons_of_mem _ m), fun p m => a.dp p (List.mem_cons_of_mem _ m), Nat.le_refl _⟩
      have c : Th h k p.weight d p := ⟨i1, a.ni p List.mem_cons_self, a.dp p List.mem_cons_self, Nat.le_refl _⟩
      obtain ⟨qs, z⟩ := ThL.filter q b
      rw [List.filter_cons]
      split
      · exact ⟨p :: qs, (ThL.cons c z).up (Nat.le_refl _) (by omega)⟩
      · exact ⟨qs, z.up (Nat.le_refl _) (by omega)⟩
theorem ThL.get (a : ThL h k w ds ps) {i : Nat} (e : ds[i]? = some d) : ∃ p, Th h k w d p := by
  obtain ⟨p, e1, e2⟩ := a.is.get e
  have m := List.mem_of_getElem? e1
  exact ⟨p, e2, a.ni p m, a.dp p m, by
    have := weight_mem m
    have := a.wt
    omega⟩
theorem ThL.split (a : ThL h k w ds ps) {i : Nat} (e : ds[i]? = some d) : ∃ p p1 p2 w1 w2 we, ThL h k w1 (ds.take i) p1 ∧ Th h k we d p ∧ ThL h k w2 (ds.drop (i + 1)) p2 ∧ w1 + (we + 1) + w2 ≤ w := by
  obtain ⟨p, e1, e2⟩ := a.is.get e
  have m := List.mem_of_getElem? e1
  refine ⟨p, ps.take i, ps.drop (i + 1), PyData.weightAll (ps.take i), PyData.weightAll (ps.drop (i + 1)), p.weight, ?_, ?_, ?_, ?_⟩
  · exact ⟨a.is.take i, fun p m => a.ni p (List.mem_of_mem_take m), fun p m => a.dp p (List.mem_of_mem_take m), Nat.le_refl _⟩
  · exact ⟨e2, a.ni p m, a.dp p m, Nat.le_refl _⟩
  · exact ⟨a.is.drop _, fun p m => a.ni p (List.mem_of_mem_drop m), fun p m => a.dp p (List.mem_of_mem_drop m), Nat.le_refl _⟩
  · have lt := (List.getElem?_eq_some_iff.mp e1).1
    have ge := (List.getElem?_eq_some_iff.mp e1).2
    have z := weightAll_take_drop i ps
    rw [List.drop_eq_getElem_cons lt, ge] at z
    simp only [PyData.weightAll] at z
    have := a.wt
    omega
theorem ThL.mem (a : ThL h k w ds ps) (m : d ∈ ds) : ∃ p, Th h k w d p := by
  obtain ⟨i, q⟩ := List.mem_iff_getElem?.mp m
  exact a.get q
theorem ThL.length (a : ThL h k w ds ps) : ds.length ≤ w := by
  have := a.is.length
  have := length_weight ps
  have := a.wt
  omega
theorem Th.tup (a : ThL h k w ds ps) : Th h (k + 1) w (.tup ds) (.tuple ps) := ⟨.tup a.is, nice_tuple.mpr a.ni, by
  rw [depth_tuple]
  have := depthAll_le.mpr a.dp
  omega, by rw [weight_tuple]; exact a.wt⟩
theorem Th.ref {n : Nat} (q : h[n]? = some (.lst ds)) (a : ThL h k w ds ps) : Th h (k + 1) w (.ref n) (.list ps) := ⟨.ref q a.is, nice_list.mpr a.ni, by
  rw [depth_list]
  have := depthAll_le.mpr a.dp
  omega, by rw [weight_list]; exact a.wt⟩
theorem Th.tup_inv (a : Th h k w (.tup ds) p) : ∃ ps j, k = j + 1 ∧ p = .tuple ps ∧ ThL h j w ds ps := by
  obtain ⟨ps, rfl, e⟩ := a.is.tup_inv
  have d := a.dp
  rw [depth_tuple] at d
  refine ⟨ps, k - 1, by omega, rfl, e, nice_tuple.mp a.ni, depthAll_le.mp (by omega), ?_⟩
  have := a.wt
  rw [weight_tuple] at this
  exact this
theorem Th.non : Th h k w .non .none := ⟨by unfold Is; rfl, rfl, Nat.zero_le _, Nat.zero_le _⟩
theorem Th.bl {b : Bool} : Th h k w (.bl b) (.bool b) := ⟨by unfold Is; rfl, rfl, by simp [PyData.depth], by simp [PyData.weight]⟩
theorem Th.ty (a : Th h k w d p) : ∃ t, tyN d h = some t := a.is.ty
theorem Th.py (a : Th h k w d p) (hk : k < 60) : toPy h 60 d = some p := a.is.toPy (by have := a.dp; omega)
theorem Th.shaped (a : Th h k w d p) (hk : k ≤ 64) : SeqAt.shaped p = true := by
  have n := a.ni
  simp only [nice, Bool.and_eq_true] at n
  have := a.dp
  simp only [SeqAt.shaped, Bool.and_eq_true, n.1, true_and]
  exact decide_eq_true (by omega)
theorem Th.repr (a : Th h k w d p) (hk : k < 60) (hw : w ≤ 200000) : reprF [d] h = .ok (.str p.shown.cps.toList) h := by
  have n := a.ni
  simp only [nice, Bool.and_eq_true] at n
  have z := PyData.shown_le 70 (by decide) p (PyData.leavesShort_of_canLay0 70 p n.1 n.2.1)
  have := a.wt
  have := a.dp
  have l : p.shown.length ≤ big := by
    have : big = 16777216 := rfl
    omega
  simp only [reprF, a.py hk]
  rw [if_pos ⟨n.2.2.1, by omega, l, PyData.hasDict_of_canLay p n.1⟩]
/-- worth some datum that can be shown -/
def Any (h : DH) (d : D) : Prop := ∃ k w p, Th h k w d p ∧ k ≤ 20 ∧ w ≤ 200000
theorem Th.any (a : Th h k w d p) (hk : k ≤ 20) (hw : w ≤ 200000) : Any h d := ⟨k, w, p, a, hk, hw⟩
theorem Any.kp (a : Any h d) (b : Kp h h') : Any h' d := let ⟨k, w, p, t, u⟩ := a; ⟨k, w, p, t.kp b, u⟩
theorem Any.ty (a : Any h d) : ∃ t, tyN d h = some t := let ⟨_, _, _, t, _⟩ := a; t.ty
theorem Any.list (a : Any h (.tup ds)) : ∃ k w ps, ThL h k w ds ps ∧ k + 1 ≤ 20 ∧ w ≤ 200000 := by
  obtain ⟨k, w, p, t, u, v⟩ := a
  obtain ⟨ps, j, _, _, l⟩ := t.tup_inv
  exact ⟨j, w, ps, l, by omega, v⟩
theorem Any.cut (a : Any h (.tup ds)) (i j : Nat) : Any h (.tup ((ds.drop i).take j)) := by
  obtain ⟨k, w, ps, l, u, v⟩ := a.list
  exact (Th.tup ((l.drop i).take j)).any u v
theorem Any.drop (a : Any h (.tup ds)) (i : Nat) : Any h (.tup (ds.drop i)) := by
  obtain ⟨k, w, ps, l, u, v⟩ := a.list
  exact (Th.tup (l.drop i)).any u v
theorem Any.mem (a : Any h (.tup ds)) (m : d ∈ ds) : Any h d := by
  obtain ⟨k, w, ps, l, u, v⟩ := a.list
  obtain ⟨q, z⟩ := l.mem m
  exact z.any (by omega) v
theorem Any.txt {t : Txt} (a : Any h (.str t)) : t.length ≤ 1000 := by
  obtain ⟨k, w, p, z, _⟩ := a
  have i := z.is
  have n := z.ni
  cases p <;> unfold Is at i
  case str s =>
    obtain ⟨u, e, rfl⟩ := i
    cases e
    simp only [nice, Bool.and_eq_true, short, sOf] at n
    have := of_decide_eq_true n.2.2.2
    simpa using this
  case tuple => obtain ⟨_, e, _⟩ := i; cases e
  case list => obtain ⟨_, e, _⟩ := i; rcases e with e | ⟨_, e, _⟩ <;> cases e
  case dict => exact i.elim
  all_goals cases i
theorem Any.chr {t : Txt} (a : Any h (.str t)) : ∀ c ∈ t, c < 1114112 := by
  obtain ⟨k, w, p, z, _⟩ := a
  have i := z.is
  have n := z.ni
  cases p <;> unfold Is at i
  case str s =>
    obtain ⟨u, e, rfl⟩ := i
    cases e
    simp only [nice, Bool.and_eq_true, PyData.canLay0, PyData.strOk, sOf] at n
    have := Array.all_eq_true_iff_forall_mem.mp n.1
    intro c m
    simpa using this c (by simpa using m)
  case tuple => obtain ⟨_, e, _⟩ := i; cases e
  case list => obtain ⟨_, e, _⟩ := i; rcases e with e | ⟨_, e, _⟩ <;> cases e
  case dict => exact i.elim
  all_goals cases i
/-- a text -/
theorem Th.str {t : Txt} (e : ∀ c ∈ t, c < 1114112) (l : t.length ≤ w) (l2 : t.length ≤ 1000) : Th h k w (.str t) (.str (sOf t)) := ⟨by unfold Is; exact ⟨t, rfl, rfl⟩, by
  have : PyData.strOk (sOf t) = true := by
    unfold PyData.strOk sOf
    rw [Array.all_eq_true_iff_forall_mem]
    intro c m
    simpa using e c (by simpa using m)
  simp only [nice, PyData.canLay0, this, PyData.intsShort, PyData.showable, short, Bool.true_and]
  exact decide_eq_true (by simpa [sOf] using l2), by simp [PyData.depth], by
  simp only [PyData.weight, sOf]
  simpa using l⟩
theorem chars_th : ∀ {t : Txt}, (∀ c ∈ t, c < 1114112) → ∃ ps, ThL h 0 (2 * t.length) (chars t) ps
  | [], _ => ⟨[], ThL.nil⟩
  | c :: t, e => by
    obtain ⟨ps, z⟩ := chars_th (t := t) fun c m => e c (List.mem_cons_of_mem _ m)
    have a : Th h 0 1 (.str [c]) (.str (sOf [c])) := Th.str (by simpa using e c List.mem_cons_self) (by simp) (by simp)
    exact ⟨_, (ThL.cons a z).up (Nat.le_refl _) (by simp; omega)⟩
end
end DV
namespace DV
open PySem L2
theorem Ok.run {α : Type} {r : R α} {v : α} {h : DH} (e : Ok r fun a b => a = v ∧ b = h) : r = .ok v h := by
  obtain ⟨a, b, e1, e2, e3⟩ := e.eq
  rw [e1, e2, e3]
theorem Ok.of_run {α : Type} {r : R α} {v : α} {h : DH} {Q : α → DH → Prop} (e : r = .ok v h) (q : Q v h) : Ok r Q := Ok.of e q
def uO (o : Option (Option D)) (Q : D → DH → Prop) (h : DH) (_t : Tg2 Q h) : Prop := match o with
  | some (some d) => Q d h
  | _ => False
section
variable {Q : D → DH → Prop} {X : XQ} {env : Env} {h : DH} {d : D}
theorem u_varO {i : Nat} {t : Tg2 Q X} : wE (dVar i env h) Q X t = uO env[i]? Q h ⟨⟩ := by
  unfold dVar uO
  cases env[i]? with
  | none => rfl
  | some o => cases o <;> rfl
theorem uO_some {t : Tg2 Q h} : uO (some (some d)) Q h t = Q d h := (rfl)
theorem get0 {α : Type} {a : α} {l : List α} : (a :: l)[0]? = some a := (rfl)
theorem get1 {α : Type} {a b : α} {l : List α} : (a :: b :: l)[1]? = some b := (rfl)
theorem aName_run {i : Nat} : aName i d env = some (env.set i (some d)) := (rfl)
end
section
variable {Q : PQ} {env : Env} {h : DH} {t : Tg Q} {m : SD} {g : AG} {f : Nat}
theorem wS_for {mi : DEn IS} : wS (sFor f mi g m env h) Q t = wE (mi env h) (fun is h => wS (forI g m f is env h) Q ⟨⟩) (fun c a h => Q.xc c a env h) ⟨⟩ := wS_toS
theorem forI_items {ds : List D} : forI g m f (.items ds) = forS g m ds := (rfl)
theorem forI_lst {n : Nat} : forI g m f (.lst n) = forR g m n f 0 := (rfl)
theorem forS_nil : forS g m [] env h = .nx env h := (rfl)
theorem wS_nx : wS (.nx env h) Q t = Q.nx env h := (rfl)
theorem wS_bk : wS (.bk env h) Q t = Q.bk env h := (rfl)
theorem wS_ct : wS (.ct env h) Q t = Q.ct env h := (rfl)
theorem wS_rt {d : D} : wS (.rt d h) Q t = Q.rt d h := (rfl)
/-- one lap of a loop -/
theorem forS_cons {d : D} {ds : List D} : wS (forS g m (d :: ds) env h) Q t = wG (g d env) (fun env1 h => wS (m env1 h) ⟨fun e h => wS (forS g m ds e h) Q ⟨⟩, Q.rt, Q.nx, fun e h => wS (forS g m ds e h) Q ⟨⟩, Q.xc⟩ ⟨⟩) h ⟨⟩ := by
  conv => lhs; unfold forS
  cases g d env with
  | none => rfl
  | some e1 =>
    simp only [wG_some]
    cases m e1 h <;> rfl
/-- a loop by its invariant -/
theorem forS_inv {I : Nat → Env → DH → Prop} : ∀ (ds : List D) (j : Nat) {env : Env} {h : DH}, I j env h →
    (∀ (i : Nat) (d : D) env h, ds[i]? = some d → I (j + i) env h → ∃ env1, g d env = some env1 ∧ wS (m env1 h) ⟨I (j + i + 1), Q.rt, Q.nx, I (j + i + 1), Q.xc⟩ ⟨⟩) →
    (∀ env h, I (j + ds.length) env h → Q.nx env h) → wS (forS g m ds env h) Q t
  | [], j, env, h, a, _, c => c env h a
  | d :: ds, j, env, h, a, b, c => by
    rw [forS_cons]
    obtain ⟨e1, q1, q2⟩ := b 0 d env h rfl a
    rw [q1, wG_some]
    have next : ∀ e h, I (j + 0 + 1) e h → wS (forS g m ds e h) Q ⟨⟩ := fun e h i1 => forS_inv (I := I) ds (j + 1) i1 (fun i d' e h q i2 => by
        have z := b (i + 1) d' e h q (by rw [show j + (i + 1) = j + 1 + i by omega]; exact i2)
        rw [show j + (i + 1) = j + 1 + i by omega] at z
        exact z) (fun e h i2 => c e h (by rw [List.length_cons, show j + (ds.length + 1) = j + 1 + ds.length by omega]; exact i2))
    exact wS_mono q2 next (fun _ _ z => z) (fun _ _ z => z) next (fun _ _ _ _ z => z)
/-- a loop over a list that stands -/
theorem forR_inv {n : Nat} {ds : List D} {I : Nat → Env → DH → Prop} (keep : ∀ i env h, I i env h → h[n]? = some (.lst ds)) (step : ∀ (i : Nat) (d : D) env h, ds[i]? = some d → I i env h → ∃ env1, g d env = some env1 ∧ wS (m env1 h) ⟨I (i + 1), Q.rt, Q.nx, I (i + 1), Q.xc⟩ ⟨⟩)
    (fin : ∀ env h, I ds.length env h → Q.nx env h) : ∀ (f j : Nat) {env : Env} {h : DH}, ds.length < j + f → j ≤ ds.length → I j env h → wS (forR g m n f j env h) Q t
  | 0, j, env, h, l, l2, a => by omega
  | f + 1, j, env, h, l, l2, a => by
    unfold forR
    simp only [keep j env h a]
    cases e : ds[j]? with
    | none =>
      have : j = ds.length := by
        have := List.getElem?_eq_none_iff.mp e
        omega
      subst this
      exact fin env h a
    | some d =>
      have lt : j < ds.length := (List.getElem?_eq_some_iff.mp e).1
      obtain ⟨e1, q1, q2⟩ := step j d env h e a
      simp only [q1]
      have next : ∀ e h, I (j + 1) e h → wS (forR g m n f (j + 1) e h) Q ⟨⟩ := fun e h i1 => forR_inv keep step fin f (j + 1) (by omega) (by omega) i1
      cases r : m e1 h with
      | nx e h => rw [r] at q2; exact next e h q2
      | ct e h => rw [r] at q2; exact next e h q2
      | bk e h => rw [r] at q2; exact q2
      | rt d h => rw [r] at q2; exact q2
      | exc c a e h => rw [r] at q2; exact q2
      | bad => rw [r] at q2; exact q2.elim
theorem wS_forR {n : Nat} {ds : List D} (I : Nat → Env → DH → Prop) (hl : ds.length < f) (a : I 0 env h) (keep : ∀ i env h, I i env h → h[n]? = some (.lst ds)) (step : ∀ (i : Nat) (d : D) env h, ds[i]? = some d → I i env h → ∃ env1, g d env = some env1 ∧ wS (m env1 h) ⟨I (i + 1), Q.rt, Q.nx, I (i + 1), Q.xc⟩ ⟨⟩)
    (fin : ∀ env h, I ds.length env h → Q.nx env h) : wS (forI g m f (.lst n) env h) Q t := forR_inv keep step fin f 0 (by omega) (Nat.zero_le _) a
theorem wS_forS {ds : List D} (I : Nat → Env → DH → Prop) (a : I 0 env h) (step : ∀ (i : Nat) (d : D) env h, ds[i]? = some d → I i env h → ∃ env1, g d env = some env1 ∧ wS (m env1 h) ⟨I (i + 1), Q.rt, Q.nx, I (i + 1), Q.xc⟩ ⟨⟩)
    (fin : ∀ env h, I ds.length env h → Q.nx env h) : wS (forS g m ds env h) Q t := forS_inv (I := I) ds 0 a (fun i d env h q i1 => by
    have e : 0 + i = i := Nat.zero_add i
    rw [e] at i1 ⊢
    exact step i d env h q i1) (fun env h i1 => by
    rw [Nat.zero_add] at i1
    exact fin env h i1)
end
/-- a comprehension that writes nothing -/
theorem lcR_pure {g : AG} {tt : DEn Bool} {te : DE} {env : Env} {h : DH} {n : Nat} {ds : List D} {e : D → Env} {p : D → Bool} {q : D → D} (hn : h[n]? = some (.lst ds)) (hd : ∀ d ∈ ds, g d env = some (e d) ∧ tt (e d) h = .ok (p d) h ∧ (p d = true → te (e d) h = .ok (q d) h)) :
    ∀ (f j : Nat), ds.length < j + f → j ≤ ds.length → lcR g tt te env n f j h = .ok (((ds.drop j).filter p).map q) h
  | 0, j, l, l2 => by omega
  | f + 1, j, l, l2 => by
    unfold lcR
    simp only [hn]
    cases q : ds[j]? with
    | none =>
      have : ds.length ≤ j := List.getElem?_eq_none_iff.mp q
      simp [List.drop_eq_nil_iff.mpr this]
    | some d =>
      have lt : j < ds.length := (List.getElem?_eq_some_iff.mp q).1
      have ih := lcR_pure hn hd f (j + 1) (by omega) (by omega)
      obtain ⟨h1, h2, h3⟩ := hd d (List.mem_of_getElem? q)
      have dr : ds.drop j = d :: ds.drop (j + 1) := by
        rw [List.drop_eq_getElem_cons lt]
        have := (List.getElem?_eq_some_iff.mp q).2
        rw [this]
      simp only [h1, h2, R.noX, R.bind_ok, dr]
      cases hp : p d with
      | true => simp [h3 hp, R.noX, R.bind_ok, ih, hp]
      | false => simp [ih, hp]
theorem u_lcS_pure {QL : List D → DH → Prop} {X : XQ} {t : Tg2 QL X} {f : Nat} {g : AG} {tt : DEn Bool} {te : DE} {env : Env} {h : DH} (e : D → Env) (p : D → Bool) (q : D → D) {ds : List D} (hd : ∀ d ∈ ds, g d env = some (e d) ∧ tt (e d) h = .ok (p d) h ∧ (p d = true → te (e d) h = .ok (q d) h)) :
    wE (lcI g tt te f env (.items ds) h) QL X t = QL ((ds.filter p).map q) h := by
  show wE (lcS g tt te env ds h) QL X t = _
  rw [lcS_pure hd]
  rfl
theorem u_lcR_pure {QL : List D → DH → Prop} {X : XQ} {t : Tg2 QL X} {f n : Nat} {g : AG} {tt : DEn Bool} {te : DE} {env : Env} {h : DH} (e : D → Env) (p : D → Bool) (q : D → D) {ds : List D} (hn : h[n]? = some (.lst ds)) (hf : ds.length < f) (hd : ∀ d ∈ ds, g d env = some (e d) ∧ tt (e d) h = .ok (p d) h ∧ (p d = true → te (e d) h = .ok (q d) h)) :
    wE (lcI g tt te f env (.lst n) h) QL X t = QL ((ds.filter p).map q) h := by
  show wE (lcR g tt te env n f 0 h) QL X t = _
  rw [lcR_pure hn hd f 0 (by omega) (Nat.zero_le _)]
  rfl
section
variable {h : DH} {b : Bool} {i j : Int} {s t : Txt} {a a0 a1 a2 a3 a4 a5 d : D} {l ds es : List D} {neg : Bool} {n : Nat}
theorem isi_non_int : isiF [.non, .ty "int"] h = .ok (.bl false) h := by rw [isiF_run (t := "NoneType") rfl (by simp)]; rfl
theorem isi_non_bool : isiF [.non, .ty "bool"] h = .ok (.bl false) h := by rw [isiF_run (t := "NoneType") rfl (by simp)]; rfl
theorem isi_non_str : isiF [.non, .ty "str"] h = .ok (.bl false) h := by rw [isiF_run (t := "NoneType") rfl (by simp)]; rfl
theorem isi_non_tuple : isiF [.non, .ty "tuple"] h = .ok (.bl false) h := by rw [isiF_run (t := "NoneType") rfl (by simp)]; rfl
theorem isi_non_list : isiF [.non, .ty "list"] h = .ok (.bl false) h := by rw [isiF_run (t := "NoneType") rfl (by simp)]; rfl
theorem isi_bl_int : isiF [.bl b, .ty "int"] h = .ok (.bl true) h := by rw [isiF_run (t := "bool") rfl (by simp)]; rfl
theorem isi_bl_bool : isiF [.bl b, .ty "bool"] h = .ok (.bl true) h := by rw [isiF_run (t := "bool") rfl (by simp)]; rfl
theorem isi_bl_str : isiF [.bl b, .ty "str"] h = .ok (.bl false) h := by rw [isiF_run (t := "bool") rfl (by simp)]; rfl
theorem isi_bl_tuple : isiF [.bl b, .ty "tuple"] h = .ok (.bl false) h := by rw [isiF_run (t := "bool") rfl (by simp)]; rfl
theorem isi_bl_list : isiF [.bl b, .ty "list"] h = .ok (.bl false) h := by rw [isiF_run (t := "bool") rfl (by simp)]; rfl
theorem isi_int_int : isiF [.int i, .ty "int"] h = .ok (.bl true) h := by rw [isiF_run (t := "int") rfl (by simp)]; rfl
theorem isi_int_bool : isiF [.int i, .ty "bool"] h = .ok (.bl false) h := by rw [isiF_run (t := "int") rfl (by simp)]; rfl
theorem isi_int_str : isiF [.int i, .ty "str"] h = .ok (.bl false) h := by rw [isiF_run (t := "int") rfl (by simp)]; rfl
theorem isi_int_tuple : isiF [.int i, .ty "tuple"] h = .ok (.bl false) h := by rw [isiF_run (t := "int") rfl (by simp)]; rfl
theorem isi_int_list : isiF [.int i, .ty "list"] h = .ok (.bl false) h := by rw [isiF_run (t := "int") rfl (by simp)]; rfl
theorem isi_str_int : isiF [.str s, .ty "int"] h = .ok (.bl false) h := by rw [isiF_run (t := "str") rfl (by simp)]; rfl
theorem isi_str_bool : isiF [.str s, .ty "bool"] h = .ok (.bl false) h := by rw [isiF_run (t := "str") rfl (by simp)]; rfl
theorem isi_str_str : isiF [.str s, .ty "str"] h = .ok (.bl true) h := by rw [isiF_run (t := "str") rfl (by simp)]; rfl
theorem isi_str_tuple : isiF [.str s, .ty "tuple"] h = .ok (.bl false) h := by rw [isiF_run (t := "str") rfl (by simp)]; rfl
theorem isi_str_list : isiF [.str s, .ty "list"] h = .ok (.bl false) h := by rw [isiF_run (t := "str") rfl (by simp)]; rfl
theorem isi_tup_int : isiF [.tup ds, .ty "int"] h = .ok (.bl false) h := by rw [isiF_run (t := "tuple") rfl (by simp)]; rfl
theorem isi_tup_bool : isiF [.tup ds, .ty "bool"] h = .ok (.bl false) h := by rw [isiF_run (t := "tuple") rfl (by simp)]; rfl
theorem isi_tup_str : isiF [.tup ds, .ty "str"] h = .ok (.bl false) h := by rw [isiF_run (t := "tuple") rfl (by simp)]; rfl
theorem isi_tup_tuple : isiF [.tup ds, .ty "tuple"] h = .ok (.bl true) h := by rw [isiF_run (t := "tuple") rfl (by simp)]; rfl
theorem isi_tup_list : isiF [.tup ds, .ty "list"] h = .ok (.bl false) h := by rw [isiF_run (t := "tuple") rfl (by simp)]; rfl
theorem isi_frz_int : isiF [.frz ds, .ty "int"] h = .ok (.bl false) h := by rw [isiF_run (t := "list") rfl (by simp)]; rfl
theorem isi_frz_bool : isiF [.frz ds, .ty "bool"] h = .ok (.bl false) h := by rw [isiF_run (t := "list") rfl (by simp)]; rfl
theorem isi_frz_str : isiF [.frz ds, .ty "str"] h = .ok (.bl false) h := by rw [isiF_run (t := "list") rfl (by simp)]; rfl
theorem isi_frz_tuple : isiF [.frz ds, .ty "tuple"] h = .ok (.bl false) h := by rw [isiF_run (t := "list") rfl (by simp)]; rfl
theorem isi_frz_list : isiF [.frz ds, .ty "list"] h = .ok (.bl true) h := by rw [isiF_run (t := "list") rfl (by simp)]; rfl
theorem isi_ref (e : h[n]? = some (.lst ds)) : isiF [.ref n, .ty "list"] h = .ok (.bl true) h := by rw [isiF_run (t := "list") (by simp [tyN, e]) (by simp)]; rfl
theorem isi_refN (e : h[n]? = some (.lst ds)) : isiF [.ref n, .ty "tuple"] h = .ok (.bl false) h := by rw [isiF_run (t := "list") (by simp [tyN, e]) (by simp)]; rfl
theorem len_tup : lenF2 [.tup ds] h = .ok (.int ds.length) h := (rfl)
theorem len_frz : lenF2 [.frz ds] h = .ok (.int ds.length) h := (rfl)
theorem len_str (e : t.length ≤ big) : lenF2 [.str t] h = .ok (.int t.length) h := by
  show (if t.length ≤ big then _ else _) = _
  rw [if_pos e]
theorem len_ref (e : h[n]? = some (.lst ds)) : lenF2 [.ref n] h = .ok (.int ds.length) h := by
  simp [lenF2, lenF, e]
theorem atI_nat {α : Type} (xs : List α) (i : Nat) : atI xs (i : Int) = xs[i]? := by
  unfold atI ixN
  rw [if_pos (Int.natCast_nonneg i)]
  by_cases z : i < xs.length
  · rw [if_pos (by omega)]; simp
  · rw [if_neg (by omega)]
    simp only [Option.bind_none]
    exact (List.getElem?_eq_none_iff.mpr (by omega)).symm
theorem ix_at {i : Nat} (e : ds[i]? = some d) : ixD (.tup ds) (.int (i : Nat)) h = .ok d h := by
  simp only [ixD, atI_nat, e]
theorem ix_ref {i : Nat} (e1 : h[n]? = some (.lst ds)) (e : ds[i]? = some d) : ixD (.ref n) (.int (i : Nat)) h = .ok d h := by
  simp only [ixD, atI_nat, e1, e]
theorem ix_chr {i c : Nat} (e1 : t.length ≤ big) (e : t[i]? = some c) : ixD (.str t) (.int (i : Nat)) h = .ok (.str [c]) h := by
  simp only [ixD, atI_nat, e]
  rw [if_pos e1]
theorem ix0 : ixD (.tup (a0 :: l)) (.int 0) h = .ok a0 h := ix_at (i := 0) rfl
theorem ix1 : ixD (.tup (a0 :: a1 :: l)) (.int 1) h = .ok a1 h := ix_at (i := 1) rfl
theorem ix2 : ixD (.tup (a0 :: a1 :: a2 :: l)) (.int 2) h = .ok a2 h := ix_at (i := 2) rfl
theorem ix3 : ixD (.tup (a0 :: a1 :: a2 :: a3 :: l)) (.int 3) h = .ok a3 h := ix_at (i := 3) rfl
theorem ix4 : ixD (.tup (a0 :: a1 :: a2 :: a3 :: a4 :: l)) (.int 4) h = .ok a4 h := ix_at (i := 4) rfl
theorem ix5 : ixD (.tup (a0 :: a1 :: a2 :: a3 :: a4 :: a5 :: l)) (.int 5) h = .ok a5 h := ix_at (i := 5) rfl
theorem neg_int : negD (.int i) h = .ok (.int (-i)) h := (rfl)
theorem add_int : addD (.int i) (.int j) h = .ok (.int (i + j)) h := (rfl)
theorem sub_int : subD (.int i) (.int j) h = .ok (.int (i - j)) h := (rfl)
theorem add_tup : addD (.tup ds) (.tup es) h = if ds.length + es.length ≤ big then .ok (.tup (ds ++ es)) h else .bad := (rfl)
theorem add_str : addD (.str s) (.str t) h = if s.length + t.length ≤ big then .ok (.str (s ++ t)) h else .bad := (rfl)
theorem add_lst {m : Nat} (e1 : h[n]? = some (.lst ds)) (e2 : h[m]? = some (.lst es)) (hl : ds.length + es.length ≤ big) : addD (.ref n) (.ref m) h = .ok (.ref h.length) (h ++ [.lst (ds ++ es)]) := by
  simp only [addD, e1, e2]
  rw [if_pos hl]
  rfl
theorem is_non : isB neg d .non h = .ok (.bl (if neg then !isNon d else isNon d)) h := by cases d <;> rfl
theorem in_cdt {kvs : List (Txt × D)} : inB neg (.str s) (.cdt kvs) h = .ok (.bl (negIf neg (lookT s kvs).isSome)) h := by
  match s with
  | [] => rfl
  | [_] => rfl
  | _ :: _ :: _ => rfl
theorem ix_cdt {kvs : List (Txt × D)} (e : lookT s kvs = some d) : ixD (.cdt kvs) (.str s) h = .ok d h := by
  simp only [ixD, e]
theorem ix_dct {kvs : List (D × D)} (e : h[n]? = some (.dct kvs)) (e2 : lookK (.str s) kvs = some d) : ixD (.ref n) (.str s) h = .ok d h := by
  simp only [ixD, e, e2]
theorem in_chr {c : Nat} : inB neg (.str [c]) (.str t) h = .ok (.bl (negIf neg (decide (c ∈ t)))) h := (rfl)
theorem ord_int {o : OrdK} : ordD o (.int i) (.int j) h = .ok (.bl (o.z i j)) h := by cases o <;> rfl
theorem mod_int (e : 0 < j) : modD (.int i) (.int j) h = .ok (.int (i % j)) h := by
  simp only [modD]
  rw [if_pos e]
theorem fdiv_int (e : 0 < j ∧ j < 1073741824) : fdivD (.int i) (.int j) h = .ok (.int (i / j)) h := by
  simp only [fdivD]
  rw [if_pos e]
theorem mul_int (e : mulOk i j = true) : mulD (.int i) (.int j) h = .ok (.int (i * j)) h := by
  simp only [mulD]
  rw [if_pos e]
theorem int_int : intF [.int i] h = .ok (.int i) h := (rfl)
theorem sl_tup {lo hi : Option Int} : slD (.tup ds) lo hi h = .ok (.tup (cut ds lo hi)) h := (rfl)
theorem sl_str {lo hi : Option Int} (e : t.length ≤ big) : slD (.str t) lo hi h = .ok (.str (cut t lo hi)) h := by
  simp only [slD]
  rw [if_pos e]
theorem itV_tup : itV (.tup ds) h = .ok (.items ds) h := (rfl)
theorem itV_frz : itV (.frz ds) h = .ok (.items ds) h := (rfl)
theorem itV_str (e : t.length ≤ big) : itV (.str t) h = .ok (.items (chars t)) h := by
  simp only [itV]
  rw [if_pos e]
theorem itV_ref (e : h[n]? = some (.lst ds)) : itV (.ref n) h = .ok (.lst n) h := by
  simp only [itV, e]
theorem list_tup : listF2 [.tup ds] h = .ok (.ref h.length) (h ++ [.lst ds]) := (rfl)
theorem list_str (e : t.length ≤ big) : listF2 [.str t] h = .ok (.ref h.length) (h ++ [.lst (chars t)]) := by
  simp only [listF2]
  rw [if_pos e]
  rfl
theorem cut_nn {α : Type} (xs : List α) (i j : Nat) : cut xs (some (i : Int)) (some (j : Int)) = (xs.drop i).take (j - i) := by
  unfold cut
  rw [HT.sIx_nat, HT.sIx_nat]
  by_cases z : i ≤ xs.length
  · rw [Nat.min_eq_left z]
    by_cases y : j ≤ xs.length
    · rw [Nat.min_eq_left y]
    · rw [Nat.min_eq_right (by omega), List.take_of_length_le (by simp), List.take_of_length_le (by simp; omega)]
  · rw [Nat.min_eq_right (a := i) (by omega), List.drop_of_length_le (Nat.le_refl _), List.drop_of_length_le (by omega)]
    simp
theorem cut_n {α : Type} (xs : List α) (i : Nat) : cut xs (some (i : Int)) none = xs.drop i := by
  unfold cut
  rw [HT.sIx_nat, HT.sIx_none]
  by_cases z : i ≤ xs.length
  · rw [Nat.min_eq_left z, List.take_of_length_le (by simp)]
  · rw [Nat.min_eq_right (by omega), List.drop_of_length_le (Nat.le_refl _), List.drop_of_length_le (by omega)]
    simp
theorem cut_0n {α : Type} (xs : List α) (j : Nat) : cut xs none (some (j : Int)) = xs.take j := by
  unfold cut
  rw [HT.sIx_nat, HT.sIx_none]
  by_cases y : j ≤ xs.length
  · rw [Nat.min_eq_left y]; simp
  · rw [Nat.min_eq_right (a := j) (by omega), List.drop_zero, List.take_of_length_le (by simp), List.take_of_length_le (by omega)]
theorem cast_succ0 {n : Nat} : ((((n + 1 : Nat) : Int) = 0) = False) := by
  apply propext
  constructor
  · intro z
    omega
  · exact fun z => z.elim
theorem all_ref {p : D → Bool} (e : h[n]? = some (.lst (ds.map fun d => .bl (p d)))) : allF [.ref n] h = .ok (.bl (ds.all p)) h := by
  simp only [allF, e, bls_all]
  simp [List.all_map, Function.comp_def]
theorem any_ref {p : D → Bool} (e : h[n]? = some (.lst (ds.map fun d => .bl (p d)))) : anyF [.ref n] h = .ok (.bl (ds.any p)) h := by
  simp only [anyF, e, bls_all]
  simp [List.any_map, Function.comp_def]
theorem tyD_str : tyD "str" (.str t) h = true := (rfl)
theorem tyD_lst (e : h[n]? = some (.lst ds)) : tyD "list" (.ref n) h = true := by
  simp [tyD, e]
theorem cut12 {α : Type} {x : α} {l : List α} : cut (x :: l) (some 1) (some 2) = l.take 1 := cut_nn (x :: l) 1 2
theorem cut13 {α : Type} {x : α} {l : List α} : cut (x :: l) (some 1) (some 3) = l.take 2 := cut_nn (x :: l) 1 3
theorem cut1 {α : Type} {x : α} {l : List α} : cut (x :: l) (some 1) none = l := cut_n (x :: l) 1
theorem cut2n {α : Type} {x y : α} {l : List α} : cut (x :: y :: l) (some 2) none = l := cut_n (x :: y :: l) 2
theorem cut5n {α : Type} {a b c d e : α} {l : List α} : cut (a :: b :: c :: d :: e :: l) (some 5) none = l := cut_n (a :: b :: c :: d :: e :: l) 5
theorem cut35 {α : Type} {a b c : α} {l : List α} : cut (a :: b :: c :: l) (some 3) (some 5) = l.take 2 := cut_nn (a :: b :: c :: l) 3 5
theorem cut_m1 {α : Type} {xs : List α} : cut xs (some (-1)) none = xs.drop (xs.length - 1) := by
  unfold cut
  have e : HT.sIx xs.length 0 (some (-1)) = xs.length - 1 := by
    show (if (-1 : Int) < 0 then ((-1 : Int) + (xs.length : Int)).toNat else min (-1 : Int).toNat xs.length) = _
    rw [if_pos (by decide)]
    omega
  rw [e, HT.sIx_none, List.take_of_length_le (by simp)]
theorem cut_0m1 {α : Type} {xs : List α} : cut xs none (some (-1)) = xs.take (xs.length - 1) := by
  unfold cut
  have e : HT.sIx xs.length xs.length (some (-1)) = xs.length - 1 := by
    show (if (-1 : Int) < 0 then ((-1 : Int) + (xs.length : Int)).toNat else min (-1 : Int).toNat xs.length) = _
    rw [if_pos (by decide)]
    omega
  rw [e, HT.sIx_none]
  simp
theorem cut1n {α : Type} {xs : List α} : cut xs (some 1) none = xs.drop 1 := cut_n xs 1
theorem rev_tup : revD (.tup ds) h = .ok (.tup ds.reverse) h := (rfl)
theorem join_ref {ts : List Txt} (e : h[n]? = some (.lst ds)) (e2 : txtsD ds = some ts) (hl : (ts.map List.length).sum + ts.length * t.length ≤ 16777216) : joinM (.str t) [.ref n] h = .ok (.str (joinT t ts)) h := by
  simp only [joinM, e, joinF, e2]
  rw [if_pos hl]
theorem enK_tup : enK (.tup ds) h = .ok (.items (enumD ds)) h := (rfl)
theorem aTup_run {k : Nat} {gs : AGs} {env : Env} (e : ds.length = k) : aTup k gs (.tup ds) env = gs ds env := by
  show (if ds.length = k then _ else _) = _
  rw [if_pos e]
theorem aCons_run {g : AG} {gs : AGs} {env env1 : Env} (e : g d env = some env1) : aCons g gs (d :: ds) env = gs ds env1 := by
  show (g d env).bind _ = _
  rw [e]
  rfl
theorem aPair {i j : Nat} {env : Env} : aTup 2 (aCons (aName i) (aCons (aName j) aNil)) (.tup [a0, a1]) env = some ((env.set i (some a0)).set j (some a1)) := (rfl)
theorem enum_get {i : Nat} (e : (enumD ds)[i]? = some d) : ∃ x, ds[i]? = some x ∧ d = .tup [.int (i : Nat), x] := by
  unfold enumD at e
  rw [List.getElem?_map, Option.map_eq_some_iff] at e
  obtain ⟨j, e1, rfl⟩ := e
  have hj := List.getElem?_eq_some_iff.mp e1
  obtain ⟨lt, e2⟩ := hj
  simp only [List.length_range] at lt
  simp only [List.getElem_range] at e2
  subst e2
  refine ⟨ds[i], List.getElem?_eq_getElem lt, ?_⟩
  rw [List.getD_eq_getElem?_getD, List.getElem?_eq_getElem lt]
  rfl
theorem enum_len : (enumD ds).length = ds.length := by simp [enumD]
theorem eqvAll_nil (ps : List PyData) : PyData.eqvAll ps [] = ps.isEmpty := by
  cases ps <;> rfl
theorem shaped_nilT : SeqAt.shaped (.tuple []) = true := by decide +kernel
theorem shaped_nilL : SeqAt.shaped (.list []) = true := by decide +kernel
theorem eq_tup_nil {k w : Nat} {p : PyData} (a : Th h k w (.tup ds) p) (hk : k < 60) : eqB neg (.tup ds) (.tup []) h = .ok (.bl (if neg then !ds.isEmpty else ds.isEmpty)) h := by
  have z := a.py hk
  obtain ⟨ps, j, rfl, rfl, l⟩ := a.tup_inv
  have e : toPy h 60 (.tup []) = some (.tuple []) := rfl
  have q : ps.isEmpty = ds.isEmpty := by
    have := l.is.length
    cases ps <;> cases ds <;> simp_all
  show eqB0 neg _ _ h = _
  simp only [eqB0, z, e]
  rw [if_pos ⟨a.shaped (by omega), shaped_nilT⟩]
  have e2 : PyData.eqv (.tuple ps) (.tuple []) = ds.isEmpty := by
    rw [← q, ← eqvAll_nil ps]
    simp only [PyData.eqv]
  rw [e2]
theorem eq_ref_nil {m k w : Nat} {ps : List PyData} (e1 : h[n]? = some (.lst ds)) (e2 : h[m]? = some (.lst [])) (l : ThL h k w ds ps) (hk : k < 59) : eqB neg (.ref n) (.ref m) h = .ok (.bl (if neg then !ds.isEmpty else ds.isEmpty)) h := by
  have a := Th.ref e1 l
  have z := a.py (by omega)
  have e : toPy h 60 (.ref m) = some (.list []) := by simp only [toPy, e2]; rfl
  have q : ps.isEmpty = ds.isEmpty := by
    have := l.is.length
    cases ps <;> cases ds <;> simp_all
  show eqB0 neg _ _ h = _
  simp only [eqB0, z, e]
  rw [if_pos ⟨a.shaped (by omega), shaped_nilL⟩]
  have e2 : PyData.eqv (.list ps) (.list []) = ds.isEmpty := by
    rw [← q, ← eqvAll_nil ps]
    simp only [PyData.eqv]
  rw [e2]
theorem in_dct {kvs : List (D × D)} (e : h[n]? = some (.dct kvs)) : inB neg (.str s) (.ref n) h = .ok (.bl (negIf neg (lookK (.str s) kvs).isSome)) h := by
  have r : inRef neg (.str s) n h = .ok (.bl (negIf neg (lookK (.str s) kvs).isSome)) h := by
    simp only [inRef, e]
  match s, r with
  | [], r => exact r
  | [_], r => exact r
  | _ :: _ :: _, r => exact r
theorem app_get1 {a b : DO} : (h ++ [a, b])[h.length]? = some a := by simp
theorem app_get2 {a b : DO} : (h ++ [a] ++ [b])[h.length]? = some a := by simp
theorem pre_app {x : DH} : h <+: h ++ x := ⟨x, rfl⟩
theorem lit_big {m : Nat} (e : m ≤ 16777216) : (m ≤ big) = True := eq_true e
theorem set_ref (e : h[n]? = some (.lst ds)) (a : ds.all isKey = true) (l : ds.length < 4095) : setF [.ref n] h = .ok (.ref h.length) (h ++ [.set (dedupD ds)]) := by
  simp only [setF, e]
  rw [if_pos ⟨a, l⟩]
  rfl
theorem len_set {ks : List D} (e : h[n]? = some (.set ks)) (l : ks.length < big) : lenF2 [.ref n] h = .ok (.int ks.length) h := by
  simp only [lenF2, e]
  rw [if_pos l]
theorem app_getS {o : DO} : (h ++ [o])[h.length]? = some o := by simp
theorem pow_int (e : 0 ≤ j ∧ j ≤ 1000000 ∧ i.natAbs < 2 ^ 64) : powD (.int i) (.int j) h = .ok (.int (i ^ j.toNat)) h := by
  simp only [powD]
  rw [if_pos e]
theorem mul_l (e : i.natAbs < 2 ^ 64) : mulD (.int i) (.int j) h = .ok (.int (i * j)) h := mul_int (by simp [mulOk, e])
theorem ints_seq (ns : List Int) (m : Nat) : seqO ((ns.map D.int).map (toPy h (m + 1))) = some (ns.map .int) := by
  induction ns with
  | nil => rfl
  | cons a l ih => simp only [List.map_cons, toPy, seqO, ih]; rfl
theorem ints_lay (ns : List Int) : PyData.canLayAll0 (ns.map .int) = true := by
  rw [canLayAll_all]
  simp [PyData.canLay0]
theorem ints_depth (ns : List Int) : (PyData.list (ns.map .int)).depth ≤ 1 := by
  rw [depth_list]
  have : PyData.depthAll (ns.map .int) ≤ 0 := depthAll_le.mpr (by simp [PyData.depth])
  omega
theorem eq_ints_nil {m : Nat} {ns : List Int} (e1 : h[n]? = some (.lst (ns.map .int))) (e2 : h[m]? = some (.lst [])) : eqB neg (.ref n) (.ref m) h = .ok (.bl (if neg then !ns.isEmpty else ns.isEmpty)) h := by
  have z : toPy h 60 (.ref n) = some (.list (ns.map .int)) := by
    simp only [toPy, e1]
    rw [ints_seq]
    rfl
  have e : toPy h 60 (.ref m) = some (.list []) := by simp only [toPy, e2]; rfl
  show eqB0 neg _ _ h = _
  simp only [eqB0, z, e]
  have sh : SeqAt.shaped (.list (ns.map .int)) = true := by
    have := ints_depth ns
    simp only [SeqAt.shaped, PyData.canLay0, ints_lay, Bool.true_and]
    exact decide_eq_true (by omega)
  rw [if_pos ⟨sh, shaped_nilL⟩]
  have e2 : PyData.eqv (.list (ns.map .int)) (.list []) = ns.isEmpty := by
    have : (ns.map PyData.int).isEmpty = ns.isEmpty := by cases ns <;> rfl
    rw [← this, ← eqvAll_nil (ns.map PyData.int)]
    simp only [PyData.eqv]
  rw [e2]
theorem set_dct {kvs : List (D × D)} (e : h[n]? = some (.dct kvs)) (l : kvs.length < big) : setD (.ref n) (.str s) d h = .ok () (h.set n (.dct (putD (.str s) d kvs))) := by
  simp only [setD, e]
  rw [if_pos l]
theorem get_set {o : DO} (e : (h[n]?).isSome = true) : (h.set n o)[n]? = some o := by
  obtain ⟨x, hx⟩ := Option.isSome_iff_exists.mp e
  have lt := (List.getElem?_eq_some_iff.mp hx).1
  simp [lt]
theorem app_l {o : DO} {x : DH} (e : h[n]? = some o) : (h ++ x)[n]? = some o := pre_get pre_app e
theorem wS_cut {r : SR} {Q : PQ} {t : Tg Q} (I : Env → DH → Prop) (a : wS r ⟨I, Q.rt, Q.bk, Q.ct, Q.xc⟩ ⟨⟩) (b : ∀ e h, I e h → Q.nx e h) : wS r Q t := wS_mono a b (fun _ _ z => z) (fun _ _ z => z) (fun _ _ z => z) (fun _ _ _ _ z => z)
theorem append_ref (e : h[n]? = some (.lst ds)) (l : ds.length < big) : appendM (.ref n) [d] h = .ok .non (h.set n (.lst (ds ++ [d]))) := by
  simp only [appendM, e]
  rw [if_pos l]
theorem sl_ref {lo hi : Option Int} (e : h[n]? = some (.lst ds)) : slD (.ref n) lo hi h = .ok (.ref h.length) (h ++ [.lst (cut ds lo hi)]) := by
  simp only [slD, e]
  rfl
theorem tuple_ref (e : h[n]? = some (.lst ds)) : tupleF2 [.ref n] h = .ok (.tup ds) h := by
  simp only [tupleF2, tupleF, e]
theorem tuple_str (e : t.length ≤ big) : tupleF2 [.str t] h = .ok (.tup (chars t)) h := by
  simp only [tupleF2]
  rw [if_pos e]
theorem ix_txt {c : Nat} (l : t.length ≤ big) (e : atI t i = some c) : ixD (.str t) (.int i) h = .ok (.str [c]) h := by
  simp only [ixD, e]
  rw [if_pos l]
theorem atI_mem {α : Type} {xs : List α} {i : Int} {c : α} (e : atI xs i = some c) : c ∈ xs := by
  unfold atI at e
  obtain ⟨j, _, e⟩ := Option.bind_eq_some_iff.mp e
  exact List.mem_of_getElem? e
theorem rng_len {m : Nat} : (rngI i m).length = m := by simp [rngI]
theorem get_ne {o : DO} {m : Nat} (e : n ≠ m) : (h.set n o)[m]? = h[m]? := List.getElem?_set_ne e
theorem wE_add {Q : D → DH → Prop} {X : XQ} {tg : Tg2 Q X} {m : Nat} (e1 : h[n]? = some (.lst ds)) (e2 : h[m]? = some (.lst es)) (hl : ds.length + es.length ≤ big) (q : Q (.ref h.length) (h ++ [.lst (ds ++ es)])) : wE (addD (.ref n) (.ref m) h) Q X tg := by
  rw [add_lst e1 e2 hl]
  exact q
theorem upper_run (e : t.length ≤ 5592405) : upperM (.str t) [] h = .ok (.str (upperT t)) h := by
  simp only [upperM]
  rw [if_pos e]
theorem mul_tup (e : ds ≠ [] ∧ 2 ≤ i ∧ i ≤ 1000 ∧ ds.length ≤ 1000) : mulD (.tup ds) (.int i) h = .ok (.tup (List.replicate i.toNat ds).flatten) h := by
  simp only [mulD]
  rw [if_pos e]
theorem add_str_ok (e : s.length + t.length ≤ big) : addD (.str s) (.str t) h = .ok (.str (s ++ t)) h := by
  rw [add_str, if_pos e]
theorem app_get : (h ++ [DO.lst ds])[h.length]? = some (DO.lst ds) := by simp
end
end DV
namespace DV
open PySem L2
def elB : D → Bool
  | .non => true
  | .bl _ => true
  | .int i => decide (i.natAbs < 10 ^ 60)
  | .str t => (t.all fun c => decide (c < 1114112)) && decide (t.length ≤ 100)
  | _ => false
theorem el_int {h : DH} {k w : Nat} {i : Int} (e : i.natAbs < 10 ^ 60) (hw : 200 ≤ w) : Th h k w (.int i) (.int i) := ⟨by unfold Is; rfl, by
  have l : (PyData.shown (.int i)).length ≤ 70 := by
    have e2 := int_text_length_le10 (k := 60) (by decide) e
    show (Str.ofString (toString i)).length ≤ 70
    rw [ofString_length]
    omega
  have lg : i.natAbs.log2 < 1920 := by
    by_cases z : i.natAbs = 0
    · rw [z]; decide
    · rw [Nat.log2_lt z]
      exact Nat.lt_trans e (by decide +kernel)
  simp only [nice, PyData.canLay0, PyData.intsShort, PyData.showable, short, Bool.true_and, Bool.and_true, Bool.and_eq_true]
  exact ⟨decide_eq_true l, decide_eq_true lg⟩, by simp [PyData.depth], by
  have lg : i.natAbs.log2 < 200 := by
    by_cases z : i.natAbs = 0
    · rw [z]; decide
    · rw [Nat.log2_lt z]
      exact Nat.lt_trans e (by decide +kernel)
  simp only [PyData.weight]
  split <;> omega⟩
theorem el_th {h : DH} {d : D} (e : elB d = true) : ∃ p, Th h 0 200 d p := by
  match d, e with
  | .non, _ => exact ⟨_, Th.non⟩
  | .bl b, _ => exact ⟨_, Th.bl⟩
  | .int i, e => exact ⟨_, el_int (of_decide_eq_true e) (Nat.le_refl _)⟩
  | .str t, e =>
    simp only [elB, Bool.and_eq_true, List.all_eq_true, decide_eq_true_eq] at e
    exact ⟨_, Th.str e.1 (by omega) (by omega)⟩
theorem els_th {h : DH} : ∀ {ds : List D}, (∀ d ∈ ds, elB d = true) → ∃ ps, ThL h 0 (201 * ds.length) ds ps
  | [], _ => ⟨[], ThL.nil⟩
  | d :: ds, e => by
    obtain ⟨p, a⟩ := el_th (h := h) (e d List.mem_cons_self)
    obtain ⟨ps, b⟩ := els_th (h := h) (ds := ds) fun x m => e x (List.mem_cons_of_mem _ m)
    exact ⟨p :: ps, (ThL.cons a b).up (Nat.le_refl _) (by simp; omega)⟩
theorem row_th {h : DH} {ds : List D} (e : ∀ d ∈ ds, elB d = true) : ∃ p, Th h 1 (201 * ds.length) (.tup ds) p := by
  obtain ⟨ps, b⟩ := els_th (h := h) e
  exact ⟨_, Th.tup b⟩
/-- a row of values each of which can be shown -/
theorem thL_of {h : DH} {k w : Nat} : ∀ {ds : List D}, (∀ d ∈ ds, ∃ p, Th h k w d p) → ∃ ps, ThL h k ((w + 1) * ds.length) ds ps
  | [], _ => ⟨[], ThL.nil⟩
  | d :: ds, e => by
    obtain ⟨p, a⟩ := e d List.mem_cons_self
    obtain ⟨ps, b⟩ := thL_of (h := h) (k := k) (w := w) (ds := ds) fun x m => e x (List.mem_cons_of_mem _ m)
    exact ⟨p :: ps, (ThL.cons a b).up (Nat.le_refl _) (by rw [List.length_cons, Nat.mul_add]; omega)⟩
theorem Th.bound {h : DH} {k w : Nat} {d : D} {p : PyData} (a : Th h k w d p) : True := trivial
end DV
namespace DV
open PySem L2
section
variable {Q : PQ} {env : Env} {h : DH} {t : Tg Q} {m m1 m2 : SD} {g : AG} {f : Nat}
theorem wS_setN {mo mi mv : DE} : wS (sSetN mo mi mv env h) Q t = wE (mv env h) (fun v h => wE (mo env h) (fun o h => wE (mi env h) (fun i h => wE (setN o i v h) (fun _ h => Q.nx env h) (fun c a h => Q.xc c a env h) ⟨⟩) (fun c a h => Q.xc c a env h) ⟨⟩) (fun c a h => Q.xc c a env h) ⟨⟩) (fun c a h => Q.xc c a env h) ⟨⟩ := by
  unfold sSetN
  rw [wS_toS]
  refine wE_cg fun v h => ?_
  rw [wS_toS]
  refine wE_cg fun o h => ?_
  rw [wS_toS]
  refine wE_cg fun i h => ?_
  rw [wS_toS]
  rfl
/-- a while by its invariant and a measure that falls -/
theorem wS_while {tb : DEn Bool} (I : Env → DH → Prop) (mu : Env → DH → Nat) (step : ∀ env h, I env h → wE (tb env h) (fun k h1 => if k = true then wS (m env h1) ⟨fun e h2 => I e h2 ∧ mu e h2 < mu env h, Q.rt, Q.nx, fun e h2 => I e h2 ∧ mu e h2 < mu env h, Q.xc⟩ ⟨⟩ else Q.nx env h1) (fun c a h => Q.xc c a env h) ⟨⟩) :
    ∀ (n : Nat) (env : Env) (h : DH), I env h → mu env h < n → wS (sWhile tb m n env h) Q t
  | 0, env, h, a, l => absurd l (Nat.not_lt_zero _)
  | n + 1, env, h, a, l => by
    have st := step env h a
    unfold sWhile
    rw [wS_toS]
    refine wE_mono st ?_ (fun _ _ _ z => z)
    intro k h1 q
    by_cases hk : k = true
    · rw [if_pos hk] at q ⊢
      have next : ∀ e h2, I e h2 ∧ mu e h2 < mu env h → wS (sWhile tb m n e h2) Q ⟨⟩ := fun e h2 z => wS_while I mu step n e h2 z.1 (by omega)
      cases r : m env h1 with
      | nx e h2 => rw [r] at q; exact next e h2 q
      | ct e h2 => rw [r] at q; exact next e h2 q
      | bk e h2 => rw [r] at q; exact q
      | rt d h2 => rw [r] at q; exact q
      | exc c a e h2 => rw [r] at q; exact q
      | bad => rw [r] at q; exact q.elim
    · rw [if_neg hk] at q ⊢
      exact q
/-- for k in d -/
theorem wS_forN {i n : Nat} {kvs : List (D × D)} (hi : env[i]? = some (some (.ref n))) (hn : h[n]? = some (.dcn kvs)) (I : Nat → Env → DH → Prop) (a : I 0 env (h.set n (.lck kvs))) (keep : ∀ j e h', I j e h' → h'[n]? = some (.lck kvs))
    (step : ∀ (j : Nat) (d : D) e h', (kvs.map (·.1))[j]? = some d → I j e h' → ∃ e1, g d e = some e1 ∧ wS (m e1 h') ⟨I (j + 1), fun d h => h[n]? = some (.lck kvs) ∧ Q.rt d (h.set n (.dcn kvs)), fun e h => h[n]? = some (.lck kvs) ∧ Q.nx e (h.set n (.dcn kvs)), I (j + 1), Q.xc⟩ ⟨⟩)
    (fin : ∀ e h', I kvs.length e h' → Q.nx e (h'.set n (.dcn kvs))) : wS (sForN f i g m env h) Q t := by
  have lt := (List.getElem?_eq_some_iff.mp hn).1
  have hl : (h.set n (.lck kvs))[n]? = some (.lck kvs) := by simp [lt]
  unfold sForN
  simp only [hi, hn]
  have z : wS (sFor f (iLck (dVar i)) g m env (h.set n (.lck kvs))) ⟨fun e h => h[n]? = some (.lck kvs) ∧ Q.nx e (h.set n (.dcn kvs)), fun d h => h[n]? = some (.lck kvs) ∧ Q.rt d (h.set n (.dcn kvs)), fun _ _ => False, fun _ _ => False, Q.xc⟩ ⟨⟩ := by
    have ii : iLck (dVar i) env (h.set n (.lck kvs)) = .ok (.items (kvs.map (·.1))) (h.set n (.lck kvs)) := by
      unfold iLck
      rw [DEn.bind_run, var_run hi, R.bind_ok]
      simp only [lckK, hl]
    rw [wS_for, ii, wE_ok, forI_items]
    refine wS_forS I a step ?_
    intro e h' i1
    rw [List.length_map] at i1
    exact ⟨keep _ _ _ i1, fin e h' i1⟩
  cases r : sFor f (iLck (dVar i)) g m env (h.set n (.lck kvs)) with
  | nx e h' => rw [r] at z; unfold unlk; simp only [show h'[n]? = some (.lck kvs) from z.1]; exact z.2
  | rt d h' => rw [r] at z; unfold unlk; simp only [show h'[n]? = some (.lck kvs) from z.1]; exact z.2
  | exc c a e h' => rw [r] at z; exact z
  | bk e h' => rw [r] at z; exact z.elim
  | ct e h' => rw [r] at z; exact z.elim
  | bad => rw [r] at z; exact z.elim
end
section
variable {Q : D → DH → Prop} {X : XQ} {env : Env} {h : DH} {ml : DEn (List D)} {t : Tg2 Q X} {n : Nat} {kvs : List (D × D)} {ks : List D} {v : D} {neg : Bool}
theorem u_dicN {trs : List (DE × DE)} : wE (dDicN trs env h) Q X t = wE (dPairs trs env h) (fun ps h => (keysN ps = true ∧ ps.length ≤ 15) ∧ Q (.ref h.length) (h ++ [.dcn (mergeN [] ps)])) X ⟨⟩ := by
  unfold dDicN
  rw [wE_dbind]
  refine wE_cg fun ps h => ?_
  rw [wE_if]
  by_cases z : keysN ps = true ∧ ps.length ≤ 15
  · rw [if_pos z]; simp [z, wE, alloc]
  · rw [if_neg z]
    simp only [wE_bad, z, false_and]
def lr2 (ds : List D) (h : DH) : R D := match ds with
  | [.int i, .int j] => if sm62 i = true ∧ sm62 j = true ∧ (j - i).toNat ≤ big then alloc (.lst (rngC i 1 (j - i).toNat)) h else .bad
  | _ => .bad
theorem u_lr2 : wE (dLr2 ml env h) Q X t = wE (ml env h) (fun ds h => wE (lr2 ds h) Q X ⟨⟩) X ⟨⟩ := by
  unfold dLr2
  rw [wE_dbind]
  rfl
theorem lr2_ok {i j : Int} (hi : sm62 i = true) (hj : sm62 j = true) (hb : (j - i).toNat ≤ big) : lr2 [.int i, .int j] h = .ok (.ref h.length) (h ++ [.lst (rngC i 1 (j - i).toNat)]) := by
  simp only [lr2]
  rw [if_pos ⟨hi, hj, hb⟩]
  rfl
theorem setN_dcn (e : h[n]? = some (.dcn kvs)) (hk : nkOk (.tup ks) = true) (l : kvs.length < big) : setN (.ref n) (.tup ks) v h = .ok () (h.set n (.dcn (putN (.tup ks) v kvs))) := by
  simp only [setN, e]
  rw [if_pos ⟨hk, l⟩]
theorem in_dcn (e : dkN h n = some kvs) (hk : nkOk (.tup ks) = true) : inB neg (.tup ks) (.ref n) h = .ok (.bl (if neg then !(lookN (.tup ks) kvs).isSome else (lookN (.tup ks) kvs).isSome)) h := by
  simp only [inB, inTup, e]
  rw [if_pos hk]
theorem ix_dcn (e : dkN h n = some kvs) (hk : nkOk (.tup ks) = true) (el : lookN (.tup ks) kvs = some v) : ixD (.ref n) (.tup ks) h = .ok v h := by
  simp only [ixD, e]
  rw [if_pos hk]
  simp only [el]
theorem dk_dcn (e : h[n]? = some (.dcn kvs)) : dkN h n = some kvs := by simp only [dkN, e]
theorem dk_lck (e : h[n]? = some (.lck kvs)) : dkN h n = some kvs := by simp only [dkN, e]
end
end DV
namespace DV
open PySem L2
section
variable {g : AG} {tt : DEn Bool} {te : DE} {env : Env} {h : DH}
abbrev Lap (g : AG) (tt : DEn Bool) (te : DE) (env : Env) (d : D) (I1 : List D → DH → Prop) (acc : List D) (h : DH) : Prop := ∃ e1, g d env = some e1 ∧ wE (tt e1 h) (fun b h1 => if b = true then wE (te e1 h1) (fun y h2 => I1 (acc ++ [y]) h2) (fun _ _ _ => False) ⟨⟩ else I1 acc h1) (fun _ _ _ => False) ⟨⟩
theorem lcS_inv {I : Nat → List D → DH → Prop} : ∀ (ds : List D) (j : Nat) (acc : List D) {h : DH}, I j acc h →
    (∀ (i : Nat) (d : D) acc h, ds[i]? = some d → I (j + i) acc h → Lap g tt te env d (I (j + i + 1)) acc h) →
    Ok (lcS g tt te env ds h) fun r h' => I (j + ds.length) (acc ++ r) h'
  | [], j, acc, h, a, _ => by
    show I _ _ _
    rw [List.append_nil]
    exact a
  | d :: ds, j, acc, h, a, b => by
    obtain ⟨e1, q1, q2⟩ := b 0 d acc h rfl a
    have q2 : Ok (tt e1 h) _ := q2
    obtain ⟨k, h1, r1, q3⟩ := q2.eq
    unfold lcS
    rw [q1]
    simp only [r1, R.noX, R.bind_ok]
    have nx : ∀ acc h, I (j + 0 + 1) acc h → Ok (lcS g tt te env ds h) fun r h' => I (j + (d :: ds).length) (acc ++ r) h' := fun acc h i1 => by
      have z := lcS_inv (I := I) ds (j + 1) acc i1 (fun i d' acc h q i2 => by
        have z := b (i + 1) d' acc h q (by rw [show j + (i + 1) = j + 1 + i by omega]; exact i2)
        rw [show j + (i + 1) = j + 1 + i by omega] at z
        exact z)
      rw [List.length_cons, show j + (ds.length + 1) = j + 1 + ds.length by omega]
      exact z
    cases k with
    | true =>
      rw [if_pos rfl] at q3
      have q3 : Ok (te e1 h1) _ := q3
      obtain ⟨y, h2, r2, q4⟩ := q3.eq
      simp only [r2, R.noX, R.bind_ok, if_true]
      obtain ⟨r, h3, r3, q5⟩ := (nx _ _ q4).eq
      rw [r3]
      show I _ _ _
      rw [List.append_assoc] at q5
      exact q5
    | false =>
      simp only [Bool.false_eq_true, if_false]
      exact nx _ _ q3
theorem u_lcS {QL : List D → DH → Prop} {X : XQ} {t : Tg2 QL X} {f : Nat} {ds : List D} (I : Nat → List D → DH → Prop) (a : I 0 [] h)
    (step : ∀ (i : Nat) (d : D) acc h, ds[i]? = some d → I i acc h → Lap g tt te env d (I (i + 1)) acc h) (fin : ∀ r h, I ds.length r h → QL r h) :
    wE (lcI g tt te f env (.items ds) h) QL X t := by
  refine wE_of (lcS_inv (I := I) ds 0 [] a (fun i d acc h q i1 => by
    have e : 0 + i = i := Nat.zero_add i
    rw [e] at i1 ⊢
    exact step i d acc h q i1)) ?_
  intro r h' q
  rw [Nat.zero_add, List.nil_append] at q
  exact fin r h' q
theorem lcR_inv {n : Nat} {ds : List D} {I : Nat → List D → DH → Prop} (keep : ∀ i acc h, I i acc h → h[n]? = some (.lst ds))
    (step : ∀ (i : Nat) (d : D) acc h, ds[i]? = some d → I i acc h → Lap g tt te env d (I (i + 1)) acc h) : ∀ (f j : Nat) (acc : List D) {h : DH}, ds.length < j + f → j ≤ ds.length → I j acc h →
    Ok (lcR g tt te env n f j h) fun r h' => I ds.length (acc ++ r) h'
  | 0, j, acc, h, l, l2, _ => by omega
  | f + 1, j, acc, h, l, l2, a => by
    unfold lcR
    simp only [keep j acc h a]
    cases e : ds[j]? with
    | none =>
      have : j = ds.length := by
        have := List.getElem?_eq_none_iff.mp e
        omega
      subst this
      show I _ _ _
      rw [List.append_nil]
      exact a
    | some d =>
      have lt : j < ds.length := (List.getElem?_eq_some_iff.mp e).1
      obtain ⟨e1, q1, q2⟩ := step j d acc h e a
      have q2 : Ok (tt e1 h) _ := q2
      obtain ⟨k, h1, r1, q3⟩ := q2.eq
      simp only [q1, r1, R.noX, R.bind_ok]
      have nx : ∀ acc h, I (j + 1) acc h → Ok (lcR g tt te env n f (j + 1) h) fun r h' => I ds.length (acc ++ r) h' := fun acc h i1 => lcR_inv keep step f (j + 1) acc (by omega) (by omega) i1
      cases k with
      | true =>
        rw [if_pos rfl] at q3
        have q3 : Ok (te e1 h1) _ := q3
        obtain ⟨y, h2, r2, q4⟩ := q3.eq
        simp only [r2, R.noX, R.bind_ok, if_true]
        obtain ⟨r, h3, r3, q5⟩ := (nx _ _ q4).eq
        rw [r3]
        show I _ _ _
        rw [List.append_assoc] at q5
        exact q5
      | false =>
        simp only [Bool.false_eq_true, if_false]
        exact nx _ _ q3
theorem u_lcR {QL : List D → DH → Prop} {X : XQ} {t : Tg2 QL X} {f n : Nat} {ds : List D} (I : Nat → List D → DH → Prop) (hl : ds.length < f) (a : I 0 [] h) (keep : ∀ i acc h, I i acc h → h[n]? = some (.lst ds))
    (step : ∀ (i : Nat) (d : D) acc h, ds[i]? = some d → I i acc h → Lap g tt te env d (I (i + 1)) acc h) (fin : ∀ r h, I ds.length r h → QL r h) :
    wE (lcI g tt te f env (.lst n) h) QL X t := by
  refine wE_of (lcR_inv (I := I) keep step f 0 [] (by omega) (Nat.zero_le _) a) ?_
  intro r h' q
  rw [List.nil_append] at q
  exact fin r h' q
end
end DV
namespace DV
open PySem L2
section
variable {h : DH} {ds : List D} {d : D} {n : Nat}
theorem atI_last {α : Type} {l : List α} {a : α} (e : l.getLast? = some a) : atI l (-1) = some a := by
  have ne : l ≠ [] := by rintro rfl; cases e
  have lp := List.length_pos_iff.mpr ne
  rw [List.getLast?_eq_getElem?] at e
  unfold atI ixN
  rw [if_neg (by omega)]
  have : (l.length : Int) + (-1) = ((l.length - 1 : Nat) : Int) := by omega
  rw [if_pos (by omega)]
  simp only [Option.bind_some]
  rw [← e]
  congr 1
  omega
theorem ixL_tup (e : ds.getLast? = some d) : ixD (.tup ds) (.int (-1)) h = .ok d h := by
  have : atI ds (-1) = some d := atI_last e
  simp only [ixD, this]
theorem ixL_ref (e1 : h[n]? = some (.lst ds)) (e : ds.getLast? = some d) : ixD (.ref n) (.int (-1)) h = .ok d h := by
  have : atI ds (-1) = some d := atI_last e
  simp only [ixD, e1, this]
theorem u_iRng2 {QI : IS → DH → Prop} {X : XQ} {t : Tg2 QI X} {ml : DEn (List D)} {env : Env} : wE (iRng2 ml env h) QI X t = wE (ml env h) (fun ds h => ∃ i j, ds = [.int i, .int j] ∧ sm62 i = true ∧ sm62 j = true ∧ QI (.items (rngI i (j - i).toNat)) h) X ⟨⟩ := by
  unfold iRng2
  rw [wE_dbind]
  refine wE_cg fun ds h => ?_
  split
  · rename_i i j
    rw [wE_if]
    by_cases z : sm62 i = true ∧ sm62 j = true
    · rw [if_pos z]
      apply propext
      constructor
      · exact fun q => ⟨i, j, rfl, z.1, z.2, q⟩
      · rintro ⟨i', j', e, _, _, q⟩
        simp only [List.cons.injEq, D.int.injEq, and_true] at e
        obtain ⟨rfl, rfl⟩ := e
        exact q
    · rw [if_neg z]
      simp only [wE_bad]
      apply Eq.symm
      simp only [eq_iff_iff, iff_false]
      rintro ⟨i', j', e, z1, z2, _⟩
      simp only [List.cons.injEq, D.int.injEq, and_true] at e
      obtain ⟨rfl, rfl⟩ := e
      exact z ⟨z1, z2⟩
  · rename_i z
    simp only [wE_bad]
    apply Eq.symm
    simp only [eq_iff_iff, iff_false]
    rintro ⟨i, j, rfl, _⟩
    exact z _ _ rfl
theorem u_yes {Q : Bool → DH → Prop} {X : XQ} {t : Tg2 Q X} {env : Env} : wE (tYesD env h) Q X t = Q true h := (rfl)
theorem extend_ref {m : Nat} {zs : List D} (e1 : h[n]? = some (.lst ds)) (e2 : h[m]? = some (.lst zs)) (l : ds.length + zs.length ≤ big) : extendM (.ref n) [.ref m] h = .ok .non (h.set n (.lst (ds ++ zs))) := by
  simp only [extendM, e1, e2]
  rw [if_pos l]
end
end DV
namespace DV
open PySem PySem.Spec PyProof.Rows L2
/-- each once, in order -/
def insU (i : Int) : List Int → List Int
  | [] => [i]
  | j :: r => if i < j then i :: j :: r else if i = j then j :: r else j :: insU i r
def usort : List Int → List Int
  | [] => []
  | i :: r => insU i (usort r)
theorem mem_insU {i k : Int} : ∀ {l : List Int}, k ∈ insU i l ↔ k = i ∨ k ∈ l
  | [] => by simp [insU]
  | j :: r => by
    unfold insU
    split
    · simp
    · split
      · rename_i e
        subst e
        simp
      · rw [List.mem_cons, mem_insU, List.mem_cons]
        constructor
        · rintro (a | a | a)
          · exact .inr (.inl a)
          · exact .inl a
          · exact .inr (.inr a)
        · rintro (a | a | a)
          · exact .inr (.inl a)
          · exact .inl a
          · exact .inr (.inr a)
theorem mem_usort {k : Int} : ∀ {l : List Int}, k ∈ usort l ↔ k ∈ l
  | [] => by simp [usort]
  | i :: r => by
    unfold usort
    rw [mem_insU, mem_usort, List.mem_cons]
theorem insU_up {i : Int} : ∀ {l : List Int}, l.Pairwise (· < ·) → (insU i l).Pairwise (· < ·)
  | [], _ => by simp [insU]
  | j :: r, h => by
    unfold insU
    rw [List.pairwise_cons] at h
    split
    · rename_i ij
      rw [List.pairwise_cons, List.pairwise_cons]
      refine ⟨fun a m => ?_, h⟩
      rcases List.mem_cons.mp m with rfl | m
      · exact ij
      · have := h.1 a m
        omega
    · split
      · exact List.pairwise_cons.mpr h
      · rename_i n1 n2
        rw [List.pairwise_cons]
        refine ⟨fun a m => ?_, insU_up h.2⟩
        rcases mem_insU.mp m with rfl | m
        · omega
        · exact h.1 a m
theorem usort_up : ∀ {l : List Int}, (usort l).Pairwise (· < ·)
  | [] => List.Pairwise.nil
  | _ :: _ => insU_up usort_up
theorem up_uniq : ∀ {l m : List Int}, l.Pairwise (· < ·) → m.Pairwise (· < ·) → (∀ k, k ∈ l ↔ k ∈ m) → l = m
  | [], [], _, _, _ => rfl
  | [], b :: m, _, _, h => by
    have := (h b).mpr List.mem_cons_self
    cases this
  | a :: l, [], _, _, h => by
    have := (h a).mp List.mem_cons_self
    cases this
  | a :: l, b :: m, ha, hb, h => by
    rw [List.pairwise_cons] at ha hb
    have ab : a = b := by
      have h1 := (h a).mp List.mem_cons_self
      have h2 := (h b).mpr List.mem_cons_self
      rcases List.mem_cons.mp h1 with e | e
      · exact e
      · rcases List.mem_cons.mp h2 with e2 | e2
        · exact e2.symm
        · have := ha.1 b e2
          have := hb.1 a e
          omega
    subst ab
    rw [up_uniq ha.2 hb.2 fun k => ?_]
    have hk := h k
    simp only [List.mem_cons] at hk
    constructor
    · intro m1
      rcases hk.mp (.inr m1) with rfl | m2
      · exact absurd (ha.1 _ m1) (Int.lt_irrefl _)
      · exact m2
    · intro m1
      rcases hk.mpr (.inr m1) with rfl | m2
      · exact absurd (hb.1 _ m1) (Int.lt_irrefl _)
      · exact m2
def sortSetF (d : D) (h : DH) : R D := match d with
  | .ref n => match h[n]? with
    | some (.lst ds) => match intsD ds with
      | some ns => if ns.length < 64 then alloc (.lst ((usort ns).map .int)) h else .bad
      | none => .bad
    | _ => .bad
  | _ => .bad
def sortSetD (me : DE) : DE := me.bind fun d _ h => sortSetF d h
theorem u_sortSet {Q : D → DH → Prop} {X : XQ} {t : Tg2 Q X} {me : DE} {env : Env} {h : DH} : wE (sortSetD me env h) Q X t = wE (me env h) (fun d h => wE (sortSetF d h) Q X ⟨⟩) X ⟨⟩ := by
  unfold sortSetD
  rw [wE_dbind]
theorem sortSet_ref {h : DH} {n : Nat} {ns : List Int} (e : h[n]? = some (.lst (ns.map .int))) (l : ns.length < 64) : sortSetF (.ref n) h = .ok (.ref h.length) (h ++ [.lst ((usort ns).map .int)]) := by
  have i : ∀ ns : List Int, intsD (ns.map .int) = some ns := fun ns => by
    induction ns with
    | nil => rfl
    | cons a r ih => simp [intsD, ih]
  simp only [sortSetF, e, i]
  rw [if_pos l]
  rfl
section
variable {P : Program} {w : World} {A : Around} {E : Value → Shared → Prop}
/-- set(xs), xs a list of whole numbers -/
theorem callSetI {s : Shared} {l : Addr} {items : Array Value} {ns : List Int} {Q : Value → Shared → Prop} (hh : A.handled = none) (hl : s.heap.IsList l items) (hi : IntsAre items.toList ns) (hb : ns.length + 1 < scanBound)
    (h : ∀ (h' : Heap) (tk c : Nat), SetR w h' s.heap.objs.size (fun j => decide (j ∈ ns)) c → c ≤ ns.length → (∀ b o, s.heap.get? b = some o → h'.get? b = some o) → Q (.ref s.heap.objs.size) { s with heap := h', toks := tk }) :
    wpAny (model P w) A (call (.type "set") [.ref l]) Q E s := by
  obtain ⟨c, tl, mro⟩ := F.called_set.mro
  have made := F.called_set.made
  have sub := F.called_set.sub
  have hlen : items.size = ns.length := by
    have z := IntsAre.length hi
    rw [Array.length_toList] at z
    exact z
  let so : Obj := { cls := .type "set", dict := none, data := .set #[] 0 (.fresh 0 0 (!w.params.followText "set-order")) }
  refine wpAny_call (codeAny_of_tree ?_)
  show wpAny _ _ (callAny (.type "set") _) _ _ _
  refine wpAny_pure ⟨Code.quiet_builtin _ (by decide +kernel), codeAny_builtin F.entry_type_call ?_⟩
  rw [Around.under_plain (weight_type_call_type "set" [.ref l] []) rfl]
  have g1 := F.called_set.notType
  have g2 := F.called_set.canCreate
  have g3 := F.typeCall_set_1 (.ref l)
  repeat (any_goals (first | assumption | wp_step))
  refine codeAny_mono (code_set_led1 (.ref l) (E := E) (Q₁ := fun obj s₁ => obj = .ref s.heap.objs.size ∧ s₁ = { s with heap := s.heap.push so }) ⟨rfl, rfl⟩) fun r s₁ hr => ?_
  cases r with
  | error e => exact hr
  | ok fl => cases fl with
    | ret obj =>
      obtain ⟨rfl, rfl⟩ := hr
      have at1 : (s.heap.push so).get? s.heap.objs.size = some so := Heap.get?_push_size _ rfl
      have ty1 : Shared.TypeIs { s with heap := s.heap.push so } (.ref s.heap.objs.size) "set" := ⟨_, at1, rfl⟩
      have li := F.called_set.init.lookup
      have bi := F.called_set.init.bind (.ref s.heap.objs.size)
      repeat (any_goals (first | assumption | wp_step))
      refine codeAny_mono (codeAny_call_builtin (R := wants (fun r s₂ => r = .none ∧ ∃ h' tk c, s₂ = { s with heap := h', toks := tk } ∧ SetR w h' s.heap.objs.size (fun j => decide (j ∈ ns)) c ∧ c ≤ ns.length ∧ (∀ b o, b < s.heap.objs.size → s.heap.get? b = some o → h'.get? b = some o)) E)
        F.called_set.init.plain F.entry_set_init (check_set_init_1 ty1 ?_)) fun r₂ s₂ hr₂ => ?_
      · obtain ⟨ol, hol, hcl, nl, hdl⟩ := hl
        obtain ⟨ocls, odict, odata, oslots⟩ := ol
        simp only at hcl hdl
        subst hcl hdl
        have hol' : (s.heap.push so).get? l = some { cls := .type "list", dict := odict, data := .seq items nl, slots := oslots } := Heap.get?_push_of_some _ hol
        have n1 := F.sub_list_set
        have n2 := F.sub_list_frozenset
        have n3 : (Value.type "list" == Value.type "dict") = false := by decide
        have l1 : (s.heap.push so).IsList l items := ⟨_, hol', rfl, nl, rfl⟩
        have ls : l < s.heap.objs.size := Heap.lt_size hol
        unfold Builtin.«set.__init__» noKeywords Builtin.Frozenset.updateFrom
        generalize hPI : pyIter = PI
        wp_walk
        subst hPI
        refine wpAny_pyIter_list l1 ?_
        refine wpAny_bind (wpAny_runValue ?_)
        have h3 : A.in1.in1.in1.handled = none := by simp [hh]
        have ne : l ≠ (s.heap.push so).objs.size := by
          rw [Heap.size_push]
          exact Nat.ne_of_lt (Nat.lt_succ_of_lt ls)
        have nf : s.heap.objs.size ∉ [(s.heap.push so).objs.size, l] := by
          rw [Heap.size_push]
          simp only [List.mem_cons, List.not_mem_nil, or_false, not_or]
          exact ⟨Nat.ne_of_lt (Nat.lt_succ_self _), Nat.ne_of_gt ls⟩
        have hval : ∀ (i : Nat) (v : Value), items[i]? = some v → ∃ k t, ns[i]? = some k ∧ v = .int k t := fun i v hv => by
          have hi2 : i < ns.length := by rw [← hlen]; exact (Array.getElem?_eq_some_iff.mp hv).1
          obtain ⟨t, e⟩ := PyProof.Rows.IntsAre.int_at hi i v (by rw [Array.getElem?_toList]; exact hv)
          refine ⟨ns[i], t, List.getElem?_eq_getElem hi2, ?_⟩
          rw [e, List.getD_eq_getElem?_getD, List.getElem?_eq_getElem hi2] <;> rfl
        refine set_update_ints ((Walks.list h3 _ l ne items).toS) s.heap.objs.size nf ns hlen hb hval (items.size - 0) 0 _ (by omega) (Nat.zero_le _) ⟨⟨_, Heap.get?_push_size _ rfl, rfl, rfl⟩, l1.push _⟩ ?c0 ?c1
        case c0 =>
          have hg : ((s.heap.push so).push { cls := .type "list_iterator", data := .fields #[.ref l, .int 0 0] }).get? s.heap.objs.size = some so := Heap.get?_push_of_some _ at1
          exact ⟨0, Nat.le_refl 0, setR_new_at hg⟩
        case c1 =>
          intro s' c hm hc hs'
          obtain ⟨h', g', d', tk', os'⟩ := s'
          cases (show g' = s.gens from hm.gens)
          cases (show d' = s.drawn from hm.drawn)
          cases (show os' = s.os from hm.os)
          show wpAny _ _ _ _ _ _
          refine wpAny_pure ?_
          show wpAny _ _ (ret Value.none) _ _ _
          rw [hlen] at hc
          refine wpAny_pure ⟨rfl, h', tk', c, rfl, hs', hc, fun b o b_lt e => ?_⟩
          refine hm.heap b o ?_ (Heap.get?_push_of_some _ (Heap.get?_push_of_some _ e))
          rw [Heap.size_push]
          simp only [List.mem_cons, List.not_mem_nil, or_false, not_or]
          exact ⟨Nat.ne_of_lt b_lt, Nat.ne_of_lt (Nat.lt_succ_of_lt b_lt)⟩
      · cases r₂ with
        | error e => exact hr₂
        | ok fl₂ => cases fl₂ with
          | ret r =>
            obtain ⟨rfl, h', tk, c, rfl, hs', hc, hk'⟩ := hr₂
            repeat (any_goals (first | assumption | wp_step))
            exact h _ _ _ hs' hc fun b o e => hk' b o (Heap.lt_size e) e
          | _ => exact hr₂.elim
    | _ => exact hr.elim
end
/-- set(xs), as a set of whole numbers that can be walked -/
def rSetLI (X : Cx) : List V → Hp → VK → Prop := fun vs H Q => ∃ (l : Addr) (ns : List Int), vs = [V.ref l] ∧ H l = some (.lst (ns.map V.int)) ∧ ns.length < 64 ∧ ∀ p c, H p = none → c ≤ ns.length → Q (.ref p) (upd H p (SetO X.w p (fun j => decide (j ∈ ns)) c))
section
variable {X : Cx}
theorem cr_setLI (hc : X.calm = true) : CallR X (.type "set") (rSetLI X) := by
  intro pins s σ H vs us Q I rv ⟨l, ns, e, q1, lt, P⟩
  subst e
  obtain ⟨u, rfl, ru⟩ := vals1 rv
  cases ru
  obtain ⟨z, its, m, rr, hl, hat⟩ := I.lstM q1
  have ia : IntsAre its.toArray.toList ns := ints_of_items (P := X.prog) (w := X.w) (items_of_vals (by simpa using rr))
  refine callSetI (I.ok.hd hc) (items := its.toArray) ⟨_, hat, rfl, m, rfl⟩ ia (by unfold scanBound; omega) fun h' tk c hs' hc' k => ?_
  have n0 := I.hok.fresh (Nat.le_refl _)
  exact ⟨.ref s.heap.objs.size, upd H s.heap.objs.size (SetO X.w s.heap.objs.size (fun j => decide (j ∈ ns)) c), I.laid k (Nat.le_refl _) (setO_new hs'), rfl, P _ _ n0 hc'⟩
variable {W : XWS} {me : DE} {p p2 q pos : Pos} {e : Expr}
theorem d_sortSet (hc : X.calm = true) (hg : Gl X "sorted") (hm : X.mg "sorted" = none) (hg2 : Gl X "set") (hm2 : X.mg "set" = none) (ha : PE X e (TD (gx X) W me))
    (hs : starEach [e] X.env = (false, eval e X.env) :: starEach ([] : List Expr) X.env) (hpl : (backTo p2 (starEach ([] : List Expr) X.env)).any (·.1) = false) (hpl2 : (backTo pos (starEach ([] : List Expr) X.env)).any (·.1) = false) (hs2 : starEach [.Call (.Name "set" q) [e] [] p2] X.env = (false, eval (.Call (.Name "set" q) [e] [] p2) X.env) :: starEach ([] : List Expr) X.env) :
    PE X (.Call (.Name "sorted" p) [.Call (.Name "set" q) [e] [] p2] [] pos) (TD (gx X) W (sortSetD me)) := by
  have inner : PE X (.Call (.Name "set" q) [e] [] p2) (tCB (rSetLI X) (tCons (TD (gx X) W me) tNil)) := pe_callTy (cr_setLI hc) hg2 hm2 PyProof.Rows.boot_set (pa_cons ha pa_nil hs) (by decide) (by decide +kernel) hs hpl
  refine (pe_callB (cr_sortedSet hc) hg hm PyProof.Rows.boot_sorted (pa_cons inner pa_nil hs2) (by decide) (by decide +kernel) hs2 hpl2).weak fun σ H Q z => ?_
  refine TG'.imp (TG'.split (rel := Rep (gx X)) z) ?_
  rintro x H1 ⟨μ1, d, env, h1, S, e1, r, P⟩
  unfold tNil
  dsimp only
  unfold sortSetF at P
  split at P
  · rename_i n
    obtain ⟨a, ea, rfl⟩ := r.ref
    split at P
    · rename_i es el
      obtain ⟨ws, q1, l1⟩ := S.list el ea
      split at P
      · rename_i ns hb
        split at P
        · rename_i hl
          have := ints_ok hb l1
          subst this
          refine ⟨a, ns, rfl, q1, hl, fun p c hp hc' => ?_⟩
          show rSortedSet X.w [.ref p] _ Q
          refine ⟨p, _, c, rfl, upd_same, by omega, fun ns' p3 up mem len hp3 => ?_⟩
          have e : ns' = usort ns := up_uniq up usort_up fun k => by
            rw [mem k, mem_usort]
            simp
          subst e
          exact (P.mono (Ext.tupled S hp)).allocL (S.tupled hp) (intsRep _) p3 hp3
        · exact P.elim
      · exact P.elim
    · exact P.elim
  · exact P.elim
end
end DV
namespace K62
open PySem PySem.Spec PyProof.Rows L2 DV
abbrev P : Program := PySem.Challenge.pw_endclimbs_k62_whole_orders_of_rules
def top (i : Nat) : Stmt := P.main.body.getD i (.Pass ⟨0, 0, 0, 0⟩)
abbrev CF := Nat → List D → DH → R D
def nErr : Nat := 0
def tabs : Tabs := { ename := fun c => match c with | _ => [], eflds := fun c => match c with | _ => [] }
theorem nd_other : (("other" : Str) == ("__debug__" : Str)) = false := by decide +kernel
theorem nd_one : (("one" : Str) == ("__debug__" : Str)) = false := by decide +kernel
theorem nd_marks : (("marks" : Str) == ("__debug__" : Str)) = false := by decide +kernel
theorem nd_mark : (("mark" : Str) == ("__debug__" : Str)) = false := by decide +kernel
theorem nd_x : (("x" : Str) == ("__debug__" : Str)) = false := by decide +kernel
theorem nd_len : (("len" : Str) == ("__debug__" : Str)) = false := by decide +kernel
theorem nd_gap_at : (("gap_at" : Str) == ("__debug__" : Str)) = false := by decide +kernel
theorem nd_gap : (("gap" : Str) == ("__debug__" : Str)) = false := by decide +kernel
theorem nd_y : (("y" : Str) == ("__debug__" : Str)) = false := by decide +kernel
theorem nd_is_above_kinds : (("is_above_kinds" : Str) == ("__debug__" : Str)) = false := by decide +kernel
theorem nd_upper_at : (("upper_at" : Str) == ("__debug__" : Str)) = false := by decide +kernel
theorem nd_upper : (("upper" : Str) == ("__debug__" : Str)) = false := by decide +kernel
theorem nd_found : (("found" : Str) == ("__debug__" : Str)) = false := by decide +kernel
theorem nd_move : (("move" : Str) == ("__debug__" : Str)) = false := by decide +kernel
theorem nd_least_mark : (("least_mark" : Str) == ("__debug__" : Str)) = false := by decide +kernel
theorem nd_rule : (("rule" : Str) == ("__debug__" : Str)) = false := by decide +kernel
theorem nd_phase : (("phase" : Str) == ("__debug__" : Str)) = false := by decide +kernel
theorem nd_CASE_PLACES : (("CASE_PLACES" : Str) == ("__debug__" : Str)) = false := by decide +kernel
theorem nd_case : (("case" : Str) == ("__debug__" : Str)) = false := by decide +kernel
theorem nd_state : (("state" : Str) == ("__debug__" : Str)) = false := by decide +kernel
theorem nd_end : (("end" : Str) == ("__debug__" : Str)) = false := by decide +kernel
theorem nd_case_at : (("case_at" : Str) == ("__debug__" : Str)) = false := by decide +kernel
theorem nd_pair_for : (("pair_for" : Str) == ("__debug__" : Str)) = false := by decide +kernel
theorem nd_end_by : (("end_by" : Str) == ("__debug__" : Str)) = false := by decide +kernel
theorem nd_later : (("later" : Str) == ("__debug__" : Str)) = false := by decide +kernel
theorem nd_two : (("two" : Str) == ("__debug__" : Str)) = false := by decide +kernel
theorem nd_first : (("first" : Str) == ("__debug__" : Str)) = false := by decide +kernel
theorem nd_joint : (("joint" : Str) == ("__debug__" : Str)) = false := by decide +kernel
theorem nd_stepped : (("stepped" : Str) == ("__debug__" : Str)) = false := by decide +kernel
theorem nd_is_less : (("is_less" : Str) == ("__debug__" : Str)) = false := by decide +kernel
theorem nd_lesser_last : (("lesser_last" : Str) == ("__debug__" : Str)) = false := by decide +kernel
theorem nd_last : (("last" : Str) == ("__debug__" : Str)) = false := by decide +kernel
theorem nd_span : (("span" : Str) == ("__debug__" : Str)) = false := by decide +kernel
theorem nd_top : (("top" : Str) == ("__debug__" : Str)) = false := by decide +kernel
theorem nd_first_joint : (("first_joint" : Str) == ("__debug__" : Str)) = false := by decide +kernel
theorem nd_start : (("start" : Str) == ("__debug__" : Str)) = false := by decide +kernel
theorem nd_at : (("at" : Str) == ("__debug__" : Str)) = false := by decide +kernel
theorem nd_due : (("due" : Str) == ("__debug__" : Str)) = false := by decide +kernel
theorem nd_further_elements : (("further_elements" : Str) == ("__debug__" : Str)) = false := by decide +kernel
theorem nd_joint_after : (("joint_after" : Str) == ("__debug__" : Str)) = false := by decide +kernel
theorem nd_after : (("after" : Str) == ("__debug__" : Str)) = false := by decide +kernel
theorem nd_rows : (("rows" : Str) == ("__debug__" : Str)) = false := by decide +kernel
theorem nd_joints_with_rows : (("joints_with_rows" : Str) == ("__debug__" : Str)) = false := by decide +kernel
theorem nd_is_above_joint : (("is_above_joint" : Str) == ("__debug__" : Str)) = false := by decide +kernel
theorem nd_above_row : (("above_row" : Str) == ("__debug__" : Str)) = false := by decide +kernel
theorem nd__law_script : (("_law_script" : Str) == ("__debug__" : Str)) = false := by decide +kernel
theorem nd_list : (("list" : Str) == ("__debug__" : Str)) = false := by decide +kernel
theorem nd__law_feed_here : (("_law_feed_here" : Str) == ("__debug__" : Str)) = false := by decide +kernel
theorem nd_int : (("int" : Str) == ("__debug__" : Str)) = false := by decide +kernel
theorem nd__law_many : (("_law_many" : Str) == ("__debug__" : Str)) = false := by decide +kernel
theorem nd__law_digit : (("_law_digit" : Str) == ("__debug__" : Str)) = false := by decide +kernel
theorem nd__law_cells : (("_law_cells" : Str) == ("__debug__" : Str)) = false := by decide +kernel
theorem nd__law_place : (("_law_place" : Str) == ("__debug__" : Str)) = false := by decide +kernel
theorem nd__law_cell : (("_law_cell" : Str) == ("__debug__" : Str)) = false := by decide +kernel
theorem nd__law_mixed : (("_law_mixed" : Str) == ("__debug__" : Str)) = false := by decide +kernel
theorem nd__law_some : (("_law_some" : Str) == ("__debug__" : Str)) = false := by decide +kernel
theorem nd__law_draw : (("_law_draw" : Str) == ("__debug__" : Str)) = false := by decide +kernel
theorem nd__law_one : (("_law_one" : Str) == ("__debug__" : Str)) = false := by decide +kernel
theorem nd__law_marks : (("_law_marks" : Str) == ("__debug__" : Str)) = false := by decide +kernel
theorem nd__law_mark : (("_law_mark" : Str) == ("__debug__" : Str)) = false := by decide +kernel
theorem nd__law_x : (("_law_x" : Str) == ("__debug__" : Str)) = false := by decide +kernel
theorem nd__law_y : (("_law_y" : Str) == ("__debug__" : Str)) = false := by decide +kernel
theorem nd__law_above : (("_law_above" : Str) == ("__debug__" : Str)) = false := by decide +kernel
theorem nd__law_move : (("_law_move" : Str) == ("__debug__" : Str)) = false := by decide +kernel
theorem nd__law_state : (("_law_state" : Str) == ("__debug__" : Str)) = false := by decide +kernel
theorem nd__law_phase : (("_law_phase" : Str) == ("__debug__" : Str)) = false := by decide +kernel
theorem nd__law_rule_here : (("_law_rule_here" : Str) == ("__debug__" : Str)) = false := by decide +kernel
theorem nd__law_case : (("_law_case" : Str) == ("__debug__" : Str)) = false := by decide +kernel
theorem nd__law_jump : (("_law_jump" : Str) == ("__debug__" : Str)) = false := by decide +kernel
theorem nd__law_later : (("_law_later" : Str) == ("__debug__" : Str)) = false := by decide +kernel
theorem nd__law_fresh : (("_law_fresh" : Str) == ("__debug__" : Str)) = false := by decide +kernel
theorem nd__law_key : (("_law_key" : Str) == ("__debug__" : Str)) = false := by decide +kernel
theorem nd__law_found : (("_law_found" : Str) == ("__debug__" : Str)) = false := by decide +kernel
theorem nd__law_moved : (("_law_moved" : Str) == ("__debug__" : Str)) = false := by decide +kernel
theorem nd__law_states : (("_law_states" : Str) == ("__debug__" : Str)) = false := by decide +kernel
theorem nd_tuple : (("tuple" : Str) == ("__debug__" : Str)) = false := by decide +kernel
theorem nd__law_take : (("_law_take" : Str) == ("__debug__" : Str)) = false := by decide +kernel
theorem nd__law_out : (("_law_out" : Str) == ("__debug__" : Str)) = false := by decide +kernel
theorem nd__law_two_here : (("_law_two_here" : Str) == ("__debug__" : Str)) = false := by decide +kernel
theorem nd__law_any : (("_law_any" : Str) == ("__debug__" : Str)) = false := by decide +kernel
theorem nd__law_hand : (("_law_hand" : Str) == ("__debug__" : Str)) = false := by decide +kernel
theorem nd__law_most : (("_law_most" : Str) == ("__debug__" : Str)) = false := by decide +kernel
theorem nd__law_k : (("_law_k" : Str) == ("__debug__" : Str)) = false := by decide +kernel
theorem nd__law_pair : (("_law_pair" : Str) == ("__debug__" : Str)) = false := by decide +kernel
theorem nd__law_phases : (("_law_phases" : Str) == ("__debug__" : Str)) = false := by decide +kernel
theorem nd__law_turn : (("_law_turn" : Str) == ("__debug__" : Str)) = false := by decide +kernel
theorem nd__law_j : (("_law_j" : Str) == ("__debug__" : Str)) = false := by decide +kernel
theorem nd__law_pairs : (("_law_pairs" : Str) == ("__debug__" : Str)) = false := by decide +kernel
theorem nd__law_case_here : (("_law_case_here" : Str) == ("__debug__" : Str)) = false := by decide +kernel
theorem nd__law_rule : (("_law_rule" : Str) == ("__debug__" : Str)) = false := by decide +kernel
theorem nd__law_changed : (("_law_changed" : Str) == ("__debug__" : Str)) = false := by decide +kernel
theorem nd__law_order : (("_law_order" : Str) == ("__debug__" : Str)) = false := by decide +kernel
theorem nd__law_renamed : (("_law_renamed" : Str) == ("__debug__" : Str)) = false := by decide +kernel
theorem nd__law_near : (("_law_near" : Str) == ("__debug__" : Str)) = false := by decide +kernel
theorem nd__law_swap : (("_law_swap" : Str) == ("__debug__" : Str)) = false := by decide +kernel
theorem nd__law_at : (("_law_at" : Str) == ("__debug__" : Str)) = false := by decide +kernel
theorem nd__law_far : (("_law_far" : Str) == ("__debug__" : Str)) = false := by decide +kernel
theorem nd__law_pair_here : (("_law_pair_here" : Str) == ("__debug__" : Str)) = false := by decide +kernel
theorem nd__law_first : (("_law_first" : Str) == ("__debug__" : Str)) = false := by decide +kernel
theorem nd__law_level : (("_law_level" : Str) == ("__debug__" : Str)) = false := by decide +kernel
theorem nd__law_row : (("_law_row" : Str) == ("__debug__" : Str)) = false := by decide +kernel
theorem nd__law_top : (("_law_top" : Str) == ("__debug__" : Str)) = false := by decide +kernel
theorem nd__law_frame : (("_law_frame" : Str) == ("__debug__" : Str)) = false := by decide +kernel
theorem nd_never_above : (("never_above" : Str) == ("__debug__" : Str)) = false := by decide +kernel
theorem nd__law_never : (("_law_never" : Str) == ("__debug__" : Str)) = false := by decide +kernel
theorem nd__law_rows : (("_law_rows" : Str) == ("__debug__" : Str)) = false := by decide +kernel
theorem nd__law_rows_here : (("_law_rows_here" : Str) == ("__debug__" : Str)) = false := by decide +kernel
theorem nd__law_ends : (("_law_ends" : Str) == ("__debug__" : Str)) = false := by decide +kernel
theorem nd__law_less : (("_law_less" : Str) == ("__debug__" : Str)) = false := by decide +kernel
theorem nd__law_told : (("_law_told" : Str) == ("__debug__" : Str)) = false := by decide +kernel
theorem nd__law_is_above : (("_law_is_above" : Str) == ("__debug__" : Str)) = false := by decide +kernel
theorem nd_repr : (("repr" : Str) == ("__debug__" : Str)) = false := by decide +kernel
theorem nd__law_feed : (("_law_feed" : Str) == ("__debug__" : Str)) = false := by decide +kernel
theorem nd__law_two : (("_law_two" : Str) == ("__debug__" : Str)) = false := by decide +kernel
theorem nd__law_twin : (("_law_twin" : Str) == ("__debug__" : Str)) = false := by decide +kernel
theorem nd__law_span : (("_law_span" : Str) == ("__debug__" : Str)) = false := by decide +kernel
theorem nd__law_twin_here : (("_law_twin_here" : Str) == ("__debug__" : Str)) = false := by decide +kernel
theorem nd__law_three : (("_law_three" : Str) == ("__debug__" : Str)) = false := by decide +kernel
theorem nd__law_second : (("_law_second" : Str) == ("__debug__" : Str)) = false := by decide +kernel
theorem nd__law_third : (("_law_third" : Str) == ("__debug__" : Str)) = false := by decide +kernel
theorem nd__law_both : (("_law_both" : Str) == ("__debug__" : Str)) = false := by decide +kernel
theorem nd__law_pair_right : (("_law_pair_right" : Str) == ("__debug__" : Str)) = false := by decide +kernel
theorem nc_other : (("other" : Str) == ("__classdict__" : Str)) = false := by decide +kernel
theorem nc_one : (("one" : Str) == ("__classdict__" : Str)) = false := by decide +kernel
theorem nc_marks : (("marks" : Str) == ("__classdict__" : Str)) = false := by decide +kernel
theorem nc_mark : (("mark" : Str) == ("__classdict__" : Str)) = false := by decide +kernel
theorem nc_x : (("x" : Str) == ("__classdict__" : Str)) = false := by decide +kernel
theorem nc_gap : (("gap" : Str) == ("__classdict__" : Str)) = false := by decide +kernel
theorem nc_y : (("y" : Str) == ("__classdict__" : Str)) = false := by decide +kernel
theorem nc_upper : (("upper" : Str) == ("__classdict__" : Str)) = false := by decide +kernel
theorem nc_found : (("found" : Str) == ("__classdict__" : Str)) = false := by decide +kernel
theorem nc_move : (("move" : Str) == ("__classdict__" : Str)) = false := by decide +kernel
theorem nc_rule : (("rule" : Str) == ("__classdict__" : Str)) = false := by decide +kernel
theorem nc_phase : (("phase" : Str) == ("__classdict__" : Str)) = false := by decide +kernel
theorem nc_case : (("case" : Str) == ("__classdict__" : Str)) = false := by decide +kernel
theorem nc_state : (("state" : Str) == ("__classdict__" : Str)) = false := by decide +kernel
theorem nc_end : (("end" : Str) == ("__classdict__" : Str)) = false := by decide +kernel
theorem nc_later : (("later" : Str) == ("__classdict__" : Str)) = false := by decide +kernel
theorem nc_two : (("two" : Str) == ("__classdict__" : Str)) = false := by decide +kernel
theorem nc_first : (("first" : Str) == ("__classdict__" : Str)) = false := by decide +kernel
theorem nc_joint : (("joint" : Str) == ("__classdict__" : Str)) = false := by decide +kernel
theorem nc_last : (("last" : Str) == ("__classdict__" : Str)) = false := by decide +kernel
theorem nc_span : (("span" : Str) == ("__classdict__" : Str)) = false := by decide +kernel
theorem nc_top : (("top" : Str) == ("__classdict__" : Str)) = false := by decide +kernel
theorem nc_start : (("start" : Str) == ("__classdict__" : Str)) = false := by decide +kernel
theorem nc_at : (("at" : Str) == ("__classdict__" : Str)) = false := by decide +kernel
theorem nc_due : (("due" : Str) == ("__classdict__" : Str)) = false := by decide +kernel
theorem nc_after : (("after" : Str) == ("__classdict__" : Str)) = false := by decide +kernel
theorem nc_rows : (("rows" : Str) == ("__classdict__" : Str)) = false := by decide +kernel
theorem nc__law_script : (("_law_script" : Str) == ("__classdict__" : Str)) = false := by decide +kernel
theorem nc__law_feed_here : (("_law_feed_here" : Str) == ("__classdict__" : Str)) = false := by decide +kernel
theorem nc__law_many : (("_law_many" : Str) == ("__classdict__" : Str)) = false := by decide +kernel
theorem nc__law_digit : (("_law_digit" : Str) == ("__classdict__" : Str)) = false := by decide +kernel
theorem nc__law_cells : (("_law_cells" : Str) == ("__classdict__" : Str)) = false := by decide +kernel
theorem nc__law_place : (("_law_place" : Str) == ("__classdict__" : Str)) = false := by decide +kernel
theorem nc__law_cell : (("_law_cell" : Str) == ("__classdict__" : Str)) = false := by decide +kernel
theorem nc__law_mixed : (("_law_mixed" : Str) == ("__classdict__" : Str)) = false := by decide +kernel
theorem nc__law_some : (("_law_some" : Str) == ("__classdict__" : Str)) = false := by decide +kernel
theorem nc__law_one : (("_law_one" : Str) == ("__classdict__" : Str)) = false := by decide +kernel
theorem nc__law_marks : (("_law_marks" : Str) == ("__classdict__" : Str)) = false := by decide +kernel
theorem nc__law_mark : (("_law_mark" : Str) == ("__classdict__" : Str)) = false := by decide +kernel
theorem nc__law_x : (("_law_x" : Str) == ("__classdict__" : Str)) = false := by decide +kernel
theorem nc__law_y : (("_law_y" : Str) == ("__classdict__" : Str)) = false := by decide +kernel
theorem nc__law_above : (("_law_above" : Str) == ("__classdict__" : Str)) = false := by decide +kernel
theorem nc__law_move : (("_law_move" : Str) == ("__classdict__" : Str)) = false := by decide +kernel
theorem nc__law_state : (("_law_state" : Str) == ("__classdict__" : Str)) = false := by decide +kernel
theorem nc__law_phase : (("_law_phase" : Str) == ("__classdict__" : Str)) = false := by decide +kernel
theorem nc__law_rule_here : (("_law_rule_here" : Str) == ("__classdict__" : Str)) = false := by decide +kernel
theorem nc__law_later : (("_law_later" : Str) == ("__classdict__" : Str)) = false := by decide +kernel
theorem nc__law_fresh : (("_law_fresh" : Str) == ("__classdict__" : Str)) = false := by decide +kernel
theorem nc__law_found : (("_law_found" : Str) == ("__classdict__" : Str)) = false := by decide +kernel
theorem nc__law_take : (("_law_take" : Str) == ("__classdict__" : Str)) = false := by decide +kernel
theorem nc__law_out : (("_law_out" : Str) == ("__classdict__" : Str)) = false := by decide +kernel
theorem nc__law_two_here : (("_law_two_here" : Str) == ("__classdict__" : Str)) = false := by decide +kernel
theorem nc__law_most : (("_law_most" : Str) == ("__classdict__" : Str)) = false := by decide +kernel
theorem nc__law_k : (("_law_k" : Str) == ("__classdict__" : Str)) = false := by decide +kernel
theorem nc__law_phases : (("_law_phases" : Str) == ("__classdict__" : Str)) = false := by decide +kernel
theorem nc__law_turn : (("_law_turn" : Str) == ("__classdict__" : Str)) = false := by decide +kernel
theorem nc__law_j : (("_law_j" : Str) == ("__classdict__" : Str)) = false := by decide +kernel
theorem nc__law_pairs : (("_law_pairs" : Str) == ("__classdict__" : Str)) = false := by decide +kernel
theorem nc__law_case_here : (("_law_case_here" : Str) == ("__classdict__" : Str)) = false := by decide +kernel
theorem nc__law_order : (("_law_order" : Str) == ("__classdict__" : Str)) = false := by decide +kernel
theorem nc__law_near : (("_law_near" : Str) == ("__classdict__" : Str)) = false := by decide +kernel
theorem nc__law_swap : (("_law_swap" : Str) == ("__classdict__" : Str)) = false := by decide +kernel
theorem nc__law_at : (("_law_at" : Str) == ("__classdict__" : Str)) = false := by decide +kernel
theorem nc__law_far : (("_law_far" : Str) == ("__classdict__" : Str)) = false := by decide +kernel
theorem nc__law_pair_here : (("_law_pair_here" : Str) == ("__classdict__" : Str)) = false := by decide +kernel
theorem nc__law_first : (("_law_first" : Str) == ("__classdict__" : Str)) = false := by decide +kernel
theorem nc__law_level : (("_law_level" : Str) == ("__classdict__" : Str)) = false := by decide +kernel
theorem nc__law_row : (("_law_row" : Str) == ("__classdict__" : Str)) = false := by decide +kernel
theorem nc__law_top : (("_law_top" : Str) == ("__classdict__" : Str)) = false := by decide +kernel
theorem nc__law_frame : (("_law_frame" : Str) == ("__classdict__" : Str)) = false := by decide +kernel
theorem nc__law_never : (("_law_never" : Str) == ("__classdict__" : Str)) = false := by decide +kernel
theorem nc__law_rows_here : (("_law_rows_here" : Str) == ("__classdict__" : Str)) = false := by decide +kernel
theorem nc__law_less : (("_law_less" : Str) == ("__classdict__" : Str)) = false := by decide +kernel
theorem nc__law_told : (("_law_told" : Str) == ("__classdict__" : Str)) = false := by decide +kernel
theorem nc__law_twin_here : (("_law_twin_here" : Str) == ("__classdict__" : Str)) = false := by decide +kernel
theorem nc__law_three : (("_law_three" : Str) == ("__classdict__" : Str)) = false := by decide +kernel
theorem nc__law_second : (("_law_second" : Str) == ("__classdict__" : Str)) = false := by decide +kernel
theorem nc__law_third : (("_law_third" : Str) == ("__classdict__" : Str)) = false := by decide +kernel
theorem nc__law_both : (("_law_both" : Str) == ("__classdict__" : Str)) = false := by decide +kernel
def c_CASE_PLACES : D := (.cdt [(tx "near", (.int (0))), (tx "at", (.int (1))), (tx "far", (.int (2)))])
def tab : List (Str × List Str) := [(("is_above_kinds" : Str), [("one" : Str), ("other" : Str)]), (("gap_at" : Str), [("marks" : Str), ("x" : Str)]), (("upper_at" : Str), [("marks" : Str), ("x" : Str)]), (("case_at" : Str), [("marks" : Str), ("x" : Str), ("y" : Str)]), (("least_mark" : Str), [("marks" : Str), ("y" : Str)]), (("end_by" : Str), [("marks" : Str), ("x" : Str), ("y" : Str), ("move" : Str)]), (("pair_for" : Str), [("rule" : Str), ("phase" : Str), ("case" : Str)]), (("stepped" : Str), [("rule" : Str), ("state" : Str), ("y" : Str)]), (("is_less" : Str), [("one" : Str), ("two" : Str)]), (("first_joint" : Str), [("first" : Str)]), (("joint_after" : Str), [("rule" : Str), ("other" : Str), ("joint" : Str), ("y" : Str)]), (("is_above_joint" : Str), [("joint" : Str)]), (("lesser_last" : Str), [("joint" : Str)]), (("further_elements" : Str), [("joint" : Str), ("span" : Str)]), (("joints_with_rows" : Str), [("rule" : Str), ("other" : Str), ("span" : Str)]), (("above_row" : Str), [("rule" : Str), ("other" : Str), ("span" : Str)]), (("never_above" : Str), [("rule" : Str), ("other" : Str), ("span" : Str)]), (("_law_feed" : Str), [("_law_script" : Str)]), (("_law_draw" : Str), [("_law_feed_here" : Str), ("_law_many" : Str)]), (("_law_any" : Str), [("_law_feed_here" : Str), ("_law_some" : Str)]), (("_law_key" : Str), [("_law_one" : Str)]), (("_law_case" : Str), [("_law_marks" : Str), ("_law_x" : Str), ("_law_y" : Str)]), (("_law_jump" : Str), [("_law_marks" : Str), ("_law_move" : Str), ("_law_x" : Str), ("_law_y" : Str)]), (("_law_moved" : Str), [("_law_rule_here" : Str), ("_law_state" : Str), ("_law_y" : Str)]), (("_law_states" : Str), [("_law_rule_here" : Str), ("_law_some" : Str)]), (("_law_ends" : Str), [("_law_rule_here" : Str), ("_law_some" : Str)]), (("_law_hand" : Str), [("_law_feed_here" : Str)]), (("_law_pair" : Str), [("_law_feed_here" : Str), ("_law_many" : Str)]), (("_law_rule" : Str), [("_law_feed_here" : Str), ("_law_most" : Str)]), (("_law_changed" : Str), [("_law_feed_here" : Str), ("_law_rule_here" : Str)]), (("_law_two" : Str), [("_law_feed_here" : Str), ("_law_most" : Str)]), (("_law_renamed" : Str), [("_law_rule_here" : Str), ("_law_order" : Str)]), (("_law_twin" : Str), [("_law_feed_here" : Str), ("_law_rule_here" : Str)]), (("_law_is_above" : Str), [("_law_pair_here" : Str)]), (("_law_rows" : Str), [("_law_first" : Str), ("_law_top" : Str), ("_law_most" : Str)]), (("_law_span" : Str), [("_law_feed_here" : Str), ("_law_most" : Str)]), (("_law_pair_right" : Str), [("_law_one" : Str), ("_law_two_here" : Str), ("_law_frame" : Str)]), (("law" : Str), [("_law_script" : Str)])]
/-- what the written part and the callees give -/
structure Fx (w : World) (K : PySem.W.Frag) (mg : Str → Option Value) (base : Heap) (k : Nat) (c : CF) : Prop where
  f : ∀ (i : Nat) (x : Str) (ps : List Str), tab[i]? = some (x, ps) → Cal tabs P w K mg base k x ps (c i)
  b_len : mg ("len" : Str) = none
  b_list : mg ("list" : Str) = none
  b_range : mg ("range" : Str) = none
  b_int : mg ("int" : Str) = none
  b_tuple : mg ("tuple" : Str) = none
  b_sorted : mg ("sorted" : Str) = none
  b_set : mg ("set" : Str) = none
  b_repr : mg ("repr" : Str) = none
  k_CASE_PLACES : ∃ u, mg ("CASE_PLACES" : Str) = some u ∧ ∃ v, RelV v u ∧ ∀ H μ, Rep ⟨K, w, P⟩ H μ c_CASE_PLACES v
def N0 : List Str := [("one" : Str), ("other" : Str)]
def m0 (c : CF) : SD := (sSeq (sIf (dBl (d2 (isB false) (dVar 1) (dCst .non))) (sSeq (sRet (dCst (.bl false))) sNil) sNil) (sSeq (sRet (dOr (d2 (isB false) (dVar 0) (dCst .non)) (d2 (ordD .gt) (dVar 0) (dVar 1)))) sNil))
theorem S0 : FnScope N0 [("one" : Str), ("other" : Str)] (defScope (top 1)) := ⟨rfl, rfl, rfl, by decide +kernel, rfl, by decide +kernel, by decide +kernel⟩
theorem N0_1 : N0[1]? = some ("other" : Str) := rfl
theorem V0_1 : Vis (defScope (top 1)) ("other" : Str) := by first | exact Or.inl rfl | exact Or.inr (Or.inl rfl) | exact Or.inr (Or.inr rfl)
theorem N0_0 : N0[0]? = some ("one" : Str) := rfl
theorem V0_0 : Vis (defScope (top 1)) ("one" : Str) := by first | exact Or.inl rfl | exact Or.inr (Or.inl rfl) | exact Or.inr (Or.inr rfl)
def N1 : List Str := [("marks" : Str), ("x" : Str), ("mark" : Str)]
def m1 (c : CF) : SD := (sSeq (sRet (dCall (dCons (dLc 100000 (iVal (dVar 0)) (aName 2) (dBl (d2 (ordD .le) (dVar 2) (dVar 1))) (dVar 2) [2]) dNil) lenF2)) sNil)
theorem S1 : FnScope N1 [("marks" : Str), ("x" : Str)] (defScope (top 5)) := ⟨rfl, rfl, rfl, by decide +kernel, rfl, by decide +kernel, by decide +kernel⟩
theorem N1_0 : N1[0]? = some ("marks" : Str) := rfl
theorem V1_0 : Vis (defScope (top 5)) ("marks" : Str) := by first | exact Or.inl rfl | exact Or.inr (Or.inl rfl) | exact Or.inr (Or.inr rfl)
theorem N1_2 : N1[2]? = some ("mark" : Str) := rfl
theorem N1_1 : N1[1]? = some ("x" : Str) := rfl
theorem G1_len : (defScope (top 5)).names.lookup ("len" : Str) = some NameKind.globalImplicit := rfl
def N2 : List Str := [("marks" : Str), ("x" : Str), ("gap" : Str)]
def m2 (c : CF) : SD := (sSeq (sAsg (dCallF (dCons (dVar 0) (dCons (dVar 1) dNil)) [] 2 (c 1)) (aName 2)) (sSeq (sRet (dIte (dBl (d2 (ordD .lt) (dVar 2) (dCall (dCons (dVar 0) dNil) lenF2))) (d2 ixD (dVar 0) (dVar 2)) (dCst .non))) sNil))
theorem S2 : FnScope N2 [("marks" : Str), ("x" : Str)] (defScope (top 6)) := ⟨rfl, rfl, rfl, by decide +kernel, rfl, by decide +kernel, by decide +kernel⟩
theorem N2_2 : N2[2]? = some ("gap" : Str) := rfl
theorem L2_2 : Loc (defScope (top 6)) ("gap" : Str) := by first | exact Or.inl rfl | exact Or.inr rfl
theorem N2_0 : N2[0]? = some ("marks" : Str) := rfl
theorem V2_0 : Vis (defScope (top 6)) ("marks" : Str) := by first | exact Or.inl rfl | exact Or.inr (Or.inl rfl) | exact Or.inr (Or.inr rfl)
theorem N2_1 : N2[1]? = some ("x" : Str) := rfl
theorem V2_1 : Vis (defScope (top 6)) ("x" : Str) := by first | exact Or.inl rfl | exact Or.inr (Or.inl rfl) | exact Or.inr (Or.inr rfl)
theorem G2_gap_at : (defScope (top 6)).names.lookup ("gap_at" : Str) = some NameKind.globalImplicit := rfl
theorem V2_2 : Vis (defScope (top 6)) ("gap" : Str) := by first | exact Or.inl rfl | exact Or.inr (Or.inl rfl) | exact Or.inr (Or.inr rfl)
theorem G2_len : (defScope (top 6)).names.lookup ("len" : Str) = some NameKind.globalImplicit := rfl
def N3 : List Str := [("marks" : Str), ("x" : Str), ("y" : Str), ("upper" : Str)]
def m3 (c : CF) : SD := (sSeq (sIf (tNotB (dTru (dCallF (dCons (dVar 2) (dCons (dVar 1) dNil)) [] 2 (c 0)))) (sSeq (sRet (dCst .non)) sNil) sNil) (sSeq (sAsg (dCallF (dCons (dVar 0) (dCons (dVar 1) dNil)) [] 2 (c 2)) (aName 3)) (sSeq (sIf (tAndB (dBl (d2 (isB true) (dVar 2) (dCst .non))) (tOrB (dBl (d2 (isB false) (dVar 3) (dCst .non))) (dBl (d2 (ordD .lt) (dVar 2) (dVar 3))))) (sSeq (sRet (dCst (.str (tx "near")))) sNil) sNil) (sSeq (sRet (dIte (tAndB (dBl (d2 (isB true) (dVar 2) (dCst .non))) (dBl (d2 (eqB false) (dVar 2) (dVar 3)))) (dCst (.str (tx "at"))) (dCst (.str (tx "far"))))) sNil))))
theorem S3 : FnScope N3 [("marks" : Str), ("x" : Str), ("y" : Str)] (defScope (top 7)) := ⟨rfl, rfl, rfl, by decide +kernel, rfl, by decide +kernel, by decide +kernel⟩
theorem N3_2 : N3[2]? = some ("y" : Str) := rfl
theorem V3_2 : Vis (defScope (top 7)) ("y" : Str) := by first | exact Or.inl rfl | exact Or.inr (Or.inl rfl) | exact Or.inr (Or.inr rfl)
theorem N3_1 : N3[1]? = some ("x" : Str) := rfl
theorem V3_1 : Vis (defScope (top 7)) ("x" : Str) := by first | exact Or.inl rfl | exact Or.inr (Or.inl rfl) | exact Or.inr (Or.inr rfl)
theorem G3_is_above_kinds : (defScope (top 7)).names.lookup ("is_above_kinds" : Str) = some NameKind.globalImplicit := rfl
theorem N3_3 : N3[3]? = some ("upper" : Str) := rfl
theorem L3_3 : Loc (defScope (top 7)) ("upper" : Str) := by first | exact Or.inl rfl | exact Or.inr rfl
theorem N3_0 : N3[0]? = some ("marks" : Str) := rfl
theorem V3_0 : Vis (defScope (top 7)) ("marks" : Str) := by first | exact Or.inl rfl | exact Or.inr (Or.inl rfl) | exact Or.inr (Or.inr rfl)
theorem G3_upper_at : (defScope (top 7)).names.lookup ("upper_at" : Str) = some NameKind.globalImplicit := rfl
theorem V3_3 : Vis (defScope (top 7)) ("upper" : Str) := by first | exact Or.inl rfl | exact Or.inr (Or.inl rfl) | exact Or.inr (Or.inr rfl)
def N4 : List Str := [("marks" : Str), ("y" : Str), ("found" : Str), ("mark" : Str)]
def m4 (c : CF) : SD := (sSeq (sAsg (dLc 100000 (iVal (dVar 0)) (aName 3) (tAndB (dBl (d2 (isB true) (dVar 1) (dCst .non))) (dBl (d2 (ordD .ge) (dVar 3) (dVar 1)))) (dVar 3) [3]) (aName 2)) (sSeq (sRet (dIte (dBl (d2 (ordD .gt) (dCall (dCons (dVar 2) dNil) lenF2) (dCst (.int (0))))) (d2 ixD (dVar 2) (dCst (.int (0)))) (dCst .non))) sNil))
theorem S4 : FnScope N4 [("marks" : Str), ("y" : Str)] (defScope (top 9)) := ⟨rfl, rfl, rfl, by decide +kernel, rfl, by decide +kernel, by decide +kernel⟩
theorem N4_2 : N4[2]? = some ("found" : Str) := rfl
theorem L4_2 : Loc (defScope (top 9)) ("found" : Str) := by first | exact Or.inl rfl | exact Or.inr rfl
theorem N4_0 : N4[0]? = some ("marks" : Str) := rfl
theorem V4_0 : Vis (defScope (top 9)) ("marks" : Str) := by first | exact Or.inl rfl | exact Or.inr (Or.inl rfl) | exact Or.inr (Or.inr rfl)
theorem N4_3 : N4[3]? = some ("mark" : Str) := rfl
theorem N4_1 : N4[1]? = some ("y" : Str) := rfl
theorem V4_2 : Vis (defScope (top 9)) ("found" : Str) := by first | exact Or.inl rfl | exact Or.inr (Or.inl rfl) | exact Or.inr (Or.inr rfl)
theorem G4_len : (defScope (top 9)).names.lookup ("len" : Str) = some NameKind.globalImplicit := rfl
def N5 : List Str := [("marks" : Str), ("x" : Str), ("y" : Str), ("move" : Str)]
def m5 (c : CF) : SD := (sSeq (sIf (dBl (d2 (eqB false) (dVar 3) (dCst (.str (tx "take"))))) (sSeq (sRet (dVar 2)) sNil) sNil) (sSeq (sIf (dBl (d2 (eqB false) (dVar 3) (dCst (.str (tx "next"))))) (sSeq (sRet (dCallF (dCons (dVar 0) (dCons (dVar 2) dNil)) [] 2 (c 4))) sNil) sNil) (sSeq (sRet (dIte (dBl (d2 (eqB false) (dVar 3) (dCst (.str (tx "out"))))) (dCst .non) (dVar 1))) sNil)))
theorem S5 : FnScope N5 [("marks" : Str), ("x" : Str), ("y" : Str), ("move" : Str)] (defScope (top 10)) := ⟨rfl, rfl, rfl, by decide +kernel, rfl, by decide +kernel, by decide +kernel⟩
theorem N5_3 : N5[3]? = some ("move" : Str) := rfl
theorem V5_3 : Vis (defScope (top 10)) ("move" : Str) := by first | exact Or.inl rfl | exact Or.inr (Or.inl rfl) | exact Or.inr (Or.inr rfl)
theorem N5_2 : N5[2]? = some ("y" : Str) := rfl
theorem V5_2 : Vis (defScope (top 10)) ("y" : Str) := by first | exact Or.inl rfl | exact Or.inr (Or.inl rfl) | exact Or.inr (Or.inr rfl)
theorem N5_0 : N5[0]? = some ("marks" : Str) := rfl
theorem V5_0 : Vis (defScope (top 10)) ("marks" : Str) := by first | exact Or.inl rfl | exact Or.inr (Or.inl rfl) | exact Or.inr (Or.inr rfl)
theorem G5_least_mark : (defScope (top 10)).names.lookup ("least_mark" : Str) = some NameKind.globalImplicit := rfl
theorem N5_1 : N5[1]? = some ("x" : Str) := rfl
theorem V5_1 : Vis (defScope (top 10)) ("x" : Str) := by first | exact Or.inl rfl | exact Or.inr (Or.inl rfl) | exact Or.inr (Or.inr rfl)
def N6 : List Str := [("rule" : Str), ("phase" : Str), ("case" : Str)]
def m6 (c : CF) : SD := (sSeq (sRet (d2 ixD (d2 ixD (d2 ixD (dVar 0) (dCst (.int (1)))) (dVar 1)) (d2 ixD (dCst c_CASE_PLACES) (dVar 2)))) sNil)
theorem S6 : FnScope N6 [("rule" : Str), ("phase" : Str), ("case" : Str)] (defScope (top 11)) := ⟨rfl, rfl, rfl, by decide +kernel, rfl, by decide +kernel, by decide +kernel⟩
theorem N6_0 : N6[0]? = some ("rule" : Str) := rfl
theorem V6_0 : Vis (defScope (top 11)) ("rule" : Str) := by first | exact Or.inl rfl | exact Or.inr (Or.inl rfl) | exact Or.inr (Or.inr rfl)
theorem N6_1 : N6[1]? = some ("phase" : Str) := rfl
theorem V6_1 : Vis (defScope (top 11)) ("phase" : Str) := by first | exact Or.inl rfl | exact Or.inr (Or.inl rfl) | exact Or.inr (Or.inr rfl)
theorem G6_CASE_PLACES : (defScope (top 11)).names.lookup ("CASE_PLACES" : Str) = some NameKind.globalImplicit := rfl
theorem N6_2 : N6[2]? = some ("case" : Str) := rfl
theorem V6_2 : Vis (defScope (top 11)) ("case" : Str) := by first | exact Or.inl rfl | exact Or.inr (Or.inl rfl) | exact Or.inr (Or.inr rfl)
def N7 : List Str := [("rule" : Str), ("state" : Str), ("y" : Str), ("phase" : Str), ("end" : Str), ("last" : Str), ("case" : Str), ("move" : Str), ("later" : Str), ("found" : Str)]
def m7 (c : CF) : SD := (sSeq (sAsg (dVar 1) (aTup 3 (aCons (aName 3) (aCons (aName 4) (aCons (aName 5) aNil))))) (sSeq (sAsg (dCallF (dCons (d2 ixD (dVar 0) (dCst (.int (0)))) (dCons (dVar 4) (dCons (dVar 2) dNil))) [] 3 (c 3)) (aName 6)) (sSeq (sIf (dBl (d2 (isB false) (dVar 6) (dCst .non))) (sSeq (sRet (dVar 1)) sNil) sNil) (sSeq (sAsg (dCallF (dCons (dVar 0) (dCons (dVar 3) (dCons (dVar 6) dNil))) [] 3 (c 6)) (aTup 2 (aCons (aName 7) (aCons (aName 8) aNil)))) (sSeq (sAsg (dCallF (dCons (d2 ixD (dVar 0) (dCst (.int (0)))) (dCons (dVar 4) (dCons (dVar 2) (dCons (dVar 7) dNil)))) [] 4 (c 5)) (aName 9)) (sSeq (sRet (dTup (dCons (dVar 8) (dCons (dVar 9) (dCons (dIte (dTru (dCallF (dCons (dVar 2) (dCons (dVar 9) dNil)) [] 2 (c 0))) (dVar 2) (dVar 9)) dNil))))) sNil))))))
theorem S7 : FnScope N7 [("rule" : Str), ("state" : Str), ("y" : Str)] (defScope (top 12)) := ⟨rfl, rfl, rfl, by decide +kernel, rfl, by decide +kernel, by decide +kernel⟩
theorem N7_3 : N7[3]? = some ("phase" : Str) := rfl
theorem L7_3 : Loc (defScope (top 12)) ("phase" : Str) := by first | exact Or.inl rfl | exact Or.inr rfl
theorem N7_4 : N7[4]? = some ("end" : Str) := rfl
theorem L7_4 : Loc (defScope (top 12)) ("end" : Str) := by first | exact Or.inl rfl | exact Or.inr rfl
theorem N7_5 : N7[5]? = some ("last" : Str) := rfl
theorem L7_5 : Loc (defScope (top 12)) ("last" : Str) := by first | exact Or.inl rfl | exact Or.inr rfl
theorem N7_1 : N7[1]? = some ("state" : Str) := rfl
theorem V7_1 : Vis (defScope (top 12)) ("state" : Str) := by first | exact Or.inl rfl | exact Or.inr (Or.inl rfl) | exact Or.inr (Or.inr rfl)
theorem N7_6 : N7[6]? = some ("case" : Str) := rfl
theorem L7_6 : Loc (defScope (top 12)) ("case" : Str) := by first | exact Or.inl rfl | exact Or.inr rfl
theorem N7_0 : N7[0]? = some ("rule" : Str) := rfl
theorem V7_0 : Vis (defScope (top 12)) ("rule" : Str) := by first | exact Or.inl rfl | exact Or.inr (Or.inl rfl) | exact Or.inr (Or.inr rfl)
theorem V7_4 : Vis (defScope (top 12)) ("end" : Str) := by first | exact Or.inl rfl | exact Or.inr (Or.inl rfl) | exact Or.inr (Or.inr rfl)
theorem N7_2 : N7[2]? = some ("y" : Str) := rfl
theorem V7_2 : Vis (defScope (top 12)) ("y" : Str) := by first | exact Or.inl rfl | exact Or.inr (Or.inl rfl) | exact Or.inr (Or.inr rfl)
theorem G7_case_at : (defScope (top 12)).names.lookup ("case_at" : Str) = some NameKind.globalImplicit := rfl
theorem V7_6 : Vis (defScope (top 12)) ("case" : Str) := by first | exact Or.inl rfl | exact Or.inr (Or.inl rfl) | exact Or.inr (Or.inr rfl)
theorem N7_7 : N7[7]? = some ("move" : Str) := rfl
theorem L7_7 : Loc (defScope (top 12)) ("move" : Str) := by first | exact Or.inl rfl | exact Or.inr rfl
theorem N7_8 : N7[8]? = some ("later" : Str) := rfl
theorem L7_8 : Loc (defScope (top 12)) ("later" : Str) := by first | exact Or.inl rfl | exact Or.inr rfl
theorem V7_3 : Vis (defScope (top 12)) ("phase" : Str) := by first | exact Or.inl rfl | exact Or.inr (Or.inl rfl) | exact Or.inr (Or.inr rfl)
theorem G7_pair_for : (defScope (top 12)).names.lookup ("pair_for" : Str) = some NameKind.globalImplicit := rfl
theorem N7_9 : N7[9]? = some ("found" : Str) := rfl
theorem L7_9 : Loc (defScope (top 12)) ("found" : Str) := by first | exact Or.inl rfl | exact Or.inr rfl
theorem V7_7 : Vis (defScope (top 12)) ("move" : Str) := by first | exact Or.inl rfl | exact Or.inr (Or.inl rfl) | exact Or.inr (Or.inr rfl)
theorem G7_end_by : (defScope (top 12)).names.lookup ("end_by" : Str) = some NameKind.globalImplicit := rfl
theorem V7_8 : Vis (defScope (top 12)) ("later" : Str) := by first | exact Or.inl rfl | exact Or.inr (Or.inl rfl) | exact Or.inr (Or.inr rfl)
theorem V7_9 : Vis (defScope (top 12)) ("found" : Str) := by first | exact Or.inl rfl | exact Or.inr (Or.inl rfl) | exact Or.inr (Or.inr rfl)
theorem G7_is_above_kinds : (defScope (top 12)).names.lookup ("is_above_kinds" : Str) = some NameKind.globalImplicit := rfl
def N8 : List Str := [("one" : Str), ("two" : Str)]
def m8 (c : CF) : SD := (sSeq (sIf (dBl (d2 (isB false) (dVar 0) (dCst .non))) (sSeq (sRet (dCst (.bl false))) sNil) sNil) (sSeq (sRet (dOr (d2 (isB false) (dVar 1) (dCst .non)) (d2 (ordD .lt) (dVar 0) (dVar 1)))) sNil))
theorem S8 : FnScope N8 [("one" : Str), ("two" : Str)] (defScope (top 14)) := ⟨rfl, rfl, rfl, by decide +kernel, rfl, by decide +kernel, by decide +kernel⟩
theorem N8_0 : N8[0]? = some ("one" : Str) := rfl
theorem V8_0 : Vis (defScope (top 14)) ("one" : Str) := by first | exact Or.inl rfl | exact Or.inr (Or.inl rfl) | exact Or.inr (Or.inr rfl)
theorem N8_1 : N8[1]? = some ("two" : Str) := rfl
theorem V8_1 : Vis (defScope (top 14)) ("two" : Str) := by first | exact Or.inl rfl | exact Or.inr (Or.inl rfl) | exact Or.inr (Or.inr rfl)
def N9 : List Str := [("first" : Str)]
def m9 (c : CF) : SD := (sSeq (sRet (dTup (dCons (dTup (dCons (dCst (.int (0))) (dCons (dVar 0) (dCons (dVar 0) dNil)))) (dCons (dTup (dCons (dCst (.int (0))) (dCons (dVar 0) (dCons (dVar 0) dNil)))) dNil)))) sNil)
theorem S9 : FnScope N9 [("first" : Str)] (defScope (top 15)) := ⟨rfl, rfl, rfl, by decide +kernel, rfl, by decide +kernel, by decide +kernel⟩
theorem N9_0 : N9[0]? = some ("first" : Str) := rfl
theorem V9_0 : Vis (defScope (top 15)) ("first" : Str) := by first | exact Or.inl rfl | exact Or.inr (Or.inl rfl) | exact Or.inr (Or.inr rfl)
def N10 : List Str := [("rule" : Str), ("other" : Str), ("joint" : Str), ("y" : Str)]
def m10 (c : CF) : SD := (sSeq (sRet (dTup (dCons (dCallF (dCons (dVar 0) (dCons (d2 ixD (dVar 2) (dCst (.int (0)))) (dCons (dVar 3) dNil))) [] 3 (c 7)) (dCons (dCallF (dCons (dVar 1) (dCons (d2 ixD (dVar 2) (dCst (.int (1)))) (dCons (dVar 3) dNil))) [] 3 (c 7)) dNil)))) sNil)
theorem S10 : FnScope N10 [("rule" : Str), ("other" : Str), ("joint" : Str), ("y" : Str)] (defScope (top 16)) := ⟨rfl, rfl, rfl, by decide +kernel, rfl, by decide +kernel, by decide +kernel⟩
theorem N10_0 : N10[0]? = some ("rule" : Str) := rfl
theorem V10_0 : Vis (defScope (top 16)) ("rule" : Str) := by first | exact Or.inl rfl | exact Or.inr (Or.inl rfl) | exact Or.inr (Or.inr rfl)
theorem N10_2 : N10[2]? = some ("joint" : Str) := rfl
theorem V10_2 : Vis (defScope (top 16)) ("joint" : Str) := by first | exact Or.inl rfl | exact Or.inr (Or.inl rfl) | exact Or.inr (Or.inr rfl)
theorem N10_3 : N10[3]? = some ("y" : Str) := rfl
theorem V10_3 : Vis (defScope (top 16)) ("y" : Str) := by first | exact Or.inl rfl | exact Or.inr (Or.inl rfl) | exact Or.inr (Or.inr rfl)
theorem G10_stepped : (defScope (top 16)).names.lookup ("stepped" : Str) = some NameKind.globalImplicit := rfl
theorem N10_1 : N10[1]? = some ("other" : Str) := rfl
theorem V10_1 : Vis (defScope (top 16)) ("other" : Str) := by first | exact Or.inl rfl | exact Or.inr (Or.inl rfl) | exact Or.inr (Or.inr rfl)
def N11 : List Str := [("joint" : Str)]
def m11 (c : CF) : SD := (sSeq (sRet (dCallF (dCons (d2 ixD (d2 ixD (dVar 0) (dCst (.int (1)))) (dCst (.int (1)))) (dCons (d2 ixD (d2 ixD (dVar 0) (dCst (.int (0)))) (dCst (.int (1)))) dNil)) [] 2 (c 8))) sNil)
theorem S11 : FnScope N11 [("joint" : Str)] (defScope (top 17)) := ⟨rfl, rfl, rfl, by decide +kernel, rfl, by decide +kernel, by decide +kernel⟩
theorem N11_0 : N11[0]? = some ("joint" : Str) := rfl
theorem V11_0 : Vis (defScope (top 17)) ("joint" : Str) := by first | exact Or.inl rfl | exact Or.inr (Or.inl rfl) | exact Or.inr (Or.inr rfl)
theorem G11_is_less : (defScope (top 17)).names.lookup ("is_less" : Str) = some NameKind.globalImplicit := rfl
def N12 : List Str := [("joint" : Str)]
def m12 (c : CF) : SD := (sSeq (sRet (dIte (dTru (dCallF (dCons (d2 ixD (d2 ixD (dVar 0) (dCst (.int (1)))) (dCst (.int (2)))) (dCons (d2 ixD (d2 ixD (dVar 0) (dCst (.int (0)))) (dCst (.int (2)))) dNil)) [] 2 (c 8))) (d2 ixD (d2 ixD (dVar 0) (dCst (.int (1)))) (dCst (.int (2)))) (d2 ixD (d2 ixD (dVar 0) (dCst (.int (0)))) (dCst (.int (2)))))) sNil)
theorem S12 : FnScope N12 [("joint" : Str)] (defScope (top 19)) := ⟨rfl, rfl, rfl, by decide +kernel, rfl, by decide +kernel, by decide +kernel⟩
theorem N12_0 : N12[0]? = some ("joint" : Str) := rfl
theorem V12_0 : Vis (defScope (top 19)) ("joint" : Str) := by first | exact Or.inl rfl | exact Or.inr (Or.inl rfl) | exact Or.inr (Or.inr rfl)
theorem G12_is_less : (defScope (top 19)).names.lookup ("is_less" : Str) = some NameKind.globalImplicit := rfl
def N13 : List Str := [("joint" : Str), ("span" : Str), ("last" : Str), ("first" : Str), ("top" : Str)]
def m13 (c : CF) : SD := (sSeq (sAsg (dCallF (dCons (dVar 0) dNil) [] 1 (c 12)) (aName 2)) (sSeq (sIf (dBl (d2 (isB false) (dVar 2) (dCst .non))) (sSeq (sRet (dLst dNil)) sNil) sNil) (sSeq (sAsg (dVar 1) (aTup 2 (aCons (aName 3) (aCons (aName 4) aNil)))) (sSeq (sRet (dLr2 (dCons (dIte (dBl (d2 (ordD .gt) (dVar 2) (dVar 3))) (dVar 2) (dVar 3)) (dCons (d2 addD (dVar 4) (dCst (.int (1)))) dNil)))) sNil))))
theorem S13 : FnScope N13 [("joint" : Str), ("span" : Str)] (defScope (top 20)) := ⟨rfl, rfl, rfl, by decide +kernel, rfl, by decide +kernel, by decide +kernel⟩
theorem N13_2 : N13[2]? = some ("last" : Str) := rfl
theorem L13_2 : Loc (defScope (top 20)) ("last" : Str) := by first | exact Or.inl rfl | exact Or.inr rfl
theorem N13_0 : N13[0]? = some ("joint" : Str) := rfl
theorem V13_0 : Vis (defScope (top 20)) ("joint" : Str) := by first | exact Or.inl rfl | exact Or.inr (Or.inl rfl) | exact Or.inr (Or.inr rfl)
theorem G13_lesser_last : (defScope (top 20)).names.lookup ("lesser_last" : Str) = some NameKind.globalImplicit := rfl
theorem V13_2 : Vis (defScope (top 20)) ("last" : Str) := by first | exact Or.inl rfl | exact Or.inr (Or.inl rfl) | exact Or.inr (Or.inr rfl)
theorem N13_3 : N13[3]? = some ("first" : Str) := rfl
theorem L13_3 : Loc (defScope (top 20)) ("first" : Str) := by first | exact Or.inl rfl | exact Or.inr rfl
theorem N13_4 : N13[4]? = some ("top" : Str) := rfl
theorem L13_4 : Loc (defScope (top 20)) ("top" : Str) := by first | exact Or.inl rfl | exact Or.inr rfl
theorem N13_1 : N13[1]? = some ("span" : Str) := rfl
theorem V13_1 : Vis (defScope (top 20)) ("span" : Str) := by first | exact Or.inl rfl | exact Or.inr (Or.inl rfl) | exact Or.inr (Or.inr rfl)
theorem V13_3 : Vis (defScope (top 20)) ("first" : Str) := by first | exact Or.inl rfl | exact Or.inr (Or.inl rfl) | exact Or.inr (Or.inr rfl)
theorem V13_4 : Vis (defScope (top 20)) ("top" : Str) := by first | exact Or.inl rfl | exact Or.inr (Or.inl rfl) | exact Or.inr (Or.inr rfl)
theorem G13_list : (defScope (top 20)).names.lookup ("list" : Str) = some NameKind.globalImplicit := rfl
theorem G13_range : (defScope (top 20)).names.lookup ("range" : Str) = some NameKind.globalImplicit := rfl
def N14 : List Str := [("rule" : Str), ("other" : Str), ("span" : Str), ("start" : Str), ("rows" : Str), ("due" : Str), ("at" : Str), ("joint" : Str), ("y" : Str), ("after" : Str)]
def m14 (c : CF) : SD := (sSeq (sAsg (dCallF (dCons (d2 ixD (dVar 2) (dCst (.int (0)))) dNil) [] 1 (c 9)) (aName 3)) (sSeq (sAsg (dDicN [((dVar 3), (dTup (dCons (d2 ixD (dVar 2) (dCst (.int (0)))) dNil)))]) (aName 4)) (sSeq (sAsg (dLst (dCons (dVar 3) dNil)) (aName 5)) (sSeq (sAsg (dCst (.int (0))) (aName 6)) (sSeq (sWhile (dBl (d2 (ordD .lt) (dVar 6) (dCall (dCons (dVar 5) dNil) lenF2))) (sSeq (sAsg (d2 ixD (dVar 5) (dVar 6)) (aName 7)) (sSeq (sAsg (d2 addD (dVar 6) (dCst (.int (1)))) (aName 6)) (sSeq (sFor 100000 (iVal (dCallF (dCons (dVar 7) (dCons (dVar 2) dNil)) [] 2 (c 13))) (aName 8) (sSeq (sAsg (dCallF (dCons (dVar 0) (dCons (dVar 1) (dCons (dVar 7) (dCons (dVar 8) dNil)))) [] 4 (c 10)) (aName 9)) (sSeq (sIf (dBl (d2 (inB true) (dVar 9) (dVar 4))) (sSeq (sSetN (dVar 4) (dVar 9) (d2 addD (d2 ixD (dVar 4) (dVar 7)) (dTup (dCons (dVar 8) dNil)))) (sSeq (sExpr (dMeth "list" (dVar 5) (dCons (dVar 9) dNil) appendM)) sNil)) sNil) sNil))) sNil))) 1000000000) (sSeq (sRet (dVar 4)) sNil))))))
theorem S14 : FnScope N14 [("rule" : Str), ("other" : Str), ("span" : Str)] (defScope (top 21)) := ⟨rfl, rfl, rfl, by decide +kernel, rfl, by decide +kernel, by decide +kernel⟩
theorem N14_3 : N14[3]? = some ("start" : Str) := rfl
theorem L14_3 : Loc (defScope (top 21)) ("start" : Str) := by first | exact Or.inl rfl | exact Or.inr rfl
theorem N14_2 : N14[2]? = some ("span" : Str) := rfl
theorem V14_2 : Vis (defScope (top 21)) ("span" : Str) := by first | exact Or.inl rfl | exact Or.inr (Or.inl rfl) | exact Or.inr (Or.inr rfl)
theorem G14_first_joint : (defScope (top 21)).names.lookup ("first_joint" : Str) = some NameKind.globalImplicit := rfl
theorem N14_4 : N14[4]? = some ("rows" : Str) := rfl
theorem L14_4 : Loc (defScope (top 21)) ("rows" : Str) := by first | exact Or.inl rfl | exact Or.inr rfl
theorem V14_3 : Vis (defScope (top 21)) ("start" : Str) := by first | exact Or.inl rfl | exact Or.inr (Or.inl rfl) | exact Or.inr (Or.inr rfl)
theorem N14_5 : N14[5]? = some ("due" : Str) := rfl
theorem L14_5 : Loc (defScope (top 21)) ("due" : Str) := by first | exact Or.inl rfl | exact Or.inr rfl
theorem N14_6 : N14[6]? = some ("at" : Str) := rfl
theorem L14_6 : Loc (defScope (top 21)) ("at" : Str) := by first | exact Or.inl rfl | exact Or.inr rfl
theorem V14_6 : Vis (defScope (top 21)) ("at" : Str) := by first | exact Or.inl rfl | exact Or.inr (Or.inl rfl) | exact Or.inr (Or.inr rfl)
theorem V14_5 : Vis (defScope (top 21)) ("due" : Str) := by first | exact Or.inl rfl | exact Or.inr (Or.inl rfl) | exact Or.inr (Or.inr rfl)
theorem G14_len : (defScope (top 21)).names.lookup ("len" : Str) = some NameKind.globalImplicit := rfl
theorem N14_7 : N14[7]? = some ("joint" : Str) := rfl
theorem L14_7 : Loc (defScope (top 21)) ("joint" : Str) := by first | exact Or.inl rfl | exact Or.inr rfl
theorem V14_7 : Vis (defScope (top 21)) ("joint" : Str) := by first | exact Or.inl rfl | exact Or.inr (Or.inl rfl) | exact Or.inr (Or.inr rfl)
theorem G14_further_elements : (defScope (top 21)).names.lookup ("further_elements" : Str) = some NameKind.globalImplicit := rfl
theorem N14_8 : N14[8]? = some ("y" : Str) := rfl
theorem L14_8 : Loc (defScope (top 21)) ("y" : Str) := by first | exact Or.inl rfl | exact Or.inr rfl
theorem N14_9 : N14[9]? = some ("after" : Str) := rfl
theorem L14_9 : Loc (defScope (top 21)) ("after" : Str) := by first | exact Or.inl rfl | exact Or.inr rfl
theorem N14_0 : N14[0]? = some ("rule" : Str) := rfl
theorem V14_0 : Vis (defScope (top 21)) ("rule" : Str) := by first | exact Or.inl rfl | exact Or.inr (Or.inl rfl) | exact Or.inr (Or.inr rfl)
theorem N14_1 : N14[1]? = some ("other" : Str) := rfl
theorem V14_1 : Vis (defScope (top 21)) ("other" : Str) := by first | exact Or.inl rfl | exact Or.inr (Or.inl rfl) | exact Or.inr (Or.inr rfl)
theorem V14_8 : Vis (defScope (top 21)) ("y" : Str) := by first | exact Or.inl rfl | exact Or.inr (Or.inl rfl) | exact Or.inr (Or.inr rfl)
theorem G14_joint_after : (defScope (top 21)).names.lookup ("joint_after" : Str) = some NameKind.globalImplicit := rfl
theorem V14_9 : Vis (defScope (top 21)) ("after" : Str) := by first | exact Or.inl rfl | exact Or.inr (Or.inl rfl) | exact Or.inr (Or.inr rfl)
theorem V14_4 : Vis (defScope (top 21)) ("rows" : Str) := by first | exact Or.inl rfl | exact Or.inr (Or.inl rfl) | exact Or.inr (Or.inr rfl)
def N15 : List Str := [("rule" : Str), ("other" : Str), ("span" : Str), ("rows" : Str), ("joint" : Str)]
def m15 (c : CF) : SD := (sSeq (sAsg (dCallF (dCons (dVar 0) (dCons (dVar 1) (dCons (dVar 2) dNil))) [] 3 (c 14)) (aName 3)) (sSeq (sForN 100000 3 (aName 4) (sSeq (sIf (dTru (dCallF (dCons (dVar 4) dNil) [] 1 (c 11))) (sSeq (sRet (d2 ixD (dVar 3) (dVar 4))) sNil) sNil) sNil)) (sSeq (sRet (dCst .non)) sNil)))
theorem S15 : FnScope N15 [("rule" : Str), ("other" : Str), ("span" : Str)] (defScope (top 23)) := ⟨rfl, rfl, rfl, by decide +kernel, rfl, by decide +kernel, by decide +kernel⟩
theorem N15_3 : N15[3]? = some ("rows" : Str) := rfl
theorem L15_3 : Loc (defScope (top 23)) ("rows" : Str) := by first | exact Or.inl rfl | exact Or.inr rfl
theorem N15_0 : N15[0]? = some ("rule" : Str) := rfl
theorem V15_0 : Vis (defScope (top 23)) ("rule" : Str) := by first | exact Or.inl rfl | exact Or.inr (Or.inl rfl) | exact Or.inr (Or.inr rfl)
theorem N15_1 : N15[1]? = some ("other" : Str) := rfl
theorem V15_1 : Vis (defScope (top 23)) ("other" : Str) := by first | exact Or.inl rfl | exact Or.inr (Or.inl rfl) | exact Or.inr (Or.inr rfl)
theorem N15_2 : N15[2]? = some ("span" : Str) := rfl
theorem V15_2 : Vis (defScope (top 23)) ("span" : Str) := by first | exact Or.inl rfl | exact Or.inr (Or.inl rfl) | exact Or.inr (Or.inr rfl)
theorem G15_joints_with_rows : (defScope (top 23)).names.lookup ("joints_with_rows" : Str) = some NameKind.globalImplicit := rfl
theorem V15_3 : Vis (defScope (top 23)) ("rows" : Str) := by first | exact Or.inl rfl | exact Or.inr (Or.inl rfl) | exact Or.inr (Or.inr rfl)
theorem N15_4 : N15[4]? = some ("joint" : Str) := rfl
theorem L15_4 : Loc (defScope (top 23)) ("joint" : Str) := by first | exact Or.inl rfl | exact Or.inr rfl
theorem V15_4 : Vis (defScope (top 23)) ("joint" : Str) := by first | exact Or.inl rfl | exact Or.inr (Or.inl rfl) | exact Or.inr (Or.inr rfl)
theorem G15_is_above_joint : (defScope (top 23)).names.lookup ("is_above_joint" : Str) = some NameKind.globalImplicit := rfl
def N16 : List Str := [("rule" : Str), ("other" : Str), ("span" : Str)]
def m16 (c : CF) : SD := (sSeq (sRet (d2 (isB false) (dCallF (dCons (dVar 0) (dCons (dVar 1) (dCons (dVar 2) dNil))) [] 3 (c 15)) (dCst .non))) sNil)
theorem S16 : FnScope N16 [("rule" : Str), ("other" : Str), ("span" : Str)] (defScope (top 24)) := ⟨rfl, rfl, rfl, by decide +kernel, rfl, by decide +kernel, by decide +kernel⟩
theorem N16_0 : N16[0]? = some ("rule" : Str) := rfl
theorem V16_0 : Vis (defScope (top 24)) ("rule" : Str) := by first | exact Or.inl rfl | exact Or.inr (Or.inl rfl) | exact Or.inr (Or.inr rfl)
theorem N16_1 : N16[1]? = some ("other" : Str) := rfl
theorem V16_1 : Vis (defScope (top 24)) ("other" : Str) := by first | exact Or.inl rfl | exact Or.inr (Or.inl rfl) | exact Or.inr (Or.inr rfl)
theorem N16_2 : N16[2]? = some ("span" : Str) := rfl
theorem V16_2 : Vis (defScope (top 24)) ("span" : Str) := by first | exact Or.inl rfl | exact Or.inr (Or.inl rfl) | exact Or.inr (Or.inr rfl)
theorem G16_above_row : (defScope (top 24)).names.lookup ("above_row" : Str) = some NameKind.globalImplicit := rfl
def N17 : List Str := [("_law_script" : Str)]
def m17 (c : CF) : SD := (sSeq (sRet (dDic [((dCst (.str (tx "cells"))), (dCall (dCons (dSl (dVar 0) pNone (pSome (dCst (.int (63))))) dNil) listF2)), ((dCst (.str (tx "next"))), (dCst (.int (0)))), ((dCst (.str (tx "rest"))), (dCst (.int (0)))), ((dCst (.str (tx "turn"))), (dCst (.int (0))))])) sNil)
theorem S17 : FnScope N17 [("_law_script" : Str)] (defScope (top 26)) := ⟨rfl, rfl, rfl, by decide +kernel, rfl, by decide +kernel, by decide +kernel⟩
theorem N17_0 : N17[0]? = some ("_law_script" : Str) := rfl
theorem V17_0 : Vis (defScope (top 26)) ("_law_script" : Str) := by first | exact Or.inl rfl | exact Or.inr (Or.inl rfl) | exact Or.inr (Or.inr rfl)
theorem G17_list : (defScope (top 26)).names.lookup ("list" : Str) = some NameKind.globalImplicit := rfl
def N18 : List Str := [("_law_feed_here" : Str), ("_law_many" : Str), ("_law_digit" : Str), ("_law_cells" : Str), ("_law_place" : Str), ("_law_cell" : Str), ("_law_mixed" : Str)]
def m18 (c : CF) : SD := (sSeq (sSet (dVar 0) (dCst (.str (tx "turn"))) (d2 addD (d2 ixD (dVar 0) (dCst (.str (tx "turn")))) (dCst (.int (1))))) (sSeq (sIf (dBl (d2 (ordD .gt) (d2 ixD (dVar 0) (dCst (.str (tx "rest")))) (dCst (.int (0))))) (sSeq (sAsg (d2 modD (dCall (dCons (d2 ixD (dVar 0) (dCst (.str (tx "rest")))) dNil) intF) (dVar 1)) (aName 2)) (sSeq (sSet (dVar 0) (dCst (.str (tx "rest"))) (d2 fdivD (d2 ixD (dVar 0) (dCst (.str (tx "rest")))) (dVar 1))) (sSeq (sRet (dVar 2)) sNil))) sNil) (sSeq (sPar [3, 4] (dCons (d2 ixD (dVar 0) (dCst (.str (tx "cells")))) (dCons (d2 ixD (dVar 0) (dCst (.str (tx "next")))) dNil))) (sSeq (sAsg (dIte (dBl (d2 (eqB true) (dVar 3) (dLst dNil))) (d2 ixD (dVar 3) (d2 modD (dCall (dCons (dVar 4) dNil) intF) (dCall (dCons (dVar 3) dNil) lenF2))) (dCst (.int (1389)))) (aName 5)) (sSeq (sSet (dVar 0) (dCst (.str (tx "next"))) (d2 addD (dVar 4) (dCst (.int (1))))) (sSeq (sIf (tAndB (dBl (d2 (ordD .ge) (dVar 5) (d2 powD (dCst (.int (10))) (dCst (.int (18)))))) (dBl (d2 (ordD .lt) (dVar 4) (dCall (dCons (dVar 3) dNil) lenF2)))) (sSeq (sSet (dVar 0) (dCst (.str (tx "rest"))) (d2 fdivD (dVar 5) (dVar 1))) (sSeq (sRet (d2 modD (dCall (dCons (dVar 5) dNil) intF) (dVar 1))) sNil)) sNil) (sSeq (sAsg (d2 modD (dCall (dCons (d2 addD (d2 addD (d2 modD (dCall (dCons (dVar 5) dNil) intF) (dCst (.int (1000000993)))) (d2 mulD (dCst (.int (310019))) (d2 ixD (dVar 0) (dCst (.str (tx "turn")))))) (dCst (.int (311)))) dNil) intF) (dCst (.int (2147482801)))) (aName 6)) (sSeq (sAsg (d2 modD (dCall (dCons (d2 addD (d2 addD (d2 mulD (dVar 6) (dVar 6)) (d2 mulD (dCst (.int (4200013))) (d2 ixD (dVar 0) (dCst (.str (tx "turn")))))) (dCst (.int (131)))) dNil) intF) (dCst (.int (2147481901)))) (aName 6)) (sSeq (sRet (d2 modD (dCall (dCons (d2 fdivD (d2 modD (dCall (dCons (d2 addD (d2 mulD (dVar 6) (dVar 6)) (d2 mulD (dCst (.int (211))) (dVar 6))) dNil) intF) (dCst (.int (2147481793)))) (dCst (.int (8)))) dNil) intF) (dVar 1))) sNil)))))))))
theorem S18 : FnScope N18 [("_law_feed_here" : Str), ("_law_many" : Str)] (defScope (top 27)) := ⟨rfl, rfl, rfl, by decide +kernel, rfl, by decide +kernel, by decide +kernel⟩
theorem N18_0 : N18[0]? = some ("_law_feed_here" : Str) := rfl
theorem V18_0 : Vis (defScope (top 27)) ("_law_feed_here" : Str) := by first | exact Or.inl rfl | exact Or.inr (Or.inl rfl) | exact Or.inr (Or.inr rfl)
theorem N18_2 : N18[2]? = some ("_law_digit" : Str) := rfl
theorem L18_2 : Loc (defScope (top 27)) ("_law_digit" : Str) := by first | exact Or.inl rfl | exact Or.inr rfl
theorem G18_int : (defScope (top 27)).names.lookup ("int" : Str) = some NameKind.globalImplicit := rfl
theorem N18_1 : N18[1]? = some ("_law_many" : Str) := rfl
theorem V18_1 : Vis (defScope (top 27)) ("_law_many" : Str) := by first | exact Or.inl rfl | exact Or.inr (Or.inl rfl) | exact Or.inr (Or.inr rfl)
theorem V18_2 : Vis (defScope (top 27)) ("_law_digit" : Str) := by first | exact Or.inl rfl | exact Or.inr (Or.inl rfl) | exact Or.inr (Or.inr rfl)
theorem N18_3 : N18[3]? = some ("_law_cells" : Str) := rfl
theorem N18_4 : N18[4]? = some ("_law_place" : Str) := rfl
theorem N18_5 : N18[5]? = some ("_law_cell" : Str) := rfl
theorem L18_5 : Loc (defScope (top 27)) ("_law_cell" : Str) := by first | exact Or.inl rfl | exact Or.inr rfl
theorem V18_3 : Vis (defScope (top 27)) ("_law_cells" : Str) := by first | exact Or.inl rfl | exact Or.inr (Or.inl rfl) | exact Or.inr (Or.inr rfl)
theorem V18_4 : Vis (defScope (top 27)) ("_law_place" : Str) := by first | exact Or.inl rfl | exact Or.inr (Or.inl rfl) | exact Or.inr (Or.inr rfl)
theorem G18_len : (defScope (top 27)).names.lookup ("len" : Str) = some NameKind.globalImplicit := rfl
theorem V18_5 : Vis (defScope (top 27)) ("_law_cell" : Str) := by first | exact Or.inl rfl | exact Or.inr (Or.inl rfl) | exact Or.inr (Or.inr rfl)
theorem N18_6 : N18[6]? = some ("_law_mixed" : Str) := rfl
theorem L18_6 : Loc (defScope (top 27)) ("_law_mixed" : Str) := by first | exact Or.inl rfl | exact Or.inr rfl
theorem V18_6 : Vis (defScope (top 27)) ("_law_mixed" : Str) := by first | exact Or.inl rfl | exact Or.inr (Or.inl rfl) | exact Or.inr (Or.inr rfl)
def N19 : List Str := [("_law_feed_here" : Str), ("_law_some" : Str)]
def m19 (c : CF) : SD := (sSeq (sRet (d2 ixD (dVar 1) (dCallF (dCons (dVar 0) (dCons (dCall (dCons (dVar 1) dNil) lenF2) dNil)) [] 2 (c 18)))) sNil)
theorem S19 : FnScope N19 [("_law_feed_here" : Str), ("_law_some" : Str)] (defScope (top 28)) := ⟨rfl, rfl, rfl, by decide +kernel, rfl, by decide +kernel, by decide +kernel⟩
theorem N19_1 : N19[1]? = some ("_law_some" : Str) := rfl
theorem V19_1 : Vis (defScope (top 28)) ("_law_some" : Str) := by first | exact Or.inl rfl | exact Or.inr (Or.inl rfl) | exact Or.inr (Or.inr rfl)
theorem N19_0 : N19[0]? = some ("_law_feed_here" : Str) := rfl
theorem V19_0 : Vis (defScope (top 28)) ("_law_feed_here" : Str) := by first | exact Or.inl rfl | exact Or.inr (Or.inl rfl) | exact Or.inr (Or.inr rfl)
theorem G19_len : (defScope (top 28)).names.lookup ("len" : Str) = some NameKind.globalImplicit := rfl
theorem G19__law_draw : (defScope (top 28)).names.lookup ("_law_draw" : Str) = some NameKind.globalImplicit := rfl
def N20 : List Str := [("_law_one" : Str)]
def m20 (c : CF) : SD := (sSeq (sRet (dIte (dBl (d2 (isB false) (dVar 0) (dCst .non))) (dTup (dCons (dCst (.int (1))) (dCons (dCst (.int (0))) dNil))) (dTup (dCons (dCst (.int (0))) (dCons (dVar 0) dNil))))) sNil)
theorem S20 : FnScope N20 [("_law_one" : Str)] (defScope (top 29)) := ⟨rfl, rfl, rfl, by decide +kernel, rfl, by decide +kernel, by decide +kernel⟩
theorem N20_0 : N20[0]? = some ("_law_one" : Str) := rfl
theorem V20_0 : Vis (defScope (top 29)) ("_law_one" : Str) := by first | exact Or.inl rfl | exact Or.inr (Or.inl rfl) | exact Or.inr (Or.inr rfl)
def N21 : List Str := [("_law_marks" : Str), ("_law_x" : Str), ("_law_y" : Str), ("_law_above" : Str), ("_law_mark" : Str)]
def m21 (c : CF) : SD := (sSeq (sAsg (dLc 100000 (iVal (dVar 0)) (aName 4) (dBl (d2 (ordD .gt) (dVar 4) (dVar 1))) (dVar 4) [4]) (aName 3)) (sSeq (sIf (tAndB (dBl (d2 (isB true) (dVar 2) (dCst .non))) (tOrB (dBl (d2 (eqB false) (dVar 3) (dLst dNil))) (dBl (d2 (ordD .gt) (d2 ixD (dVar 3) (dCst (.int (0)))) (dVar 2))))) (sSeq (sRet (dCst (.int (0)))) sNil) sNil) (sSeq (sRet (dIte (tAndB (dBl (d2 (eqB true) (dVar 3) (dLst dNil))) (dBl (d2 (eqB false) (dVar 2) (d2 ixD (dVar 3) (dCst (.int (0))))))) (dCst (.int (1))) (dCst (.int (2))))) sNil)))
theorem S21 : FnScope N21 [("_law_marks" : Str), ("_law_x" : Str), ("_law_y" : Str)] (defScope (top 30)) := ⟨rfl, rfl, rfl, by decide +kernel, rfl, by decide +kernel, by decide +kernel⟩
theorem N21_3 : N21[3]? = some ("_law_above" : Str) := rfl
theorem L21_3 : Loc (defScope (top 30)) ("_law_above" : Str) := by first | exact Or.inl rfl | exact Or.inr rfl
theorem N21_0 : N21[0]? = some ("_law_marks" : Str) := rfl
theorem V21_0 : Vis (defScope (top 30)) ("_law_marks" : Str) := by first | exact Or.inl rfl | exact Or.inr (Or.inl rfl) | exact Or.inr (Or.inr rfl)
theorem N21_4 : N21[4]? = some ("_law_mark" : Str) := rfl
theorem N21_1 : N21[1]? = some ("_law_x" : Str) := rfl
theorem N21_2 : N21[2]? = some ("_law_y" : Str) := rfl
theorem V21_2 : Vis (defScope (top 30)) ("_law_y" : Str) := by first | exact Or.inl rfl | exact Or.inr (Or.inl rfl) | exact Or.inr (Or.inr rfl)
theorem V21_3 : Vis (defScope (top 30)) ("_law_above" : Str) := by first | exact Or.inl rfl | exact Or.inr (Or.inl rfl) | exact Or.inr (Or.inr rfl)
def N22 : List Str := [("_law_marks" : Str), ("_law_move" : Str), ("_law_x" : Str), ("_law_y" : Str), ("_law_above" : Str), ("_law_mark" : Str)]
def m22 (c : CF) : SD := (sSeq (sIf (dBl (d2 (eqB false) (dVar 1) (dCst (.str (tx "next"))))) (sSeq (sAsg (dLc 100000 (iVal (dVar 0)) (aName 5) (tAndB (dBl (d2 (isB true) (dVar 3) (dCst .non))) (dBl (d2 (ordD .ge) (dVar 5) (dVar 3)))) (dVar 5) [5]) (aName 4)) (sSeq (sRet (dIte (dBl (d2 (eqB true) (dVar 4) (dLst dNil))) (d2 ixD (dVar 4) (dCst (.int (0)))) (dCst .non))) sNil)) sNil) (sSeq (sIf (dBl (d2 (eqB false) (dVar 1) (dCst (.str (tx "take"))))) (sSeq (sRet (dVar 3)) sNil) sNil) (sSeq (sRet (dIte (dBl (d2 (eqB false) (dVar 1) (dCst (.str (tx "wait"))))) (dVar 2) (dCst .non))) sNil)))
theorem S22 : FnScope N22 [("_law_marks" : Str), ("_law_move" : Str), ("_law_x" : Str), ("_law_y" : Str)] (defScope (top 31)) := ⟨rfl, rfl, rfl, by decide +kernel, rfl, by decide +kernel, by decide +kernel⟩
theorem N22_1 : N22[1]? = some ("_law_move" : Str) := rfl
theorem V22_1 : Vis (defScope (top 31)) ("_law_move" : Str) := by first | exact Or.inl rfl | exact Or.inr (Or.inl rfl) | exact Or.inr (Or.inr rfl)
theorem N22_4 : N22[4]? = some ("_law_above" : Str) := rfl
theorem L22_4 : Loc (defScope (top 31)) ("_law_above" : Str) := by first | exact Or.inl rfl | exact Or.inr rfl
theorem N22_0 : N22[0]? = some ("_law_marks" : Str) := rfl
theorem V22_0 : Vis (defScope (top 31)) ("_law_marks" : Str) := by first | exact Or.inl rfl | exact Or.inr (Or.inl rfl) | exact Or.inr (Or.inr rfl)
theorem N22_5 : N22[5]? = some ("_law_mark" : Str) := rfl
theorem N22_3 : N22[3]? = some ("_law_y" : Str) := rfl
theorem V22_4 : Vis (defScope (top 31)) ("_law_above" : Str) := by first | exact Or.inl rfl | exact Or.inr (Or.inl rfl) | exact Or.inr (Or.inr rfl)
theorem V22_3 : Vis (defScope (top 31)) ("_law_y" : Str) := by first | exact Or.inl rfl | exact Or.inr (Or.inl rfl) | exact Or.inr (Or.inr rfl)
theorem N22_2 : N22[2]? = some ("_law_x" : Str) := rfl
theorem V22_2 : Vis (defScope (top 31)) ("_law_x" : Str) := by first | exact Or.inl rfl | exact Or.inr (Or.inl rfl) | exact Or.inr (Or.inr rfl)
def N23 : List Str := [("_law_rule_here" : Str), ("_law_state" : Str), ("_law_y" : Str), ("_law_phase" : Str), ("_law_x" : Str), ("_law_last" : Str), ("_law_move" : Str), ("_law_later" : Str), ("_law_fresh" : Str)]
def m23 (c : CF) : SD := (sSeq (sAsg (dVar 1) (aTup 3 (aCons (aName 3) (aCons (aName 4) (aCons (aName 5) aNil))))) (sSeq (sIf (tOrB (dBl (d2 (isB false) (dVar 4) (dCst .non))) (tAndB (dBl (d2 (isB true) (dVar 2) (dCst .non))) (dBl (d2 (ordD .le) (dVar 2) (dVar 4))))) (sSeq (sRet (dTup (dCons (dVar 3) (dCons (dVar 4) (dCons (dVar 4) dNil))))) sNil) sNil) (sSeq (sAsg (d2 ixD (d2 ixD (d2 ixD (dVar 0) (dCst (.int (1)))) (dVar 3)) (dCallF (dCons (d2 ixD (dVar 0) (dCst (.int (0)))) (dCons (dVar 4) (dCons (dVar 2) dNil))) [] 3 (c 21))) (aTup 2 (aCons (aName 6) (aCons (aName 7) aNil)))) (sSeq (sAsg (dCallF (dCons (d2 ixD (dVar 0) (dCst (.int (0)))) (dCons (dVar 6) (dCons (dVar 4) (dCons (dVar 2) dNil)))) [] 4 (c 22)) (aName 8)) (sSeq (sRet (dTup (dCons (dVar 7) (dCons (dVar 8) (dCons (dIte (dBl (d2 (ordD .lt) (dCallF (dCons (dVar 8) dNil) [] 1 (c 20)) (dCallF (dCons (dVar 2) dNil) [] 1 (c 20)))) (dVar 2) (dVar 8)) dNil))))) sNil)))))
theorem S23 : FnScope N23 [("_law_rule_here" : Str), ("_law_state" : Str), ("_law_y" : Str)] (defScope (top 32)) := ⟨rfl, rfl, rfl, by decide +kernel, rfl, by decide +kernel, by decide +kernel⟩
theorem N23_3 : N23[3]? = some ("_law_phase" : Str) := rfl
theorem L23_3 : Loc (defScope (top 32)) ("_law_phase" : Str) := by first | exact Or.inl rfl | exact Or.inr rfl
theorem N23_4 : N23[4]? = some ("_law_x" : Str) := rfl
theorem L23_4 : Loc (defScope (top 32)) ("_law_x" : Str) := by first | exact Or.inl rfl | exact Or.inr rfl
theorem N23_5 : N23[5]? = some ("_law_last" : Str) := rfl
theorem L23_5 : Loc (defScope (top 32)) ("_law_last" : Str) := by first | exact Or.inl rfl | exact Or.inr rfl
theorem N23_1 : N23[1]? = some ("_law_state" : Str) := rfl
theorem V23_1 : Vis (defScope (top 32)) ("_law_state" : Str) := by first | exact Or.inl rfl | exact Or.inr (Or.inl rfl) | exact Or.inr (Or.inr rfl)
theorem V23_4 : Vis (defScope (top 32)) ("_law_x" : Str) := by first | exact Or.inl rfl | exact Or.inr (Or.inl rfl) | exact Or.inr (Or.inr rfl)
theorem N23_2 : N23[2]? = some ("_law_y" : Str) := rfl
theorem V23_2 : Vis (defScope (top 32)) ("_law_y" : Str) := by first | exact Or.inl rfl | exact Or.inr (Or.inl rfl) | exact Or.inr (Or.inr rfl)
theorem V23_3 : Vis (defScope (top 32)) ("_law_phase" : Str) := by first | exact Or.inl rfl | exact Or.inr (Or.inl rfl) | exact Or.inr (Or.inr rfl)
theorem N23_6 : N23[6]? = some ("_law_move" : Str) := rfl
theorem L23_6 : Loc (defScope (top 32)) ("_law_move" : Str) := by first | exact Or.inl rfl | exact Or.inr rfl
theorem N23_7 : N23[7]? = some ("_law_later" : Str) := rfl
theorem L23_7 : Loc (defScope (top 32)) ("_law_later" : Str) := by first | exact Or.inl rfl | exact Or.inr rfl
theorem N23_0 : N23[0]? = some ("_law_rule_here" : Str) := rfl
theorem V23_0 : Vis (defScope (top 32)) ("_law_rule_here" : Str) := by first | exact Or.inl rfl | exact Or.inr (Or.inl rfl) | exact Or.inr (Or.inr rfl)
theorem G23__law_case : (defScope (top 32)).names.lookup ("_law_case" : Str) = some NameKind.globalImplicit := rfl
theorem N23_8 : N23[8]? = some ("_law_fresh" : Str) := rfl
theorem L23_8 : Loc (defScope (top 32)) ("_law_fresh" : Str) := by first | exact Or.inl rfl | exact Or.inr rfl
theorem V23_6 : Vis (defScope (top 32)) ("_law_move" : Str) := by first | exact Or.inl rfl | exact Or.inr (Or.inl rfl) | exact Or.inr (Or.inr rfl)
theorem G23__law_jump : (defScope (top 32)).names.lookup ("_law_jump" : Str) = some NameKind.globalImplicit := rfl
theorem V23_7 : Vis (defScope (top 32)) ("_law_later" : Str) := by first | exact Or.inl rfl | exact Or.inr (Or.inl rfl) | exact Or.inr (Or.inr rfl)
theorem V23_8 : Vis (defScope (top 32)) ("_law_fresh" : Str) := by first | exact Or.inl rfl | exact Or.inr (Or.inl rfl) | exact Or.inr (Or.inr rfl)
theorem G23__law_key : (defScope (top 32)).names.lookup ("_law_key" : Str) = some NameKind.globalImplicit := rfl
def N24 : List Str := [("_law_rule_here" : Str), ("_law_some" : Str), ("_law_found" : Str), ("_law_y" : Str)]
def m24 (c : CF) : SD := (sSeq (sAsg (dLst (dCons (dTup (dCons (dCst (.int (0))) (dCons (d2 ixD (dVar 1) (dCst (.int (0)))) (dCons (d2 ixD (dVar 1) (dCst (.int (0)))) dNil)))) dNil)) (aName 2)) (sSeq (sFor 100000 (iVal (dSl (dVar 1) (pSome (dCst (.int (1)))) pNone)) (aName 3) (sSeq (sExpr (dMeth "list" (dVar 2) (dCons (dCallF (dCons (dVar 0) (dCons (d2 ixD (dVar 2) (dNeg (dCst (.int (1))))) (dCons (dVar 3) dNil))) [] 3 (c 23)) dNil) appendM)) sNil)) (sSeq (sRet (dVar 2)) sNil)))
theorem S24 : FnScope N24 [("_law_rule_here" : Str), ("_law_some" : Str)] (defScope (top 33)) := ⟨rfl, rfl, rfl, by decide +kernel, rfl, by decide +kernel, by decide +kernel⟩
theorem N24_2 : N24[2]? = some ("_law_found" : Str) := rfl
theorem L24_2 : Loc (defScope (top 33)) ("_law_found" : Str) := by first | exact Or.inl rfl | exact Or.inr rfl
theorem N24_1 : N24[1]? = some ("_law_some" : Str) := rfl
theorem V24_1 : Vis (defScope (top 33)) ("_law_some" : Str) := by first | exact Or.inl rfl | exact Or.inr (Or.inl rfl) | exact Or.inr (Or.inr rfl)
theorem N24_3 : N24[3]? = some ("_law_y" : Str) := rfl
theorem L24_3 : Loc (defScope (top 33)) ("_law_y" : Str) := by first | exact Or.inl rfl | exact Or.inr rfl
theorem V24_2 : Vis (defScope (top 33)) ("_law_found" : Str) := by first | exact Or.inl rfl | exact Or.inr (Or.inl rfl) | exact Or.inr (Or.inr rfl)
theorem N24_0 : N24[0]? = some ("_law_rule_here" : Str) := rfl
theorem V24_0 : Vis (defScope (top 33)) ("_law_rule_here" : Str) := by first | exact Or.inl rfl | exact Or.inr (Or.inl rfl) | exact Or.inr (Or.inr rfl)
theorem V24_3 : Vis (defScope (top 33)) ("_law_y" : Str) := by first | exact Or.inl rfl | exact Or.inr (Or.inl rfl) | exact Or.inr (Or.inr rfl)
theorem G24__law_moved : (defScope (top 33)).names.lookup ("_law_moved" : Str) = some NameKind.globalImplicit := rfl
def N25 : List Str := [("_law_rule_here" : Str), ("_law_some" : Str), ("_law_state" : Str)]
def m25 (c : CF) : SD := (sSeq (sRet (dCall (dCons (dLc 100000 (iVal (dCallF (dCons (dVar 0) (dCons (dVar 1) dNil)) [] 2 (c 24))) (aName 2) tYesD (d2 ixD (dVar 2) (dCst (.int (1)))) [2]) dNil) tupleF2)) sNil)
theorem S25 : FnScope N25 [("_law_rule_here" : Str), ("_law_some" : Str)] (defScope (top 34)) := ⟨rfl, rfl, rfl, by decide +kernel, rfl, by decide +kernel, by decide +kernel⟩
theorem N25_0 : N25[0]? = some ("_law_rule_here" : Str) := rfl
theorem V25_0 : Vis (defScope (top 34)) ("_law_rule_here" : Str) := by first | exact Or.inl rfl | exact Or.inr (Or.inl rfl) | exact Or.inr (Or.inr rfl)
theorem N25_1 : N25[1]? = some ("_law_some" : Str) := rfl
theorem V25_1 : Vis (defScope (top 34)) ("_law_some" : Str) := by first | exact Or.inl rfl | exact Or.inr (Or.inl rfl) | exact Or.inr (Or.inr rfl)
theorem G25__law_states : (defScope (top 34)).names.lookup ("_law_states" : Str) = some NameKind.globalImplicit := rfl
theorem N25_2 : N25[2]? = some ("_law_state" : Str) := rfl
theorem G25_tuple : (defScope (top 34)).names.lookup ("tuple" : Str) = some NameKind.globalImplicit := rfl
def N26 : List Str := [("_law_feed_here" : Str), ("_law_take" : Str), ("_law_out" : Str), ("_law_one" : Str), ("_law_two_here" : Str), ("_law_some" : Str)]
def m26 (c : CF) : SD := (sSeq (sAsg (dTup (dCons (dTup (dCons (dCst (.str (tx "take"))) (dCons (dCst (.int (0))) dNil))) (dCons (dTup (dCons (dCst (.str (tx "out"))) (dCons (dCst (.int (0))) dNil))) (dCons (dTup (dCons (dCst (.str (tx "take"))) (dCons (dCst (.int (1))) dNil))) (dCons (dTup (dCons (dCst (.str (tx "take"))) (dCons (dCst (.int (2))) dNil))) dNil))))) (aTup 4 (aCons (aName 1) (aCons (aName 2) (aCons (aName 3) (aCons (aName 4) aNil)))))) (sSeq (sAsg (dLst (dCons (dTup (dCons (dTup (dCons (dCst (.int (5))) dNil)) (dCons (dTup (dCons (dTup (dCons (dVar 3) (dCons (dVar 1) (dCons (dVar 2) dNil)))) (dCons (dTup (dCons (dTup (dCons (dCst (.str (tx "out"))) (dCons (dCst (.int (1))) dNil))) (dCons (dVar 1) (dCons (dVar 2) dNil)))) dNil))) dNil))) (dCons (dTup (dCons (dTup (dCons (dCst (.int (5))) dNil)) (dCons (dTup (dCons (dTup (dCons (dTup (dCons (dCst (.str (tx "next"))) (dCons (dCst (.int (0))) dNil))) (dCons (dVar 1) (dCons (dVar 2) dNil)))) dNil)) dNil))) dNil))) (aName 5)) (sSeq (sExpr (dMeth "list" (dVar 5) (dCons (dLst (dCons (dTup (dCons (dTup (dCons (dCst (.int (2))) (dCons (dCst (.int (4))) dNil))) (dCons (dTup (dCons (dTup (dCons (dVar 3) (dCons (dVar 3) (dCons (dVar 4) dNil)))) (dCons (dTup (dCons (dTup (dCons (dCst (.str (tx "next"))) (dCons (dCst (.int (1))) dNil))) (dCons (dVar 3) (dCons (dVar 4) dNil)))) (dCons (d2 mulD (dTup (dCons (dTup (dCons (dCst (.str (tx "out"))) (dCons (dCst (.int (2))) dNil))) dNil)) (dCst (.int (3)))) dNil)))) dNil))) (dCons (dTup (dCons (dTup dNil) (dCons (dTup (dCons (d2 mulD (dTup (dCons (dVar 1) dNil)) (dCst (.int (3)))) dNil)) dNil))) dNil))) dNil) extendM)) (sSeq (sExpr (dMeth "list" (dVar 5) (dCons (dTup (dCons (dTup (dCons (dCst (.int (2))) (dCons (dCst (.int (4))) dNil))) (dCons (dTup (dCons (dTup (dCons (dVar 3) (dCons (dVar 3) (dCons (dTup (dCons (dCst (.str (tx "out"))) (dCons (dCst (.int (1))) dNil))) dNil)))) (dCons (dTup (dCons (dTup (dCons (dCst (.str (tx "out"))) (dCons (dCst (.int (1))) dNil))) (dCons (dVar 3) (dCons (dVar 3) dNil)))) dNil))) dNil))) dNil) appendM)) (sSeq (sExpr (dMeth "list" (dVar 5) (dCons (dTup (dCons (dTup (dCons (dCst (.int (3))) dNil)) (dCons (dTup (dCons (dTup (dCons (dTup (dCons (dCst (.str (tx "wait"))) (dCons (dCst (.int (1))) dNil))) (dCons (dTup (dCons (dCst (.str (tx "next"))) (dCons (dCst (.int (1))) dNil))) (dCons (dTup (dCons (dCst (.str (tx "wait"))) (dCons (dCst (.int (0))) dNil))) dNil)))) (dCons (dTup (dCons (dVar 1) (dCons (dVar 2) (dCons (dVar 1) dNil)))) dNil))) dNil))) dNil) appendM)) (sSeq (sExpr (dMeth "list" (dVar 5) (dCons (dTup (dCons (dTup (dCons (dCst (.int (1))) (dCons (dCst (.int (2))) dNil))) (dCons (dTup (dCons (dTup (dCons (dTup (dCons (dCst (.str (tx "wait"))) (dCons (dCst (.int (0))) dNil))) (dCons (dTup (dCons (dCst (.str (tx "wait"))) (dCons (dCst (.int (0))) dNil))) (dCons (dTup (dCons (dCst (.str (tx "next"))) (dCons (dCst (.int (0))) dNil))) dNil)))) dNil)) dNil))) dNil) appendM)) (sSeq (sExpr (dMeth "list" (dVar 5) (dCons (dTup (dCons (dTup (dCons (dCst (.int (2))) dNil)) (dCons (dTup (dCons (dTup (dCons (dTup (dCons (dCst (.str (tx "wait"))) (dCons (dCst (.int (1))) dNil))) (dCons (dVar 1) (dCons (dVar 2) dNil)))) (dCons (dTup (dCons (dVar 2) (dCons (dVar 2) (dCons (dVar 2) dNil)))) dNil))) dNil))) dNil) appendM)) (sSeq (sRet (dCallF (dCons (dVar 0) (dCons (dVar 5) dNil)) [] 2 (c 19))) sNil))))))))
theorem S26 : FnScope N26 [("_law_feed_here" : Str)] (defScope (top 35)) := ⟨rfl, rfl, rfl, by decide +kernel, rfl, by decide +kernel, by decide +kernel⟩
theorem N26_1 : N26[1]? = some ("_law_take" : Str) := rfl
theorem L26_1 : Loc (defScope (top 35)) ("_law_take" : Str) := by first | exact Or.inl rfl | exact Or.inr rfl
theorem N26_2 : N26[2]? = some ("_law_out" : Str) := rfl
theorem L26_2 : Loc (defScope (top 35)) ("_law_out" : Str) := by first | exact Or.inl rfl | exact Or.inr rfl
theorem N26_3 : N26[3]? = some ("_law_one" : Str) := rfl
theorem L26_3 : Loc (defScope (top 35)) ("_law_one" : Str) := by first | exact Or.inl rfl | exact Or.inr rfl
theorem N26_4 : N26[4]? = some ("_law_two_here" : Str) := rfl
theorem L26_4 : Loc (defScope (top 35)) ("_law_two_here" : Str) := by first | exact Or.inl rfl | exact Or.inr rfl
theorem N26_5 : N26[5]? = some ("_law_some" : Str) := rfl
theorem L26_5 : Loc (defScope (top 35)) ("_law_some" : Str) := by first | exact Or.inl rfl | exact Or.inr rfl
theorem V26_3 : Vis (defScope (top 35)) ("_law_one" : Str) := by first | exact Or.inl rfl | exact Or.inr (Or.inl rfl) | exact Or.inr (Or.inr rfl)
theorem V26_1 : Vis (defScope (top 35)) ("_law_take" : Str) := by first | exact Or.inl rfl | exact Or.inr (Or.inl rfl) | exact Or.inr (Or.inr rfl)
theorem V26_2 : Vis (defScope (top 35)) ("_law_out" : Str) := by first | exact Or.inl rfl | exact Or.inr (Or.inl rfl) | exact Or.inr (Or.inr rfl)
theorem V26_5 : Vis (defScope (top 35)) ("_law_some" : Str) := by first | exact Or.inl rfl | exact Or.inr (Or.inl rfl) | exact Or.inr (Or.inr rfl)
theorem V26_4 : Vis (defScope (top 35)) ("_law_two_here" : Str) := by first | exact Or.inl rfl | exact Or.inr (Or.inl rfl) | exact Or.inr (Or.inr rfl)
theorem N26_0 : N26[0]? = some ("_law_feed_here" : Str) := rfl
theorem V26_0 : Vis (defScope (top 35)) ("_law_feed_here" : Str) := by first | exact Or.inl rfl | exact Or.inr (Or.inl rfl) | exact Or.inr (Or.inr rfl)
theorem G26__law_any : (defScope (top 35)).names.lookup ("_law_any" : Str) = some NameKind.globalImplicit := rfl
def N27 : List Str := [("_law_feed_here" : Str), ("_law_many" : Str), ("_law_move" : Str)]
def m27 (c : CF) : SD := (sSeq (sAsg (dCallF (dCons (dVar 0) (dCons (dLst (dCons (dCst (.str (tx "take"))) (dCons (dCst (.str (tx "take"))) (dCons (dCst (.str (tx "next"))) (dCons (dCst (.str (tx "next"))) (dCons (dCst (.str (tx "out"))) (dCons (dCst (.str (tx "wait"))) dNil))))))) dNil)) [] 2 (c 19)) (aName 2)) (sSeq (sRet (dTup (dCons (dVar 2) (dCons (dCallF (dCons (dVar 0) (dCons (dVar 1) dNil)) [] 2 (c 18)) dNil)))) sNil))
theorem S27 : FnScope N27 [("_law_feed_here" : Str), ("_law_many" : Str)] (defScope (top 36)) := ⟨rfl, rfl, rfl, by decide +kernel, rfl, by decide +kernel, by decide +kernel⟩
theorem N27_2 : N27[2]? = some ("_law_move" : Str) := rfl
theorem L27_2 : Loc (defScope (top 36)) ("_law_move" : Str) := by first | exact Or.inl rfl | exact Or.inr rfl
theorem N27_0 : N27[0]? = some ("_law_feed_here" : Str) := rfl
theorem V27_0 : Vis (defScope (top 36)) ("_law_feed_here" : Str) := by first | exact Or.inl rfl | exact Or.inr (Or.inl rfl) | exact Or.inr (Or.inr rfl)
theorem G27__law_any : (defScope (top 36)).names.lookup ("_law_any" : Str) = some NameKind.globalImplicit := rfl
theorem V27_2 : Vis (defScope (top 36)) ("_law_move" : Str) := by first | exact Or.inl rfl | exact Or.inr (Or.inl rfl) | exact Or.inr (Or.inr rfl)
theorem N27_1 : N27[1]? = some ("_law_many" : Str) := rfl
theorem V27_1 : Vis (defScope (top 36)) ("_law_many" : Str) := by first | exact Or.inl rfl | exact Or.inr (Or.inl rfl) | exact Or.inr (Or.inr rfl)
theorem G27__law_draw : (defScope (top 36)).names.lookup ("_law_draw" : Str) = some NameKind.globalImplicit := rfl
def N28 : List Str := [("_law_feed_here" : Str), ("_law_most" : Str), ("_law_many" : Str), ("_law_marks" : Str), ("_law_phases" : Str), ("_law_k" : Str), ("_law_case_here" : Str)]
def m28 (c : CF) : SD := (sSeq (sIf (dBl (d2 (eqB false) (dCallF (dCons (dVar 0) (dCons (dCst (.int (3))) dNil)) [] 2 (c 18)) (dCst (.int (0))))) (sSeq (sRet (dCallF (dCons (dVar 0) dNil) [] 1 (c 26))) sNil) sNil) (sSeq (sAsg (dTup (dCons (d2 addD (dCst (.int (1))) (dCallF (dCons (dVar 0) (dCons (dVar 1) dNil)) [] 2 (c 18))) (dCons (dLc 100000 (iRng1 (dCons (dCst (.int (7))) dNil)) (aName 5) (dBl (d2 (eqB false) (dCallF (dCons (dVar 0) (dCons (dCst (.int (4))) dNil)) [] 2 (c 18)) (dCst (.int (0))))) (dVar 5) [5]) dNil))) (aTup 2 (aCons (aName 2) (aCons (aName 3) aNil)))) (sSeq (sAsg (dLc 100000 (iRng1 (dCons (dVar 2) dNil)) (aName 5) tYesD (dCall (dCons (dLc 100000 (iRng1 (dCons (dCst (.int (3))) dNil)) (aName 6) tYesD (dCallF (dCons (dVar 0) (dCons (dVar 2) dNil)) [] 2 (c 27)) [6]) dNil) tupleF2) [5]) (aName 4)) (sSeq (sRet (dTup (dCons (dCall (dCons (dSl (dVar 3) pNone (pSome (dCst (.int (5))))) dNil) tupleF2) (dCons (dCall (dCons (dVar 4) dNil) tupleF2) dNil)))) sNil))))
theorem S28 : FnScope N28 [("_law_feed_here" : Str), ("_law_most" : Str)] (defScope (top 37)) := ⟨rfl, rfl, rfl, by decide +kernel, rfl, by decide +kernel, by decide +kernel⟩
theorem N28_0 : N28[0]? = some ("_law_feed_here" : Str) := rfl
theorem V28_0 : Vis (defScope (top 37)) ("_law_feed_here" : Str) := by first | exact Or.inl rfl | exact Or.inr (Or.inl rfl) | exact Or.inr (Or.inr rfl)
theorem G28__law_draw : (defScope (top 37)).names.lookup ("_law_draw" : Str) = some NameKind.globalImplicit := rfl
theorem G28__law_hand : (defScope (top 37)).names.lookup ("_law_hand" : Str) = some NameKind.globalImplicit := rfl
theorem N28_2 : N28[2]? = some ("_law_many" : Str) := rfl
theorem L28_2 : Loc (defScope (top 37)) ("_law_many" : Str) := by first | exact Or.inl rfl | exact Or.inr rfl
theorem N28_3 : N28[3]? = some ("_law_marks" : Str) := rfl
theorem L28_3 : Loc (defScope (top 37)) ("_law_marks" : Str) := by first | exact Or.inl rfl | exact Or.inr rfl
theorem N28_1 : N28[1]? = some ("_law_most" : Str) := rfl
theorem V28_1 : Vis (defScope (top 37)) ("_law_most" : Str) := by first | exact Or.inl rfl | exact Or.inr (Or.inl rfl) | exact Or.inr (Or.inr rfl)
theorem G28_range : (defScope (top 37)).names.lookup ("range" : Str) = some NameKind.globalImplicit := rfl
theorem N28_5 : N28[5]? = some ("_law_k" : Str) := rfl
theorem N28_4 : N28[4]? = some ("_law_phases" : Str) := rfl
theorem L28_4 : Loc (defScope (top 37)) ("_law_phases" : Str) := by first | exact Or.inl rfl | exact Or.inr rfl
theorem V28_2 : Vis (defScope (top 37)) ("_law_many" : Str) := by first | exact Or.inl rfl | exact Or.inr (Or.inl rfl) | exact Or.inr (Or.inr rfl)
theorem N28_6 : N28[6]? = some ("_law_case_here" : Str) := rfl
theorem V28_3 : Vis (defScope (top 37)) ("_law_marks" : Str) := by first | exact Or.inl rfl | exact Or.inr (Or.inl rfl) | exact Or.inr (Or.inr rfl)
theorem G28_tuple : (defScope (top 37)).names.lookup ("tuple" : Str) = some NameKind.globalImplicit := rfl
theorem V28_4 : Vis (defScope (top 37)) ("_law_phases" : Str) := by first | exact Or.inl rfl | exact Or.inr (Or.inl rfl) | exact Or.inr (Or.inr rfl)
def N29 : List Str := [("_law_feed_here" : Str), ("_law_rule_here" : Str), ("_law_marks" : Str), ("_law_phases" : Str), ("_law_turn" : Str), ("_law_k" : Str), ("_law_case_here" : Str), ("_law_mark" : Str), ("_law_j" : Str), ("_law_pairs" : Str)]
def m29 (c : CF) : SD := (sSeq (sAsg (dVar 1) (aTup 2 (aCons (aName 2) (aCons (aName 3) aNil)))) (sSeq (sPar [4, 5, 6] (dCons (dCallF (dCons (dVar 0) (dCons (dCst (.int (4))) dNil)) [] 2 (c 18)) (dCons (dCallF (dCons (dVar 0) (dCons (dCall (dCons (dVar 3) dNil) lenF2) dNil)) [] 2 (c 18)) (dCons (dCallF (dCons (dVar 0) (dCons (dCst (.int (3))) dNil)) [] 2 (c 18)) dNil)))) (sSeq (sIf (tAndB (dBl (d2 (eqB false) (dVar 4) (dCst (.int (0))))) (dBl (d2 (ordD .lt) (dCall (dCons (dVar 2) dNil) lenF2) (dCst (.int (6)))))) (sSeq (sAsg (dCallF (dCons (dVar 0) (dCons (dCst (.int (7))) dNil)) [] 2 (c 18)) (aName 7)) (sSeq (sRet (dTup (dCons (dCall (dCons (sortSetD (d2 addD (dLst (dCons (dVar 7) dNil)) (dCall (dCons (dVar 2) dNil) listF2))) dNil) tupleF2) (dCons (dVar 3) dNil)))) sNil)) sNil) (sSeq (sIf (tAndB (dBl (d2 (eqB false) (dVar 4) (dCst (.int (1))))) (dBl (d2 (eqB true) (dVar 2) (dTup dNil)))) (sSeq (sAsg (dCallF (dCons (dVar 0) (dCons (dCall (dCons (dVar 2) dNil) lenF2) dNil)) [] 2 (c 18)) (aName 8)) (sSeq (sRet (dTup (dCons (d2 addD (dSl (dVar 2) pNone (pSome (dVar 8))) (dSl (dVar 2) (pSome (d2 addD (dVar 8) (dCst (.int (1))))) pNone)) (dCons (dVar 3) dNil)))) sNil)) sNil) (sSeq (sAsg (d2 ixD (dVar 3) (dVar 5)) (aName 9)) (sSeq (sAsg (d2 addD (d2 addD (dSl (dVar 9) pNone (pSome (dVar 6))) (dTup (dCons (dCallF (dCons (dVar 0) (dCons (dCall (dCons (dVar 3) dNil) lenF2) dNil)) [] 2 (c 27)) dNil))) (dSl (dVar 9) (pSome (d2 addD (dVar 6) (dCst (.int (1))))) pNone)) (aName 9)) (sSeq (sRet (dTup (dCons (dVar 2) (dCons (d2 addD (d2 addD (dSl (dVar 3) pNone (pSome (dVar 5))) (dTup (dCons (dVar 9) dNil))) (dSl (dVar 3) (pSome (d2 addD (dVar 5) (dCst (.int (1))))) pNone)) dNil)))) sNil)))))))
theorem S29 : FnScope N29 [("_law_feed_here" : Str), ("_law_rule_here" : Str)] (defScope (top 38)) := ⟨rfl, rfl, rfl, by decide +kernel, rfl, by decide +kernel, by decide +kernel⟩
theorem N29_2 : N29[2]? = some ("_law_marks" : Str) := rfl
theorem L29_2 : Loc (defScope (top 38)) ("_law_marks" : Str) := by first | exact Or.inl rfl | exact Or.inr rfl
theorem N29_3 : N29[3]? = some ("_law_phases" : Str) := rfl
theorem L29_3 : Loc (defScope (top 38)) ("_law_phases" : Str) := by first | exact Or.inl rfl | exact Or.inr rfl
theorem N29_1 : N29[1]? = some ("_law_rule_here" : Str) := rfl
theorem V29_1 : Vis (defScope (top 38)) ("_law_rule_here" : Str) := by first | exact Or.inl rfl | exact Or.inr (Or.inl rfl) | exact Or.inr (Or.inr rfl)
theorem N29_0 : N29[0]? = some ("_law_feed_here" : Str) := rfl
theorem V29_0 : Vis (defScope (top 38)) ("_law_feed_here" : Str) := by first | exact Or.inl rfl | exact Or.inr (Or.inl rfl) | exact Or.inr (Or.inr rfl)
theorem G29__law_draw : (defScope (top 38)).names.lookup ("_law_draw" : Str) = some NameKind.globalImplicit := rfl
theorem V29_3 : Vis (defScope (top 38)) ("_law_phases" : Str) := by first | exact Or.inl rfl | exact Or.inr (Or.inl rfl) | exact Or.inr (Or.inr rfl)
theorem G29_len : (defScope (top 38)).names.lookup ("len" : Str) = some NameKind.globalImplicit := rfl
theorem N29_4 : N29[4]? = some ("_law_turn" : Str) := rfl
theorem N29_5 : N29[5]? = some ("_law_k" : Str) := rfl
theorem N29_6 : N29[6]? = some ("_law_case_here" : Str) := rfl
theorem V29_4 : Vis (defScope (top 38)) ("_law_turn" : Str) := by first | exact Or.inl rfl | exact Or.inr (Or.inl rfl) | exact Or.inr (Or.inr rfl)
theorem V29_2 : Vis (defScope (top 38)) ("_law_marks" : Str) := by first | exact Or.inl rfl | exact Or.inr (Or.inl rfl) | exact Or.inr (Or.inr rfl)
theorem N29_7 : N29[7]? = some ("_law_mark" : Str) := rfl
theorem L29_7 : Loc (defScope (top 38)) ("_law_mark" : Str) := by first | exact Or.inl rfl | exact Or.inr rfl
theorem V29_7 : Vis (defScope (top 38)) ("_law_mark" : Str) := by first | exact Or.inl rfl | exact Or.inr (Or.inl rfl) | exact Or.inr (Or.inr rfl)
theorem G29_list : (defScope (top 38)).names.lookup ("list" : Str) = some NameKind.globalImplicit := rfl
theorem G29_sorted : (defScope (top 38)).names.lookup ("sorted" : Str) = some NameKind.globalImplicit := rfl
theorem G29_set : (defScope (top 38)).names.lookup ("set" : Str) = some NameKind.globalImplicit := rfl
theorem G29_tuple : (defScope (top 38)).names.lookup ("tuple" : Str) = some NameKind.globalImplicit := rfl
theorem N29_8 : N29[8]? = some ("_law_j" : Str) := rfl
theorem L29_8 : Loc (defScope (top 38)) ("_law_j" : Str) := by first | exact Or.inl rfl | exact Or.inr rfl
theorem V29_8 : Vis (defScope (top 38)) ("_law_j" : Str) := by first | exact Or.inl rfl | exact Or.inr (Or.inl rfl) | exact Or.inr (Or.inr rfl)
theorem N29_9 : N29[9]? = some ("_law_pairs" : Str) := rfl
theorem L29_9 : Loc (defScope (top 38)) ("_law_pairs" : Str) := by first | exact Or.inl rfl | exact Or.inr rfl
theorem V29_5 : Vis (defScope (top 38)) ("_law_k" : Str) := by first | exact Or.inl rfl | exact Or.inr (Or.inl rfl) | exact Or.inr (Or.inr rfl)
theorem V29_9 : Vis (defScope (top 38)) ("_law_pairs" : Str) := by first | exact Or.inl rfl | exact Or.inr (Or.inl rfl) | exact Or.inr (Or.inr rfl)
theorem V29_6 : Vis (defScope (top 38)) ("_law_case_here" : Str) := by first | exact Or.inl rfl | exact Or.inr (Or.inl rfl) | exact Or.inr (Or.inr rfl)
theorem G29__law_pair : (defScope (top 38)).names.lookup ("_law_pair" : Str) = some NameKind.globalImplicit := rfl
def N30 : List Str := [("_law_feed_here" : Str), ("_law_most" : Str), ("_law_rule_here" : Str)]
def m30 (c : CF) : SD := (sSeq (sAsg (dCallF (dCons (dVar 0) (dCons (dVar 1) dNil)) [] 2 (c 28)) (aName 2)) (sSeq (sRet (dTup (dCons (dVar 2) (dCons (dIte (dBl (d2 (ordD .gt) (dCallF (dCons (dVar 0) (dCons (dCst (.int (3))) dNil)) [] 2 (c 18)) (dCst (.int (0))))) (dCallF (dCons (dVar 0) (dCons (dVar 2) dNil)) [] 2 (c 29)) (dCallF (dCons (dVar 0) (dCons (dVar 1) dNil)) [] 2 (c 28))) dNil)))) sNil))
theorem S30 : FnScope N30 [("_law_feed_here" : Str), ("_law_most" : Str)] (defScope (top 39)) := ⟨rfl, rfl, rfl, by decide +kernel, rfl, by decide +kernel, by decide +kernel⟩
theorem N30_2 : N30[2]? = some ("_law_rule_here" : Str) := rfl
theorem L30_2 : Loc (defScope (top 39)) ("_law_rule_here" : Str) := by first | exact Or.inl rfl | exact Or.inr rfl
theorem N30_0 : N30[0]? = some ("_law_feed_here" : Str) := rfl
theorem V30_0 : Vis (defScope (top 39)) ("_law_feed_here" : Str) := by first | exact Or.inl rfl | exact Or.inr (Or.inl rfl) | exact Or.inr (Or.inr rfl)
theorem N30_1 : N30[1]? = some ("_law_most" : Str) := rfl
theorem V30_1 : Vis (defScope (top 39)) ("_law_most" : Str) := by first | exact Or.inl rfl | exact Or.inr (Or.inl rfl) | exact Or.inr (Or.inr rfl)
theorem G30__law_rule : (defScope (top 39)).names.lookup ("_law_rule" : Str) = some NameKind.globalImplicit := rfl
theorem V30_2 : Vis (defScope (top 39)) ("_law_rule_here" : Str) := by first | exact Or.inl rfl | exact Or.inr (Or.inl rfl) | exact Or.inr (Or.inr rfl)
theorem G30__law_draw : (defScope (top 39)).names.lookup ("_law_draw" : Str) = some NameKind.globalImplicit := rfl
theorem G30__law_changed : (defScope (top 39)).names.lookup ("_law_changed" : Str) = some NameKind.globalImplicit := rfl
def N31 : List Str := [("_law_rule_here" : Str), ("_law_order" : Str), ("_law_phases" : Str), ("_law_k" : Str), ("_law_move" : Str), ("_law_later" : Str)]
def m31 (c : CF) : SD := (sSeq (sAsg (dLst dNil) (aName 2)) (sSeq (sFor 100000 (iVal (dVar 1)) (aName 3) (sSeq (sExpr (dMeth "list" (dVar 2) (dCons (dCall (dCons (dLc 100000 (iVal (d2 ixD (d2 ixD (dVar 0) (dCst (.int (1)))) (dVar 3))) (aTup 2 (aCons (aName 4) (aCons (aName 5) aNil))) tYesD (dTup (dCons (dVar 4) (dCons (dMeth "list" (dVar 1) (dCons (dVar 5) dNil) indexM) dNil))) [4, 5]) dNil) tupleF2) dNil) appendM)) sNil)) (sSeq (sRet (dTup (dCons (d2 ixD (dVar 0) (dCst (.int (0)))) (dCons (dCall (dCons (dVar 2) dNil) tupleF2) dNil)))) sNil)))
theorem S31 : FnScope N31 [("_law_rule_here" : Str), ("_law_order" : Str)] (defScope (top 40)) := ⟨rfl, rfl, rfl, by decide +kernel, rfl, by decide +kernel, by decide +kernel⟩
theorem N31_2 : N31[2]? = some ("_law_phases" : Str) := rfl
theorem L31_2 : Loc (defScope (top 40)) ("_law_phases" : Str) := by first | exact Or.inl rfl | exact Or.inr rfl
theorem N31_1 : N31[1]? = some ("_law_order" : Str) := rfl
theorem V31_1 : Vis (defScope (top 40)) ("_law_order" : Str) := by first | exact Or.inl rfl | exact Or.inr (Or.inl rfl) | exact Or.inr (Or.inr rfl)
theorem N31_3 : N31[3]? = some ("_law_k" : Str) := rfl
theorem L31_3 : Loc (defScope (top 40)) ("_law_k" : Str) := by first | exact Or.inl rfl | exact Or.inr rfl
theorem V31_2 : Vis (defScope (top 40)) ("_law_phases" : Str) := by first | exact Or.inl rfl | exact Or.inr (Or.inl rfl) | exact Or.inr (Or.inr rfl)
theorem N31_0 : N31[0]? = some ("_law_rule_here" : Str) := rfl
theorem V31_0 : Vis (defScope (top 40)) ("_law_rule_here" : Str) := by first | exact Or.inl rfl | exact Or.inr (Or.inl rfl) | exact Or.inr (Or.inr rfl)
theorem V31_3 : Vis (defScope (top 40)) ("_law_k" : Str) := by first | exact Or.inl rfl | exact Or.inr (Or.inl rfl) | exact Or.inr (Or.inr rfl)
theorem N31_4 : N31[4]? = some ("_law_move" : Str) := rfl
theorem N31_5 : N31[5]? = some ("_law_later" : Str) := rfl
theorem G31_tuple : (defScope (top 40)).names.lookup ("tuple" : Str) = some NameKind.globalImplicit := rfl
def N32 : List Str := [("_law_feed_here" : Str), ("_law_rule_here" : Str), ("_law_marks" : Str), ("_law_phases" : Str), ("_law_many" : Str), ("_law_turn" : Str), ("_law_swap" : Str), ("_law_k" : Str), ("_law_found" : Str), ("_law_one" : Str), ("_law_case_here" : Str), ("_law_near" : Str), ("_law_at" : Str), ("_law_far" : Str), ("_law_move" : Str), ("_law_later" : Str)]
def m32 (c : CF) : SD := (sSeq (sAsg (dVar 1) (aTup 2 (aCons (aName 2) (aCons (aName 3) aNil)))) (sSeq (sAsg (dCall (dCons (dVar 3) dNil) lenF2) (aName 4)) (sSeq (sAsg (dIte (dBl (d2 (ordD .gt) (dVar 4) (dCst (.int (2))))) (d2 addD (dCst (.int (1))) (dCallF (dCons (dVar 0) (dCons (dCst (.int (2))) dNil)) [] 2 (c 18))) (dCallF (dCons (dVar 0) (dCons (dCst (.int (4))) dNil)) [] 2 (c 18))) (aName 5)) (sSeq (sIf (dBl (d2 (eqB false) (dVar 5) (dCst (.int (0))))) (sSeq (sRet (dTup (dCons (dVar 2) (dCons (d2 addD (dVar 3) (dTup (dCons (dCall (dCons (dLc 100000 (iRng1 (dCons (dCst (.int (3))) dNil)) (aName 10) tYesD (dCallF (dCons (dVar 0) (dCons (d2 addD (dVar 4) (dCst (.int (1)))) dNil)) [] 2 (c 27)) [10]) dNil) tupleF2) dNil))) dNil)))) sNil) sNil) (sSeq (sIf (dBl (d2 (eqB false) (dVar 5) (dCst (.int (1))))) (sSeq (sRet (dCallF (dCons (dVar 1) (dCons (d2 addD (dLst (dCons (dCst (.int (0))) dNil)) (dLr3 (dCons (d2 subD (dVar 4) (dCst (.int (1)))) (dCons (dCst (.int (0))) (dCons (dNeg (dCst (.int (1)))) dNil))))) dNil)) [] 2 (c 31))) sNil) sNil) (sSeq (sIf (dBl (d2 (eqB false) (dVar 5) (dCst (.int (2))))) (sSeq (sAsg (dDic [((dCst (.str (tx "take"))), (dCst (.str (tx "next")))), ((dCst (.str (tx "next"))), (dCst (.str (tx "take")))), ((dCst (.str (tx "out"))), (dCst (.str (tx "out")))), ((dCst (.str (tx "wait"))), (dCst (.str (tx "wait"))))]) (aName 6)) (sSeq (sRet (dTup (dCons (dVar 2) (dCons (dCall (dCons (dLc 100000 (iVal (dVar 3)) (aTup 3 (aCons (aName 11) (aCons (aName 12) (aCons (aName 13) aNil)))) tYesD (dTup (dCons (dVar 11) (dCons (dTup (dCons (d2 ixD (dVar 6) (d2 ixD (dVar 12) (dCst (.int (0))))) (dCons (d2 ixD (dVar 12) (dCst (.int (1)))) dNil))) (dCons (dVar 13) dNil)))) [11, 12, 13]) dNil) tupleF2) dNil)))) sNil)) sNil) (sSeq (sAsg (dCallF (dCons (dVar 0) (dCons (dVar 4) dNil)) [] 2 (c 18)) (aName 7)) (sSeq (sAsg (dLst dNil) (aName 8)) (sSeq (sFor 100000 (iVal (d2 addD (dVar 3) (dTup (dCons (d2 ixD (dVar 3) (dVar 7)) dNil)))) (aName 9) (sSeq (sExpr (dMeth "list" (dVar 8) (dCons (dCall (dCons (dLc 100000 (iVal (dVar 9)) (aTup 2 (aCons (aName 14) (aCons (aName 15) aNil))) tYesD (dTup (dCons (dVar 14) (dCons (dIte (dBl (d2 (eqB false) (dVar 15) (dVar 7))) (dVar 4) (dVar 15)) dNil))) [14, 15]) dNil) tupleF2) dNil) appendM)) sNil)) (sSeq (sRet (dTup (dCons (dVar 2) (dCons (dCall (dCons (dVar 8) dNil) tupleF2) dNil)))) sNil))))))))))
theorem S32 : FnScope N32 [("_law_feed_here" : Str), ("_law_rule_here" : Str)] (defScope (top 41)) := ⟨rfl, rfl, rfl, by decide +kernel, rfl, by decide +kernel, by decide +kernel⟩
theorem N32_2 : N32[2]? = some ("_law_marks" : Str) := rfl
theorem L32_2 : Loc (defScope (top 41)) ("_law_marks" : Str) := by first | exact Or.inl rfl | exact Or.inr rfl
theorem N32_3 : N32[3]? = some ("_law_phases" : Str) := rfl
theorem L32_3 : Loc (defScope (top 41)) ("_law_phases" : Str) := by first | exact Or.inl rfl | exact Or.inr rfl
theorem N32_1 : N32[1]? = some ("_law_rule_here" : Str) := rfl
theorem V32_1 : Vis (defScope (top 41)) ("_law_rule_here" : Str) := by first | exact Or.inl rfl | exact Or.inr (Or.inl rfl) | exact Or.inr (Or.inr rfl)
theorem N32_4 : N32[4]? = some ("_law_many" : Str) := rfl
theorem L32_4 : Loc (defScope (top 41)) ("_law_many" : Str) := by first | exact Or.inl rfl | exact Or.inr rfl
theorem V32_3 : Vis (defScope (top 41)) ("_law_phases" : Str) := by first | exact Or.inl rfl | exact Or.inr (Or.inl rfl) | exact Or.inr (Or.inr rfl)
theorem G32_len : (defScope (top 41)).names.lookup ("len" : Str) = some NameKind.globalImplicit := rfl
theorem N32_5 : N32[5]? = some ("_law_turn" : Str) := rfl
theorem L32_5 : Loc (defScope (top 41)) ("_law_turn" : Str) := by first | exact Or.inl rfl | exact Or.inr rfl
theorem V32_4 : Vis (defScope (top 41)) ("_law_many" : Str) := by first | exact Or.inl rfl | exact Or.inr (Or.inl rfl) | exact Or.inr (Or.inr rfl)
theorem N32_0 : N32[0]? = some ("_law_feed_here" : Str) := rfl
theorem V32_0 : Vis (defScope (top 41)) ("_law_feed_here" : Str) := by first | exact Or.inl rfl | exact Or.inr (Or.inl rfl) | exact Or.inr (Or.inr rfl)
theorem G32__law_draw : (defScope (top 41)).names.lookup ("_law_draw" : Str) = some NameKind.globalImplicit := rfl
theorem V32_5 : Vis (defScope (top 41)) ("_law_turn" : Str) := by first | exact Or.inl rfl | exact Or.inr (Or.inl rfl) | exact Or.inr (Or.inr rfl)
theorem V32_2 : Vis (defScope (top 41)) ("_law_marks" : Str) := by first | exact Or.inl rfl | exact Or.inr (Or.inl rfl) | exact Or.inr (Or.inr rfl)
theorem G32_range : (defScope (top 41)).names.lookup ("range" : Str) = some NameKind.globalImplicit := rfl
theorem N32_10 : N32[10]? = some ("_law_case_here" : Str) := rfl
theorem G32_tuple : (defScope (top 41)).names.lookup ("tuple" : Str) = some NameKind.globalImplicit := rfl
theorem G32_list : (defScope (top 41)).names.lookup ("list" : Str) = some NameKind.globalImplicit := rfl
theorem G32__law_renamed : (defScope (top 41)).names.lookup ("_law_renamed" : Str) = some NameKind.globalImplicit := rfl
theorem N32_6 : N32[6]? = some ("_law_swap" : Str) := rfl
theorem L32_6 : Loc (defScope (top 41)) ("_law_swap" : Str) := by first | exact Or.inl rfl | exact Or.inr rfl
theorem N32_11 : N32[11]? = some ("_law_near" : Str) := rfl
theorem N32_12 : N32[12]? = some ("_law_at" : Str) := rfl
theorem N32_13 : N32[13]? = some ("_law_far" : Str) := rfl
theorem N32_7 : N32[7]? = some ("_law_k" : Str) := rfl
theorem L32_7 : Loc (defScope (top 41)) ("_law_k" : Str) := by first | exact Or.inl rfl | exact Or.inr rfl
theorem N32_8 : N32[8]? = some ("_law_found" : Str) := rfl
theorem L32_8 : Loc (defScope (top 41)) ("_law_found" : Str) := by first | exact Or.inl rfl | exact Or.inr rfl
theorem V32_7 : Vis (defScope (top 41)) ("_law_k" : Str) := by first | exact Or.inl rfl | exact Or.inr (Or.inl rfl) | exact Or.inr (Or.inr rfl)
theorem N32_9 : N32[9]? = some ("_law_one" : Str) := rfl
theorem L32_9 : Loc (defScope (top 41)) ("_law_one" : Str) := by first | exact Or.inl rfl | exact Or.inr rfl
theorem V32_8 : Vis (defScope (top 41)) ("_law_found" : Str) := by first | exact Or.inl rfl | exact Or.inr (Or.inl rfl) | exact Or.inr (Or.inr rfl)
theorem V32_9 : Vis (defScope (top 41)) ("_law_one" : Str) := by first | exact Or.inl rfl | exact Or.inr (Or.inl rfl) | exact Or.inr (Or.inr rfl)
theorem N32_14 : N32[14]? = some ("_law_move" : Str) := rfl
theorem N32_15 : N32[15]? = some ("_law_later" : Str) := rfl
def N33 : List Str := [("_law_pair_here" : Str)]
def m33 (c : CF) : SD := (sSeq (sRet (d2 (ordD .gt) (dCallF (dCons (d2 ixD (d2 ixD (dVar 0) (dCst (.int (0)))) (dCst (.int (1)))) dNil) [] 1 (c 20)) (dCallF (dCons (d2 ixD (d2 ixD (dVar 0) (dCst (.int (1)))) (dCst (.int (1)))) dNil) [] 1 (c 20)))) sNil)
theorem S33 : FnScope N33 [("_law_pair_here" : Str)] (defScope (top 42)) := ⟨rfl, rfl, rfl, by decide +kernel, rfl, by decide +kernel, by decide +kernel⟩
theorem N33_0 : N33[0]? = some ("_law_pair_here" : Str) := rfl
theorem V33_0 : Vis (defScope (top 42)) ("_law_pair_here" : Str) := by first | exact Or.inl rfl | exact Or.inr (Or.inl rfl) | exact Or.inr (Or.inr rfl)
theorem G33__law_key : (defScope (top 42)).names.lookup ("_law_key" : Str) = some NameKind.globalImplicit := rfl
def N34 : List Str := [("_law_first" : Str), ("_law_top" : Str), ("_law_most" : Str), ("_law_found" : Str), ("_law_level" : Str), ("_law_turn" : Str), ("_law_later" : Str), ("_law_row" : Str), ("_law_y" : Str)]
def m34 (c : CF) : SD := (sSeq (sPar [3, 4] (dCons (dLst (dCons (dTup (dCons (dVar 0) dNil)) dNil)) (dCons (dLst (dCons (dTup (dCons (dVar 0) dNil)) dNil)) dNil))) (sSeq (sFor 100000 (iRng1 (dCons (d2 subD (dVar 2) (dCst (.int (1)))) dNil)) (aName 5) (sSeq (sAsg (dLst dNil) (aName 6)) (sSeq (sFor 100000 (iVal (dVar 4)) (aName 7) (sSeq (sExpr (dMeth "list" (dVar 6) (dCons (dLc 100000 (iRng2 (dCons (d2 ixD (dVar 7) (dNeg (dCst (.int (1))))) (dCons (d2 addD (dVar 1) (dCst (.int (1)))) dNil))) (aName 8) tYesD (d2 addD (dVar 7) (dTup (dCons (dVar 8) dNil))) [8]) dNil) extendM)) sNil)) (sSeq (sAsg (dCall (dCons (dVar 6) dNil) listF2) (aName 4)) (sSeq (sExpr (dMeth "list" (dVar 3) (dCons (dVar 6) dNil) extendM)) sNil))))) (sSeq (sRet (dVar 3)) sNil)))
theorem S34 : FnScope N34 [("_law_first" : Str), ("_law_top" : Str), ("_law_most" : Str)] (defScope (top 43)) := ⟨rfl, rfl, rfl, by decide +kernel, rfl, by decide +kernel, by decide +kernel⟩
theorem N34_0 : N34[0]? = some ("_law_first" : Str) := rfl
theorem V34_0 : Vis (defScope (top 43)) ("_law_first" : Str) := by first | exact Or.inl rfl | exact Or.inr (Or.inl rfl) | exact Or.inr (Or.inr rfl)
theorem N34_3 : N34[3]? = some ("_law_found" : Str) := rfl
theorem N34_4 : N34[4]? = some ("_law_level" : Str) := rfl
theorem N34_2 : N34[2]? = some ("_law_most" : Str) := rfl
theorem V34_2 : Vis (defScope (top 43)) ("_law_most" : Str) := by first | exact Or.inl rfl | exact Or.inr (Or.inl rfl) | exact Or.inr (Or.inr rfl)
theorem G34_range : (defScope (top 43)).names.lookup ("range" : Str) = some NameKind.globalImplicit := rfl
theorem N34_5 : N34[5]? = some ("_law_turn" : Str) := rfl
theorem L34_5 : Loc (defScope (top 43)) ("_law_turn" : Str) := by first | exact Or.inl rfl | exact Or.inr rfl
theorem N34_6 : N34[6]? = some ("_law_later" : Str) := rfl
theorem L34_6 : Loc (defScope (top 43)) ("_law_later" : Str) := by first | exact Or.inl rfl | exact Or.inr rfl
theorem V34_4 : Vis (defScope (top 43)) ("_law_level" : Str) := by first | exact Or.inl rfl | exact Or.inr (Or.inl rfl) | exact Or.inr (Or.inr rfl)
theorem N34_7 : N34[7]? = some ("_law_row" : Str) := rfl
theorem L34_7 : Loc (defScope (top 43)) ("_law_row" : Str) := by first | exact Or.inl rfl | exact Or.inr rfl
theorem V34_6 : Vis (defScope (top 43)) ("_law_later" : Str) := by first | exact Or.inl rfl | exact Or.inr (Or.inl rfl) | exact Or.inr (Or.inr rfl)
theorem V34_7 : Vis (defScope (top 43)) ("_law_row" : Str) := by first | exact Or.inl rfl | exact Or.inr (Or.inl rfl) | exact Or.inr (Or.inr rfl)
theorem N34_1 : N34[1]? = some ("_law_top" : Str) := rfl
theorem V34_1 : Vis (defScope (top 43)) ("_law_top" : Str) := by first | exact Or.inl rfl | exact Or.inr (Or.inl rfl) | exact Or.inr (Or.inr rfl)
theorem N34_8 : N34[8]? = some ("_law_y" : Str) := rfl
theorem L34_4 : Loc (defScope (top 43)) ("_law_level" : Str) := by first | exact Or.inl rfl | exact Or.inr rfl
theorem G34_list : (defScope (top 43)).names.lookup ("list" : Str) = some NameKind.globalImplicit := rfl
theorem V34_3 : Vis (defScope (top 43)) ("_law_found" : Str) := by first | exact Or.inl rfl | exact Or.inr (Or.inl rfl) | exact Or.inr (Or.inr rfl)
def N35 : List Str := [("_law_feed_here" : Str), ("_law_most" : Str), ("_law_first" : Str)]
def m35 (c : CF) : SD := (sSeq (sAsg (d2 subD (dCallF (dCons (dVar 0) (dCons (dCst (.int (4))) dNil)) [] 2 (c 18)) (dCst (.int (1)))) (aName 2)) (sSeq (sRet (dTup (dCons (dVar 2) (dCons (d2 addD (dVar 2) (dCallF (dCons (dVar 0) (dCons (d2 addD (dVar 1) (dCst (.int (1)))) dNil)) [] 2 (c 18))) dNil)))) sNil))
theorem S35 : FnScope N35 [("_law_feed_here" : Str), ("_law_most" : Str)] (defScope (top 44)) := ⟨rfl, rfl, rfl, by decide +kernel, rfl, by decide +kernel, by decide +kernel⟩
theorem N35_2 : N35[2]? = some ("_law_first" : Str) := rfl
theorem L35_2 : Loc (defScope (top 44)) ("_law_first" : Str) := by first | exact Or.inl rfl | exact Or.inr rfl
theorem N35_0 : N35[0]? = some ("_law_feed_here" : Str) := rfl
theorem V35_0 : Vis (defScope (top 44)) ("_law_feed_here" : Str) := by first | exact Or.inl rfl | exact Or.inr (Or.inl rfl) | exact Or.inr (Or.inr rfl)
theorem G35__law_draw : (defScope (top 44)).names.lookup ("_law_draw" : Str) = some NameKind.globalImplicit := rfl
theorem V35_2 : Vis (defScope (top 44)) ("_law_first" : Str) := by first | exact Or.inl rfl | exact Or.inr (Or.inl rfl) | exact Or.inr (Or.inr rfl)
theorem N35_1 : N35[1]? = some ("_law_most" : Str) := rfl
theorem V35_1 : Vis (defScope (top 44)) ("_law_most" : Str) := by first | exact Or.inl rfl | exact Or.inr (Or.inl rfl) | exact Or.inr (Or.inr rfl)
def N36 : List Str := [("_law_one" : Str), ("_law_two_here" : Str), ("_law_frame" : Str), ("_law_never" : Str), ("_law_rows_here" : Str), ("_law_told" : Str), ("_law_top" : Str), ("_law_less" : Str), ("_law_pair_here" : Str), ("_law_some" : Str)]
def m36 (c : CF) : SD := (sSeq (sAsg (dCallF (dCons (dVar 0) (dCons (dVar 1) (dCons (dVar 2) dNil))) [] 3 (c 16)) (aName 3)) (sSeq (sIf (tAndB (dTru (dVar 3)) (dTru (dCallF (dCons (dVar 1) (dCons (dVar 0) (dCons (dVar 2) dNil))) [] 3 (c 16)))) (sSeq (sAsg (dCallF (dCons (d2 ixD (dVar 2) (dCst (.int (0)))) (dCons (d2 ixD (dVar 2) (dCst (.int (1)))) (dCons (dCst (.int (5))) dNil))) [] 3 (c 34)) (aName 4)) (sSeq (sIf (dBl (d2 (eqB true) (dLc 100000 (iVal (dVar 4)) (aName 9) (dBl (d2 (eqB true) (dCallF (dCons (dVar 0) (dCons (dVar 9) dNil)) [] 2 (c 25)) (dCallF (dCons (dVar 1) (dCons (dVar 9) dNil)) [] 2 (c 25)))) (dVar 9) [9]) (dLst dNil))) (sSeq (sRet (dCst (.bl false))) sNil) sNil) sNil)) sNil) (sSeq (sAsg (dCallF (dCons (dVar 0) (dCons (dVar 1) (dCons (dVar 2) dNil))) [] 3 (c 15)) (aName 5)) (sSeq (sFor 100000 (iRng2 (dCons (d2 ixD (dVar 2) (dCst (.int (0)))) (dCons (d2 ixD (dVar 2) (dCst (.int (1)))) dNil))) (aName 6) (sSeq (sAsg (dCallF (dCons (dVar 0) (dCons (dVar 1) (dCons (dTup (dCons (d2 ixD (dVar 2) (dCst (.int (0)))) (dCons (dVar 6) dNil))) dNil))) [] 3 (c 15)) (aName 7)) (sSeq (sIf (dBl (d2 (isB false) (dVar 7) (dCst .non))) (sSeq sCont sNil) sNil) (sSeq (sAsg (dTup (dCons (d2 ixD (dCallF (dCons (dVar 0) (dCons (dVar 7) dNil)) [] 2 (c 24)) (dNeg (dCst (.int (1))))) (dCons (d2 ixD (dCallF (dCons (dVar 1) (dCons (dVar 7) dNil)) [] 2 (c 24)) (dNeg (dCst (.int (1))))) dNil))) (aName 8)) (sSeq (sIf (tOrB (dBl (d2 (isB false) (dVar 5) (dCst .non))) (tOrB (dBl (d2 (ordD .lt) (dCall (dCons (dVar 7) dNil) lenF2) (dCall (dCons (dVar 5) dNil) lenF2))) (tNotB (dTru (dCallF (dCons (dVar 8) dNil) [] 1 (c 33)))))) (sSeq (sRet (dCst (.bl false))) sNil) sNil) sNil))))) (sSeq (sRet (d2 (eqB false) (dCall (dCons (dVar 3) dNil) reprF) (dCall (dCons (d2 (isB false) (dVar 5) (dCst .non)) dNil) reprF))) sNil)))))
theorem S36 : FnScope N36 [("_law_one" : Str), ("_law_two_here" : Str), ("_law_frame" : Str)] (defScope (top 45)) := ⟨rfl, rfl, rfl, by decide +kernel, rfl, by decide +kernel, by decide +kernel⟩
theorem N36_3 : N36[3]? = some ("_law_never" : Str) := rfl
theorem L36_3 : Loc (defScope (top 45)) ("_law_never" : Str) := by first | exact Or.inl rfl | exact Or.inr rfl
theorem N36_0 : N36[0]? = some ("_law_one" : Str) := rfl
theorem V36_0 : Vis (defScope (top 45)) ("_law_one" : Str) := by first | exact Or.inl rfl | exact Or.inr (Or.inl rfl) | exact Or.inr (Or.inr rfl)
theorem N36_1 : N36[1]? = some ("_law_two_here" : Str) := rfl
theorem V36_1 : Vis (defScope (top 45)) ("_law_two_here" : Str) := by first | exact Or.inl rfl | exact Or.inr (Or.inl rfl) | exact Or.inr (Or.inr rfl)
theorem N36_2 : N36[2]? = some ("_law_frame" : Str) := rfl
theorem V36_2 : Vis (defScope (top 45)) ("_law_frame" : Str) := by first | exact Or.inl rfl | exact Or.inr (Or.inl rfl) | exact Or.inr (Or.inr rfl)
theorem G36_never_above : (defScope (top 45)).names.lookup ("never_above" : Str) = some NameKind.globalImplicit := rfl
theorem V36_3 : Vis (defScope (top 45)) ("_law_never" : Str) := by first | exact Or.inl rfl | exact Or.inr (Or.inl rfl) | exact Or.inr (Or.inr rfl)
theorem N36_4 : N36[4]? = some ("_law_rows_here" : Str) := rfl
theorem L36_4 : Loc (defScope (top 45)) ("_law_rows_here" : Str) := by first | exact Or.inl rfl | exact Or.inr rfl
theorem G36__law_rows : (defScope (top 45)).names.lookup ("_law_rows" : Str) = some NameKind.globalImplicit := rfl
theorem V36_4 : Vis (defScope (top 45)) ("_law_rows_here" : Str) := by first | exact Or.inl rfl | exact Or.inr (Or.inl rfl) | exact Or.inr (Or.inr rfl)
theorem N36_9 : N36[9]? = some ("_law_some" : Str) := rfl
theorem N36_5 : N36[5]? = some ("_law_told" : Str) := rfl
theorem L36_5 : Loc (defScope (top 45)) ("_law_told" : Str) := by first | exact Or.inl rfl | exact Or.inr rfl
theorem G36_above_row : (defScope (top 45)).names.lookup ("above_row" : Str) = some NameKind.globalImplicit := rfl
theorem G36_range : (defScope (top 45)).names.lookup ("range" : Str) = some NameKind.globalImplicit := rfl
theorem N36_6 : N36[6]? = some ("_law_top" : Str) := rfl
theorem L36_6 : Loc (defScope (top 45)) ("_law_top" : Str) := by first | exact Or.inl rfl | exact Or.inr rfl
theorem N36_7 : N36[7]? = some ("_law_less" : Str) := rfl
theorem L36_7 : Loc (defScope (top 45)) ("_law_less" : Str) := by first | exact Or.inl rfl | exact Or.inr rfl
theorem V36_6 : Vis (defScope (top 45)) ("_law_top" : Str) := by first | exact Or.inl rfl | exact Or.inr (Or.inl rfl) | exact Or.inr (Or.inr rfl)
theorem V36_7 : Vis (defScope (top 45)) ("_law_less" : Str) := by first | exact Or.inl rfl | exact Or.inr (Or.inl rfl) | exact Or.inr (Or.inr rfl)
theorem N36_8 : N36[8]? = some ("_law_pair_here" : Str) := rfl
theorem L36_8 : Loc (defScope (top 45)) ("_law_pair_here" : Str) := by first | exact Or.inl rfl | exact Or.inr rfl
theorem G36__law_states : (defScope (top 45)).names.lookup ("_law_states" : Str) = some NameKind.globalImplicit := rfl
theorem V36_5 : Vis (defScope (top 45)) ("_law_told" : Str) := by first | exact Or.inl rfl | exact Or.inr (Or.inl rfl) | exact Or.inr (Or.inr rfl)
theorem G36_len : (defScope (top 45)).names.lookup ("len" : Str) = some NameKind.globalImplicit := rfl
theorem V36_8 : Vis (defScope (top 45)) ("_law_pair_here" : Str) := by first | exact Or.inl rfl | exact Or.inr (Or.inl rfl) | exact Or.inr (Or.inr rfl)
theorem G36__law_is_above : (defScope (top 45)).names.lookup ("_law_is_above" : Str) = some NameKind.globalImplicit := rfl
theorem G36_repr : (defScope (top 45)).names.lookup ("repr" : Str) = some NameKind.globalImplicit := rfl
def N37 : List Str := [("_law_script" : Str), ("_law_feed_here" : Str), ("_law_one" : Str), ("_law_two_here" : Str), ("_law_three" : Str), ("_law_twin_here" : Str), ("_law_frame" : Str), ("_law_told" : Str), ("_law_first" : Str), ("_law_second" : Str), ("_law_third" : Str), ("_law_both" : Str)]
def m37 (c : CF) : SD := (sSeq (sAsg (dCallF (dCons (dVar 0) dNil) [] 1 (c 17)) (aName 1)) (sSeq (sAsg (dCallF (dCons (dVar 1) (dCons (dCst (.int (2))) dNil)) [] 2 (c 30)) (aTup 2 (aCons (aName 2) (aCons (aName 3) aNil)))) (sSeq (sPar [4, 5] (dCons (dCallF (dCons (dVar 1) (dCons (dVar 3) dNil)) [] 2 (c 29)) (dCons (dCallF (dCons (dVar 1) (dCons (dVar 2) dNil)) [] 2 (c 32)) dNil))) (sSeq (sAsg (dCallF (dCons (dVar 1) (dCons (dCst (.int (3))) dNil)) [] 2 (c 35)) (aName 6)) (sSeq (sAsg (dLst (dCons (dCallF (dCons (dVar 2) (dCons (dVar 2) (dCons (dVar 6) dNil))) [] 3 (c 16)) (dCons (dCallF (dCons (dVar 2) (dCons (dVar 5) (dCons (dVar 6) dNil))) [] 3 (c 16)) (dCons (dCallF (dCons (dVar 5) (dCons (dVar 2) (dCons (dVar 6) dNil))) [] 3 (c 16)) dNil)))) (aName 7)) (sSeq (sIf (dBl (d2 (eqB true) (dCall (dCons (dVar 7) dNil) reprF) (dCall (dCons (d2 mulD (dLst (dCons (dCst (.bl true)) dNil)) (dCst (.int (3)))) dNil) reprF))) (sSeq (sRet (dCst (.bl false))) sNil) sNil) (sSeq (sFor 100000 (iVal (dTup (dCons (dTup (dCons (dVar 2) (dCons (dVar 3) (dCons (dVar 4) dNil)))) (dCons (dTup (dCons (dVar 4) (dCons (dVar 3) (dCons (dVar 2) dNil)))) (dCons (dTup (dCons (dVar 3) (dCons (dVar 2) (dCons (dVar 4) dNil)))) (dCons (dTup (dCons (dVar 2) (dCons (dVar 4) (dCons (dVar 3) dNil)))) dNil)))))) (aTup 3 (aCons (aName 8) (aCons (aName 9) (aCons (aName 10) aNil)))) (sSeq (sAsg (dAnd (dCallF (dCons (dVar 8) (dCons (dVar 9) (dCons (dVar 6) dNil))) [] 3 (c 16)) (dCallF (dCons (dVar 9) (dCons (dVar 10) (dCons (dVar 6) dNil))) [] 3 (c 16))) (aName 11)) (sSeq (sIf (tAndB (dTru (dVar 11)) (dBl (d2 (isB true) (dCallF (dCons (dVar 8) (dCons (dVar 10) (dCons (dVar 6) dNil))) [] 3 (c 16)) (dCst (.bl true))))) (sSeq (sRet (dCst (.bl false))) sNil) sNil) (sSeq (sIf (tNotB (dTru (dCallF (dCons (dVar 8) (dCons (dVar 9) (dCons (dVar 6) dNil))) [] 3 (c 36)))) (sSeq (sRet (dCst (.bl false))) sNil) sNil) sNil)))) (sSeq (sIf (dBl (d2 (eqB true) (dCallF (dCons (dVar 5) (dCons (dVar 3) (dCons (dVar 6) dNil))) [] 3 (c 16)) (dCallF (dCons (dVar 2) (dCons (dVar 3) (dCons (dVar 6) dNil))) [] 3 (c 16)))) (sSeq (sRet (dCst (.bl false))) sNil) sNil) (sSeq (sRet (dCst (.bl true))) sNil)))))))))
theorem S37 : FnScope N37 [("_law_script" : Str)] (defScope (top 46)) := ⟨rfl, rfl, rfl, by decide +kernel, rfl, by decide +kernel, by decide +kernel⟩
theorem N37_1 : N37[1]? = some ("_law_feed_here" : Str) := rfl
theorem L37_1 : Loc (defScope (top 46)) ("_law_feed_here" : Str) := by first | exact Or.inl rfl | exact Or.inr rfl
theorem N37_0 : N37[0]? = some ("_law_script" : Str) := rfl
theorem V37_0 : Vis (defScope (top 46)) ("_law_script" : Str) := by first | exact Or.inl rfl | exact Or.inr (Or.inl rfl) | exact Or.inr (Or.inr rfl)
theorem G37__law_feed : (defScope (top 46)).names.lookup ("_law_feed" : Str) = some NameKind.globalImplicit := rfl
theorem N37_2 : N37[2]? = some ("_law_one" : Str) := rfl
theorem L37_2 : Loc (defScope (top 46)) ("_law_one" : Str) := by first | exact Or.inl rfl | exact Or.inr rfl
theorem N37_3 : N37[3]? = some ("_law_two_here" : Str) := rfl
theorem L37_3 : Loc (defScope (top 46)) ("_law_two_here" : Str) := by first | exact Or.inl rfl | exact Or.inr rfl
theorem V37_1 : Vis (defScope (top 46)) ("_law_feed_here" : Str) := by first | exact Or.inl rfl | exact Or.inr (Or.inl rfl) | exact Or.inr (Or.inr rfl)
theorem G37__law_two : (defScope (top 46)).names.lookup ("_law_two" : Str) = some NameKind.globalImplicit := rfl
theorem V37_3 : Vis (defScope (top 46)) ("_law_two_here" : Str) := by first | exact Or.inl rfl | exact Or.inr (Or.inl rfl) | exact Or.inr (Or.inr rfl)
theorem G37__law_changed : (defScope (top 46)).names.lookup ("_law_changed" : Str) = some NameKind.globalImplicit := rfl
theorem V37_2 : Vis (defScope (top 46)) ("_law_one" : Str) := by first | exact Or.inl rfl | exact Or.inr (Or.inl rfl) | exact Or.inr (Or.inr rfl)
theorem G37__law_twin : (defScope (top 46)).names.lookup ("_law_twin" : Str) = some NameKind.globalImplicit := rfl
theorem N37_4 : N37[4]? = some ("_law_three" : Str) := rfl
theorem N37_5 : N37[5]? = some ("_law_twin_here" : Str) := rfl
theorem N37_6 : N37[6]? = some ("_law_frame" : Str) := rfl
theorem L37_6 : Loc (defScope (top 46)) ("_law_frame" : Str) := by first | exact Or.inl rfl | exact Or.inr rfl
theorem G37__law_span : (defScope (top 46)).names.lookup ("_law_span" : Str) = some NameKind.globalImplicit := rfl
theorem N37_7 : N37[7]? = some ("_law_told" : Str) := rfl
theorem L37_7 : Loc (defScope (top 46)) ("_law_told" : Str) := by first | exact Or.inl rfl | exact Or.inr rfl
theorem V37_6 : Vis (defScope (top 46)) ("_law_frame" : Str) := by first | exact Or.inl rfl | exact Or.inr (Or.inl rfl) | exact Or.inr (Or.inr rfl)
theorem G37_never_above : (defScope (top 46)).names.lookup ("never_above" : Str) = some NameKind.globalImplicit := rfl
theorem V37_5 : Vis (defScope (top 46)) ("_law_twin_here" : Str) := by first | exact Or.inl rfl | exact Or.inr (Or.inl rfl) | exact Or.inr (Or.inr rfl)
theorem V37_7 : Vis (defScope (top 46)) ("_law_told" : Str) := by first | exact Or.inl rfl | exact Or.inr (Or.inl rfl) | exact Or.inr (Or.inr rfl)
theorem G37_repr : (defScope (top 46)).names.lookup ("repr" : Str) = some NameKind.globalImplicit := rfl
theorem V37_4 : Vis (defScope (top 46)) ("_law_three" : Str) := by first | exact Or.inl rfl | exact Or.inr (Or.inl rfl) | exact Or.inr (Or.inr rfl)
theorem N37_8 : N37[8]? = some ("_law_first" : Str) := rfl
theorem L37_8 : Loc (defScope (top 46)) ("_law_first" : Str) := by first | exact Or.inl rfl | exact Or.inr rfl
theorem N37_9 : N37[9]? = some ("_law_second" : Str) := rfl
theorem L37_9 : Loc (defScope (top 46)) ("_law_second" : Str) := by first | exact Or.inl rfl | exact Or.inr rfl
theorem N37_10 : N37[10]? = some ("_law_third" : Str) := rfl
theorem L37_10 : Loc (defScope (top 46)) ("_law_third" : Str) := by first | exact Or.inl rfl | exact Or.inr rfl
theorem N37_11 : N37[11]? = some ("_law_both" : Str) := rfl
theorem L37_11 : Loc (defScope (top 46)) ("_law_both" : Str) := by first | exact Or.inl rfl | exact Or.inr rfl
theorem V37_8 : Vis (defScope (top 46)) ("_law_first" : Str) := by first | exact Or.inl rfl | exact Or.inr (Or.inl rfl) | exact Or.inr (Or.inr rfl)
theorem V37_9 : Vis (defScope (top 46)) ("_law_second" : Str) := by first | exact Or.inl rfl | exact Or.inr (Or.inl rfl) | exact Or.inr (Or.inr rfl)
theorem V37_10 : Vis (defScope (top 46)) ("_law_third" : Str) := by first | exact Or.inl rfl | exact Or.inr (Or.inl rfl) | exact Or.inr (Or.inr rfl)
theorem V37_11 : Vis (defScope (top 46)) ("_law_both" : Str) := by first | exact Or.inl rfl | exact Or.inr (Or.inl rfl) | exact Or.inr (Or.inr rfl)
theorem G37__law_pair_right : (defScope (top 46)).names.lookup ("_law_pair_right" : Str) = some NameKind.globalImplicit := rfl
end K62
namespace K62
open PySem PySem.Spec PyProof.Rows L2 DV
theorem b0 {w : World} {K : PySem.W.Frag} {mg : Str → Option Value} {base : Heap} {k : Nat} {q : Str} {f : Addr} {cdv : Value} {A : Around} {outer : List PySem.Env} {s : Shared} {H : Hp} {E : XK} {W : XWS} {wx : WX} {c : CF} (Y : Fx w K mg base k c) (b : Bd tabs k (cxOf (CX P w) P w K mg base N0 q (defScope (top 1)) f cdv A outer s H E) W wx) :
    PSs (cxOf (CX P w) P w K mg base N0 q (defScope (top 1)) f cdv A outer s H E) (defBody (top 1)) (TDS ⟨K, w, P⟩ W (m0 c)) := by
  delta m0
  exact (ss_cons (s_if (t_cmp (fun _ => o_is) (d_var N0_1 V0_1 nd_other nc_other) d_non (by exact rfl)) (ss_cons (s_ret d_bl) ss_nil) ss_nil) (ss_cons (s_ret (d_or (d_cmp (fun _ => o_is) (d_var N0_0 V0_0 nd_one nc_one) d_non (by exact rfl)) (d_one (d_cmp (fun _ => o_ord b.hu64 .gt) (d_var N0_0 V0_0 nd_one nc_one) (d_var N0_1 V0_1 nd_other nc_other) (by exact rfl))))) ss_nil))
theorem b1 {w : World} {K : PySem.W.Frag} {mg : Str → Option Value} {base : Heap} {k : Nat} {q : Str} {f : Addr} {cdv : Value} {A : Around} {outer : List PySem.Env} {s : Shared} {H : Hp} {E : XK} {W : XWS} {wx : WX} {c : CF} (Y : Fx w K mg base k c) (b : Bd tabs k (cxOf (CX P w) P w K mg base N1 q (defScope (top 5)) f cdv A outer s H E) W wx) :
    PSs (cxOf (CX P w) P w K mg base N1 q (defScope (top 5)) f cdv A outer s H E) (defBody (top 5)) (TDS ⟨K, w, P⟩ W (m1 c)) := by
  delta m1
  exact (ss_cons (s_ret (d_callB (fun _ => c_len2) G1_len Y.b_len (by rfl) (a_cons (d_lc rfl S1.nd (i_val (d_var N1_0 V1_0 nd_marks nc_marks)) (own := [(("mark" : Str), 2)]) (blkB_ok (by exact rfl)) (by decide) (fun s_ H_ C_ cl_ fp_ => (g_name S1.nd N1_2 (by first | exact Or.inl rfl | exact Or.inr rfl) ((by first | exact Or.inr rfl | exact Or.inl rfl)))) (fun s_ H_ C_ cl_ fp_ => (ts_one (t_cmp (fun _ => o_ord (b.blk _ _ _ _ _).hu64 .le) (d_var N1_2 (by first | exact Or.inl rfl | exact Or.inr (Or.inl rfl) | exact Or.inr (Or.inr rfl)) nd_mark nc_mark) (d_var N1_1 (by first | exact Or.inl rfl | exact Or.inr (Or.inl rfl) | exact Or.inr (Or.inr rfl)) nd_x nc_x) (by exact rfl)))) (fun s_ H_ C_ cl_ fp_ => (d_var N1_2 (by first | exact Or.inl rfl | exact Or.inr (Or.inl rfl) | exact Or.inr (Or.inr rfl)) nd_mark nc_mark)) (by intro _; rfl)) a_nil (by exact rfl)) (by decide) nd_len (by exact rfl) (by exact rfl))) ss_nil)
theorem b2 {w : World} {K : PySem.W.Frag} {mg : Str → Option Value} {base : Heap} {k : Nat} {q : Str} {f : Addr} {cdv : Value} {A : Around} {outer : List PySem.Env} {s : Shared} {H : Hp} {E : XK} {W : XWS} {wx : WX} {c : CF} (Y : Fx w K mg base k c) (b : Bd tabs k (cxOf (CX P w) P w K mg base N2 q (defScope (top 6)) f cdv A outer s H E) W wx) :
    PSs (cxOf (CX P w) P w K mg base N2 q (defScope (top 6)) f cdv A outer s H E) (defBody (top 6)) (TDS ⟨K, w, P⟩ W (m2 c)) := by
  delta m2
  exact (ss_cons (s_asg (d_cal (Y.f 1 _ _ rfl) b G2_gap_at nd_gap_at (a_cons (d_var N2_0 V2_0 nd_marks nc_marks) (a_cons (d_var N2_1 V2_1 nd_x nc_x) a_nil (by exact rfl)) (by exact rfl)) (by exact rfl) (by exact rfl)) (g_name S2.nd N2_2 L2_2 (Or.inl rfl)) (by exact rfl) (by exact rfl) (by exact rfl)) (ss_cons (s_ret (d_ite (t_cmp (fun _ => o_ord b.hu64 .lt) (d_var N2_2 V2_2 nd_gap nc_gap) (d_callB (fun _ => c_len2) G2_len Y.b_len (by rfl) (a_cons (d_var N2_0 V2_0 nd_marks nc_marks) a_nil (by exact rfl)) (by decide) nd_len (by exact rfl) (by exact rfl)) (by exact rfl)) (d_ix (fun _ => o_ix b.hu1 b.hu65) (d_var N2_0 V2_0 nd_marks nc_marks) (d_var N2_2 V2_2 nd_gap nc_gap) (by (intro _ _; rfl))) d_non)) ss_nil))
theorem b3 {w : World} {K : PySem.W.Frag} {mg : Str → Option Value} {base : Heap} {k : Nat} {q : Str} {f : Addr} {cdv : Value} {A : Around} {outer : List PySem.Env} {s : Shared} {H : Hp} {E : XK} {W : XWS} {wx : WX} {c : CF} (Y : Fx w K mg base k c) (b : Bd tabs k (cxOf (CX P w) P w K mg base N3 q (defScope (top 7)) f cdv A outer s H E) W wx) :
    PSs (cxOf (CX P w) P w K mg base N3 q (defScope (top 7)) f cdv A outer s H E) (defBody (top 7)) (TDS ⟨K, w, P⟩ W (m3 c)) := by
  delta m3
  exact (ss_cons (s_if (t_not (t_truth (d_cal (Y.f 0 _ _ rfl) b G3_is_above_kinds nd_is_above_kinds (a_cons (d_var N3_2 V3_2 nd_y nc_y) (a_cons (d_var N3_1 V3_1 nd_x nc_x) a_nil (by exact rfl)) (by exact rfl)) (by exact rfl) (by exact rfl)) (by intro _; rfl))) (ss_cons (s_ret d_non) ss_nil) ss_nil) (ss_cons (s_asg (d_cal (Y.f 2 _ _ rfl) b G3_upper_at nd_upper_at (a_cons (d_var N3_0 V3_0 nd_marks nc_marks) (a_cons (d_var N3_1 V3_1 nd_x nc_x) a_nil (by exact rfl)) (by exact rfl)) (by exact rfl) (by exact rfl)) (g_name S3.nd N3_3 L3_3 (Or.inl rfl)) (by exact rfl) (by exact rfl) (by exact rfl)) (ss_cons (s_if (L2.PW.pt (w_and (t_cmp (fun _ => o_isnot) (d_var N3_2 V3_2 nd_y nc_y) d_non (by exact rfl)) (w_and1 (L2.PW.pt (w_or (t_cmp (fun _ => o_is) (d_var N3_3 V3_3 nd_upper nc_upper) d_non (by exact rfl)) (w_or1 (t_cmp (fun _ => o_ord b.hu64 .lt) (d_var N3_2 V3_2 nd_y nc_y) (d_var N3_3 V3_3 nd_upper nc_upper) (by exact rfl)))))))) (ss_cons (s_ret d_strS) ss_nil) ss_nil) (ss_cons (s_ret (d_ite (L2.PW.pt (w_and (t_cmp (fun _ => o_isnot) (d_var N3_2 V3_2 nd_y nc_y) d_non (by exact rfl)) (w_and1 (t_cmp (fun _ => o_eq b.hu64) (d_var N3_2 V3_2 nd_y nc_y) (d_var N3_3 V3_3 nd_upper nc_upper) (by exact rfl))))) d_strS d_strS)) ss_nil))))
theorem b4 {w : World} {K : PySem.W.Frag} {mg : Str → Option Value} {base : Heap} {k : Nat} {q : Str} {f : Addr} {cdv : Value} {A : Around} {outer : List PySem.Env} {s : Shared} {H : Hp} {E : XK} {W : XWS} {wx : WX} {c : CF} (Y : Fx w K mg base k c) (b : Bd tabs k (cxOf (CX P w) P w K mg base N4 q (defScope (top 9)) f cdv A outer s H E) W wx) :
    PSs (cxOf (CX P w) P w K mg base N4 q (defScope (top 9)) f cdv A outer s H E) (defBody (top 9)) (TDS ⟨K, w, P⟩ W (m4 c)) := by
  delta m4
  exact (ss_cons (s_setLc rfl S4.nd N4_2 (by exact rfl) (by exact rfl) (i_val (d_var N4_0 V4_0 nd_marks nc_marks)) (own := [(("mark" : Str), 3)]) (blkB_ok (by exact rfl)) (by decide) (fun s_ H_ C_ cl_ fp_ => (g_name S4.nd N4_3 (by first | exact Or.inl rfl | exact Or.inr rfl) ((by first | exact Or.inr rfl | exact Or.inl rfl)))) (fun s_ H_ C_ cl_ fp_ => (ts_one (L2.PW.pt (w_and (t_cmp (fun _ => o_isnot) (d_var N4_1 (by first | exact Or.inl rfl | exact Or.inr (Or.inl rfl) | exact Or.inr (Or.inr rfl)) nd_y nc_y) d_non (by exact rfl)) (w_and1 (t_cmp (fun _ => o_ord (b.blk _ _ _ _ _).hu64 .ge) (d_var N4_3 (by first | exact Or.inl rfl | exact Or.inr (Or.inl rfl) | exact Or.inr (Or.inr rfl)) nd_mark nc_mark) (d_var N4_1 (by first | exact Or.inl rfl | exact Or.inr (Or.inl rfl) | exact Or.inr (Or.inr rfl)) nd_y nc_y) (by exact rfl))))))) (fun s_ H_ C_ cl_ fp_ => (d_var N4_3 (by first | exact Or.inl rfl | exact Or.inr (Or.inl rfl) | exact Or.inr (Or.inr rfl)) nd_mark nc_mark)) (by intro _; rfl)) (ss_cons (s_ret (d_ite (t_cmp (fun _ => o_ord b.hu64 .gt) (d_callB (fun _ => c_len2) G4_len Y.b_len (by rfl) (a_cons (d_var N4_2 V4_2 nd_found nc_found) a_nil (by exact rfl)) (by decide) nd_len (by exact rfl) (by exact rfl)) d_int (by exact rfl)) (d_ix (fun _ => o_ix b.hu1 b.hu65) (d_var N4_2 V4_2 nd_found nc_found) d_int (by (intro _ _; rfl))) d_non)) ss_nil))
theorem b5 {w : World} {K : PySem.W.Frag} {mg : Str → Option Value} {base : Heap} {k : Nat} {q : Str} {f : Addr} {cdv : Value} {A : Around} {outer : List PySem.Env} {s : Shared} {H : Hp} {E : XK} {W : XWS} {wx : WX} {c : CF} (Y : Fx w K mg base k c) (b : Bd tabs k (cxOf (CX P w) P w K mg base N5 q (defScope (top 10)) f cdv A outer s H E) W wx) :
    PSs (cxOf (CX P w) P w K mg base N5 q (defScope (top 10)) f cdv A outer s H E) (defBody (top 10)) (TDS ⟨K, w, P⟩ W (m5 c)) := by
  delta m5
  exact (ss_cons (s_if (t_cmp (fun _ => o_eq b.hu64) (d_var N5_3 V5_3 nd_move nc_move) d_strS (by exact rfl)) (ss_cons (s_ret (d_var N5_2 V5_2 nd_y nc_y)) ss_nil) ss_nil) (ss_cons (s_if (t_cmp (fun _ => o_eq b.hu64) (d_var N5_3 V5_3 nd_move nc_move) d_strS (by exact rfl)) (ss_cons (s_ret (d_cal (Y.f 4 _ _ rfl) b G5_least_mark nd_least_mark (a_cons (d_var N5_0 V5_0 nd_marks nc_marks) (a_cons (d_var N5_2 V5_2 nd_y nc_y) a_nil (by exact rfl)) (by exact rfl)) (by exact rfl) (by exact rfl))) ss_nil) ss_nil) (ss_cons (s_ret (d_ite (t_cmp (fun _ => o_eq b.hu64) (d_var N5_3 V5_3 nd_move nc_move) d_strS (by exact rfl)) d_non (d_var N5_1 V5_1 nd_x nc_x))) ss_nil)))
theorem b6 {w : World} {K : PySem.W.Frag} {mg : Str → Option Value} {base : Heap} {k : Nat} {q : Str} {f : Addr} {cdv : Value} {A : Around} {outer : List PySem.Env} {s : Shared} {H : Hp} {E : XK} {W : XWS} {wx : WX} {c : CF} (Y : Fx w K mg base k c) (b : Bd tabs k (cxOf (CX P w) P w K mg base N6 q (defScope (top 11)) f cdv A outer s H E) W wx) :
    PSs (cxOf (CX P w) P w K mg base N6 q (defScope (top 11)) f cdv A outer s H E) (defBody (top 11)) (TDS ⟨K, w, P⟩ W (m6 c)) := by
  delta m6
  exact (ss_cons (s_ret (d_ix (fun _ => o_ix b.hu1 b.hu65) (d_ix (fun _ => o_ix b.hu1 b.hu65) (d_ix (fun _ => o_ix b.hu1 b.hu65) (d_var N6_0 V6_0 nd_rule nc_rule) d_int (by (intro _ _; rfl))) (d_var N6_1 V6_1 nd_phase nc_phase) (by (intro _ _; rfl))) (d_ix (fun _ => o_ix b.hu1 b.hu65) (d_globE G6_CASE_PLACES Y.k_CASE_PLACES nd_CASE_PLACES) (d_var N6_2 V6_2 nd_case nc_case) (by (intro _ _; rfl))) (by (intro _ _; rfl)))) ss_nil)
theorem b7 {w : World} {K : PySem.W.Frag} {mg : Str → Option Value} {base : Heap} {k : Nat} {q : Str} {f : Addr} {cdv : Value} {A : Around} {outer : List PySem.Env} {s : Shared} {H : Hp} {E : XK} {W : XWS} {wx : WX} {c : CF} (Y : Fx w K mg base k c) (b : Bd tabs k (cxOf (CX P w) P w K mg base N7 q (defScope (top 12)) f cdv A outer s H E) W wx) :
    PSs (cxOf (CX P w) P w K mg base N7 q (defScope (top 12)) f cdv A outer s H E) (defBody (top 12)) (TDS ⟨K, w, P⟩ W (m7 c)) := by
  delta m7
  exact (ss_cons (s_asg (d_var N7_1 V7_1 nd_state nc_state) (g_tup rfl (gs_cons (g_name S7.nd N7_3 L7_3 (Or.inl rfl)) (gs_cons (g_name S7.nd N7_4 L7_4 (Or.inl rfl)) (gs_cons (g_name S7.nd N7_5 L7_5 (Or.inl rfl)) gs_nil (by exact rfl)) (by exact rfl)) (by exact rfl)) (by exact rfl) (by exact rfl)) (by exact rfl) (by exact rfl) (by exact rfl)) (ss_cons (s_asg (d_cal (Y.f 3 _ _ rfl) b G7_case_at nd_case_at (a_cons (d_ix (fun _ => o_ix b.hu1 b.hu65) (d_var N7_0 V7_0 nd_rule nc_rule) d_int (by (intro _ _; rfl))) (a_cons (d_var N7_4 V7_4 nd_end nc_end) (a_cons (d_var N7_2 V7_2 nd_y nc_y) a_nil (by exact rfl)) (by exact rfl)) (by exact rfl)) (by exact rfl) (by exact rfl)) (g_name S7.nd N7_6 L7_6 (Or.inl rfl)) (by exact rfl) (by exact rfl) (by exact rfl)) (ss_cons (s_if (t_cmp (fun _ => o_is) (d_var N7_6 V7_6 nd_case nc_case) d_non (by exact rfl)) (ss_cons (s_ret (d_var N7_1 V7_1 nd_state nc_state)) ss_nil) ss_nil) (ss_cons (s_asg (d_cal (Y.f 6 _ _ rfl) b G7_pair_for nd_pair_for (a_cons (d_var N7_0 V7_0 nd_rule nc_rule) (a_cons (d_var N7_3 V7_3 nd_phase nc_phase) (a_cons (d_var N7_6 V7_6 nd_case nc_case) a_nil (by exact rfl)) (by exact rfl)) (by exact rfl)) (by exact rfl) (by exact rfl)) (g_tup rfl (gs_cons (g_name S7.nd N7_7 L7_7 (Or.inl rfl)) (gs_cons (g_name S7.nd N7_8 L7_8 (Or.inl rfl)) gs_nil (by exact rfl)) (by exact rfl)) (by exact rfl) (by exact rfl)) (by exact rfl) (by exact rfl) (by exact rfl)) (ss_cons (s_asg (d_cal (Y.f 5 _ _ rfl) b G7_end_by nd_end_by (a_cons (d_ix (fun _ => o_ix b.hu1 b.hu65) (d_var N7_0 V7_0 nd_rule nc_rule) d_int (by (intro _ _; rfl))) (a_cons (d_var N7_4 V7_4 nd_end nc_end) (a_cons (d_var N7_2 V7_2 nd_y nc_y) (a_cons (d_var N7_7 V7_7 nd_move nc_move) a_nil (by exact rfl)) (by exact rfl)) (by exact rfl)) (by exact rfl)) (by exact rfl) (by exact rfl)) (g_name S7.nd N7_9 L7_9 (Or.inl rfl)) (by exact rfl) (by exact rfl) (by exact rfl)) (ss_cons (s_ret (d_tup (a_cons (d_var N7_8 V7_8 nd_later nc_later) (a_cons (d_var N7_9 V7_9 nd_found nc_found) (a_cons (d_ite (t_truth (d_cal (Y.f 0 _ _ rfl) b G7_is_above_kinds nd_is_above_kinds (a_cons (d_var N7_2 V7_2 nd_y nc_y) (a_cons (d_var N7_9 V7_9 nd_found nc_found) a_nil (by exact rfl)) (by exact rfl)) (by exact rfl) (by exact rfl)) (by intro _; rfl)) (d_var N7_2 V7_2 nd_y nc_y) (d_var N7_9 V7_9 nd_found nc_found)) a_nil (by exact rfl)) (by exact rfl)) (by exact rfl)))) ss_nil))))))
theorem b8 {w : World} {K : PySem.W.Frag} {mg : Str → Option Value} {base : Heap} {k : Nat} {q : Str} {f : Addr} {cdv : Value} {A : Around} {outer : List PySem.Env} {s : Shared} {H : Hp} {E : XK} {W : XWS} {wx : WX} {c : CF} (Y : Fx w K mg base k c) (b : Bd tabs k (cxOf (CX P w) P w K mg base N8 q (defScope (top 14)) f cdv A outer s H E) W wx) :
    PSs (cxOf (CX P w) P w K mg base N8 q (defScope (top 14)) f cdv A outer s H E) (defBody (top 14)) (TDS ⟨K, w, P⟩ W (m8 c)) := by
  delta m8
  exact (ss_cons (s_if (t_cmp (fun _ => o_is) (d_var N8_0 V8_0 nd_one nc_one) d_non (by exact rfl)) (ss_cons (s_ret d_bl) ss_nil) ss_nil) (ss_cons (s_ret (d_or (d_cmp (fun _ => o_is) (d_var N8_1 V8_1 nd_two nc_two) d_non (by exact rfl)) (d_one (d_cmp (fun _ => o_ord b.hu64 .lt) (d_var N8_0 V8_0 nd_one nc_one) (d_var N8_1 V8_1 nd_two nc_two) (by exact rfl))))) ss_nil))
theorem b9 {w : World} {K : PySem.W.Frag} {mg : Str → Option Value} {base : Heap} {k : Nat} {q : Str} {f : Addr} {cdv : Value} {A : Around} {outer : List PySem.Env} {s : Shared} {H : Hp} {E : XK} {W : XWS} {wx : WX} {c : CF} (Y : Fx w K mg base k c) (b : Bd tabs k (cxOf (CX P w) P w K mg base N9 q (defScope (top 15)) f cdv A outer s H E) W wx) :
    PSs (cxOf (CX P w) P w K mg base N9 q (defScope (top 15)) f cdv A outer s H E) (defBody (top 15)) (TDS ⟨K, w, P⟩ W (m9 c)) := by
  delta m9
  exact (ss_cons (s_ret (d_tup (a_cons (d_tup (a_cons d_int (a_cons (d_var N9_0 V9_0 nd_first nc_first) (a_cons (d_var N9_0 V9_0 nd_first nc_first) a_nil (by exact rfl)) (by exact rfl)) (by exact rfl))) (a_cons (d_tup (a_cons d_int (a_cons (d_var N9_0 V9_0 nd_first nc_first) (a_cons (d_var N9_0 V9_0 nd_first nc_first) a_nil (by exact rfl)) (by exact rfl)) (by exact rfl))) a_nil (by exact rfl)) (by exact rfl)))) ss_nil)
theorem b10 {w : World} {K : PySem.W.Frag} {mg : Str → Option Value} {base : Heap} {k : Nat} {q : Str} {f : Addr} {cdv : Value} {A : Around} {outer : List PySem.Env} {s : Shared} {H : Hp} {E : XK} {W : XWS} {wx : WX} {c : CF} (Y : Fx w K mg base k c) (b : Bd tabs k (cxOf (CX P w) P w K mg base N10 q (defScope (top 16)) f cdv A outer s H E) W wx) :
    PSs (cxOf (CX P w) P w K mg base N10 q (defScope (top 16)) f cdv A outer s H E) (defBody (top 16)) (TDS ⟨K, w, P⟩ W (m10 c)) := by
  delta m10
  exact (ss_cons (s_ret (d_tup (a_cons (d_cal (Y.f 7 _ _ rfl) b G10_stepped nd_stepped (a_cons (d_var N10_0 V10_0 nd_rule nc_rule) (a_cons (d_ix (fun _ => o_ix b.hu1 b.hu65) (d_var N10_2 V10_2 nd_joint nc_joint) d_int (by (intro _ _; rfl))) (a_cons (d_var N10_3 V10_3 nd_y nc_y) a_nil (by exact rfl)) (by exact rfl)) (by exact rfl)) (by exact rfl) (by exact rfl)) (a_cons (d_cal (Y.f 7 _ _ rfl) b G10_stepped nd_stepped (a_cons (d_var N10_1 V10_1 nd_other nc_other) (a_cons (d_ix (fun _ => o_ix b.hu1 b.hu65) (d_var N10_2 V10_2 nd_joint nc_joint) d_int (by (intro _ _; rfl))) (a_cons (d_var N10_3 V10_3 nd_y nc_y) a_nil (by exact rfl)) (by exact rfl)) (by exact rfl)) (by exact rfl) (by exact rfl)) a_nil (by exact rfl)) (by exact rfl)))) ss_nil)
theorem b11 {w : World} {K : PySem.W.Frag} {mg : Str → Option Value} {base : Heap} {k : Nat} {q : Str} {f : Addr} {cdv : Value} {A : Around} {outer : List PySem.Env} {s : Shared} {H : Hp} {E : XK} {W : XWS} {wx : WX} {c : CF} (Y : Fx w K mg base k c) (b : Bd tabs k (cxOf (CX P w) P w K mg base N11 q (defScope (top 17)) f cdv A outer s H E) W wx) :
    PSs (cxOf (CX P w) P w K mg base N11 q (defScope (top 17)) f cdv A outer s H E) (defBody (top 17)) (TDS ⟨K, w, P⟩ W (m11 c)) := by
  delta m11
  exact (ss_cons (s_ret (d_cal (Y.f 8 _ _ rfl) b G11_is_less nd_is_less (a_cons (d_ix (fun _ => o_ix b.hu1 b.hu65) (d_ix (fun _ => o_ix b.hu1 b.hu65) (d_var N11_0 V11_0 nd_joint nc_joint) d_int (by (intro _ _; rfl))) d_int (by (intro _ _; rfl))) (a_cons (d_ix (fun _ => o_ix b.hu1 b.hu65) (d_ix (fun _ => o_ix b.hu1 b.hu65) (d_var N11_0 V11_0 nd_joint nc_joint) d_int (by (intro _ _; rfl))) d_int (by (intro _ _; rfl))) a_nil (by exact rfl)) (by exact rfl)) (by exact rfl) (by exact rfl))) ss_nil)
theorem b12 {w : World} {K : PySem.W.Frag} {mg : Str → Option Value} {base : Heap} {k : Nat} {q : Str} {f : Addr} {cdv : Value} {A : Around} {outer : List PySem.Env} {s : Shared} {H : Hp} {E : XK} {W : XWS} {wx : WX} {c : CF} (Y : Fx w K mg base k c) (b : Bd tabs k (cxOf (CX P w) P w K mg base N12 q (defScope (top 19)) f cdv A outer s H E) W wx) :
    PSs (cxOf (CX P w) P w K mg base N12 q (defScope (top 19)) f cdv A outer s H E) (defBody (top 19)) (TDS ⟨K, w, P⟩ W (m12 c)) := by
  delta m12
  exact (ss_cons (s_ret (d_ite (t_truth (d_cal (Y.f 8 _ _ rfl) b G12_is_less nd_is_less (a_cons (d_ix (fun _ => o_ix b.hu1 b.hu65) (d_ix (fun _ => o_ix b.hu1 b.hu65) (d_var N12_0 V12_0 nd_joint nc_joint) d_int (by (intro _ _; rfl))) d_int (by (intro _ _; rfl))) (a_cons (d_ix (fun _ => o_ix b.hu1 b.hu65) (d_ix (fun _ => o_ix b.hu1 b.hu65) (d_var N12_0 V12_0 nd_joint nc_joint) d_int (by (intro _ _; rfl))) d_int (by (intro _ _; rfl))) a_nil (by exact rfl)) (by exact rfl)) (by exact rfl) (by exact rfl)) (by intro _; rfl)) (d_ix (fun _ => o_ix b.hu1 b.hu65) (d_ix (fun _ => o_ix b.hu1 b.hu65) (d_var N12_0 V12_0 nd_joint nc_joint) d_int (by (intro _ _; rfl))) d_int (by (intro _ _; rfl))) (d_ix (fun _ => o_ix b.hu1 b.hu65) (d_ix (fun _ => o_ix b.hu1 b.hu65) (d_var N12_0 V12_0 nd_joint nc_joint) d_int (by (intro _ _; rfl))) d_int (by (intro _ _; rfl))))) ss_nil)
theorem b13 {w : World} {K : PySem.W.Frag} {mg : Str → Option Value} {base : Heap} {k : Nat} {q : Str} {f : Addr} {cdv : Value} {A : Around} {outer : List PySem.Env} {s : Shared} {H : Hp} {E : XK} {W : XWS} {wx : WX} {c : CF} (Y : Fx w K mg base k c) (b : Bd tabs k (cxOf (CX P w) P w K mg base N13 q (defScope (top 20)) f cdv A outer s H E) W wx) :
    PSs (cxOf (CX P w) P w K mg base N13 q (defScope (top 20)) f cdv A outer s H E) (defBody (top 20)) (TDS ⟨K, w, P⟩ W (m13 c)) := by
  delta m13
  exact (ss_cons (s_asg (d_cal (Y.f 12 _ _ rfl) b G13_lesser_last nd_lesser_last (a_cons (d_var N13_0 V13_0 nd_joint nc_joint) a_nil (by exact rfl)) (by exact rfl) (by exact rfl)) (g_name S13.nd N13_2 L13_2 (Or.inl rfl)) (by exact rfl) (by exact rfl) (by exact rfl)) (ss_cons (s_if (t_cmp (fun _ => o_is) (d_var N13_2 V13_2 nd_last nc_last) d_non (by exact rfl)) (ss_cons (s_ret (d_lst a_nil)) ss_nil) ss_nil) (ss_cons (s_asg (d_var N13_1 V13_1 nd_span nc_span) (g_tup rfl (gs_cons (g_name S13.nd N13_3 L13_3 (Or.inl rfl)) (gs_cons (g_name S13.nd N13_4 L13_4 (Or.inl rfl)) gs_nil (by exact rfl)) (by exact rfl)) (by exact rfl) (by exact rfl)) (by exact rfl) (by exact rfl) (by exact rfl)) (ss_cons (s_ret (d_lr2 rfl G13_list Y.b_list G13_range Y.b_range (a_cons (d_ite (t_cmp (fun _ => o_ord b.hu64 .gt) (d_var N13_2 V13_2 nd_last nc_last) (d_var N13_3 V13_3 nd_first nc_first) (by exact rfl)) (d_var N13_2 V13_2 nd_last nc_last) (d_var N13_3 V13_3 nd_first nc_first)) (a_cons (d_bin (fun _ => o_add) (d_var N13_4 V13_4 nd_top nc_top) d_int) a_nil (by exact rfl)) (by exact rfl)) (by exact rfl) (by exact rfl) (by exact rfl))) ss_nil))))
theorem b14 {w : World} {K : PySem.W.Frag} {mg : Str → Option Value} {base : Heap} {k : Nat} {q : Str} {f : Addr} {cdv : Value} {A : Around} {outer : List PySem.Env} {s : Shared} {H : Hp} {E : XK} {W : XWS} {wx : WX} {c : CF} (Y : Fx w K mg base k c) (b : Bd tabs k (cxOf (CX P w) P w K mg base N14 q (defScope (top 21)) f cdv A outer s H E) W wx) :
    PSs (cxOf (CX P w) P w K mg base N14 q (defScope (top 21)) f cdv A outer s H E) (defBody (top 21)) (TDS ⟨K, w, P⟩ W (m14 c)) := by
  delta m14
  exact (ss_cons (s_asg (d_cal (Y.f 9 _ _ rfl) b G14_first_joint nd_first_joint (a_cons (d_ix (fun _ => o_ix b.hu1 b.hu65) (d_var N14_2 V14_2 nd_span nc_span) d_int (by (intro _ _; rfl))) a_nil (by exact rfl)) (by exact rfl) (by exact rfl)) (g_name S14.nd N14_3 L14_3 (Or.inl rfl)) (by exact rfl) (by exact rfl) (by exact rfl)) (ss_cons (s_asg (d_dicN b.hu65 (pps_cons (d_var N14_3 V14_3 nd_start nc_start) (d_tup (a_cons (d_ix (fun _ => o_ix b.hu1 b.hu65) (d_var N14_2 V14_2 nd_span nc_span) d_int (by (intro _ _; rfl))) a_nil (by exact rfl))) pps_nil) (by exact rfl) (by exact rfl) (by simp) (by decide)) (g_name S14.nd N14_4 L14_4 (Or.inl rfl)) (by exact rfl) (by exact rfl) (by exact rfl)) (ss_cons (s_asg (d_lst (a_cons (d_var N14_3 V14_3 nd_start nc_start) a_nil (by exact rfl))) (g_name S14.nd N14_5 L14_5 (Or.inl rfl)) (by exact rfl) (by exact rfl) (by exact rfl)) (ss_cons (s_asg d_int (g_name S14.nd N14_6 L14_6 (Or.inl rfl)) (by exact rfl) (by exact rfl) (by exact rfl)) (ss_cons (s_while b.po (t_cmp (fun _ => o_ord b.hu64 .lt) (d_var N14_6 V14_6 nd_at nc_at) (d_callB (fun _ => c_len2) G14_len Y.b_len (by rfl) (a_cons (d_var N14_5 V14_5 nd_due nc_due) a_nil (by exact rfl)) (by decide) nd_len (by exact rfl) (by exact rfl)) (by exact rfl)) (ss_cons (s_asg (d_ix (fun _ => o_ix b.hu1 b.hu65) (d_var N14_5 V14_5 nd_due nc_due) (d_var N14_6 V14_6 nd_at nc_at) (by (intro _ _; rfl))) (g_name S14.nd N14_7 L14_7 (Or.inl rfl)) (by exact rfl) (by exact rfl) (by exact rfl)) (ss_cons (s_asg (d_bin (fun _ => o_add) (d_var N14_6 V14_6 nd_at nc_at) d_int) (g_name S14.nd N14_6 L14_6 (Or.inl rfl)) (by exact rfl) (by exact rfl) (by exact rfl)) (ss_cons (s_for b.po rfl (i_val (d_cal (Y.f 13 _ _ rfl) b G14_further_elements nd_further_elements (a_cons (d_var N14_7 V14_7 nd_joint nc_joint) (a_cons (d_var N14_2 V14_2 nd_span nc_span) a_nil (by exact rfl)) (by exact rfl)) (by exact rfl) (by exact rfl))) (g_name S14.nd N14_8 L14_8 (Or.inl rfl)) (ss_cons (s_asg (d_cal (Y.f 10 _ _ rfl) b G14_joint_after nd_joint_after (a_cons (d_var N14_0 V14_0 nd_rule nc_rule) (a_cons (d_var N14_1 V14_1 nd_other nc_other) (a_cons (d_var N14_7 V14_7 nd_joint nc_joint) (a_cons (d_var N14_8 V14_8 nd_y nc_y) a_nil (by exact rfl)) (by exact rfl)) (by exact rfl)) (by exact rfl)) (by exact rfl) (by exact rfl)) (g_name S14.nd N14_9 L14_9 (Or.inl rfl)) (by exact rfl) (by exact rfl) (by exact rfl)) (ss_cons (s_if (t_cmp (fun _ => o_notin b.hu65) (d_var N14_9 V14_9 nd_after nc_after) (d_var N14_4 V14_4 nd_rows nc_rows) (by exact rfl)) (ss_cons (s_setN b.hu65 (d_var N14_4 V14_4 nd_rows nc_rows) (d_var N14_9 V14_9 nd_after nc_after) (d_bin (fun _ => o_add) (d_ix (fun _ => o_ix b.hu1 b.hu65) (d_var N14_4 V14_4 nd_rows nc_rows) (d_var N14_7 V14_7 nd_joint nc_joint) (by (intro _ _; rfl))) (d_tup (a_cons (d_var N14_8 V14_8 nd_y nc_y) a_nil (by exact rfl)))) (by exact rfl)) (ss_cons (s_expr (d_meth F.plainAttrs_list F.slot_list_append F.type_list_append (fun _ => m_append) (d_var N14_5 V14_5 nd_due nc_due) (a_cons (d_var N14_9 V14_9 nd_after nc_after) a_nil (by exact rfl)) (by exact rfl) (by exact rfl) (by exact rfl) (by exact rfl) (by exact rfl)) (by exact rfl)) ss_nil)) ss_nil) ss_nil)) (by intro _; rfl)) ss_nil)))) (ss_cons (s_ret (d_var N14_4 V14_4 nd_rows nc_rows)) ss_nil))))))
theorem b15 {w : World} {K : PySem.W.Frag} {mg : Str → Option Value} {base : Heap} {k : Nat} {q : Str} {f : Addr} {cdv : Value} {A : Around} {outer : List PySem.Env} {s : Shared} {H : Hp} {E : XK} {W : XWS} {wx : WX} {c : CF} (Y : Fx w K mg base k c) (b : Bd tabs k (cxOf (CX P w) P w K mg base N15 q (defScope (top 23)) f cdv A outer s H E) W wx) :
    PSs (cxOf (CX P w) P w K mg base N15 q (defScope (top 23)) f cdv A outer s H E) (defBody (top 23)) (TDS ⟨K, w, P⟩ W (m15 c)) := by
  delta m15
  exact (ss_cons (s_asg (d_cal (Y.f 14 _ _ rfl) b G15_joints_with_rows nd_joints_with_rows (a_cons (d_var N15_0 V15_0 nd_rule nc_rule) (a_cons (d_var N15_1 V15_1 nd_other nc_other) (a_cons (d_var N15_2 V15_2 nd_span nc_span) a_nil (by exact rfl)) (by exact rfl)) (by exact rfl)) (by exact rfl) (by exact rfl)) (g_name S15.nd N15_3 L15_3 (Or.inl rfl)) (by exact rfl) (by exact rfl) (by exact rfl)) (ss_cons (s_forN b.po rfl (d_var N15_3 V15_3 nd_rows nc_rows) (g_name S15.nd N15_4 L15_4 (Or.inl rfl)) (ss_cons (s_if (t_truth (d_cal (Y.f 11 _ _ rfl) b G15_is_above_joint nd_is_above_joint (a_cons (d_var N15_4 V15_4 nd_joint nc_joint) a_nil (by exact rfl)) (by exact rfl) (by exact rfl)) (by intro _; rfl)) (ss_cons (s_ret (d_ix (fun _ => o_ix b.hu1 b.hu65) (d_var N15_3 V15_3 nd_rows nc_rows) (d_var N15_4 V15_4 nd_joint nc_joint) (by (intro _ _; rfl)))) ss_nil) ss_nil) ss_nil) (by intro _; rfl)) (ss_cons (s_ret d_non) ss_nil)))
theorem b16 {w : World} {K : PySem.W.Frag} {mg : Str → Option Value} {base : Heap} {k : Nat} {q : Str} {f : Addr} {cdv : Value} {A : Around} {outer : List PySem.Env} {s : Shared} {H : Hp} {E : XK} {W : XWS} {wx : WX} {c : CF} (Y : Fx w K mg base k c) (b : Bd tabs k (cxOf (CX P w) P w K mg base N16 q (defScope (top 24)) f cdv A outer s H E) W wx) :
    PSs (cxOf (CX P w) P w K mg base N16 q (defScope (top 24)) f cdv A outer s H E) (defBody (top 24)) (TDS ⟨K, w, P⟩ W (m16 c)) := by
  delta m16
  exact (ss_cons (s_ret (d_cmp (fun _ => o_is) (d_cal (Y.f 15 _ _ rfl) b G16_above_row nd_above_row (a_cons (d_var N16_0 V16_0 nd_rule nc_rule) (a_cons (d_var N16_1 V16_1 nd_other nc_other) (a_cons (d_var N16_2 V16_2 nd_span nc_span) a_nil (by exact rfl)) (by exact rfl)) (by exact rfl)) (by exact rfl) (by exact rfl)) d_non (by exact rfl))) ss_nil)
theorem b17 {w : World} {K : PySem.W.Frag} {mg : Str → Option Value} {base : Heap} {k : Nat} {q : Str} {f : Addr} {cdv : Value} {A : Around} {outer : List PySem.Env} {s : Shared} {H : Hp} {E : XK} {W : XWS} {wx : WX} {c : CF} (Y : Fx w K mg base k c) (b : Bd tabs k (cxOf (CX P w) P w K mg base N17 q (defScope (top 26)) f cdv A outer s H E) W wx) :
    PSs (cxOf (CX P w) P w K mg base N17 q (defScope (top 26)) f cdv A outer s H E) (defBody (top 26)) (TDS ⟨K, w, P⟩ W (m17 c)) := by
  delta m17
  exact (ss_cons (s_ret (d_dic (pps_cons d_strS (d_callTy (fun _ => c_list2 rfl) G17_list Y.b_list (by rfl) (a_cons (d_sl (d_var N17_0 V17_0 nd__law_script nc__law_script) p_none (p_some d_int)) a_nil (by exact rfl)) (by decide) nd_list (by exact rfl) (by exact rfl)) (pps_cons d_strS d_int (pps_cons d_strS d_int (pps_cons d_strS d_int pps_nil)))) (by exact rfl) (by exact rfl) (by simp) (by decide))) ss_nil)
theorem b18 {w : World} {K : PySem.W.Frag} {mg : Str → Option Value} {base : Heap} {k : Nat} {q : Str} {f : Addr} {cdv : Value} {A : Around} {outer : List PySem.Env} {s : Shared} {H : Hp} {E : XK} {W : XWS} {wx : WX} {c : CF} (Y : Fx w K mg base k c) (b : Bd tabs k (cxOf (CX P w) P w K mg base N18 q (defScope (top 27)) f cdv A outer s H E) W wx) :
    PSs (cxOf (CX P w) P w K mg base N18 q (defScope (top 27)) f cdv A outer s H E) (defBody (top 27)) (TDS ⟨K, w, P⟩ W (m18 c)) := by
  delta m18
  exact (ss_cons (s_set b.hu1 (d_var N18_0 V18_0 nd__law_feed_here nc__law_feed_here) d_strS (d_bin (fun _ => o_add) (d_ix (fun _ => o_ix b.hu1 b.hu65) (d_var N18_0 V18_0 nd__law_feed_here nc__law_feed_here) d_strS (by (intro _ _; rfl))) d_int) (by exact rfl)) (ss_cons (s_if (t_cmp (fun _ => o_ord b.hu64 .gt) (d_ix (fun _ => o_ix b.hu1 b.hu65) (d_var N18_0 V18_0 nd__law_feed_here nc__law_feed_here) d_strS (by (intro _ _; rfl))) d_int (by exact rfl)) (ss_cons (s_asg (d_bin (fun _ => o_mod) (d_callTy (fun _ => c_int) G18_int Y.b_int (by rfl) (a_cons (d_ix (fun _ => o_ix b.hu1 b.hu65) (d_var N18_0 V18_0 nd__law_feed_here nc__law_feed_here) d_strS (by (intro _ _; rfl))) a_nil (by exact rfl)) (by decide) nd_int (by exact rfl) (by exact rfl)) (d_var N18_1 V18_1 nd__law_many nc__law_many)) (g_name S18.nd N18_2 L18_2 (Or.inl rfl)) (by exact rfl) (by exact rfl) (by exact rfl)) (ss_cons (s_set b.hu1 (d_var N18_0 V18_0 nd__law_feed_here nc__law_feed_here) d_strS (d_bin (fun _ => o_fdiv) (d_ix (fun _ => o_ix b.hu1 b.hu65) (d_var N18_0 V18_0 nd__law_feed_here nc__law_feed_here) d_strS (by (intro _ _; rfl))) (d_var N18_1 V18_1 nd__law_many nc__law_many)) (by exact rfl)) (ss_cons (s_ret (d_var N18_2 V18_2 nd__law_digit nc__law_digit)) ss_nil))) ss_nil) (ss_cons (s_par rfl S18.nd N18_3 N18_4 (by decide) (by exact rfl) (by exact rfl) (a_cons (d_ix (fun _ => o_ix b.hu1 b.hu65) (d_var N18_0 V18_0 nd__law_feed_here nc__law_feed_here) d_strS (by (intro _ _; rfl))) (a_cons (d_ix (fun _ => o_ix b.hu1 b.hu65) (d_var N18_0 V18_0 nd__law_feed_here nc__law_feed_here) d_strS (by (intro _ _; rfl))) a_nil (by exact rfl)) (by exact rfl)) (by exact rfl) (by exact rfl)) (ss_cons (s_asg (d_ite (t_cmp (fun _ => o_ne b.hu64) (d_var N18_3 V18_3 nd__law_cells nc__law_cells) (d_lst a_nil) (by exact rfl)) (d_ix (fun _ => o_ix b.hu1 b.hu65) (d_var N18_3 V18_3 nd__law_cells nc__law_cells) (d_bin (fun _ => o_mod) (d_callTy (fun _ => c_int) G18_int Y.b_int (by rfl) (a_cons (d_var N18_4 V18_4 nd__law_place nc__law_place) a_nil (by exact rfl)) (by decide) nd_int (by exact rfl) (by exact rfl)) (d_callB (fun _ => c_len2) G18_len Y.b_len (by rfl) (a_cons (d_var N18_3 V18_3 nd__law_cells nc__law_cells) a_nil (by exact rfl)) (by decide) nd_len (by exact rfl) (by exact rfl))) (by (intro _ _; rfl))) d_int) (g_name S18.nd N18_5 L18_5 (Or.inl rfl)) (by exact rfl) (by exact rfl) (by exact rfl)) (ss_cons (s_set b.hu1 (d_var N18_0 V18_0 nd__law_feed_here nc__law_feed_here) d_strS (d_bin (fun _ => o_add) (d_var N18_4 V18_4 nd__law_place nc__law_place) d_int) (by exact rfl)) (ss_cons (s_if (L2.PW.pt (w_and (t_cmp (fun _ => o_ord b.hu64 .ge) (d_var N18_5 V18_5 nd__law_cell nc__law_cell) (d_bin (fun _ => o_pow) d_int d_int) (by exact rfl)) (w_and1 (t_cmp (fun _ => o_ord b.hu64 .lt) (d_var N18_4 V18_4 nd__law_place nc__law_place) (d_callB (fun _ => c_len2) G18_len Y.b_len (by rfl) (a_cons (d_var N18_3 V18_3 nd__law_cells nc__law_cells) a_nil (by exact rfl)) (by decide) nd_len (by exact rfl) (by exact rfl)) (by exact rfl))))) (ss_cons (s_set b.hu1 (d_var N18_0 V18_0 nd__law_feed_here nc__law_feed_here) d_strS (d_bin (fun _ => o_fdiv) (d_var N18_5 V18_5 nd__law_cell nc__law_cell) (d_var N18_1 V18_1 nd__law_many nc__law_many)) (by exact rfl)) (ss_cons (s_ret (d_bin (fun _ => o_mod) (d_callTy (fun _ => c_int) G18_int Y.b_int (by rfl) (a_cons (d_var N18_5 V18_5 nd__law_cell nc__law_cell) a_nil (by exact rfl)) (by decide) nd_int (by exact rfl) (by exact rfl)) (d_var N18_1 V18_1 nd__law_many nc__law_many))) ss_nil)) ss_nil) (ss_cons (s_asg (d_bin (fun _ => o_mod) (d_callTy (fun _ => c_int) G18_int Y.b_int (by rfl) (a_cons (d_bin (fun _ => o_add) (d_bin (fun _ => o_add) (d_bin (fun _ => o_mod) (d_callTy (fun _ => c_int) G18_int Y.b_int (by rfl) (a_cons (d_var N18_5 V18_5 nd__law_cell nc__law_cell) a_nil (by exact rfl)) (by decide) nd_int (by exact rfl) (by exact rfl)) d_int) (d_bin (fun _ => o_mul) d_int (d_ix (fun _ => o_ix b.hu1 b.hu65) (d_var N18_0 V18_0 nd__law_feed_here nc__law_feed_here) d_strS (by (intro _ _; rfl))))) d_int) a_nil (by exact rfl)) (by decide) nd_int (by exact rfl) (by exact rfl)) d_int) (g_name S18.nd N18_6 L18_6 (Or.inl rfl)) (by exact rfl) (by exact rfl) (by exact rfl)) (ss_cons (s_asg (d_bin (fun _ => o_mod) (d_callTy (fun _ => c_int) G18_int Y.b_int (by rfl) (a_cons (d_bin (fun _ => o_add) (d_bin (fun _ => o_add) (d_bin (fun _ => o_mul) (d_var N18_6 V18_6 nd__law_mixed nc__law_mixed) (d_var N18_6 V18_6 nd__law_mixed nc__law_mixed)) (d_bin (fun _ => o_mul) d_int (d_ix (fun _ => o_ix b.hu1 b.hu65) (d_var N18_0 V18_0 nd__law_feed_here nc__law_feed_here) d_strS (by (intro _ _; rfl))))) d_int) a_nil (by exact rfl)) (by decide) nd_int (by exact rfl) (by exact rfl)) d_int) (g_name S18.nd N18_6 L18_6 (Or.inl rfl)) (by exact rfl) (by exact rfl) (by exact rfl)) (ss_cons (s_ret (d_bin (fun _ => o_mod) (d_callTy (fun _ => c_int) G18_int Y.b_int (by rfl) (a_cons (d_bin (fun _ => o_fdiv) (d_bin (fun _ => o_mod) (d_callTy (fun _ => c_int) G18_int Y.b_int (by rfl) (a_cons (d_bin (fun _ => o_add) (d_bin (fun _ => o_mul) (d_var N18_6 V18_6 nd__law_mixed nc__law_mixed) (d_var N18_6 V18_6 nd__law_mixed nc__law_mixed)) (d_bin (fun _ => o_mul) d_int (d_var N18_6 V18_6 nd__law_mixed nc__law_mixed))) a_nil (by exact rfl)) (by decide) nd_int (by exact rfl) (by exact rfl)) d_int) d_int) a_nil (by exact rfl)) (by decide) nd_int (by exact rfl) (by exact rfl)) (d_var N18_1 V18_1 nd__law_many nc__law_many))) ss_nil)))))))))
theorem b19 {w : World} {K : PySem.W.Frag} {mg : Str → Option Value} {base : Heap} {k : Nat} {q : Str} {f : Addr} {cdv : Value} {A : Around} {outer : List PySem.Env} {s : Shared} {H : Hp} {E : XK} {W : XWS} {wx : WX} {c : CF} (Y : Fx w K mg base k c) (b : Bd tabs k (cxOf (CX P w) P w K mg base N19 q (defScope (top 28)) f cdv A outer s H E) W wx) :
    PSs (cxOf (CX P w) P w K mg base N19 q (defScope (top 28)) f cdv A outer s H E) (defBody (top 28)) (TDS ⟨K, w, P⟩ W (m19 c)) := by
  delta m19
  exact (ss_cons (s_ret (d_ix (fun _ => o_ix b.hu1 b.hu65) (d_var N19_1 V19_1 nd__law_some nc__law_some) (d_cal (Y.f 18 _ _ rfl) b G19__law_draw nd__law_draw (a_cons (d_var N19_0 V19_0 nd__law_feed_here nc__law_feed_here) (a_cons (d_callB (fun _ => c_len2) G19_len Y.b_len (by rfl) (a_cons (d_var N19_1 V19_1 nd__law_some nc__law_some) a_nil (by exact rfl)) (by decide) nd_len (by exact rfl) (by exact rfl)) a_nil (by exact rfl)) (by exact rfl)) (by exact rfl) (by exact rfl)) (by (intro _ _; rfl)))) ss_nil)
theorem b20 {w : World} {K : PySem.W.Frag} {mg : Str → Option Value} {base : Heap} {k : Nat} {q : Str} {f : Addr} {cdv : Value} {A : Around} {outer : List PySem.Env} {s : Shared} {H : Hp} {E : XK} {W : XWS} {wx : WX} {c : CF} (Y : Fx w K mg base k c) (b : Bd tabs k (cxOf (CX P w) P w K mg base N20 q (defScope (top 29)) f cdv A outer s H E) W wx) :
    PSs (cxOf (CX P w) P w K mg base N20 q (defScope (top 29)) f cdv A outer s H E) (defBody (top 29)) (TDS ⟨K, w, P⟩ W (m20 c)) := by
  delta m20
  exact (ss_cons (s_ret (d_ite (t_cmp (fun _ => o_is) (d_var N20_0 V20_0 nd__law_one nc__law_one) d_non (by exact rfl)) (d_tup (a_cons d_int (a_cons d_int a_nil (by exact rfl)) (by exact rfl))) (d_tup (a_cons d_int (a_cons (d_var N20_0 V20_0 nd__law_one nc__law_one) a_nil (by exact rfl)) (by exact rfl))))) ss_nil)
theorem b21 {w : World} {K : PySem.W.Frag} {mg : Str → Option Value} {base : Heap} {k : Nat} {q : Str} {f : Addr} {cdv : Value} {A : Around} {outer : List PySem.Env} {s : Shared} {H : Hp} {E : XK} {W : XWS} {wx : WX} {c : CF} (Y : Fx w K mg base k c) (b : Bd tabs k (cxOf (CX P w) P w K mg base N21 q (defScope (top 30)) f cdv A outer s H E) W wx) :
    PSs (cxOf (CX P w) P w K mg base N21 q (defScope (top 30)) f cdv A outer s H E) (defBody (top 30)) (TDS ⟨K, w, P⟩ W (m21 c)) := by
  delta m21
  exact (ss_cons (s_setLc rfl S21.nd N21_3 (by exact rfl) (by exact rfl) (i_val (d_var N21_0 V21_0 nd__law_marks nc__law_marks)) (own := [(("_law_mark" : Str), 4)]) (blkB_ok (by exact rfl)) (by decide) (fun s_ H_ C_ cl_ fp_ => (g_name S21.nd N21_4 (by first | exact Or.inl rfl | exact Or.inr rfl) ((by first | exact Or.inr rfl | exact Or.inl rfl)))) (fun s_ H_ C_ cl_ fp_ => (ts_one (t_cmp (fun _ => o_ord (b.blk _ _ _ _ _).hu64 .gt) (d_var N21_4 (by first | exact Or.inl rfl | exact Or.inr (Or.inl rfl) | exact Or.inr (Or.inr rfl)) nd__law_mark nc__law_mark) (d_var N21_1 (by first | exact Or.inl rfl | exact Or.inr (Or.inl rfl) | exact Or.inr (Or.inr rfl)) nd__law_x nc__law_x) (by exact rfl)))) (fun s_ H_ C_ cl_ fp_ => (d_var N21_4 (by first | exact Or.inl rfl | exact Or.inr (Or.inl rfl) | exact Or.inr (Or.inr rfl)) nd__law_mark nc__law_mark)) (by intro _; rfl)) (ss_cons (s_if (L2.PW.pt (w_and (t_cmp (fun _ => o_isnot) (d_var N21_2 V21_2 nd__law_y nc__law_y) d_non (by exact rfl)) (w_and1 (L2.PW.pt (w_or (t_cmp (fun _ => o_eq b.hu64) (d_var N21_3 V21_3 nd__law_above nc__law_above) (d_lst a_nil) (by exact rfl)) (w_or1 (t_cmp (fun _ => o_ord b.hu64 .gt) (d_ix (fun _ => o_ix b.hu1 b.hu65) (d_var N21_3 V21_3 nd__law_above nc__law_above) d_int (by (intro _ _; rfl))) (d_var N21_2 V21_2 nd__law_y nc__law_y) (by exact rfl)))))))) (ss_cons (s_ret d_int) ss_nil) ss_nil) (ss_cons (s_ret (d_ite (L2.PW.pt (w_and (t_cmp (fun _ => o_ne b.hu64) (d_var N21_3 V21_3 nd__law_above nc__law_above) (d_lst a_nil) (by exact rfl)) (w_and1 (t_cmp (fun _ => o_eq b.hu64) (d_var N21_2 V21_2 nd__law_y nc__law_y) (d_ix (fun _ => o_ix b.hu1 b.hu65) (d_var N21_3 V21_3 nd__law_above nc__law_above) d_int (by (intro _ _; rfl))) (by exact rfl))))) d_int d_int)) ss_nil)))
theorem b22 {w : World} {K : PySem.W.Frag} {mg : Str → Option Value} {base : Heap} {k : Nat} {q : Str} {f : Addr} {cdv : Value} {A : Around} {outer : List PySem.Env} {s : Shared} {H : Hp} {E : XK} {W : XWS} {wx : WX} {c : CF} (Y : Fx w K mg base k c) (b : Bd tabs k (cxOf (CX P w) P w K mg base N22 q (defScope (top 31)) f cdv A outer s H E) W wx) :
    PSs (cxOf (CX P w) P w K mg base N22 q (defScope (top 31)) f cdv A outer s H E) (defBody (top 31)) (TDS ⟨K, w, P⟩ W (m22 c)) := by
  delta m22
  exact (ss_cons (s_if (t_cmp (fun _ => o_eq b.hu64) (d_var N22_1 V22_1 nd__law_move nc__law_move) d_strS (by exact rfl)) (ss_cons (s_setLc rfl S22.nd N22_4 (by exact rfl) (by exact rfl) (i_val (d_var N22_0 V22_0 nd__law_marks nc__law_marks)) (own := [(("_law_mark" : Str), 5)]) (blkB_ok (by exact rfl)) (by decide) (fun s_ H_ C_ cl_ fp_ => (g_name S22.nd N22_5 (by first | exact Or.inl rfl | exact Or.inr rfl) ((by first | exact Or.inr rfl | exact Or.inl rfl)))) (fun s_ H_ C_ cl_ fp_ => (ts_one (L2.PW.pt (w_and (t_cmp (fun _ => o_isnot) (d_var N22_3 (by first | exact Or.inl rfl | exact Or.inr (Or.inl rfl) | exact Or.inr (Or.inr rfl)) nd__law_y nc__law_y) d_non (by exact rfl)) (w_and1 (t_cmp (fun _ => o_ord (b.blk _ _ _ _ _).hu64 .ge) (d_var N22_5 (by first | exact Or.inl rfl | exact Or.inr (Or.inl rfl) | exact Or.inr (Or.inr rfl)) nd__law_mark nc__law_mark) (d_var N22_3 (by first | exact Or.inl rfl | exact Or.inr (Or.inl rfl) | exact Or.inr (Or.inr rfl)) nd__law_y nc__law_y) (by exact rfl))))))) (fun s_ H_ C_ cl_ fp_ => (d_var N22_5 (by first | exact Or.inl rfl | exact Or.inr (Or.inl rfl) | exact Or.inr (Or.inr rfl)) nd__law_mark nc__law_mark)) (by intro _; rfl)) (ss_cons (s_ret (d_ite (t_cmp (fun _ => o_ne b.hu64) (d_var N22_4 V22_4 nd__law_above nc__law_above) (d_lst a_nil) (by exact rfl)) (d_ix (fun _ => o_ix b.hu1 b.hu65) (d_var N22_4 V22_4 nd__law_above nc__law_above) d_int (by (intro _ _; rfl))) d_non)) ss_nil)) ss_nil) (ss_cons (s_if (t_cmp (fun _ => o_eq b.hu64) (d_var N22_1 V22_1 nd__law_move nc__law_move) d_strS (by exact rfl)) (ss_cons (s_ret (d_var N22_3 V22_3 nd__law_y nc__law_y)) ss_nil) ss_nil) (ss_cons (s_ret (d_ite (t_cmp (fun _ => o_eq b.hu64) (d_var N22_1 V22_1 nd__law_move nc__law_move) d_strS (by exact rfl)) (d_var N22_2 V22_2 nd__law_x nc__law_x) d_non)) ss_nil)))
theorem b23 {w : World} {K : PySem.W.Frag} {mg : Str → Option Value} {base : Heap} {k : Nat} {q : Str} {f : Addr} {cdv : Value} {A : Around} {outer : List PySem.Env} {s : Shared} {H : Hp} {E : XK} {W : XWS} {wx : WX} {c : CF} (Y : Fx w K mg base k c) (b : Bd tabs k (cxOf (CX P w) P w K mg base N23 q (defScope (top 32)) f cdv A outer s H E) W wx) :
    PSs (cxOf (CX P w) P w K mg base N23 q (defScope (top 32)) f cdv A outer s H E) (defBody (top 32)) (TDS ⟨K, w, P⟩ W (m23 c)) := by
  delta m23
  exact (ss_cons (s_asg (d_var N23_1 V23_1 nd__law_state nc__law_state) (g_tup rfl (gs_cons (g_name S23.nd N23_3 L23_3 (Or.inl rfl)) (gs_cons (g_name S23.nd N23_4 L23_4 (Or.inl rfl)) (gs_cons (g_name S23.nd N23_5 L23_5 (Or.inl rfl)) gs_nil (by exact rfl)) (by exact rfl)) (by exact rfl)) (by exact rfl) (by exact rfl)) (by exact rfl) (by exact rfl) (by exact rfl)) (ss_cons (s_if (L2.PW.pt (w_or (t_cmp (fun _ => o_is) (d_var N23_4 V23_4 nd__law_x nc__law_x) d_non (by exact rfl)) (w_or1 (L2.PW.pt (w_and (t_cmp (fun _ => o_isnot) (d_var N23_2 V23_2 nd__law_y nc__law_y) d_non (by exact rfl)) (w_and1 (t_cmp (fun _ => o_ord b.hu64 .le) (d_var N23_2 V23_2 nd__law_y nc__law_y) (d_var N23_4 V23_4 nd__law_x nc__law_x) (by exact rfl)))))))) (ss_cons (s_ret (d_tup (a_cons (d_var N23_3 V23_3 nd__law_phase nc__law_phase) (a_cons (d_var N23_4 V23_4 nd__law_x nc__law_x) (a_cons (d_var N23_4 V23_4 nd__law_x nc__law_x) a_nil (by exact rfl)) (by exact rfl)) (by exact rfl)))) ss_nil) ss_nil) (ss_cons (s_asg (d_ix (fun _ => o_ix b.hu1 b.hu65) (d_ix (fun _ => o_ix b.hu1 b.hu65) (d_ix (fun _ => o_ix b.hu1 b.hu65) (d_var N23_0 V23_0 nd__law_rule_here nc__law_rule_here) d_int (by (intro _ _; rfl))) (d_var N23_3 V23_3 nd__law_phase nc__law_phase) (by (intro _ _; rfl))) (d_cal (Y.f 21 _ _ rfl) b G23__law_case nd__law_case (a_cons (d_ix (fun _ => o_ix b.hu1 b.hu65) (d_var N23_0 V23_0 nd__law_rule_here nc__law_rule_here) d_int (by (intro _ _; rfl))) (a_cons (d_var N23_4 V23_4 nd__law_x nc__law_x) (a_cons (d_var N23_2 V23_2 nd__law_y nc__law_y) a_nil (by exact rfl)) (by exact rfl)) (by exact rfl)) (by exact rfl) (by exact rfl)) (by (intro _ _; rfl))) (g_tup rfl (gs_cons (g_name S23.nd N23_6 L23_6 (Or.inl rfl)) (gs_cons (g_name S23.nd N23_7 L23_7 (Or.inl rfl)) gs_nil (by exact rfl)) (by exact rfl)) (by exact rfl) (by exact rfl)) (by exact rfl) (by exact rfl) (by exact rfl)) (ss_cons (s_asg (d_cal (Y.f 22 _ _ rfl) b G23__law_jump nd__law_jump (a_cons (d_ix (fun _ => o_ix b.hu1 b.hu65) (d_var N23_0 V23_0 nd__law_rule_here nc__law_rule_here) d_int (by (intro _ _; rfl))) (a_cons (d_var N23_6 V23_6 nd__law_move nc__law_move) (a_cons (d_var N23_4 V23_4 nd__law_x nc__law_x) (a_cons (d_var N23_2 V23_2 nd__law_y nc__law_y) a_nil (by exact rfl)) (by exact rfl)) (by exact rfl)) (by exact rfl)) (by exact rfl) (by exact rfl)) (g_name S23.nd N23_8 L23_8 (Or.inl rfl)) (by exact rfl) (by exact rfl) (by exact rfl)) (ss_cons (s_ret (d_tup (a_cons (d_var N23_7 V23_7 nd__law_later nc__law_later) (a_cons (d_var N23_8 V23_8 nd__law_fresh nc__law_fresh) (a_cons (d_ite (t_cmp (fun _ => o_ord b.hu64 .lt) (d_cal (Y.f 20 _ _ rfl) b G23__law_key nd__law_key (a_cons (d_var N23_8 V23_8 nd__law_fresh nc__law_fresh) a_nil (by exact rfl)) (by exact rfl) (by exact rfl)) (d_cal (Y.f 20 _ _ rfl) b G23__law_key nd__law_key (a_cons (d_var N23_2 V23_2 nd__law_y nc__law_y) a_nil (by exact rfl)) (by exact rfl) (by exact rfl)) (by exact rfl)) (d_var N23_2 V23_2 nd__law_y nc__law_y) (d_var N23_8 V23_8 nd__law_fresh nc__law_fresh)) a_nil (by exact rfl)) (by exact rfl)) (by exact rfl)))) ss_nil)))))
theorem b24 {w : World} {K : PySem.W.Frag} {mg : Str → Option Value} {base : Heap} {k : Nat} {q : Str} {f : Addr} {cdv : Value} {A : Around} {outer : List PySem.Env} {s : Shared} {H : Hp} {E : XK} {W : XWS} {wx : WX} {c : CF} (Y : Fx w K mg base k c) (b : Bd tabs k (cxOf (CX P w) P w K mg base N24 q (defScope (top 33)) f cdv A outer s H E) W wx) :
    PSs (cxOf (CX P w) P w K mg base N24 q (defScope (top 33)) f cdv A outer s H E) (defBody (top 33)) (TDS ⟨K, w, P⟩ W (m24 c)) := by
  delta m24
  exact (ss_cons (s_asg (d_lst (a_cons (d_tup (a_cons d_int (a_cons (d_ix (fun _ => o_ix b.hu1 b.hu65) (d_var N24_1 V24_1 nd__law_some nc__law_some) d_int (by (intro _ _; rfl))) (a_cons (d_ix (fun _ => o_ix b.hu1 b.hu65) (d_var N24_1 V24_1 nd__law_some nc__law_some) d_int (by (intro _ _; rfl))) a_nil (by exact rfl)) (by exact rfl)) (by exact rfl))) a_nil (by exact rfl))) (g_name S24.nd N24_2 L24_2 (Or.inl rfl)) (by exact rfl) (by exact rfl) (by exact rfl)) (ss_cons (s_for b.po rfl (i_val (d_sl (d_var N24_1 V24_1 nd__law_some nc__law_some) (p_some d_int) p_none)) (g_name S24.nd N24_3 L24_3 (Or.inl rfl)) (ss_cons (s_expr (d_meth F.plainAttrs_list F.slot_list_append F.type_list_append (fun _ => m_append) (d_var N24_2 V24_2 nd__law_found nc__law_found) (a_cons (d_cal (Y.f 23 _ _ rfl) b G24__law_moved nd__law_moved (a_cons (d_var N24_0 V24_0 nd__law_rule_here nc__law_rule_here) (a_cons (d_ix (fun _ => o_ix b.hu1 b.hu65) (d_var N24_2 V24_2 nd__law_found nc__law_found) (d_neg d_int) (by (intro _ _; rfl))) (a_cons (d_var N24_3 V24_3 nd__law_y nc__law_y) a_nil (by exact rfl)) (by exact rfl)) (by exact rfl)) (by exact rfl) (by exact rfl)) a_nil (by exact rfl)) (by exact rfl) (by exact rfl) (by exact rfl) (by exact rfl) (by exact rfl)) (by exact rfl)) ss_nil) (by intro _; rfl)) (ss_cons (s_ret (d_var N24_2 V24_2 nd__law_found nc__law_found)) ss_nil)))
theorem b25 {w : World} {K : PySem.W.Frag} {mg : Str → Option Value} {base : Heap} {k : Nat} {q : Str} {f : Addr} {cdv : Value} {A : Around} {outer : List PySem.Env} {s : Shared} {H : Hp} {E : XK} {W : XWS} {wx : WX} {c : CF} (Y : Fx w K mg base k c) (b : Bd tabs k (cxOf (CX P w) P w K mg base N25 q (defScope (top 34)) f cdv A outer s H E) W wx) :
    PSs (cxOf (CX P w) P w K mg base N25 q (defScope (top 34)) f cdv A outer s H E) (defBody (top 34)) (TDS ⟨K, w, P⟩ W (m25 c)) := by
  delta m25
  exact (ss_cons (s_ret (d_callTy (fun _ => c_tuple2 rfl) G25_tuple Y.b_tuple (by rfl) (a_cons (d_lc rfl S25.nd (i_val (d_cal (Y.f 24 _ _ rfl) b G25__law_states nd__law_states (a_cons (d_var N25_0 V25_0 nd__law_rule_here nc__law_rule_here) (a_cons (d_var N25_1 V25_1 nd__law_some nc__law_some) a_nil (by exact rfl)) (by exact rfl)) (by exact rfl) (by exact rfl))) (own := [(("_law_state" : Str), 2)]) (blkB_ok (by exact rfl)) (by decide) (fun s_ H_ C_ cl_ fp_ => (g_name S25.nd N25_2 (by first | exact Or.inl rfl | exact Or.inr rfl) ((by first | exact Or.inr rfl | exact Or.inl rfl)))) (fun s_ H_ C_ cl_ fp_ => ts_nil) (fun s_ H_ C_ cl_ fp_ => (d_ix (fun _ => o_ix (b.blk _ _ _ _ _).hu1 (b.blk _ _ _ _ _).hu65) (d_var N25_2 (by first | exact Or.inl rfl | exact Or.inr (Or.inl rfl) | exact Or.inr (Or.inr rfl)) nd__law_state nc__law_state) d_int (by (intro _ _; rfl)))) (by intro _; rfl)) a_nil (by exact rfl)) (by decide) nd_tuple (by exact rfl) (by exact rfl))) ss_nil)
theorem b26 {w : World} {K : PySem.W.Frag} {mg : Str → Option Value} {base : Heap} {k : Nat} {q : Str} {f : Addr} {cdv : Value} {A : Around} {outer : List PySem.Env} {s : Shared} {H : Hp} {E : XK} {W : XWS} {wx : WX} {c : CF} (Y : Fx w K mg base k c) (b : Bd tabs k (cxOf (CX P w) P w K mg base N26 q (defScope (top 35)) f cdv A outer s H E) W wx) :
    PSs (cxOf (CX P w) P w K mg base N26 q (defScope (top 35)) f cdv A outer s H E) (defBody (top 35)) (TDS ⟨K, w, P⟩ W (m26 c)) := by
  delta m26
  exact (ss_cons (s_asg (d_tup (a_cons (d_tup (a_cons d_strS (a_cons d_int a_nil (by exact rfl)) (by exact rfl))) (a_cons (d_tup (a_cons d_strS (a_cons d_int a_nil (by exact rfl)) (by exact rfl))) (a_cons (d_tup (a_cons d_strS (a_cons d_int a_nil (by exact rfl)) (by exact rfl))) (a_cons (d_tup (a_cons d_strS (a_cons d_int a_nil (by exact rfl)) (by exact rfl))) a_nil (by exact rfl)) (by exact rfl)) (by exact rfl)) (by exact rfl))) (g_tup rfl (gs_cons (g_name S26.nd N26_1 L26_1 (Or.inl rfl)) (gs_cons (g_name S26.nd N26_2 L26_2 (Or.inl rfl)) (gs_cons (g_name S26.nd N26_3 L26_3 (Or.inl rfl)) (gs_cons (g_name S26.nd N26_4 L26_4 (Or.inl rfl)) gs_nil (by exact rfl)) (by exact rfl)) (by exact rfl)) (by exact rfl)) (by exact rfl) (by exact rfl)) (by exact rfl) (by exact rfl) (by exact rfl)) (ss_cons (s_asg (d_lst (a_cons (d_tup (a_cons (d_tup (a_cons d_int a_nil (by exact rfl))) (a_cons (d_tup (a_cons (d_tup (a_cons (d_var N26_3 V26_3 nd__law_one nc__law_one) (a_cons (d_var N26_1 V26_1 nd__law_take nc__law_take) (a_cons (d_var N26_2 V26_2 nd__law_out nc__law_out) a_nil (by exact rfl)) (by exact rfl)) (by exact rfl))) (a_cons (d_tup (a_cons (d_tup (a_cons d_strS (a_cons d_int a_nil (by exact rfl)) (by exact rfl))) (a_cons (d_var N26_1 V26_1 nd__law_take nc__law_take) (a_cons (d_var N26_2 V26_2 nd__law_out nc__law_out) a_nil (by exact rfl)) (by exact rfl)) (by exact rfl))) a_nil (by exact rfl)) (by exact rfl))) a_nil (by exact rfl)) (by exact rfl))) (a_cons (d_tup (a_cons (d_tup (a_cons d_int a_nil (by exact rfl))) (a_cons (d_tup (a_cons (d_tup (a_cons (d_tup (a_cons d_strS (a_cons d_int a_nil (by exact rfl)) (by exact rfl))) (a_cons (d_var N26_1 V26_1 nd__law_take nc__law_take) (a_cons (d_var N26_2 V26_2 nd__law_out nc__law_out) a_nil (by exact rfl)) (by exact rfl)) (by exact rfl))) a_nil (by exact rfl))) a_nil (by exact rfl)) (by exact rfl))) a_nil (by exact rfl)) (by exact rfl))) (g_name S26.nd N26_5 L26_5 (Or.inl rfl)) (by exact rfl) (by exact rfl) (by exact rfl)) (ss_cons (s_expr (d_meth F.plainAttrs_list F.slot_list_extend F.type_list_extend (fun _ => m_extend) (d_var N26_5 V26_5 nd__law_some nc__law_some) (a_cons (d_lst (a_cons (d_tup (a_cons (d_tup (a_cons d_int (a_cons d_int a_nil (by exact rfl)) (by exact rfl))) (a_cons (d_tup (a_cons (d_tup (a_cons (d_var N26_3 V26_3 nd__law_one nc__law_one) (a_cons (d_var N26_3 V26_3 nd__law_one nc__law_one) (a_cons (d_var N26_4 V26_4 nd__law_two_here nc__law_two_here) a_nil (by exact rfl)) (by exact rfl)) (by exact rfl))) (a_cons (d_tup (a_cons (d_tup (a_cons d_strS (a_cons d_int a_nil (by exact rfl)) (by exact rfl))) (a_cons (d_var N26_3 V26_3 nd__law_one nc__law_one) (a_cons (d_var N26_4 V26_4 nd__law_two_here nc__law_two_here) a_nil (by exact rfl)) (by exact rfl)) (by exact rfl))) (a_cons (d_bin (fun _ => o_mul) (d_tup (a_cons (d_tup (a_cons d_strS (a_cons d_int a_nil (by exact rfl)) (by exact rfl))) a_nil (by exact rfl))) d_int) a_nil (by exact rfl)) (by exact rfl)) (by exact rfl))) a_nil (by exact rfl)) (by exact rfl))) (a_cons (d_tup (a_cons (d_tup a_nil) (a_cons (d_tup (a_cons (d_bin (fun _ => o_mul) (d_tup (a_cons (d_var N26_1 V26_1 nd__law_take nc__law_take) a_nil (by exact rfl))) d_int) a_nil (by exact rfl))) a_nil (by exact rfl)) (by exact rfl))) a_nil (by exact rfl)) (by exact rfl))) a_nil (by exact rfl)) (by exact rfl) (by exact rfl) (by exact rfl) (by exact rfl) (by exact rfl)) (by exact rfl)) (ss_cons (s_expr (d_meth F.plainAttrs_list F.slot_list_append F.type_list_append (fun _ => m_append) (d_var N26_5 V26_5 nd__law_some nc__law_some) (a_cons (d_tup (a_cons (d_tup (a_cons d_int (a_cons d_int a_nil (by exact rfl)) (by exact rfl))) (a_cons (d_tup (a_cons (d_tup (a_cons (d_var N26_3 V26_3 nd__law_one nc__law_one) (a_cons (d_var N26_3 V26_3 nd__law_one nc__law_one) (a_cons (d_tup (a_cons d_strS (a_cons d_int a_nil (by exact rfl)) (by exact rfl))) a_nil (by exact rfl)) (by exact rfl)) (by exact rfl))) (a_cons (d_tup (a_cons (d_tup (a_cons d_strS (a_cons d_int a_nil (by exact rfl)) (by exact rfl))) (a_cons (d_var N26_3 V26_3 nd__law_one nc__law_one) (a_cons (d_var N26_3 V26_3 nd__law_one nc__law_one) a_nil (by exact rfl)) (by exact rfl)) (by exact rfl))) a_nil (by exact rfl)) (by exact rfl))) a_nil (by exact rfl)) (by exact rfl))) a_nil (by exact rfl)) (by exact rfl) (by exact rfl) (by exact rfl) (by exact rfl) (by exact rfl)) (by exact rfl)) (ss_cons (s_expr (d_meth F.plainAttrs_list F.slot_list_append F.type_list_append (fun _ => m_append) (d_var N26_5 V26_5 nd__law_some nc__law_some) (a_cons (d_tup (a_cons (d_tup (a_cons d_int a_nil (by exact rfl))) (a_cons (d_tup (a_cons (d_tup (a_cons (d_tup (a_cons d_strS (a_cons d_int a_nil (by exact rfl)) (by exact rfl))) (a_cons (d_tup (a_cons d_strS (a_cons d_int a_nil (by exact rfl)) (by exact rfl))) (a_cons (d_tup (a_cons d_strS (a_cons d_int a_nil (by exact rfl)) (by exact rfl))) a_nil (by exact rfl)) (by exact rfl)) (by exact rfl))) (a_cons (d_tup (a_cons (d_var N26_1 V26_1 nd__law_take nc__law_take) (a_cons (d_var N26_2 V26_2 nd__law_out nc__law_out) (a_cons (d_var N26_1 V26_1 nd__law_take nc__law_take) a_nil (by exact rfl)) (by exact rfl)) (by exact rfl))) a_nil (by exact rfl)) (by exact rfl))) a_nil (by exact rfl)) (by exact rfl))) a_nil (by exact rfl)) (by exact rfl) (by exact rfl) (by exact rfl) (by exact rfl) (by exact rfl)) (by exact rfl)) (ss_cons (s_expr (d_meth F.plainAttrs_list F.slot_list_append F.type_list_append (fun _ => m_append) (d_var N26_5 V26_5 nd__law_some nc__law_some) (a_cons (d_tup (a_cons (d_tup (a_cons d_int (a_cons d_int a_nil (by exact rfl)) (by exact rfl))) (a_cons (d_tup (a_cons (d_tup (a_cons (d_tup (a_cons d_strS (a_cons d_int a_nil (by exact rfl)) (by exact rfl))) (a_cons (d_tup (a_cons d_strS (a_cons d_int a_nil (by exact rfl)) (by exact rfl))) (a_cons (d_tup (a_cons d_strS (a_cons d_int a_nil (by exact rfl)) (by exact rfl))) a_nil (by exact rfl)) (by exact rfl)) (by exact rfl))) a_nil (by exact rfl))) a_nil (by exact rfl)) (by exact rfl))) a_nil (by exact rfl)) (by exact rfl) (by exact rfl) (by exact rfl) (by exact rfl) (by exact rfl)) (by exact rfl)) (ss_cons (s_expr (d_meth F.plainAttrs_list F.slot_list_append F.type_list_append (fun _ => m_append) (d_var N26_5 V26_5 nd__law_some nc__law_some) (a_cons (d_tup (a_cons (d_tup (a_cons d_int a_nil (by exact rfl))) (a_cons (d_tup (a_cons (d_tup (a_cons (d_tup (a_cons d_strS (a_cons d_int a_nil (by exact rfl)) (by exact rfl))) (a_cons (d_var N26_1 V26_1 nd__law_take nc__law_take) (a_cons (d_var N26_2 V26_2 nd__law_out nc__law_out) a_nil (by exact rfl)) (by exact rfl)) (by exact rfl))) (a_cons (d_tup (a_cons (d_var N26_2 V26_2 nd__law_out nc__law_out) (a_cons (d_var N26_2 V26_2 nd__law_out nc__law_out) (a_cons (d_var N26_2 V26_2 nd__law_out nc__law_out) a_nil (by exact rfl)) (by exact rfl)) (by exact rfl))) a_nil (by exact rfl)) (by exact rfl))) a_nil (by exact rfl)) (by exact rfl))) a_nil (by exact rfl)) (by exact rfl) (by exact rfl) (by exact rfl) (by exact rfl) (by exact rfl)) (by exact rfl)) (ss_cons (s_ret (d_cal (Y.f 19 _ _ rfl) b G26__law_any nd__law_any (a_cons (d_var N26_0 V26_0 nd__law_feed_here nc__law_feed_here) (a_cons (d_var N26_5 V26_5 nd__law_some nc__law_some) a_nil (by exact rfl)) (by exact rfl)) (by exact rfl) (by exact rfl))) ss_nil))))))))
theorem b27 {w : World} {K : PySem.W.Frag} {mg : Str → Option Value} {base : Heap} {k : Nat} {q : Str} {f : Addr} {cdv : Value} {A : Around} {outer : List PySem.Env} {s : Shared} {H : Hp} {E : XK} {W : XWS} {wx : WX} {c : CF} (Y : Fx w K mg base k c) (b : Bd tabs k (cxOf (CX P w) P w K mg base N27 q (defScope (top 36)) f cdv A outer s H E) W wx) :
    PSs (cxOf (CX P w) P w K mg base N27 q (defScope (top 36)) f cdv A outer s H E) (defBody (top 36)) (TDS ⟨K, w, P⟩ W (m27 c)) := by
  delta m27
  exact (ss_cons (s_asg (d_cal (Y.f 19 _ _ rfl) b G27__law_any nd__law_any (a_cons (d_var N27_0 V27_0 nd__law_feed_here nc__law_feed_here) (a_cons (d_lst (a_cons d_strS (a_cons d_strS (a_cons d_strS (a_cons d_strS (a_cons d_strS (a_cons d_strS a_nil (by exact rfl)) (by exact rfl)) (by exact rfl)) (by exact rfl)) (by exact rfl)) (by exact rfl))) a_nil (by exact rfl)) (by exact rfl)) (by exact rfl) (by exact rfl)) (g_name S27.nd N27_2 L27_2 (Or.inl rfl)) (by exact rfl) (by exact rfl) (by exact rfl)) (ss_cons (s_ret (d_tup (a_cons (d_var N27_2 V27_2 nd__law_move nc__law_move) (a_cons (d_cal (Y.f 18 _ _ rfl) b G27__law_draw nd__law_draw (a_cons (d_var N27_0 V27_0 nd__law_feed_here nc__law_feed_here) (a_cons (d_var N27_1 V27_1 nd__law_many nc__law_many) a_nil (by exact rfl)) (by exact rfl)) (by exact rfl) (by exact rfl)) a_nil (by exact rfl)) (by exact rfl)))) ss_nil))
theorem b28 {w : World} {K : PySem.W.Frag} {mg : Str → Option Value} {base : Heap} {k : Nat} {q : Str} {f : Addr} {cdv : Value} {A : Around} {outer : List PySem.Env} {s : Shared} {H : Hp} {E : XK} {W : XWS} {wx : WX} {c : CF} (Y : Fx w K mg base k c) (b : Bd tabs k (cxOf (CX P w) P w K mg base N28 q (defScope (top 37)) f cdv A outer s H E) W wx) :
    PSs (cxOf (CX P w) P w K mg base N28 q (defScope (top 37)) f cdv A outer s H E) (defBody (top 37)) (TDS ⟨K, w, P⟩ W (m28 c)) := by
  delta m28
  exact (ss_cons (s_if (t_cmp (fun _ => o_eq b.hu64) (d_cal (Y.f 18 _ _ rfl) b G28__law_draw nd__law_draw (a_cons (d_var N28_0 V28_0 nd__law_feed_here nc__law_feed_here) (a_cons d_int a_nil (by exact rfl)) (by exact rfl)) (by exact rfl) (by exact rfl)) d_int (by exact rfl)) (ss_cons (s_ret (d_cal (Y.f 26 _ _ rfl) b G28__law_hand nd__law_hand (a_cons (d_var N28_0 V28_0 nd__law_feed_here nc__law_feed_here) a_nil (by exact rfl)) (by exact rfl) (by exact rfl))) ss_nil) ss_nil) (ss_cons (s_asg (d_tup (a_cons (d_bin (fun _ => o_add) d_int (d_cal (Y.f 18 _ _ rfl) b G28__law_draw nd__law_draw (a_cons (d_var N28_0 V28_0 nd__law_feed_here nc__law_feed_here) (a_cons (d_var N28_1 V28_1 nd__law_most nc__law_most) a_nil (by exact rfl)) (by exact rfl)) (by exact rfl) (by exact rfl))) (a_cons (d_lc rfl S28.nd (i_rng1 G28_range Y.b_range (a_cons d_int a_nil (by exact rfl)) (by exact rfl)) (own := [(("_law_k" : Str), 5)]) (blkB_ok (by exact rfl)) (by decide) (fun s_ H_ C_ cl_ fp_ => (g_name S28.nd N28_5 (by first | exact Or.inl rfl | exact Or.inr rfl) ((by first | exact Or.inr rfl | exact Or.inl rfl)))) (fun s_ H_ C_ cl_ fp_ => (ts_one (t_cmp (fun _ => o_eq (b.blk _ _ _ _ _).hu64) (d_cal (Y.f 18 _ _ rfl) (b.blk _ _ _ _ _) (by exact rfl) nd__law_draw (a_cons (d_var N28_0 (by first | exact Or.inl rfl | exact Or.inr (Or.inl rfl) | exact Or.inr (Or.inr rfl)) nd__law_feed_here nc__law_feed_here) (a_cons d_int a_nil (by exact rfl)) (by exact rfl)) (by exact rfl) (by exact rfl)) d_int (by exact rfl)))) (fun s_ H_ C_ cl_ fp_ => (d_var N28_5 (by first | exact Or.inl rfl | exact Or.inr (Or.inl rfl) | exact Or.inr (Or.inr rfl)) nd__law_k nc__law_k)) (by intro _; rfl)) a_nil (by exact rfl)) (by exact rfl))) (g_tup rfl (gs_cons (g_name S28.nd N28_2 L28_2 (Or.inl rfl)) (gs_cons (g_name S28.nd N28_3 L28_3 (Or.inl rfl)) gs_nil (by exact rfl)) (by exact rfl)) (by exact rfl) (by exact rfl)) (by exact rfl) (by exact rfl) (by exact rfl)) (ss_cons (s_setLc rfl S28.nd N28_4 (by exact rfl) (by exact rfl) (i_rng1 G28_range Y.b_range (a_cons (d_var N28_2 V28_2 nd__law_many nc__law_many) a_nil (by exact rfl)) (by exact rfl)) (own := [(("_law_k" : Str), 5)]) (blkB_ok (by exact rfl)) (by decide) (fun s_ H_ C_ cl_ fp_ => (g_name S28.nd N28_5 (by first | exact Or.inl rfl | exact Or.inr rfl) ((by first | exact Or.inr rfl | exact Or.inl rfl)))) (fun s_ H_ C_ cl_ fp_ => ts_nil) (fun s_ H_ C_ cl_ fp_ => (d_callTy (fun _ => c_tuple2 rfl) (by exact rfl) Y.b_tuple (by rfl) (a_cons (d_lc rfl S28.nd (i_rng1 (by exact rfl) Y.b_range (a_cons d_int a_nil (by exact rfl)) (by exact rfl)) (own := [(("_law_case_here" : Str), 6)]) (blkB_ok (by exact rfl)) (by decide) (fun s_ H_ C_ cl_ fp_ => (g_name S28.nd N28_6 (by first | exact Or.inl rfl | exact Or.inr rfl) ((by first | exact Or.inr rfl | exact Or.inl rfl)))) (fun s_ H_ C_ cl_ fp_ => ts_nil) (fun s_ H_ C_ cl_ fp_ => (d_cal (Y.f 27 _ _ rfl) ((b.blk _ _ _ _ _).blk _ _ _ _ _) (by exact rfl) nd__law_pair (a_cons (d_var N28_0 (by first | exact Or.inl rfl | exact Or.inr (Or.inl rfl) | exact Or.inr (Or.inr rfl)) nd__law_feed_here nc__law_feed_here) (a_cons (d_var N28_2 (by first | exact Or.inl rfl | exact Or.inr (Or.inl rfl) | exact Or.inr (Or.inr rfl)) nd__law_many nc__law_many) a_nil (by exact rfl)) (by exact rfl)) (by exact rfl) (by exact rfl))) (by intro _; rfl)) a_nil (by exact rfl)) (by decide) nd_tuple (by exact rfl) (by exact rfl))) (by intro _; rfl)) (ss_cons (s_ret (d_tup (a_cons (d_callTy (fun _ => c_tuple2 rfl) G28_tuple Y.b_tuple (by rfl) (a_cons (d_sl (d_var N28_3 V28_3 nd__law_marks nc__law_marks) p_none (p_some d_int)) a_nil (by exact rfl)) (by decide) nd_tuple (by exact rfl) (by exact rfl)) (a_cons (d_callTy (fun _ => c_tuple2 rfl) G28_tuple Y.b_tuple (by rfl) (a_cons (d_var N28_4 V28_4 nd__law_phases nc__law_phases) a_nil (by exact rfl)) (by decide) nd_tuple (by exact rfl) (by exact rfl)) a_nil (by exact rfl)) (by exact rfl)))) ss_nil))))
theorem b29 {w : World} {K : PySem.W.Frag} {mg : Str → Option Value} {base : Heap} {k : Nat} {q : Str} {f : Addr} {cdv : Value} {A : Around} {outer : List PySem.Env} {s : Shared} {H : Hp} {E : XK} {W : XWS} {wx : WX} {c : CF} (Y : Fx w K mg base k c) (b : Bd tabs k (cxOf (CX P w) P w K mg base N29 q (defScope (top 38)) f cdv A outer s H E) W wx) :
    PSs (cxOf (CX P w) P w K mg base N29 q (defScope (top 38)) f cdv A outer s H E) (defBody (top 38)) (TDS ⟨K, w, P⟩ W (m29 c)) := by
  delta m29
  exact (ss_cons (s_asg (d_var N29_1 V29_1 nd__law_rule_here nc__law_rule_here) (g_tup rfl (gs_cons (g_name S29.nd N29_2 L29_2 (Or.inl rfl)) (gs_cons (g_name S29.nd N29_3 L29_3 (Or.inl rfl)) gs_nil (by exact rfl)) (by exact rfl)) (by exact rfl) (by exact rfl)) (by exact rfl) (by exact rfl) (by exact rfl)) (ss_cons (s_par3 rfl S29.nd N29_4 N29_5 N29_6 (by decide) (by decide) (by decide) (by exact rfl) (by exact rfl) (by exact rfl) (a_cons (d_cal (Y.f 18 _ _ rfl) b G29__law_draw nd__law_draw (a_cons (d_var N29_0 V29_0 nd__law_feed_here nc__law_feed_here) (a_cons d_int a_nil (by exact rfl)) (by exact rfl)) (by exact rfl) (by exact rfl)) (a_cons (d_cal (Y.f 18 _ _ rfl) b G29__law_draw nd__law_draw (a_cons (d_var N29_0 V29_0 nd__law_feed_here nc__law_feed_here) (a_cons (d_callB (fun _ => c_len2) G29_len Y.b_len (by rfl) (a_cons (d_var N29_3 V29_3 nd__law_phases nc__law_phases) a_nil (by exact rfl)) (by decide) nd_len (by exact rfl) (by exact rfl)) a_nil (by exact rfl)) (by exact rfl)) (by exact rfl) (by exact rfl)) (a_cons (d_cal (Y.f 18 _ _ rfl) b G29__law_draw nd__law_draw (a_cons (d_var N29_0 V29_0 nd__law_feed_here nc__law_feed_here) (a_cons d_int a_nil (by exact rfl)) (by exact rfl)) (by exact rfl) (by exact rfl)) a_nil (by exact rfl)) (by exact rfl)) (by exact rfl)) (by exact rfl) (by exact rfl)) (ss_cons (s_if (L2.PW.pt (w_and (t_cmp (fun _ => o_eq b.hu64) (d_var N29_4 V29_4 nd__law_turn nc__law_turn) d_int (by exact rfl)) (w_and1 (t_cmp (fun _ => o_ord b.hu64 .lt) (d_callB (fun _ => c_len2) G29_len Y.b_len (by rfl) (a_cons (d_var N29_2 V29_2 nd__law_marks nc__law_marks) a_nil (by exact rfl)) (by decide) nd_len (by exact rfl) (by exact rfl)) d_int (by exact rfl))))) (ss_cons (s_asg (d_cal (Y.f 18 _ _ rfl) b G29__law_draw nd__law_draw (a_cons (d_var N29_0 V29_0 nd__law_feed_here nc__law_feed_here) (a_cons d_int a_nil (by exact rfl)) (by exact rfl)) (by exact rfl) (by exact rfl)) (g_name S29.nd N29_7 L29_7 (Or.inl rfl)) (by exact rfl) (by exact rfl) (by exact rfl)) (ss_cons (s_ret (d_tup (a_cons (d_callTy (fun _ => c_tuple2 rfl) G29_tuple Y.b_tuple (by rfl) (a_cons (d_sortSet rfl G29_sorted Y.b_sorted G29_set Y.b_set (d_bin (fun _ => o_add) (d_lst (a_cons (d_var N29_7 V29_7 nd__law_mark nc__law_mark) a_nil (by exact rfl))) (d_callTy (fun _ => c_list2 rfl) G29_list Y.b_list (by rfl) (a_cons (d_var N29_2 V29_2 nd__law_marks nc__law_marks) a_nil (by exact rfl)) (by decide) nd_list (by exact rfl) (by exact rfl))) (by exact rfl) (by exact rfl) (by exact rfl) (by exact rfl)) a_nil (by exact rfl)) (by decide) nd_tuple (by exact rfl) (by exact rfl)) (a_cons (d_var N29_3 V29_3 nd__law_phases nc__law_phases) a_nil (by exact rfl)) (by exact rfl)))) ss_nil)) ss_nil) (ss_cons (s_if (L2.PW.pt (w_and (t_cmp (fun _ => o_eq b.hu64) (d_var N29_4 V29_4 nd__law_turn nc__law_turn) d_int (by exact rfl)) (w_and1 (t_cmp (fun _ => o_ne b.hu64) (d_var N29_2 V29_2 nd__law_marks nc__law_marks) (d_tup a_nil) (by exact rfl))))) (ss_cons (s_asg (d_cal (Y.f 18 _ _ rfl) b G29__law_draw nd__law_draw (a_cons (d_var N29_0 V29_0 nd__law_feed_here nc__law_feed_here) (a_cons (d_callB (fun _ => c_len2) G29_len Y.b_len (by rfl) (a_cons (d_var N29_2 V29_2 nd__law_marks nc__law_marks) a_nil (by exact rfl)) (by decide) nd_len (by exact rfl) (by exact rfl)) a_nil (by exact rfl)) (by exact rfl)) (by exact rfl) (by exact rfl)) (g_name S29.nd N29_8 L29_8 (Or.inl rfl)) (by exact rfl) (by exact rfl) (by exact rfl)) (ss_cons (s_ret (d_tup (a_cons (d_bin (fun _ => o_add) (d_sl (d_var N29_2 V29_2 nd__law_marks nc__law_marks) p_none (p_some (d_var N29_8 V29_8 nd__law_j nc__law_j))) (d_sl (d_var N29_2 V29_2 nd__law_marks nc__law_marks) (p_some (d_bin (fun _ => o_add) (d_var N29_8 V29_8 nd__law_j nc__law_j) d_int)) p_none)) (a_cons (d_var N29_3 V29_3 nd__law_phases nc__law_phases) a_nil (by exact rfl)) (by exact rfl)))) ss_nil)) ss_nil) (ss_cons (s_asg (d_ix (fun _ => o_ix b.hu1 b.hu65) (d_var N29_3 V29_3 nd__law_phases nc__law_phases) (d_var N29_5 V29_5 nd__law_k nc__law_k) (by (intro _ _; rfl))) (g_name S29.nd N29_9 L29_9 (Or.inl rfl)) (by exact rfl) (by exact rfl) (by exact rfl)) (ss_cons (s_asg (d_bin (fun _ => o_add) (d_bin (fun _ => o_add) (d_sl (d_var N29_9 V29_9 nd__law_pairs nc__law_pairs) p_none (p_some (d_var N29_6 V29_6 nd__law_case_here nc__law_case_here))) (d_tup (a_cons (d_cal (Y.f 27 _ _ rfl) b G29__law_pair nd__law_pair (a_cons (d_var N29_0 V29_0 nd__law_feed_here nc__law_feed_here) (a_cons (d_callB (fun _ => c_len2) G29_len Y.b_len (by rfl) (a_cons (d_var N29_3 V29_3 nd__law_phases nc__law_phases) a_nil (by exact rfl)) (by decide) nd_len (by exact rfl) (by exact rfl)) a_nil (by exact rfl)) (by exact rfl)) (by exact rfl) (by exact rfl)) a_nil (by exact rfl)))) (d_sl (d_var N29_9 V29_9 nd__law_pairs nc__law_pairs) (p_some (d_bin (fun _ => o_add) (d_var N29_6 V29_6 nd__law_case_here nc__law_case_here) d_int)) p_none)) (g_name S29.nd N29_9 L29_9 (Or.inl rfl)) (by exact rfl) (by exact rfl) (by exact rfl)) (ss_cons (s_ret (d_tup (a_cons (d_var N29_2 V29_2 nd__law_marks nc__law_marks) (a_cons (d_bin (fun _ => o_add) (d_bin (fun _ => o_add) (d_sl (d_var N29_3 V29_3 nd__law_phases nc__law_phases) p_none (p_some (d_var N29_5 V29_5 nd__law_k nc__law_k))) (d_tup (a_cons (d_var N29_9 V29_9 nd__law_pairs nc__law_pairs) a_nil (by exact rfl)))) (d_sl (d_var N29_3 V29_3 nd__law_phases nc__law_phases) (p_some (d_bin (fun _ => o_add) (d_var N29_5 V29_5 nd__law_k nc__law_k) d_int)) p_none)) a_nil (by exact rfl)) (by exact rfl)))) ss_nil)))))))
theorem b30 {w : World} {K : PySem.W.Frag} {mg : Str → Option Value} {base : Heap} {k : Nat} {q : Str} {f : Addr} {cdv : Value} {A : Around} {outer : List PySem.Env} {s : Shared} {H : Hp} {E : XK} {W : XWS} {wx : WX} {c : CF} (Y : Fx w K mg base k c) (b : Bd tabs k (cxOf (CX P w) P w K mg base N30 q (defScope (top 39)) f cdv A outer s H E) W wx) :
    PSs (cxOf (CX P w) P w K mg base N30 q (defScope (top 39)) f cdv A outer s H E) (defBody (top 39)) (TDS ⟨K, w, P⟩ W (m30 c)) := by
  delta m30
  exact (ss_cons (s_asg (d_cal (Y.f 28 _ _ rfl) b G30__law_rule nd__law_rule (a_cons (d_var N30_0 V30_0 nd__law_feed_here nc__law_feed_here) (a_cons (d_var N30_1 V30_1 nd__law_most nc__law_most) a_nil (by exact rfl)) (by exact rfl)) (by exact rfl) (by exact rfl)) (g_name S30.nd N30_2 L30_2 (Or.inl rfl)) (by exact rfl) (by exact rfl) (by exact rfl)) (ss_cons (s_ret (d_tup (a_cons (d_var N30_2 V30_2 nd__law_rule_here nc__law_rule_here) (a_cons (d_ite (t_cmp (fun _ => o_ord b.hu64 .gt) (d_cal (Y.f 18 _ _ rfl) b G30__law_draw nd__law_draw (a_cons (d_var N30_0 V30_0 nd__law_feed_here nc__law_feed_here) (a_cons d_int a_nil (by exact rfl)) (by exact rfl)) (by exact rfl) (by exact rfl)) d_int (by exact rfl)) (d_cal (Y.f 29 _ _ rfl) b G30__law_changed nd__law_changed (a_cons (d_var N30_0 V30_0 nd__law_feed_here nc__law_feed_here) (a_cons (d_var N30_2 V30_2 nd__law_rule_here nc__law_rule_here) a_nil (by exact rfl)) (by exact rfl)) (by exact rfl) (by exact rfl)) (d_cal (Y.f 28 _ _ rfl) b G30__law_rule nd__law_rule (a_cons (d_var N30_0 V30_0 nd__law_feed_here nc__law_feed_here) (a_cons (d_var N30_1 V30_1 nd__law_most nc__law_most) a_nil (by exact rfl)) (by exact rfl)) (by exact rfl) (by exact rfl))) a_nil (by exact rfl)) (by exact rfl)))) ss_nil))
theorem b31 {w : World} {K : PySem.W.Frag} {mg : Str → Option Value} {base : Heap} {k : Nat} {q : Str} {f : Addr} {cdv : Value} {A : Around} {outer : List PySem.Env} {s : Shared} {H : Hp} {E : XK} {W : XWS} {wx : WX} {c : CF} (Y : Fx w K mg base k c) (b : Bd tabs k (cxOf (CX P w) P w K mg base N31 q (defScope (top 40)) f cdv A outer s H E) W wx) :
    PSs (cxOf (CX P w) P w K mg base N31 q (defScope (top 40)) f cdv A outer s H E) (defBody (top 40)) (TDS ⟨K, w, P⟩ W (m31 c)) := by
  delta m31
  exact (ss_cons (s_asg (d_lst a_nil) (g_name S31.nd N31_2 L31_2 (Or.inl rfl)) (by exact rfl) (by exact rfl) (by exact rfl)) (ss_cons (s_for b.po rfl (i_val (d_var N31_1 V31_1 nd__law_order nc__law_order)) (g_name S31.nd N31_3 L31_3 (Or.inl rfl)) (ss_cons (s_expr (d_meth F.plainAttrs_list F.slot_list_append F.type_list_append (fun _ => m_append) (d_var N31_2 V31_2 nd__law_phases nc__law_phases) (a_cons (d_callTy (fun _ => c_tuple2 rfl) G31_tuple Y.b_tuple (by rfl) (a_cons (d_lc rfl S31.nd (i_val (d_ix (fun _ => o_ix b.hu1 b.hu65) (d_ix (fun _ => o_ix b.hu1 b.hu65) (d_var N31_0 V31_0 nd__law_rule_here nc__law_rule_here) d_int (by (intro _ _; rfl))) (d_var N31_3 V31_3 nd__law_k nc__law_k) (by (intro _ _; rfl)))) (own := [(("_law_move" : Str), 4), (("_law_later" : Str), 5)]) (blkB_ok (by exact rfl)) (by decide) (fun s_ H_ C_ cl_ fp_ => (g_tup rfl (gs_cons (g_name S31.nd N31_4 (by first | exact Or.inl rfl | exact Or.inr rfl) ((by first | exact Or.inr rfl | exact Or.inl rfl))) (gs_cons (g_name S31.nd N31_5 (by first | exact Or.inl rfl | exact Or.inr rfl) ((by first | exact Or.inr rfl | exact Or.inl rfl))) gs_nil (by exact rfl)) (by exact rfl)) (by exact rfl) (by exact rfl))) (fun s_ H_ C_ cl_ fp_ => ts_nil) (fun s_ H_ C_ cl_ fp_ => (d_tup (a_cons (d_var N31_4 (by first | exact Or.inl rfl | exact Or.inr (Or.inl rfl) | exact Or.inr (Or.inr rfl)) nd__law_move nc__law_move) (a_cons (d_meth F.plainAttrs_list F.slot_list_index F.type_list_index (fun _ => m_index (b.blk _ _ _ _ _).hu65) (d_var N31_1 (by first | exact Or.inl rfl | exact Or.inr (Or.inl rfl) | exact Or.inr (Or.inr rfl)) nd__law_order nc__law_order) (a_cons (d_var N31_5 (by first | exact Or.inl rfl | exact Or.inr (Or.inl rfl) | exact Or.inr (Or.inr rfl)) nd__law_later nc__law_later) a_nil (by exact rfl)) (by exact rfl) (by exact rfl) (by exact rfl) (by exact rfl) (by exact rfl)) a_nil (by exact rfl)) (by exact rfl)))) (by intro _; rfl)) a_nil (by exact rfl)) (by decide) nd_tuple (by exact rfl) (by exact rfl)) a_nil (by exact rfl)) (by exact rfl) (by exact rfl) (by exact rfl) (by exact rfl) (by exact rfl)) (by exact rfl)) ss_nil) (by intro _; rfl)) (ss_cons (s_ret (d_tup (a_cons (d_ix (fun _ => o_ix b.hu1 b.hu65) (d_var N31_0 V31_0 nd__law_rule_here nc__law_rule_here) d_int (by (intro _ _; rfl))) (a_cons (d_callTy (fun _ => c_tuple2 rfl) G31_tuple Y.b_tuple (by rfl) (a_cons (d_var N31_2 V31_2 nd__law_phases nc__law_phases) a_nil (by exact rfl)) (by decide) nd_tuple (by exact rfl) (by exact rfl)) a_nil (by exact rfl)) (by exact rfl)))) ss_nil)))
theorem b32 {w : World} {K : PySem.W.Frag} {mg : Str → Option Value} {base : Heap} {k : Nat} {q : Str} {f : Addr} {cdv : Value} {A : Around} {outer : List PySem.Env} {s : Shared} {H : Hp} {E : XK} {W : XWS} {wx : WX} {c : CF} (Y : Fx w K mg base k c) (b : Bd tabs k (cxOf (CX P w) P w K mg base N32 q (defScope (top 41)) f cdv A outer s H E) W wx) :
    PSs (cxOf (CX P w) P w K mg base N32 q (defScope (top 41)) f cdv A outer s H E) (defBody (top 41)) (TDS ⟨K, w, P⟩ W (m32 c)) := by
  delta m32
  exact (ss_cons (s_asg (d_var N32_1 V32_1 nd__law_rule_here nc__law_rule_here) (g_tup rfl (gs_cons (g_name S32.nd N32_2 L32_2 (Or.inl rfl)) (gs_cons (g_name S32.nd N32_3 L32_3 (Or.inl rfl)) gs_nil (by exact rfl)) (by exact rfl)) (by exact rfl) (by exact rfl)) (by exact rfl) (by exact rfl) (by exact rfl)) (ss_cons (s_asg (d_callB (fun _ => c_len2) G32_len Y.b_len (by rfl) (a_cons (d_var N32_3 V32_3 nd__law_phases nc__law_phases) a_nil (by exact rfl)) (by decide) nd_len (by exact rfl) (by exact rfl)) (g_name S32.nd N32_4 L32_4 (Or.inl rfl)) (by exact rfl) (by exact rfl) (by exact rfl)) (ss_cons (s_asg (d_ite (t_cmp (fun _ => o_ord b.hu64 .gt) (d_var N32_4 V32_4 nd__law_many nc__law_many) d_int (by exact rfl)) (d_bin (fun _ => o_add) d_int (d_cal (Y.f 18 _ _ rfl) b G32__law_draw nd__law_draw (a_cons (d_var N32_0 V32_0 nd__law_feed_here nc__law_feed_here) (a_cons d_int a_nil (by exact rfl)) (by exact rfl)) (by exact rfl) (by exact rfl))) (d_cal (Y.f 18 _ _ rfl) b G32__law_draw nd__law_draw (a_cons (d_var N32_0 V32_0 nd__law_feed_here nc__law_feed_here) (a_cons d_int a_nil (by exact rfl)) (by exact rfl)) (by exact rfl) (by exact rfl))) (g_name S32.nd N32_5 L32_5 (Or.inl rfl)) (by exact rfl) (by exact rfl) (by exact rfl)) (ss_cons (s_if (t_cmp (fun _ => o_eq b.hu64) (d_var N32_5 V32_5 nd__law_turn nc__law_turn) d_int (by exact rfl)) (ss_cons (s_ret (d_tup (a_cons (d_var N32_2 V32_2 nd__law_marks nc__law_marks) (a_cons (d_bin (fun _ => o_add) (d_var N32_3 V32_3 nd__law_phases nc__law_phases) (d_tup (a_cons (d_callTy (fun _ => c_tuple2 rfl) G32_tuple Y.b_tuple (by rfl) (a_cons (d_lc rfl S32.nd (i_rng1 G32_range Y.b_range (a_cons d_int a_nil (by exact rfl)) (by exact rfl)) (own := [(("_law_case_here" : Str), 10)]) (blkB_ok (by exact rfl)) (by decide) (fun s_ H_ C_ cl_ fp_ => (g_name S32.nd N32_10 (by first | exact Or.inl rfl | exact Or.inr rfl) ((by first | exact Or.inr rfl | exact Or.inl rfl)))) (fun s_ H_ C_ cl_ fp_ => ts_nil) (fun s_ H_ C_ cl_ fp_ => (d_cal (Y.f 27 _ _ rfl) (b.blk _ _ _ _ _) (by exact rfl) nd__law_pair (a_cons (d_var N32_0 (by first | exact Or.inl rfl | exact Or.inr (Or.inl rfl) | exact Or.inr (Or.inr rfl)) nd__law_feed_here nc__law_feed_here) (a_cons (d_bin (fun _ => o_add) (d_var N32_4 (by first | exact Or.inl rfl | exact Or.inr (Or.inl rfl) | exact Or.inr (Or.inr rfl)) nd__law_many nc__law_many) d_int) a_nil (by exact rfl)) (by exact rfl)) (by exact rfl) (by exact rfl))) (by intro _; rfl)) a_nil (by exact rfl)) (by decide) nd_tuple (by exact rfl) (by exact rfl)) a_nil (by exact rfl)))) a_nil (by exact rfl)) (by exact rfl)))) ss_nil) ss_nil) (ss_cons (s_if (t_cmp (fun _ => o_eq b.hu64) (d_var N32_5 V32_5 nd__law_turn nc__law_turn) d_int (by exact rfl)) (ss_cons (s_ret (d_cal (Y.f 31 _ _ rfl) b G32__law_renamed nd__law_renamed (a_cons (d_var N32_1 V32_1 nd__law_rule_here nc__law_rule_here) (a_cons (d_bin (fun _ => o_add) (d_lst (a_cons d_int a_nil (by exact rfl))) (d_lr3 rfl G32_list Y.b_list G32_range Y.b_range (a_cons (d_bin (fun _ => o_sub) (d_var N32_4 V32_4 nd__law_many nc__law_many) d_int) (a_cons d_int (a_cons (d_neg d_int) a_nil (by exact rfl)) (by exact rfl)) (by exact rfl)) (by exact rfl) (by exact rfl) (by exact rfl))) a_nil (by exact rfl)) (by exact rfl)) (by exact rfl) (by exact rfl))) ss_nil) ss_nil) (ss_cons (s_if (t_cmp (fun _ => o_eq b.hu64) (d_var N32_5 V32_5 nd__law_turn nc__law_turn) d_int (by exact rfl)) (ss_cons (s_asg (d_dic (pps_cons d_strS d_strS (pps_cons d_strS d_strS (pps_cons d_strS d_strS (pps_cons d_strS d_strS pps_nil)))) (by exact rfl) (by exact rfl) (by simp) (by decide)) (g_name S32.nd N32_6 L32_6 (Or.inl rfl)) (by exact rfl) (by exact rfl) (by exact rfl)) (ss_cons (s_ret (d_tup (a_cons (d_var N32_2 V32_2 nd__law_marks nc__law_marks) (a_cons (d_callTy (fun _ => c_tuple2 rfl) G32_tuple Y.b_tuple (by rfl) (a_cons (d_lc rfl S32.nd (i_val (d_var N32_3 V32_3 nd__law_phases nc__law_phases)) (own := [(("_law_near" : Str), 11), (("_law_at" : Str), 12), (("_law_far" : Str), 13)]) (blkB_ok (by exact rfl)) (by decide) (fun s_ H_ C_ cl_ fp_ => (g_tup rfl (gs_cons (g_name S32.nd N32_11 (by first | exact Or.inl rfl | exact Or.inr rfl) ((by first | exact Or.inr rfl | exact Or.inl rfl))) (gs_cons (g_name S32.nd N32_12 (by first | exact Or.inl rfl | exact Or.inr rfl) ((by first | exact Or.inr rfl | exact Or.inl rfl))) (gs_cons (g_name S32.nd N32_13 (by first | exact Or.inl rfl | exact Or.inr rfl) ((by first | exact Or.inr rfl | exact Or.inl rfl))) gs_nil (by exact rfl)) (by exact rfl)) (by exact rfl)) (by exact rfl) (by exact rfl))) (fun s_ H_ C_ cl_ fp_ => ts_nil) (fun s_ H_ C_ cl_ fp_ => (d_tup (a_cons (d_var N32_11 (by first | exact Or.inl rfl | exact Or.inr (Or.inl rfl) | exact Or.inr (Or.inr rfl)) nd__law_near nc__law_near) (a_cons (d_tup (a_cons (d_ix (fun _ => o_ix (b.blk _ _ _ _ _).hu1 (b.blk _ _ _ _ _).hu65) (d_var N32_6 (by first | exact Or.inl rfl | exact Or.inr (Or.inl rfl) | exact Or.inr (Or.inr rfl)) nd__law_swap nc__law_swap) (d_ix (fun _ => o_ix (b.blk _ _ _ _ _).hu1 (b.blk _ _ _ _ _).hu65) (d_var N32_12 (by first | exact Or.inl rfl | exact Or.inr (Or.inl rfl) | exact Or.inr (Or.inr rfl)) nd__law_at nc__law_at) d_int (by (intro _ _; rfl))) (by (intro _ _; rfl))) (a_cons (d_ix (fun _ => o_ix (b.blk _ _ _ _ _).hu1 (b.blk _ _ _ _ _).hu65) (d_var N32_12 (by first | exact Or.inl rfl | exact Or.inr (Or.inl rfl) | exact Or.inr (Or.inr rfl)) nd__law_at nc__law_at) d_int (by (intro _ _; rfl))) a_nil (by exact rfl)) (by exact rfl))) (a_cons (d_var N32_13 (by first | exact Or.inl rfl | exact Or.inr (Or.inl rfl) | exact Or.inr (Or.inr rfl)) nd__law_far nc__law_far) a_nil (by exact rfl)) (by exact rfl)) (by exact rfl)))) (by intro _; rfl)) a_nil (by exact rfl)) (by decide) nd_tuple (by exact rfl) (by exact rfl)) a_nil (by exact rfl)) (by exact rfl)))) ss_nil)) ss_nil) (ss_cons (s_asg (d_cal (Y.f 18 _ _ rfl) b G32__law_draw nd__law_draw (a_cons (d_var N32_0 V32_0 nd__law_feed_here nc__law_feed_here) (a_cons (d_var N32_4 V32_4 nd__law_many nc__law_many) a_nil (by exact rfl)) (by exact rfl)) (by exact rfl) (by exact rfl)) (g_name S32.nd N32_7 L32_7 (Or.inl rfl)) (by exact rfl) (by exact rfl) (by exact rfl)) (ss_cons (s_asg (d_lst a_nil) (g_name S32.nd N32_8 L32_8 (Or.inl rfl)) (by exact rfl) (by exact rfl) (by exact rfl)) (ss_cons (s_for b.po rfl (i_val (d_bin (fun _ => o_add) (d_var N32_3 V32_3 nd__law_phases nc__law_phases) (d_tup (a_cons (d_ix (fun _ => o_ix b.hu1 b.hu65) (d_var N32_3 V32_3 nd__law_phases nc__law_phases) (d_var N32_7 V32_7 nd__law_k nc__law_k) (by (intro _ _; rfl))) a_nil (by exact rfl))))) (g_name S32.nd N32_9 L32_9 (Or.inl rfl)) (ss_cons (s_expr (d_meth F.plainAttrs_list F.slot_list_append F.type_list_append (fun _ => m_append) (d_var N32_8 V32_8 nd__law_found nc__law_found) (a_cons (d_callTy (fun _ => c_tuple2 rfl) G32_tuple Y.b_tuple (by rfl) (a_cons (d_lc rfl S32.nd (i_val (d_var N32_9 V32_9 nd__law_one nc__law_one)) (own := [(("_law_move" : Str), 14), (("_law_later" : Str), 15)]) (blkB_ok (by exact rfl)) (by decide) (fun s_ H_ C_ cl_ fp_ => (g_tup rfl (gs_cons (g_name S32.nd N32_14 (by first | exact Or.inl rfl | exact Or.inr rfl) ((by first | exact Or.inr rfl | exact Or.inl rfl))) (gs_cons (g_name S32.nd N32_15 (by first | exact Or.inl rfl | exact Or.inr rfl) ((by first | exact Or.inr rfl | exact Or.inl rfl))) gs_nil (by exact rfl)) (by exact rfl)) (by exact rfl) (by exact rfl))) (fun s_ H_ C_ cl_ fp_ => ts_nil) (fun s_ H_ C_ cl_ fp_ => (d_tup (a_cons (d_var N32_14 (by first | exact Or.inl rfl | exact Or.inr (Or.inl rfl) | exact Or.inr (Or.inr rfl)) nd__law_move nc__law_move) (a_cons (d_ite (t_cmp (fun _ => o_eq (b.blk _ _ _ _ _).hu64) (d_var N32_15 (by first | exact Or.inl rfl | exact Or.inr (Or.inl rfl) | exact Or.inr (Or.inr rfl)) nd__law_later nc__law_later) (d_var N32_7 (by first | exact Or.inl rfl | exact Or.inr (Or.inl rfl) | exact Or.inr (Or.inr rfl)) nd__law_k nc__law_k) (by exact rfl)) (d_var N32_4 (by first | exact Or.inl rfl | exact Or.inr (Or.inl rfl) | exact Or.inr (Or.inr rfl)) nd__law_many nc__law_many) (d_var N32_15 (by first | exact Or.inl rfl | exact Or.inr (Or.inl rfl) | exact Or.inr (Or.inr rfl)) nd__law_later nc__law_later)) a_nil (by exact rfl)) (by exact rfl)))) (by intro _; rfl)) a_nil (by exact rfl)) (by decide) nd_tuple (by exact rfl) (by exact rfl)) a_nil (by exact rfl)) (by exact rfl) (by exact rfl) (by exact rfl) (by exact rfl) (by exact rfl)) (by exact rfl)) ss_nil) (by intro _; rfl)) (ss_cons (s_ret (d_tup (a_cons (d_var N32_2 V32_2 nd__law_marks nc__law_marks) (a_cons (d_callTy (fun _ => c_tuple2 rfl) G32_tuple Y.b_tuple (by rfl) (a_cons (d_var N32_8 V32_8 nd__law_found nc__law_found) a_nil (by exact rfl)) (by decide) nd_tuple (by exact rfl) (by exact rfl)) a_nil (by exact rfl)) (by exact rfl)))) ss_nil))))))))))
theorem b33 {w : World} {K : PySem.W.Frag} {mg : Str → Option Value} {base : Heap} {k : Nat} {q : Str} {f : Addr} {cdv : Value} {A : Around} {outer : List PySem.Env} {s : Shared} {H : Hp} {E : XK} {W : XWS} {wx : WX} {c : CF} (Y : Fx w K mg base k c) (b : Bd tabs k (cxOf (CX P w) P w K mg base N33 q (defScope (top 42)) f cdv A outer s H E) W wx) :
    PSs (cxOf (CX P w) P w K mg base N33 q (defScope (top 42)) f cdv A outer s H E) (defBody (top 42)) (TDS ⟨K, w, P⟩ W (m33 c)) := by
  delta m33
  exact (ss_cons (s_ret (d_cmp (fun _ => o_ord b.hu64 .gt) (d_cal (Y.f 20 _ _ rfl) b G33__law_key nd__law_key (a_cons (d_ix (fun _ => o_ix b.hu1 b.hu65) (d_ix (fun _ => o_ix b.hu1 b.hu65) (d_var N33_0 V33_0 nd__law_pair_here nc__law_pair_here) d_int (by (intro _ _; rfl))) d_int (by (intro _ _; rfl))) a_nil (by exact rfl)) (by exact rfl) (by exact rfl)) (d_cal (Y.f 20 _ _ rfl) b G33__law_key nd__law_key (a_cons (d_ix (fun _ => o_ix b.hu1 b.hu65) (d_ix (fun _ => o_ix b.hu1 b.hu65) (d_var N33_0 V33_0 nd__law_pair_here nc__law_pair_here) d_int (by (intro _ _; rfl))) d_int (by (intro _ _; rfl))) a_nil (by exact rfl)) (by exact rfl) (by exact rfl)) (by exact rfl))) ss_nil)
theorem b34 {w : World} {K : PySem.W.Frag} {mg : Str → Option Value} {base : Heap} {k : Nat} {q : Str} {f : Addr} {cdv : Value} {A : Around} {outer : List PySem.Env} {s : Shared} {H : Hp} {E : XK} {W : XWS} {wx : WX} {c : CF} (Y : Fx w K mg base k c) (b : Bd tabs k (cxOf (CX P w) P w K mg base N34 q (defScope (top 43)) f cdv A outer s H E) W wx) :
    PSs (cxOf (CX P w) P w K mg base N34 q (defScope (top 43)) f cdv A outer s H E) (defBody (top 43)) (TDS ⟨K, w, P⟩ W (m34 c)) := by
  delta m34
  exact (ss_cons (s_par rfl S34.nd N34_3 N34_4 (by decide) (by exact rfl) (by exact rfl) (a_cons (d_lst (a_cons (d_tup (a_cons (d_var N34_0 V34_0 nd__law_first nc__law_first) a_nil (by exact rfl))) a_nil (by exact rfl))) (a_cons (d_lst (a_cons (d_tup (a_cons (d_var N34_0 V34_0 nd__law_first nc__law_first) a_nil (by exact rfl))) a_nil (by exact rfl))) a_nil (by exact rfl)) (by exact rfl)) (by exact rfl) (by exact rfl)) (ss_cons (s_for b.po rfl (i_rng1 G34_range Y.b_range (a_cons (d_bin (fun _ => o_sub) (d_var N34_2 V34_2 nd__law_most nc__law_most) d_int) a_nil (by exact rfl)) (by exact rfl)) (g_name S34.nd N34_5 L34_5 (Or.inl rfl)) (ss_cons (s_asg (d_lst a_nil) (g_name S34.nd N34_6 L34_6 (Or.inl rfl)) (by exact rfl) (by exact rfl) (by exact rfl)) (ss_cons (s_for b.po rfl (i_val (d_var N34_4 V34_4 nd__law_level nc__law_level)) (g_name S34.nd N34_7 L34_7 (Or.inl rfl)) (ss_cons (s_expr (d_meth F.plainAttrs_list F.slot_list_extend F.type_list_extend (fun _ => m_extend) (d_var N34_6 V34_6 nd__law_later nc__law_later) (a_cons (d_lc rfl S34.nd (i_rng2 G34_range Y.b_range (a_cons (d_ix (fun _ => o_ix b.hu1 b.hu65) (d_var N34_7 V34_7 nd__law_row nc__law_row) (d_neg d_int) (by (intro _ _; rfl))) (a_cons (d_bin (fun _ => o_add) (d_var N34_1 V34_1 nd__law_top nc__law_top) d_int) a_nil (by exact rfl)) (by exact rfl)) (by exact rfl) (by exact rfl)) (own := [(("_law_y" : Str), 8)]) (blkB_ok (by exact rfl)) (by decide) (fun s_ H_ C_ cl_ fp_ => (g_name S34.nd N34_8 (by first | exact Or.inl rfl | exact Or.inr rfl) ((by first | exact Or.inr rfl | exact Or.inl rfl)))) (fun s_ H_ C_ cl_ fp_ => ts_nil) (fun s_ H_ C_ cl_ fp_ => (d_bin (fun _ => o_add) (d_var N34_7 (by first | exact Or.inl rfl | exact Or.inr (Or.inl rfl) | exact Or.inr (Or.inr rfl)) nd__law_row nc__law_row) (d_tup (a_cons (d_var N34_8 (by first | exact Or.inl rfl | exact Or.inr (Or.inl rfl) | exact Or.inr (Or.inr rfl)) nd__law_y nc__law_y) a_nil (by exact rfl))))) (by intro _; rfl)) a_nil (by exact rfl)) (by exact rfl) (by exact rfl) (by exact rfl) (by exact rfl) (by exact rfl)) (by exact rfl)) ss_nil) (by intro _; rfl)) (ss_cons (s_asg (d_callTy (fun _ => c_list2 rfl) G34_list Y.b_list (by rfl) (a_cons (d_var N34_6 V34_6 nd__law_later nc__law_later) a_nil (by exact rfl)) (by decide) nd_list (by exact rfl) (by exact rfl)) (g_name S34.nd N34_4 L34_4 (Or.inl rfl)) (by exact rfl) (by exact rfl) (by exact rfl)) (ss_cons (s_expr (d_meth F.plainAttrs_list F.slot_list_extend F.type_list_extend (fun _ => m_extend) (d_var N34_3 V34_3 nd__law_found nc__law_found) (a_cons (d_var N34_6 V34_6 nd__law_later nc__law_later) a_nil (by exact rfl)) (by exact rfl) (by exact rfl) (by exact rfl) (by exact rfl) (by exact rfl)) (by exact rfl)) ss_nil)))) (by intro _; rfl)) (ss_cons (s_ret (d_var N34_3 V34_3 nd__law_found nc__law_found)) ss_nil)))
theorem b35 {w : World} {K : PySem.W.Frag} {mg : Str → Option Value} {base : Heap} {k : Nat} {q : Str} {f : Addr} {cdv : Value} {A : Around} {outer : List PySem.Env} {s : Shared} {H : Hp} {E : XK} {W : XWS} {wx : WX} {c : CF} (Y : Fx w K mg base k c) (b : Bd tabs k (cxOf (CX P w) P w K mg base N35 q (defScope (top 44)) f cdv A outer s H E) W wx) :
    PSs (cxOf (CX P w) P w K mg base N35 q (defScope (top 44)) f cdv A outer s H E) (defBody (top 44)) (TDS ⟨K, w, P⟩ W (m35 c)) := by
  delta m35
  exact (ss_cons (s_asg (d_bin (fun _ => o_sub) (d_cal (Y.f 18 _ _ rfl) b G35__law_draw nd__law_draw (a_cons (d_var N35_0 V35_0 nd__law_feed_here nc__law_feed_here) (a_cons d_int a_nil (by exact rfl)) (by exact rfl)) (by exact rfl) (by exact rfl)) d_int) (g_name S35.nd N35_2 L35_2 (Or.inl rfl)) (by exact rfl) (by exact rfl) (by exact rfl)) (ss_cons (s_ret (d_tup (a_cons (d_var N35_2 V35_2 nd__law_first nc__law_first) (a_cons (d_bin (fun _ => o_add) (d_var N35_2 V35_2 nd__law_first nc__law_first) (d_cal (Y.f 18 _ _ rfl) b G35__law_draw nd__law_draw (a_cons (d_var N35_0 V35_0 nd__law_feed_here nc__law_feed_here) (a_cons (d_bin (fun _ => o_add) (d_var N35_1 V35_1 nd__law_most nc__law_most) d_int) a_nil (by exact rfl)) (by exact rfl)) (by exact rfl) (by exact rfl))) a_nil (by exact rfl)) (by exact rfl)))) ss_nil))
theorem b36 {w : World} {K : PySem.W.Frag} {mg : Str → Option Value} {base : Heap} {k : Nat} {q : Str} {f : Addr} {cdv : Value} {A : Around} {outer : List PySem.Env} {s : Shared} {H : Hp} {E : XK} {W : XWS} {wx : WX} {c : CF} (Y : Fx w K mg base k c) (b : Bd tabs k (cxOf (CX P w) P w K mg base N36 q (defScope (top 45)) f cdv A outer s H E) W wx) :
    PSs (cxOf (CX P w) P w K mg base N36 q (defScope (top 45)) f cdv A outer s H E) (defBody (top 45)) (TDS ⟨K, w, P⟩ W (m36 c)) := by
  delta m36
  exact (ss_cons (s_asg (d_cal (Y.f 16 _ _ rfl) b G36_never_above nd_never_above (a_cons (d_var N36_0 V36_0 nd__law_one nc__law_one) (a_cons (d_var N36_1 V36_1 nd__law_two_here nc__law_two_here) (a_cons (d_var N36_2 V36_2 nd__law_frame nc__law_frame) a_nil (by exact rfl)) (by exact rfl)) (by exact rfl)) (by exact rfl) (by exact rfl)) (g_name S36.nd N36_3 L36_3 (Or.inl rfl)) (by exact rfl) (by exact rfl) (by exact rfl)) (ss_cons (s_if (L2.PW.pt (w_and (t_truth (d_var N36_3 V36_3 nd__law_never nc__law_never) (by intro _; rfl)) (w_and1 (t_truth (d_cal (Y.f 16 _ _ rfl) b G36_never_above nd_never_above (a_cons (d_var N36_1 V36_1 nd__law_two_here nc__law_two_here) (a_cons (d_var N36_0 V36_0 nd__law_one nc__law_one) (a_cons (d_var N36_2 V36_2 nd__law_frame nc__law_frame) a_nil (by exact rfl)) (by exact rfl)) (by exact rfl)) (by exact rfl) (by exact rfl)) (by intro _; rfl))))) (ss_cons (s_asg (d_cal (Y.f 34 _ _ rfl) b G36__law_rows nd__law_rows (a_cons (d_ix (fun _ => o_ix b.hu1 b.hu65) (d_var N36_2 V36_2 nd__law_frame nc__law_frame) d_int (by (intro _ _; rfl))) (a_cons (d_ix (fun _ => o_ix b.hu1 b.hu65) (d_var N36_2 V36_2 nd__law_frame nc__law_frame) d_int (by (intro _ _; rfl))) (a_cons d_int a_nil (by exact rfl)) (by exact rfl)) (by exact rfl)) (by exact rfl) (by exact rfl)) (g_name S36.nd N36_4 L36_4 (Or.inl rfl)) (by exact rfl) (by exact rfl) (by exact rfl)) (ss_cons (s_if (t_cmp (fun _ => o_ne b.hu64) (d_lc rfl S36.nd (i_val (d_var N36_4 V36_4 nd__law_rows_here nc__law_rows_here)) (own := [(("_law_some" : Str), 9)]) (blkB_ok (by exact rfl)) (by decide) (fun s_ H_ C_ cl_ fp_ => (g_name S36.nd N36_9 (by first | exact Or.inl rfl | exact Or.inr rfl) ((by first | exact Or.inr rfl | exact Or.inl rfl)))) (fun s_ H_ C_ cl_ fp_ => (ts_one (t_cmp (fun _ => o_ne (b.blk _ _ _ _ _).hu64) (d_cal (Y.f 25 _ _ rfl) (b.blk _ _ _ _ _) (by exact rfl) nd__law_ends (a_cons (d_var N36_0 (by first | exact Or.inl rfl | exact Or.inr (Or.inl rfl) | exact Or.inr (Or.inr rfl)) nd__law_one nc__law_one) (a_cons (d_var N36_9 (by first | exact Or.inl rfl | exact Or.inr (Or.inl rfl) | exact Or.inr (Or.inr rfl)) nd__law_some nc__law_some) a_nil (by exact rfl)) (by exact rfl)) (by exact rfl) (by exact rfl)) (d_cal (Y.f 25 _ _ rfl) (b.blk _ _ _ _ _) (by exact rfl) nd__law_ends (a_cons (d_var N36_1 (by first | exact Or.inl rfl | exact Or.inr (Or.inl rfl) | exact Or.inr (Or.inr rfl)) nd__law_two_here nc__law_two_here) (a_cons (d_var N36_9 (by first | exact Or.inl rfl | exact Or.inr (Or.inl rfl) | exact Or.inr (Or.inr rfl)) nd__law_some nc__law_some) a_nil (by exact rfl)) (by exact rfl)) (by exact rfl) (by exact rfl)) (by exact rfl)))) (fun s_ H_ C_ cl_ fp_ => (d_var N36_9 (by first | exact Or.inl rfl | exact Or.inr (Or.inl rfl) | exact Or.inr (Or.inr rfl)) nd__law_some nc__law_some)) (by intro _; rfl)) (d_lst a_nil) (by exact rfl)) (ss_cons (s_ret d_bl) ss_nil) ss_nil) ss_nil)) ss_nil) (ss_cons (s_asg (d_cal (Y.f 15 _ _ rfl) b G36_above_row nd_above_row (a_cons (d_var N36_0 V36_0 nd__law_one nc__law_one) (a_cons (d_var N36_1 V36_1 nd__law_two_here nc__law_two_here) (a_cons (d_var N36_2 V36_2 nd__law_frame nc__law_frame) a_nil (by exact rfl)) (by exact rfl)) (by exact rfl)) (by exact rfl) (by exact rfl)) (g_name S36.nd N36_5 L36_5 (Or.inl rfl)) (by exact rfl) (by exact rfl) (by exact rfl)) (ss_cons (s_for b.po rfl (i_rng2 G36_range Y.b_range (a_cons (d_ix (fun _ => o_ix b.hu1 b.hu65) (d_var N36_2 V36_2 nd__law_frame nc__law_frame) d_int (by (intro _ _; rfl))) (a_cons (d_ix (fun _ => o_ix b.hu1 b.hu65) (d_var N36_2 V36_2 nd__law_frame nc__law_frame) d_int (by (intro _ _; rfl))) a_nil (by exact rfl)) (by exact rfl)) (by exact rfl) (by exact rfl)) (g_name S36.nd N36_6 L36_6 (Or.inl rfl)) (ss_cons (s_asg (d_cal (Y.f 15 _ _ rfl) b G36_above_row nd_above_row (a_cons (d_var N36_0 V36_0 nd__law_one nc__law_one) (a_cons (d_var N36_1 V36_1 nd__law_two_here nc__law_two_here) (a_cons (d_tup (a_cons (d_ix (fun _ => o_ix b.hu1 b.hu65) (d_var N36_2 V36_2 nd__law_frame nc__law_frame) d_int (by (intro _ _; rfl))) (a_cons (d_var N36_6 V36_6 nd__law_top nc__law_top) a_nil (by exact rfl)) (by exact rfl))) a_nil (by exact rfl)) (by exact rfl)) (by exact rfl)) (by exact rfl) (by exact rfl)) (g_name S36.nd N36_7 L36_7 (Or.inl rfl)) (by exact rfl) (by exact rfl) (by exact rfl)) (ss_cons (s_if (t_cmp (fun _ => o_is) (d_var N36_7 V36_7 nd__law_less nc__law_less) d_non (by exact rfl)) (ss_cons s_continue ss_nil) ss_nil) (ss_cons (s_asg (d_tup (a_cons (d_ix (fun _ => o_ix b.hu1 b.hu65) (d_cal (Y.f 24 _ _ rfl) b G36__law_states nd__law_states (a_cons (d_var N36_0 V36_0 nd__law_one nc__law_one) (a_cons (d_var N36_7 V36_7 nd__law_less nc__law_less) a_nil (by exact rfl)) (by exact rfl)) (by exact rfl) (by exact rfl)) (d_neg d_int) (by (intro _ _; rfl))) (a_cons (d_ix (fun _ => o_ix b.hu1 b.hu65) (d_cal (Y.f 24 _ _ rfl) b G36__law_states nd__law_states (a_cons (d_var N36_1 V36_1 nd__law_two_here nc__law_two_here) (a_cons (d_var N36_7 V36_7 nd__law_less nc__law_less) a_nil (by exact rfl)) (by exact rfl)) (by exact rfl) (by exact rfl)) (d_neg d_int) (by (intro _ _; rfl))) a_nil (by exact rfl)) (by exact rfl))) (g_name S36.nd N36_8 L36_8 (Or.inl rfl)) (by exact rfl) (by exact rfl) (by exact rfl)) (ss_cons (s_if (L2.PW.pt (w_or (t_cmp (fun _ => o_is) (d_var N36_5 V36_5 nd__law_told nc__law_told) d_non (by exact rfl)) (w_or (t_cmp (fun _ => o_ord b.hu64 .lt) (d_callB (fun _ => c_len2) G36_len Y.b_len (by rfl) (a_cons (d_var N36_7 V36_7 nd__law_less nc__law_less) a_nil (by exact rfl)) (by decide) nd_len (by exact rfl) (by exact rfl)) (d_callB (fun _ => c_len2) G36_len Y.b_len (by rfl) (a_cons (d_var N36_5 V36_5 nd__law_told nc__law_told) a_nil (by exact rfl)) (by decide) nd_len (by exact rfl) (by exact rfl)) (by exact rfl)) (w_or1 (t_not (t_truth (d_cal (Y.f 33 _ _ rfl) b G36__law_is_above nd__law_is_above (a_cons (d_var N36_8 V36_8 nd__law_pair_here nc__law_pair_here) a_nil (by exact rfl)) (by exact rfl) (by exact rfl)) (by intro _; rfl))))))) (ss_cons (s_ret d_bl) ss_nil) ss_nil) ss_nil)))) (by intro _; rfl)) (ss_cons (s_ret (d_cmp (fun _ => o_eq b.hu64) (d_callB (fun _ => c_repr b.hu70 b.gd) G36_repr Y.b_repr (by rfl) (a_cons (d_var N36_3 V36_3 nd__law_never nc__law_never) a_nil (by exact rfl)) (by decide) nd_repr (by exact rfl) (by exact rfl)) (d_callB (fun _ => c_repr b.hu70 b.gd) G36_repr Y.b_repr (by rfl) (a_cons (d_cmp (fun _ => o_is) (d_var N36_5 V36_5 nd__law_told nc__law_told) d_non (by exact rfl)) a_nil (by exact rfl)) (by decide) nd_repr (by exact rfl) (by exact rfl)) (by exact rfl))) ss_nil)))))
theorem b37 {w : World} {K : PySem.W.Frag} {mg : Str → Option Value} {base : Heap} {k : Nat} {q : Str} {f : Addr} {cdv : Value} {A : Around} {outer : List PySem.Env} {s : Shared} {H : Hp} {E : XK} {W : XWS} {wx : WX} {c : CF} (Y : Fx w K mg base k c) (b : Bd tabs k (cxOf (CX P w) P w K mg base N37 q (defScope (top 46)) f cdv A outer s H E) W wx) :
    PSs (cxOf (CX P w) P w K mg base N37 q (defScope (top 46)) f cdv A outer s H E) (defBody (top 46)) (TDS ⟨K, w, P⟩ W (m37 c)) := by
  delta m37
  exact (ss_cons (s_asg (d_cal (Y.f 17 _ _ rfl) b G37__law_feed nd__law_feed (a_cons (d_var N37_0 V37_0 nd__law_script nc__law_script) a_nil (by exact rfl)) (by exact rfl) (by exact rfl)) (g_name S37.nd N37_1 L37_1 (Or.inl rfl)) (by exact rfl) (by exact rfl) (by exact rfl)) (ss_cons (s_asg (d_cal (Y.f 30 _ _ rfl) b G37__law_two nd__law_two (a_cons (d_var N37_1 V37_1 nd__law_feed_here nc__law_feed_here) (a_cons d_int a_nil (by exact rfl)) (by exact rfl)) (by exact rfl) (by exact rfl)) (g_tup rfl (gs_cons (g_name S37.nd N37_2 L37_2 (Or.inl rfl)) (gs_cons (g_name S37.nd N37_3 L37_3 (Or.inl rfl)) gs_nil (by exact rfl)) (by exact rfl)) (by exact rfl) (by exact rfl)) (by exact rfl) (by exact rfl) (by exact rfl)) (ss_cons (s_par rfl S37.nd N37_4 N37_5 (by decide) (by exact rfl) (by exact rfl) (a_cons (d_cal (Y.f 29 _ _ rfl) b G37__law_changed nd__law_changed (a_cons (d_var N37_1 V37_1 nd__law_feed_here nc__law_feed_here) (a_cons (d_var N37_3 V37_3 nd__law_two_here nc__law_two_here) a_nil (by exact rfl)) (by exact rfl)) (by exact rfl) (by exact rfl)) (a_cons (d_cal (Y.f 32 _ _ rfl) b G37__law_twin nd__law_twin (a_cons (d_var N37_1 V37_1 nd__law_feed_here nc__law_feed_here) (a_cons (d_var N37_2 V37_2 nd__law_one nc__law_one) a_nil (by exact rfl)) (by exact rfl)) (by exact rfl) (by exact rfl)) a_nil (by exact rfl)) (by exact rfl)) (by exact rfl) (by exact rfl)) (ss_cons (s_asg (d_cal (Y.f 35 _ _ rfl) b G37__law_span nd__law_span (a_cons (d_var N37_1 V37_1 nd__law_feed_here nc__law_feed_here) (a_cons d_int a_nil (by exact rfl)) (by exact rfl)) (by exact rfl) (by exact rfl)) (g_name S37.nd N37_6 L37_6 (Or.inl rfl)) (by exact rfl) (by exact rfl) (by exact rfl)) (ss_cons (s_asg (d_lst (a_cons (d_cal (Y.f 16 _ _ rfl) b G37_never_above nd_never_above (a_cons (d_var N37_2 V37_2 nd__law_one nc__law_one) (a_cons (d_var N37_2 V37_2 nd__law_one nc__law_one) (a_cons (d_var N37_6 V37_6 nd__law_frame nc__law_frame) a_nil (by exact rfl)) (by exact rfl)) (by exact rfl)) (by exact rfl) (by exact rfl)) (a_cons (d_cal (Y.f 16 _ _ rfl) b G37_never_above nd_never_above (a_cons (d_var N37_2 V37_2 nd__law_one nc__law_one) (a_cons (d_var N37_5 V37_5 nd__law_twin_here nc__law_twin_here) (a_cons (d_var N37_6 V37_6 nd__law_frame nc__law_frame) a_nil (by exact rfl)) (by exact rfl)) (by exact rfl)) (by exact rfl) (by exact rfl)) (a_cons (d_cal (Y.f 16 _ _ rfl) b G37_never_above nd_never_above (a_cons (d_var N37_5 V37_5 nd__law_twin_here nc__law_twin_here) (a_cons (d_var N37_2 V37_2 nd__law_one nc__law_one) (a_cons (d_var N37_6 V37_6 nd__law_frame nc__law_frame) a_nil (by exact rfl)) (by exact rfl)) (by exact rfl)) (by exact rfl) (by exact rfl)) a_nil (by exact rfl)) (by exact rfl)) (by exact rfl))) (g_name S37.nd N37_7 L37_7 (Or.inl rfl)) (by exact rfl) (by exact rfl) (by exact rfl)) (ss_cons (s_if (t_cmp (fun _ => o_ne b.hu64) (d_callB (fun _ => c_repr b.hu70 b.gd) G37_repr Y.b_repr (by rfl) (a_cons (d_var N37_7 V37_7 nd__law_told nc__law_told) a_nil (by exact rfl)) (by decide) nd_repr (by exact rfl) (by exact rfl)) (d_callB (fun _ => c_repr b.hu70 b.gd) G37_repr Y.b_repr (by rfl) (a_cons (d_bin (fun _ => o_mul) (d_lst (a_cons d_bl a_nil (by exact rfl))) d_int) a_nil (by exact rfl)) (by decide) nd_repr (by exact rfl) (by exact rfl)) (by exact rfl)) (ss_cons (s_ret d_bl) ss_nil) ss_nil) (ss_cons (s_for b.po rfl (i_val (d_tup (a_cons (d_tup (a_cons (d_var N37_2 V37_2 nd__law_one nc__law_one) (a_cons (d_var N37_3 V37_3 nd__law_two_here nc__law_two_here) (a_cons (d_var N37_4 V37_4 nd__law_three nc__law_three) a_nil (by exact rfl)) (by exact rfl)) (by exact rfl))) (a_cons (d_tup (a_cons (d_var N37_4 V37_4 nd__law_three nc__law_three) (a_cons (d_var N37_3 V37_3 nd__law_two_here nc__law_two_here) (a_cons (d_var N37_2 V37_2 nd__law_one nc__law_one) a_nil (by exact rfl)) (by exact rfl)) (by exact rfl))) (a_cons (d_tup (a_cons (d_var N37_3 V37_3 nd__law_two_here nc__law_two_here) (a_cons (d_var N37_2 V37_2 nd__law_one nc__law_one) (a_cons (d_var N37_4 V37_4 nd__law_three nc__law_three) a_nil (by exact rfl)) (by exact rfl)) (by exact rfl))) (a_cons (d_tup (a_cons (d_var N37_2 V37_2 nd__law_one nc__law_one) (a_cons (d_var N37_4 V37_4 nd__law_three nc__law_three) (a_cons (d_var N37_3 V37_3 nd__law_two_here nc__law_two_here) a_nil (by exact rfl)) (by exact rfl)) (by exact rfl))) a_nil (by exact rfl)) (by exact rfl)) (by exact rfl)) (by exact rfl)))) (g_tup rfl (gs_cons (g_name S37.nd N37_8 L37_8 (Or.inl rfl)) (gs_cons (g_name S37.nd N37_9 L37_9 (Or.inl rfl)) (gs_cons (g_name S37.nd N37_10 L37_10 (Or.inl rfl)) gs_nil (by exact rfl)) (by exact rfl)) (by exact rfl)) (by exact rfl) (by exact rfl)) (ss_cons (s_asg (d_and (d_cal (Y.f 16 _ _ rfl) b G37_never_above nd_never_above (a_cons (d_var N37_8 V37_8 nd__law_first nc__law_first) (a_cons (d_var N37_9 V37_9 nd__law_second nc__law_second) (a_cons (d_var N37_6 V37_6 nd__law_frame nc__law_frame) a_nil (by exact rfl)) (by exact rfl)) (by exact rfl)) (by exact rfl) (by exact rfl)) (d_one (d_cal (Y.f 16 _ _ rfl) b G37_never_above nd_never_above (a_cons (d_var N37_9 V37_9 nd__law_second nc__law_second) (a_cons (d_var N37_10 V37_10 nd__law_third nc__law_third) (a_cons (d_var N37_6 V37_6 nd__law_frame nc__law_frame) a_nil (by exact rfl)) (by exact rfl)) (by exact rfl)) (by exact rfl) (by exact rfl)))) (g_name S37.nd N37_11 L37_11 (Or.inl rfl)) (by exact rfl) (by exact rfl) (by exact rfl)) (ss_cons (s_if (L2.PW.pt (w_and (t_truth (d_var N37_11 V37_11 nd__law_both nc__law_both) (by intro _; rfl)) (w_and1 (t_cmp (fun _ => o_isnot) (d_cal (Y.f 16 _ _ rfl) b G37_never_above nd_never_above (a_cons (d_var N37_8 V37_8 nd__law_first nc__law_first) (a_cons (d_var N37_10 V37_10 nd__law_third nc__law_third) (a_cons (d_var N37_6 V37_6 nd__law_frame nc__law_frame) a_nil (by exact rfl)) (by exact rfl)) (by exact rfl)) (by exact rfl) (by exact rfl)) d_bl (by exact rfl))))) (ss_cons (s_ret d_bl) ss_nil) ss_nil) (ss_cons (s_if (t_not (t_truth (d_cal (Y.f 36 _ _ rfl) b G37__law_pair_right nd__law_pair_right (a_cons (d_var N37_8 V37_8 nd__law_first nc__law_first) (a_cons (d_var N37_9 V37_9 nd__law_second nc__law_second) (a_cons (d_var N37_6 V37_6 nd__law_frame nc__law_frame) a_nil (by exact rfl)) (by exact rfl)) (by exact rfl)) (by exact rfl) (by exact rfl)) (by intro _; rfl))) (ss_cons (s_ret d_bl) ss_nil) ss_nil) ss_nil))) (by intro _; rfl)) (ss_cons (s_if (t_cmp (fun _ => o_ne b.hu64) (d_cal (Y.f 16 _ _ rfl) b G37_never_above nd_never_above (a_cons (d_var N37_5 V37_5 nd__law_twin_here nc__law_twin_here) (a_cons (d_var N37_3 V37_3 nd__law_two_here nc__law_two_here) (a_cons (d_var N37_6 V37_6 nd__law_frame nc__law_frame) a_nil (by exact rfl)) (by exact rfl)) (by exact rfl)) (by exact rfl) (by exact rfl)) (d_cal (Y.f 16 _ _ rfl) b G37_never_above nd_never_above (a_cons (d_var N37_2 V37_2 nd__law_one nc__law_one) (a_cons (d_var N37_3 V37_3 nd__law_two_here nc__law_two_here) (a_cons (d_var N37_6 V37_6 nd__law_frame nc__law_frame) a_nil (by exact rfl)) (by exact rfl)) (by exact rfl)) (by exact rfl) (by exact rfl)) (by exact rfl)) (ss_cons (s_ret d_bl) ss_nil) ss_nil) (ss_cons (s_ret d_bl) ss_nil)))))))))
end K62
namespace K62
open PySem PySem.Spec PyProof.Rows L2 DV
def body (c : CF) : Nat → DF
  | 0 => runB 2 N0.length (m0 c)
  | 1 => runB 2 N1.length (m1 c)
  | 2 => runB 2 N2.length (m2 c)
  | 3 => runB 3 N3.length (m3 c)
  | 4 => runB 2 N4.length (m4 c)
  | 5 => runB 4 N5.length (m5 c)
  | 6 => runB 3 N6.length (m6 c)
  | 7 => runB 3 N7.length (m7 c)
  | 8 => runB 2 N8.length (m8 c)
  | 9 => runB 1 N9.length (m9 c)
  | 10 => runB 4 N10.length (m10 c)
  | 11 => runB 1 N11.length (m11 c)
  | 12 => runB 1 N12.length (m12 c)
  | 13 => runB 2 N13.length (m13 c)
  | 14 => runB 3 N14.length (m14 c)
  | 15 => runB 3 N15.length (m15 c)
  | 16 => runB 3 N16.length (m16 c)
  | 17 => runB 1 N17.length (m17 c)
  | 18 => runB 2 N18.length (m18 c)
  | 19 => runB 2 N19.length (m19 c)
  | 20 => runB 1 N20.length (m20 c)
  | 21 => runB 3 N21.length (m21 c)
  | 22 => runB 4 N22.length (m22 c)
  | 23 => runB 3 N23.length (m23 c)
  | 24 => runB 2 N24.length (m24 c)
  | 25 => runB 2 N25.length (m25 c)
  | 26 => runB 1 N26.length (m26 c)
  | 27 => runB 2 N27.length (m27 c)
  | 28 => runB 2 N28.length (m28 c)
  | 29 => runB 2 N29.length (m29 c)
  | 30 => runB 2 N30.length (m30 c)
  | 31 => runB 2 N31.length (m31 c)
  | 32 => runB 2 N32.length (m32 c)
  | 33 => runB 1 N33.length (m33 c)
  | 34 => runB 3 N34.length (m34 c)
  | 35 => runB 2 N35.length (m35 c)
  | 36 => runB 3 N36.length (m36 c)
  | 37 => runB 1 N37.length (m37 c)
  | _ => fun _ _ => .bad
def callF : Nat → CF
  | 0 => fun _ _ _ => .bad
  | k + 1 => fun i => body (callF k) i
def df0 : He.DefD := ⟨(("is_above_kinds" : Str), none), ("is_above" : Str), ("is_above" : Str), defArgs (top 1), defBody (top 1), defScope (top 1), [], []⟩
def df1 : He.DefD := ⟨(("gap_at" : Str), none), ("gap_at" : Str), ("gap_at" : Str), defArgs (top 5), defBody (top 5), defScope (top 5), [], []⟩
def df2 : He.DefD := ⟨(("upper_at" : Str), none), ("upper_at" : Str), ("upper_at" : Str), defArgs (top 6), defBody (top 6), defScope (top 6), [], []⟩
def df3 : He.DefD := ⟨(("case_at" : Str), none), ("case_at" : Str), ("case_at" : Str), defArgs (top 7), defBody (top 7), defScope (top 7), [], []⟩
def df4 : He.DefD := ⟨(("least_mark" : Str), none), ("least_mark" : Str), ("least_mark" : Str), defArgs (top 9), defBody (top 9), defScope (top 9), [], []⟩
def df5 : He.DefD := ⟨(("end_by" : Str), none), ("end_by" : Str), ("end_by" : Str), defArgs (top 10), defBody (top 10), defScope (top 10), [], []⟩
def df6 : He.DefD := ⟨(("pair_for" : Str), none), ("pair_for" : Str), ("pair_for" : Str), defArgs (top 11), defBody (top 11), defScope (top 11), [], []⟩
def df7 : He.DefD := ⟨(("stepped" : Str), none), ("stepped" : Str), ("stepped" : Str), defArgs (top 12), defBody (top 12), defScope (top 12), [], []⟩
def df8 : He.DefD := ⟨(("is_less" : Str), none), ("is_less" : Str), ("is_less" : Str), defArgs (top 14), defBody (top 14), defScope (top 14), [], []⟩
def df9 : He.DefD := ⟨(("first_joint" : Str), none), ("first_joint" : Str), ("first_joint" : Str), defArgs (top 15), defBody (top 15), defScope (top 15), [], []⟩
def df10 : He.DefD := ⟨(("joint_after" : Str), none), ("joint_after" : Str), ("joint_after" : Str), defArgs (top 16), defBody (top 16), defScope (top 16), [], []⟩
def df11 : He.DefD := ⟨(("is_above_joint" : Str), none), ("is_above" : Str), ("is_above" : Str), defArgs (top 17), defBody (top 17), defScope (top 17), [], []⟩
def df12 : He.DefD := ⟨(("lesser_last" : Str), none), ("lesser_last" : Str), ("lesser_last" : Str), defArgs (top 19), defBody (top 19), defScope (top 19), [], []⟩
def df13 : He.DefD := ⟨(("further_elements" : Str), none), ("further_elements" : Str), ("further_elements" : Str), defArgs (top 20), defBody (top 20), defScope (top 20), [], []⟩
def df14 : He.DefD := ⟨(("joints_with_rows" : Str), none), ("joints_with_rows" : Str), ("joints_with_rows" : Str), defArgs (top 21), defBody (top 21), defScope (top 21), [], []⟩
def df15 : He.DefD := ⟨(("above_row" : Str), none), ("above_row" : Str), ("above_row" : Str), defArgs (top 23), defBody (top 23), defScope (top 23), [], []⟩
def df16 : He.DefD := ⟨(("never_above" : Str), none), ("never_above" : Str), ("never_above" : Str), defArgs (top 24), defBody (top 24), defScope (top 24), [], []⟩
def df17 : He.DefD := ⟨(("_law_feed" : Str), none), ("_law_feed" : Str), ("_law_feed" : Str), defArgs (top 26), defBody (top 26), defScope (top 26), [], []⟩
def df18 : He.DefD := ⟨(("_law_draw" : Str), none), ("_law_draw" : Str), ("_law_draw" : Str), defArgs (top 27), defBody (top 27), defScope (top 27), [], []⟩
def df19 : He.DefD := ⟨(("_law_any" : Str), none), ("_law_any" : Str), ("_law_any" : Str), defArgs (top 28), defBody (top 28), defScope (top 28), [], []⟩
def df20 : He.DefD := ⟨(("_law_key" : Str), none), ("_law_key" : Str), ("_law_key" : Str), defArgs (top 29), defBody (top 29), defScope (top 29), [], []⟩
def df21 : He.DefD := ⟨(("_law_case" : Str), none), ("_law_case" : Str), ("_law_case" : Str), defArgs (top 30), defBody (top 30), defScope (top 30), [], []⟩
def df22 : He.DefD := ⟨(("_law_jump" : Str), none), ("_law_jump" : Str), ("_law_jump" : Str), defArgs (top 31), defBody (top 31), defScope (top 31), [], []⟩
def df23 : He.DefD := ⟨(("_law_moved" : Str), none), ("_law_moved" : Str), ("_law_moved" : Str), defArgs (top 32), defBody (top 32), defScope (top 32), [], []⟩
def df24 : He.DefD := ⟨(("_law_states" : Str), none), ("_law_states" : Str), ("_law_states" : Str), defArgs (top 33), defBody (top 33), defScope (top 33), [], []⟩
def df25 : He.DefD := ⟨(("_law_ends" : Str), none), ("_law_ends" : Str), ("_law_ends" : Str), defArgs (top 34), defBody (top 34), defScope (top 34), [], []⟩
def df26 : He.DefD := ⟨(("_law_hand" : Str), none), ("_law_hand" : Str), ("_law_hand" : Str), defArgs (top 35), defBody (top 35), defScope (top 35), [], []⟩
def df27 : He.DefD := ⟨(("_law_pair" : Str), none), ("_law_pair" : Str), ("_law_pair" : Str), defArgs (top 36), defBody (top 36), defScope (top 36), [], []⟩
def df28 : He.DefD := ⟨(("_law_rule" : Str), none), ("_law_rule" : Str), ("_law_rule" : Str), defArgs (top 37), defBody (top 37), defScope (top 37), [], []⟩
def df29 : He.DefD := ⟨(("_law_changed" : Str), none), ("_law_changed" : Str), ("_law_changed" : Str), defArgs (top 38), defBody (top 38), defScope (top 38), [], []⟩
def df30 : He.DefD := ⟨(("_law_two" : Str), none), ("_law_two" : Str), ("_law_two" : Str), defArgs (top 39), defBody (top 39), defScope (top 39), [], []⟩
def df31 : He.DefD := ⟨(("_law_renamed" : Str), none), ("_law_renamed" : Str), ("_law_renamed" : Str), defArgs (top 40), defBody (top 40), defScope (top 40), [], []⟩
def df32 : He.DefD := ⟨(("_law_twin" : Str), none), ("_law_twin" : Str), ("_law_twin" : Str), defArgs (top 41), defBody (top 41), defScope (top 41), [], []⟩
def df33 : He.DefD := ⟨(("_law_is_above" : Str), none), ("_law_is_above" : Str), ("_law_is_above" : Str), defArgs (top 42), defBody (top 42), defScope (top 42), [], []⟩
def df34 : He.DefD := ⟨(("_law_rows" : Str), none), ("_law_rows" : Str), ("_law_rows" : Str), defArgs (top 43), defBody (top 43), defScope (top 43), [], []⟩
def df35 : He.DefD := ⟨(("_law_span" : Str), none), ("_law_span" : Str), ("_law_span" : Str), defArgs (top 44), defBody (top 44), defScope (top 44), [], []⟩
def df36 : He.DefD := ⟨(("_law_pair_right" : Str), none), ("_law_pair_right" : Str), ("_law_pair_right" : Str), defArgs (top 45), defBody (top 45), defScope (top 45), [], []⟩
def df37 : He.DefD := ⟨(("law" : Str), none), ("law" : Str), ("law" : Str), defArgs (top 46), defBody (top 46), defScope (top 46), [], []⟩
def fn : List He.DefD := [df0, df1, df2, df3, df4, df5, df6, df7, df8, df9, df10, df11, df12, df13, df14, df15, df16, df17, df18, df19, df20, df21, df22, df23, df24, df25, df26, df27, df28, df29, df30, df31, df32, df33, df34, df35, df36, df37]
def fa0 : List He.Fa := [.glo ("is_above_kinds" : Str), .glo ("gap_at" : Str), .glo ("upper_at" : Str), .glo ("case_at" : Str), .glo ("least_mark" : Str), .glo ("end_by" : Str), .glo ("pair_for" : Str), .glo ("stepped" : Str), .glo ("is_less" : Str), .glo ("first_joint" : Str), .glo ("joint_after" : Str), .glo ("is_above_joint" : Str), .glo ("lesser_last" : Str), .glo ("further_elements" : Str), .glo ("joints_with_rows" : Str), .glo ("above_row" : Str), .glo ("never_above" : Str), .glo ("_law_feed" : Str), .glo ("_law_draw" : Str), .glo ("_law_any" : Str), .glo ("_law_key" : Str), .glo ("_law_case" : Str), .glo ("_law_jump" : Str), .glo ("_law_moved" : Str), .glo ("_law_states" : Str), .glo ("_law_ends" : Str), .glo ("_law_hand" : Str), .glo ("_law_pair" : Str), .glo ("_law_rule" : Str), .glo ("_law_changed" : Str)]
def fa1 : List He.Fa := [.glo ("_law_two" : Str), .glo ("_law_renamed" : Str), .glo ("_law_twin" : Str), .glo ("_law_is_above" : Str), .glo ("_law_rows" : Str), .glo ("_law_span" : Str), .glo ("_law_pair_right" : Str), .glo ("law" : Str), .free ("len" : Str), .free ("list" : Str), .free ("range" : Str), .free ("int" : Str), .free ("tuple" : Str), .free ("sorted" : Str), .free ("set" : Str), .free ("repr" : Str), .glo ("CASE_PLACES" : Str)]
def fa : List He.Fa := fa0 ++ fa1
def ts : List He.Tab := [(fun K => He.ga K ("CASE_PLACES" : Str), [("near" : Str), ("at" : Str), ("far" : Str)])]
def ini : List (Str × IniW) := []
def dv_CASE_PLACES : List He.Dv := [.int (0), .int (1), .int (2)]
def kv_CASE_PLACES : List (Txt × D) := [(tx "near", (.int (0))), (tx "at", (.int (1))), (tx "far", (.int (2)))]
def exs (K : PySem.W.Frag) : List Bool := [He.valsB K (He.ga K ("CASE_PLACES" : Str)) ((kv_CASE_PLACES.map fun q => sOf q.1).zip dv_CASE_PLACES)]
def ex (K : PySem.W.Frag) : Bool := (exs K).all id
abbrev Says (w : World) (K : PySem.W.Frag) : Prop := SaysV fa fn ts ini ex w K
theorem ex_at {w : World} {K : PySem.W.Frag} (s : Says w K) (i : Nat) {b : Bool} (h : (exs K)[i]? = some b) : b = true := List.all_eq_true.mp s.ex_ b (List.mem_of_getElem? h)
section
variable {w : World} {K : PySem.W.Frag} {mg : Str → Option Value} {base h : Heap} {k : Nat} {c : CF}
theorem cd_CASE_PLACES : ∀ (i : Nat) (d : He.Dv) (q : Txt × D), dv_CASE_PLACES[i]? = some d → kv_CASE_PLACES[i]? = some q → ∀ H μ, Rep ⟨K, w, P⟩ H μ q.2 (d.v K)
  | 0, d, q, h1, h2, H, μ => by
    cases h1
    cases h2
    unfold Rep
    exact rfl
  | 1, d, q, h1, h2, H, μ => by
    cases h1
    cases h2
    unfold Rep
    exact rfl
  | 2, d, q, h1, h2, H, μ => by
    cases h1
    cases h2
    unfold Rep
    exact rfl
  | n + 3, d, q, h1, h2, H, μ => by cases h1
theorem fx_of (X : K.In h) (G : h.Ns mainGlobals mg) (s : Says w K) (hf : ∀ (i : Nat) (x : Str) (ps : List Str), tab[i]? = some (x, ps) → Cal tabs P w K mg base k x ps (c i)) : Fx w K mg base k c where
  f := hf
  b_len := He.free_ok X G (s.d.fact 38 (f := .free ("len" : Str)) rfl)
  b_list := He.free_ok X G (s.d.fact 39 (f := .free ("list" : Str)) rfl)
  b_range := He.free_ok X G (s.d.fact 40 (f := .free ("range" : Str)) rfl)
  b_int := He.free_ok X G (s.d.fact 41 (f := .free ("int" : Str)) rfl)
  b_tuple := He.free_ok X G (s.d.fact 42 (f := .free ("tuple" : Str)) rfl)
  b_sorted := He.free_ok X G (s.d.fact 43 (f := .free ("sorted" : Str)) rfl)
  b_set := He.free_ok X G (s.d.fact 44 (f := .free ("set" : Str)) rfl)
  b_repr := He.free_ok X G (s.d.fact 45 (f := .free ("repr" : Str)) rfl)
  k_CASE_PLACES := ⟨_, He.glo_ok X G (s.d.fact 46 (f := .glo ("CASE_PLACES" : Str)) rfl), .ref (He.ga K ("CASE_PLACES" : Str)), rfl, cdict_of (kvs := kv_CASE_PLACES) (dvs := dv_CASE_PLACES) (by rw [s.tab 0 rfl]; rfl) (ex_at s 0 rfl) rfl cd_CASE_PLACES⟩
theorem c0 (X : K.In h) (G : h.Ns mainGlobals mg) (s : Says w K) {φ : DF} (hF : ∀ fd, FunD K df0.name df0.qual df0.params df0.body df0.scope [] [] (He.fAd K df0.at_) fd → FnG P w K mg base (CX P w) k (He.fAd K df0.at_) fd [("one" : Str), ("other" : Str)] (spF tabs ⟨K, w, P⟩ 2 φ)) : Cal tabs P w K mg base k ("is_above_kinds" : Str) [("one" : Str), ("other" : Str)] φ := by
  obtain ⟨fd, FD⟩ := s.d.def_ 0 (d := df0) rfl
  have FD : FunD K df0.name df0.qual df0.params df0.body df0.scope [] [] (He.fAd K df0.at_) fd := FD
  exact ⟨_, fd, hF fd FD, He.glo_ok X G (s.d.fact 0 (f := .glo ("is_above_kinds" : Str)) rfl), FD.kp, bindEq FD fun _ _ _ _ _ _ us hl => match us, hl with | [_, _], _ => rfl, bindKw FD fun _ _ _ _ _ _ us hl => match us, hl with | [_, _], _ => rfl⟩
theorem c1 (X : K.In h) (G : h.Ns mainGlobals mg) (s : Says w K) {φ : DF} (hF : ∀ fd, FunD K df1.name df1.qual df1.params df1.body df1.scope [] [] (He.fAd K df1.at_) fd → FnG P w K mg base (CX P w) k (He.fAd K df1.at_) fd [("marks" : Str), ("x" : Str)] (spF tabs ⟨K, w, P⟩ 2 φ)) : Cal tabs P w K mg base k ("gap_at" : Str) [("marks" : Str), ("x" : Str)] φ := by
  obtain ⟨fd, FD⟩ := s.d.def_ 1 (d := df1) rfl
  have FD : FunD K df1.name df1.qual df1.params df1.body df1.scope [] [] (He.fAd K df1.at_) fd := FD
  exact ⟨_, fd, hF fd FD, He.glo_ok X G (s.d.fact 1 (f := .glo ("gap_at" : Str)) rfl), FD.kp, bindEq FD fun _ _ _ _ _ _ us hl => match us, hl with | [_, _], _ => rfl, bindKw FD fun _ _ _ _ _ _ us hl => match us, hl with | [_, _], _ => rfl⟩
theorem c2 (X : K.In h) (G : h.Ns mainGlobals mg) (s : Says w K) {φ : DF} (hF : ∀ fd, FunD K df2.name df2.qual df2.params df2.body df2.scope [] [] (He.fAd K df2.at_) fd → FnG P w K mg base (CX P w) k (He.fAd K df2.at_) fd [("marks" : Str), ("x" : Str)] (spF tabs ⟨K, w, P⟩ 2 φ)) : Cal tabs P w K mg base k ("upper_at" : Str) [("marks" : Str), ("x" : Str)] φ := by
  obtain ⟨fd, FD⟩ := s.d.def_ 2 (d := df2) rfl
  have FD : FunD K df2.name df2.qual df2.params df2.body df2.scope [] [] (He.fAd K df2.at_) fd := FD
  exact ⟨_, fd, hF fd FD, He.glo_ok X G (s.d.fact 2 (f := .glo ("upper_at" : Str)) rfl), FD.kp, bindEq FD fun _ _ _ _ _ _ us hl => match us, hl with | [_, _], _ => rfl, bindKw FD fun _ _ _ _ _ _ us hl => match us, hl with | [_, _], _ => rfl⟩
theorem c3 (X : K.In h) (G : h.Ns mainGlobals mg) (s : Says w K) {φ : DF} (hF : ∀ fd, FunD K df3.name df3.qual df3.params df3.body df3.scope [] [] (He.fAd K df3.at_) fd → FnG P w K mg base (CX P w) k (He.fAd K df3.at_) fd [("marks" : Str), ("x" : Str), ("y" : Str)] (spF tabs ⟨K, w, P⟩ 3 φ)) : Cal tabs P w K mg base k ("case_at" : Str) [("marks" : Str), ("x" : Str), ("y" : Str)] φ := by
  obtain ⟨fd, FD⟩ := s.d.def_ 3 (d := df3) rfl
  have FD : FunD K df3.name df3.qual df3.params df3.body df3.scope [] [] (He.fAd K df3.at_) fd := FD
  exact ⟨_, fd, hF fd FD, He.glo_ok X G (s.d.fact 3 (f := .glo ("case_at" : Str)) rfl), FD.kp, bindEq FD fun _ _ _ _ _ _ us hl => match us, hl with | [_, _, _], _ => rfl, bindKw FD fun _ _ _ _ _ _ us hl => match us, hl with | [_, _, _], _ => rfl⟩
theorem c4 (X : K.In h) (G : h.Ns mainGlobals mg) (s : Says w K) {φ : DF} (hF : ∀ fd, FunD K df4.name df4.qual df4.params df4.body df4.scope [] [] (He.fAd K df4.at_) fd → FnG P w K mg base (CX P w) k (He.fAd K df4.at_) fd [("marks" : Str), ("y" : Str)] (spF tabs ⟨K, w, P⟩ 2 φ)) : Cal tabs P w K mg base k ("least_mark" : Str) [("marks" : Str), ("y" : Str)] φ := by
  obtain ⟨fd, FD⟩ := s.d.def_ 4 (d := df4) rfl
  have FD : FunD K df4.name df4.qual df4.params df4.body df4.scope [] [] (He.fAd K df4.at_) fd := FD
  exact ⟨_, fd, hF fd FD, He.glo_ok X G (s.d.fact 4 (f := .glo ("least_mark" : Str)) rfl), FD.kp, bindEq FD fun _ _ _ _ _ _ us hl => match us, hl with | [_, _], _ => rfl, bindKw FD fun _ _ _ _ _ _ us hl => match us, hl with | [_, _], _ => rfl⟩
theorem c5 (X : K.In h) (G : h.Ns mainGlobals mg) (s : Says w K) {φ : DF} (hF : ∀ fd, FunD K df5.name df5.qual df5.params df5.body df5.scope [] [] (He.fAd K df5.at_) fd → FnG P w K mg base (CX P w) k (He.fAd K df5.at_) fd [("marks" : Str), ("x" : Str), ("y" : Str), ("move" : Str)] (spF tabs ⟨K, w, P⟩ 4 φ)) : Cal tabs P w K mg base k ("end_by" : Str) [("marks" : Str), ("x" : Str), ("y" : Str), ("move" : Str)] φ := by
  obtain ⟨fd, FD⟩ := s.d.def_ 5 (d := df5) rfl
  have FD : FunD K df5.name df5.qual df5.params df5.body df5.scope [] [] (He.fAd K df5.at_) fd := FD
  exact ⟨_, fd, hF fd FD, He.glo_ok X G (s.d.fact 5 (f := .glo ("end_by" : Str)) rfl), FD.kp, bindEq FD fun _ _ _ _ _ _ us hl => match us, hl with | [_, _, _, _], _ => rfl, bindKw FD fun _ _ _ _ _ _ us hl => match us, hl with | [_, _, _, _], _ => rfl⟩
theorem c6 (X : K.In h) (G : h.Ns mainGlobals mg) (s : Says w K) {φ : DF} (hF : ∀ fd, FunD K df6.name df6.qual df6.params df6.body df6.scope [] [] (He.fAd K df6.at_) fd → FnG P w K mg base (CX P w) k (He.fAd K df6.at_) fd [("rule" : Str), ("phase" : Str), ("case" : Str)] (spF tabs ⟨K, w, P⟩ 3 φ)) : Cal tabs P w K mg base k ("pair_for" : Str) [("rule" : Str), ("phase" : Str), ("case" : Str)] φ := by
  obtain ⟨fd, FD⟩ := s.d.def_ 6 (d := df6) rfl
  have FD : FunD K df6.name df6.qual df6.params df6.body df6.scope [] [] (He.fAd K df6.at_) fd := FD
  exact ⟨_, fd, hF fd FD, He.glo_ok X G (s.d.fact 6 (f := .glo ("pair_for" : Str)) rfl), FD.kp, bindEq FD fun _ _ _ _ _ _ us hl => match us, hl with | [_, _, _], _ => rfl, bindKw FD fun _ _ _ _ _ _ us hl => match us, hl with | [_, _, _], _ => rfl⟩
theorem c7 (X : K.In h) (G : h.Ns mainGlobals mg) (s : Says w K) {φ : DF} (hF : ∀ fd, FunD K df7.name df7.qual df7.params df7.body df7.scope [] [] (He.fAd K df7.at_) fd → FnG P w K mg base (CX P w) k (He.fAd K df7.at_) fd [("rule" : Str), ("state" : Str), ("y" : Str)] (spF tabs ⟨K, w, P⟩ 3 φ)) : Cal tabs P w K mg base k ("stepped" : Str) [("rule" : Str), ("state" : Str), ("y" : Str)] φ := by
  obtain ⟨fd, FD⟩ := s.d.def_ 7 (d := df7) rfl
  have FD : FunD K df7.name df7.qual df7.params df7.body df7.scope [] [] (He.fAd K df7.at_) fd := FD
  exact ⟨_, fd, hF fd FD, He.glo_ok X G (s.d.fact 7 (f := .glo ("stepped" : Str)) rfl), FD.kp, bindEq FD fun _ _ _ _ _ _ us hl => match us, hl with | [_, _, _], _ => rfl, bindKw FD fun _ _ _ _ _ _ us hl => match us, hl with | [_, _, _], _ => rfl⟩
theorem c8 (X : K.In h) (G : h.Ns mainGlobals mg) (s : Says w K) {φ : DF} (hF : ∀ fd, FunD K df8.name df8.qual df8.params df8.body df8.scope [] [] (He.fAd K df8.at_) fd → FnG P w K mg base (CX P w) k (He.fAd K df8.at_) fd [("one" : Str), ("two" : Str)] (spF tabs ⟨K, w, P⟩ 2 φ)) : Cal tabs P w K mg base k ("is_less" : Str) [("one" : Str), ("two" : Str)] φ := by
  obtain ⟨fd, FD⟩ := s.d.def_ 8 (d := df8) rfl
  have FD : FunD K df8.name df8.qual df8.params df8.body df8.scope [] [] (He.fAd K df8.at_) fd := FD
  exact ⟨_, fd, hF fd FD, He.glo_ok X G (s.d.fact 8 (f := .glo ("is_less" : Str)) rfl), FD.kp, bindEq FD fun _ _ _ _ _ _ us hl => match us, hl with | [_, _], _ => rfl, bindKw FD fun _ _ _ _ _ _ us hl => match us, hl with | [_, _], _ => rfl⟩
theorem c9 (X : K.In h) (G : h.Ns mainGlobals mg) (s : Says w K) {φ : DF} (hF : ∀ fd, FunD K df9.name df9.qual df9.params df9.body df9.scope [] [] (He.fAd K df9.at_) fd → FnG P w K mg base (CX P w) k (He.fAd K df9.at_) fd [("first" : Str)] (spF tabs ⟨K, w, P⟩ 1 φ)) : Cal tabs P w K mg base k ("first_joint" : Str) [("first" : Str)] φ := by
  obtain ⟨fd, FD⟩ := s.d.def_ 9 (d := df9) rfl
  have FD : FunD K df9.name df9.qual df9.params df9.body df9.scope [] [] (He.fAd K df9.at_) fd := FD
  exact ⟨_, fd, hF fd FD, He.glo_ok X G (s.d.fact 9 (f := .glo ("first_joint" : Str)) rfl), FD.kp, bindEq FD fun _ _ _ _ _ _ us hl => match us, hl with | [_], _ => rfl, bindKw FD fun _ _ _ _ _ _ us hl => match us, hl with | [_], _ => rfl⟩
theorem c10 (X : K.In h) (G : h.Ns mainGlobals mg) (s : Says w K) {φ : DF} (hF : ∀ fd, FunD K df10.name df10.qual df10.params df10.body df10.scope [] [] (He.fAd K df10.at_) fd → FnG P w K mg base (CX P w) k (He.fAd K df10.at_) fd [("rule" : Str), ("other" : Str), ("joint" : Str), ("y" : Str)] (spF tabs ⟨K, w, P⟩ 4 φ)) : Cal tabs P w K mg base k ("joint_after" : Str) [("rule" : Str), ("other" : Str), ("joint" : Str), ("y" : Str)] φ := by
  obtain ⟨fd, FD⟩ := s.d.def_ 10 (d := df10) rfl
  have FD : FunD K df10.name df10.qual df10.params df10.body df10.scope [] [] (He.fAd K df10.at_) fd := FD
  exact ⟨_, fd, hF fd FD, He.glo_ok X G (s.d.fact 10 (f := .glo ("joint_after" : Str)) rfl), FD.kp, bindEq FD fun _ _ _ _ _ _ us hl => match us, hl with | [_, _, _, _], _ => rfl, bindKw FD fun _ _ _ _ _ _ us hl => match us, hl with | [_, _, _, _], _ => rfl⟩
theorem c11 (X : K.In h) (G : h.Ns mainGlobals mg) (s : Says w K) {φ : DF} (hF : ∀ fd, FunD K df11.name df11.qual df11.params df11.body df11.scope [] [] (He.fAd K df11.at_) fd → FnG P w K mg base (CX P w) k (He.fAd K df11.at_) fd [("joint" : Str)] (spF tabs ⟨K, w, P⟩ 1 φ)) : Cal tabs P w K mg base k ("is_above_joint" : Str) [("joint" : Str)] φ := by
  obtain ⟨fd, FD⟩ := s.d.def_ 11 (d := df11) rfl
  have FD : FunD K df11.name df11.qual df11.params df11.body df11.scope [] [] (He.fAd K df11.at_) fd := FD
  exact ⟨_, fd, hF fd FD, He.glo_ok X G (s.d.fact 11 (f := .glo ("is_above_joint" : Str)) rfl), FD.kp, bindEq FD fun _ _ _ _ _ _ us hl => match us, hl with | [_], _ => rfl, bindKw FD fun _ _ _ _ _ _ us hl => match us, hl with | [_], _ => rfl⟩
theorem c12 (X : K.In h) (G : h.Ns mainGlobals mg) (s : Says w K) {φ : DF} (hF : ∀ fd, FunD K df12.name df12.qual df12.params df12.body df12.scope [] [] (He.fAd K df12.at_) fd → FnG P w K mg base (CX P w) k (He.fAd K df12.at_) fd [("joint" : Str)] (spF tabs ⟨K, w, P⟩ 1 φ)) : Cal tabs P w K mg base k ("lesser_last" : Str) [("joint" : Str)] φ := by
  obtain ⟨fd, FD⟩ := s.d.def_ 12 (d := df12) rfl
  have FD : FunD K df12.name df12.qual df12.params df12.body df12.scope [] [] (He.fAd K df12.at_) fd := FD
  exact ⟨_, fd, hF fd FD, He.glo_ok X G (s.d.fact 12 (f := .glo ("lesser_last" : Str)) rfl), FD.kp, bindEq FD fun _ _ _ _ _ _ us hl => match us, hl with | [_], _ => rfl, bindKw FD fun _ _ _ _ _ _ us hl => match us, hl with | [_], _ => rfl⟩
theorem c13 (X : K.In h) (G : h.Ns mainGlobals mg) (s : Says w K) {φ : DF} (hF : ∀ fd, FunD K df13.name df13.qual df13.params df13.body df13.scope [] [] (He.fAd K df13.at_) fd → FnG P w K mg base (CX P w) k (He.fAd K df13.at_) fd [("joint" : Str), ("span" : Str)] (spF tabs ⟨K, w, P⟩ 2 φ)) : Cal tabs P w K mg base k ("further_elements" : Str) [("joint" : Str), ("span" : Str)] φ := by
  obtain ⟨fd, FD⟩ := s.d.def_ 13 (d := df13) rfl
  have FD : FunD K df13.name df13.qual df13.params df13.body df13.scope [] [] (He.fAd K df13.at_) fd := FD
  exact ⟨_, fd, hF fd FD, He.glo_ok X G (s.d.fact 13 (f := .glo ("further_elements" : Str)) rfl), FD.kp, bindEq FD fun _ _ _ _ _ _ us hl => match us, hl with | [_, _], _ => rfl, bindKw FD fun _ _ _ _ _ _ us hl => match us, hl with | [_, _], _ => rfl⟩
theorem c14 (X : K.In h) (G : h.Ns mainGlobals mg) (s : Says w K) {φ : DF} (hF : ∀ fd, FunD K df14.name df14.qual df14.params df14.body df14.scope [] [] (He.fAd K df14.at_) fd → FnG P w K mg base (CX P w) k (He.fAd K df14.at_) fd [("rule" : Str), ("other" : Str), ("span" : Str)] (spF tabs ⟨K, w, P⟩ 3 φ)) : Cal tabs P w K mg base k ("joints_with_rows" : Str) [("rule" : Str), ("other" : Str), ("span" : Str)] φ := by
  obtain ⟨fd, FD⟩ := s.d.def_ 14 (d := df14) rfl
  have FD : FunD K df14.name df14.qual df14.params df14.body df14.scope [] [] (He.fAd K df14.at_) fd := FD
  exact ⟨_, fd, hF fd FD, He.glo_ok X G (s.d.fact 14 (f := .glo ("joints_with_rows" : Str)) rfl), FD.kp, bindEq FD fun _ _ _ _ _ _ us hl => match us, hl with | [_, _, _], _ => rfl, bindKw FD fun _ _ _ _ _ _ us hl => match us, hl with | [_, _, _], _ => rfl⟩
theorem c15 (X : K.In h) (G : h.Ns mainGlobals mg) (s : Says w K) {φ : DF} (hF : ∀ fd, FunD K df15.name df15.qual df15.params df15.body df15.scope [] [] (He.fAd K df15.at_) fd → FnG P w K mg base (CX P w) k (He.fAd K df15.at_) fd [("rule" : Str), ("other" : Str), ("span" : Str)] (spF tabs ⟨K, w, P⟩ 3 φ)) : Cal tabs P w K mg base k ("above_row" : Str) [("rule" : Str), ("other" : Str), ("span" : Str)] φ := by
  obtain ⟨fd, FD⟩ := s.d.def_ 15 (d := df15) rfl
  have FD : FunD K df15.name df15.qual df15.params df15.body df15.scope [] [] (He.fAd K df15.at_) fd := FD
  exact ⟨_, fd, hF fd FD, He.glo_ok X G (s.d.fact 15 (f := .glo ("above_row" : Str)) rfl), FD.kp, bindEq FD fun _ _ _ _ _ _ us hl => match us, hl with | [_, _, _], _ => rfl, bindKw FD fun _ _ _ _ _ _ us hl => match us, hl with | [_, _, _], _ => rfl⟩
theorem c16 (X : K.In h) (G : h.Ns mainGlobals mg) (s : Says w K) {φ : DF} (hF : ∀ fd, FunD K df16.name df16.qual df16.params df16.body df16.scope [] [] (He.fAd K df16.at_) fd → FnG P w K mg base (CX P w) k (He.fAd K df16.at_) fd [("rule" : Str), ("other" : Str), ("span" : Str)] (spF tabs ⟨K, w, P⟩ 3 φ)) : Cal tabs P w K mg base k ("never_above" : Str) [("rule" : Str), ("other" : Str), ("span" : Str)] φ := by
  obtain ⟨fd, FD⟩ := s.d.def_ 16 (d := df16) rfl
  have FD : FunD K df16.name df16.qual df16.params df16.body df16.scope [] [] (He.fAd K df16.at_) fd := FD
  exact ⟨_, fd, hF fd FD, He.glo_ok X G (s.d.fact 16 (f := .glo ("never_above" : Str)) rfl), FD.kp, bindEq FD fun _ _ _ _ _ _ us hl => match us, hl with | [_, _, _], _ => rfl, bindKw FD fun _ _ _ _ _ _ us hl => match us, hl with | [_, _, _], _ => rfl⟩
theorem c17 (X : K.In h) (G : h.Ns mainGlobals mg) (s : Says w K) {φ : DF} (hF : ∀ fd, FunD K df17.name df17.qual df17.params df17.body df17.scope [] [] (He.fAd K df17.at_) fd → FnG P w K mg base (CX P w) k (He.fAd K df17.at_) fd [("_law_script" : Str)] (spF tabs ⟨K, w, P⟩ 1 φ)) : Cal tabs P w K mg base k ("_law_feed" : Str) [("_law_script" : Str)] φ := by
  obtain ⟨fd, FD⟩ := s.d.def_ 17 (d := df17) rfl
  have FD : FunD K df17.name df17.qual df17.params df17.body df17.scope [] [] (He.fAd K df17.at_) fd := FD
  exact ⟨_, fd, hF fd FD, He.glo_ok X G (s.d.fact 17 (f := .glo ("_law_feed" : Str)) rfl), FD.kp, bindEq FD fun _ _ _ _ _ _ us hl => match us, hl with | [_], _ => rfl, bindKw FD fun _ _ _ _ _ _ us hl => match us, hl with | [_], _ => rfl⟩
theorem c18 (X : K.In h) (G : h.Ns mainGlobals mg) (s : Says w K) {φ : DF} (hF : ∀ fd, FunD K df18.name df18.qual df18.params df18.body df18.scope [] [] (He.fAd K df18.at_) fd → FnG P w K mg base (CX P w) k (He.fAd K df18.at_) fd [("_law_feed_here" : Str), ("_law_many" : Str)] (spF tabs ⟨K, w, P⟩ 2 φ)) : Cal tabs P w K mg base k ("_law_draw" : Str) [("_law_feed_here" : Str), ("_law_many" : Str)] φ := by
  obtain ⟨fd, FD⟩ := s.d.def_ 18 (d := df18) rfl
  have FD : FunD K df18.name df18.qual df18.params df18.body df18.scope [] [] (He.fAd K df18.at_) fd := FD
  exact ⟨_, fd, hF fd FD, He.glo_ok X G (s.d.fact 18 (f := .glo ("_law_draw" : Str)) rfl), FD.kp, bindEq FD fun _ _ _ _ _ _ us hl => match us, hl with | [_, _], _ => rfl, bindKw FD fun _ _ _ _ _ _ us hl => match us, hl with | [_, _], _ => rfl⟩
theorem c19 (X : K.In h) (G : h.Ns mainGlobals mg) (s : Says w K) {φ : DF} (hF : ∀ fd, FunD K df19.name df19.qual df19.params df19.body df19.scope [] [] (He.fAd K df19.at_) fd → FnG P w K mg base (CX P w) k (He.fAd K df19.at_) fd [("_law_feed_here" : Str), ("_law_some" : Str)] (spF tabs ⟨K, w, P⟩ 2 φ)) : Cal tabs P w K mg base k ("_law_any" : Str) [("_law_feed_here" : Str), ("_law_some" : Str)] φ := by
  obtain ⟨fd, FD⟩ := s.d.def_ 19 (d := df19) rfl
  have FD : FunD K df19.name df19.qual df19.params df19.body df19.scope [] [] (He.fAd K df19.at_) fd := FD
  exact ⟨_, fd, hF fd FD, He.glo_ok X G (s.d.fact 19 (f := .glo ("_law_any" : Str)) rfl), FD.kp, bindEq FD fun _ _ _ _ _ _ us hl => match us, hl with | [_, _], _ => rfl, bindKw FD fun _ _ _ _ _ _ us hl => match us, hl with | [_, _], _ => rfl⟩
theorem c20 (X : K.In h) (G : h.Ns mainGlobals mg) (s : Says w K) {φ : DF} (hF : ∀ fd, FunD K df20.name df20.qual df20.params df20.body df20.scope [] [] (He.fAd K df20.at_) fd → FnG P w K mg base (CX P w) k (He.fAd K df20.at_) fd [("_law_one" : Str)] (spF tabs ⟨K, w, P⟩ 1 φ)) : Cal tabs P w K mg base k ("_law_key" : Str) [("_law_one" : Str)] φ := by
  obtain ⟨fd, FD⟩ := s.d.def_ 20 (d := df20) rfl
  have FD : FunD K df20.name df20.qual df20.params df20.body df20.scope [] [] (He.fAd K df20.at_) fd := FD
  exact ⟨_, fd, hF fd FD, He.glo_ok X G (s.d.fact 20 (f := .glo ("_law_key" : Str)) rfl), FD.kp, bindEq FD fun _ _ _ _ _ _ us hl => match us, hl with | [_], _ => rfl, bindKw FD fun _ _ _ _ _ _ us hl => match us, hl with | [_], _ => rfl⟩
theorem c21 (X : K.In h) (G : h.Ns mainGlobals mg) (s : Says w K) {φ : DF} (hF : ∀ fd, FunD K df21.name df21.qual df21.params df21.body df21.scope [] [] (He.fAd K df21.at_) fd → FnG P w K mg base (CX P w) k (He.fAd K df21.at_) fd [("_law_marks" : Str), ("_law_x" : Str), ("_law_y" : Str)] (spF tabs ⟨K, w, P⟩ 3 φ)) : Cal tabs P w K mg base k ("_law_case" : Str) [("_law_marks" : Str), ("_law_x" : Str), ("_law_y" : Str)] φ := by
  obtain ⟨fd, FD⟩ := s.d.def_ 21 (d := df21) rfl
  have FD : FunD K df21.name df21.qual df21.params df21.body df21.scope [] [] (He.fAd K df21.at_) fd := FD
  exact ⟨_, fd, hF fd FD, He.glo_ok X G (s.d.fact 21 (f := .glo ("_law_case" : Str)) rfl), FD.kp, bindEq FD fun _ _ _ _ _ _ us hl => match us, hl with | [_, _, _], _ => rfl, bindKw FD fun _ _ _ _ _ _ us hl => match us, hl with | [_, _, _], _ => rfl⟩
theorem c22 (X : K.In h) (G : h.Ns mainGlobals mg) (s : Says w K) {φ : DF} (hF : ∀ fd, FunD K df22.name df22.qual df22.params df22.body df22.scope [] [] (He.fAd K df22.at_) fd → FnG P w K mg base (CX P w) k (He.fAd K df22.at_) fd [("_law_marks" : Str), ("_law_move" : Str), ("_law_x" : Str), ("_law_y" : Str)] (spF tabs ⟨K, w, P⟩ 4 φ)) : Cal tabs P w K mg base k ("_law_jump" : Str) [("_law_marks" : Str), ("_law_move" : Str), ("_law_x" : Str), ("_law_y" : Str)] φ := by
  obtain ⟨fd, FD⟩ := s.d.def_ 22 (d := df22) rfl
  have FD : FunD K df22.name df22.qual df22.params df22.body df22.scope [] [] (He.fAd K df22.at_) fd := FD
  exact ⟨_, fd, hF fd FD, He.glo_ok X G (s.d.fact 22 (f := .glo ("_law_jump" : Str)) rfl), FD.kp, bindEq FD fun _ _ _ _ _ _ us hl => match us, hl with | [_, _, _, _], _ => rfl, bindKw FD fun _ _ _ _ _ _ us hl => match us, hl with | [_, _, _, _], _ => rfl⟩
theorem c23 (X : K.In h) (G : h.Ns mainGlobals mg) (s : Says w K) {φ : DF} (hF : ∀ fd, FunD K df23.name df23.qual df23.params df23.body df23.scope [] [] (He.fAd K df23.at_) fd → FnG P w K mg base (CX P w) k (He.fAd K df23.at_) fd [("_law_rule_here" : Str), ("_law_state" : Str), ("_law_y" : Str)] (spF tabs ⟨K, w, P⟩ 3 φ)) : Cal tabs P w K mg base k ("_law_moved" : Str) [("_law_rule_here" : Str), ("_law_state" : Str), ("_law_y" : Str)] φ := by
  obtain ⟨fd, FD⟩ := s.d.def_ 23 (d := df23) rfl
  have FD : FunD K df23.name df23.qual df23.params df23.body df23.scope [] [] (He.fAd K df23.at_) fd := FD
  exact ⟨_, fd, hF fd FD, He.glo_ok X G (s.d.fact 23 (f := .glo ("_law_moved" : Str)) rfl), FD.kp, bindEq FD fun _ _ _ _ _ _ us hl => match us, hl with | [_, _, _], _ => rfl, bindKw FD fun _ _ _ _ _ _ us hl => match us, hl with | [_, _, _], _ => rfl⟩
theorem c24 (X : K.In h) (G : h.Ns mainGlobals mg) (s : Says w K) {φ : DF} (hF : ∀ fd, FunD K df24.name df24.qual df24.params df24.body df24.scope [] [] (He.fAd K df24.at_) fd → FnG P w K mg base (CX P w) k (He.fAd K df24.at_) fd [("_law_rule_here" : Str), ("_law_some" : Str)] (spF tabs ⟨K, w, P⟩ 2 φ)) : Cal tabs P w K mg base k ("_law_states" : Str) [("_law_rule_here" : Str), ("_law_some" : Str)] φ := by
  obtain ⟨fd, FD⟩ := s.d.def_ 24 (d := df24) rfl
  have FD : FunD K df24.name df24.qual df24.params df24.body df24.scope [] [] (He.fAd K df24.at_) fd := FD
  exact ⟨_, fd, hF fd FD, He.glo_ok X G (s.d.fact 24 (f := .glo ("_law_states" : Str)) rfl), FD.kp, bindEq FD fun _ _ _ _ _ _ us hl => match us, hl with | [_, _], _ => rfl, bindKw FD fun _ _ _ _ _ _ us hl => match us, hl with | [_, _], _ => rfl⟩
theorem c25 (X : K.In h) (G : h.Ns mainGlobals mg) (s : Says w K) {φ : DF} (hF : ∀ fd, FunD K df25.name df25.qual df25.params df25.body df25.scope [] [] (He.fAd K df25.at_) fd → FnG P w K mg base (CX P w) k (He.fAd K df25.at_) fd [("_law_rule_here" : Str), ("_law_some" : Str)] (spF tabs ⟨K, w, P⟩ 2 φ)) : Cal tabs P w K mg base k ("_law_ends" : Str) [("_law_rule_here" : Str), ("_law_some" : Str)] φ := by
  obtain ⟨fd, FD⟩ := s.d.def_ 25 (d := df25) rfl
  have FD : FunD K df25.name df25.qual df25.params df25.body df25.scope [] [] (He.fAd K df25.at_) fd := FD
  exact ⟨_, fd, hF fd FD, He.glo_ok X G (s.d.fact 25 (f := .glo ("_law_ends" : Str)) rfl), FD.kp, bindEq FD fun _ _ _ _ _ _ us hl => match us, hl with | [_, _], _ => rfl, bindKw FD fun _ _ _ _ _ _ us hl => match us, hl with | [_, _], _ => rfl⟩
theorem c26 (X : K.In h) (G : h.Ns mainGlobals mg) (s : Says w K) {φ : DF} (hF : ∀ fd, FunD K df26.name df26.qual df26.params df26.body df26.scope [] [] (He.fAd K df26.at_) fd → FnG P w K mg base (CX P w) k (He.fAd K df26.at_) fd [("_law_feed_here" : Str)] (spF tabs ⟨K, w, P⟩ 1 φ)) : Cal tabs P w K mg base k ("_law_hand" : Str) [("_law_feed_here" : Str)] φ := by
  obtain ⟨fd, FD⟩ := s.d.def_ 26 (d := df26) rfl
  have FD : FunD K df26.name df26.qual df26.params df26.body df26.scope [] [] (He.fAd K df26.at_) fd := FD
  exact ⟨_, fd, hF fd FD, He.glo_ok X G (s.d.fact 26 (f := .glo ("_law_hand" : Str)) rfl), FD.kp, bindEq FD fun _ _ _ _ _ _ us hl => match us, hl with | [_], _ => rfl, bindKw FD fun _ _ _ _ _ _ us hl => match us, hl with | [_], _ => rfl⟩
theorem c27 (X : K.In h) (G : h.Ns mainGlobals mg) (s : Says w K) {φ : DF} (hF : ∀ fd, FunD K df27.name df27.qual df27.params df27.body df27.scope [] [] (He.fAd K df27.at_) fd → FnG P w K mg base (CX P w) k (He.fAd K df27.at_) fd [("_law_feed_here" : Str), ("_law_many" : Str)] (spF tabs ⟨K, w, P⟩ 2 φ)) : Cal tabs P w K mg base k ("_law_pair" : Str) [("_law_feed_here" : Str), ("_law_many" : Str)] φ := by
  obtain ⟨fd, FD⟩ := s.d.def_ 27 (d := df27) rfl
  have FD : FunD K df27.name df27.qual df27.params df27.body df27.scope [] [] (He.fAd K df27.at_) fd := FD
  exact ⟨_, fd, hF fd FD, He.glo_ok X G (s.d.fact 27 (f := .glo ("_law_pair" : Str)) rfl), FD.kp, bindEq FD fun _ _ _ _ _ _ us hl => match us, hl with | [_, _], _ => rfl, bindKw FD fun _ _ _ _ _ _ us hl => match us, hl with | [_, _], _ => rfl⟩
theorem c28 (X : K.In h) (G : h.Ns mainGlobals mg) (s : Says w K) {φ : DF} (hF : ∀ fd, FunD K df28.name df28.qual df28.params df28.body df28.scope [] [] (He.fAd K df28.at_) fd → FnG P w K mg base (CX P w) k (He.fAd K df28.at_) fd [("_law_feed_here" : Str), ("_law_most" : Str)] (spF tabs ⟨K, w, P⟩ 2 φ)) : Cal tabs P w K mg base k ("_law_rule" : Str) [("_law_feed_here" : Str), ("_law_most" : Str)] φ := by
  obtain ⟨fd, FD⟩ := s.d.def_ 28 (d := df28) rfl
  have FD : FunD K df28.name df28.qual df28.params df28.body df28.scope [] [] (He.fAd K df28.at_) fd := FD
  exact ⟨_, fd, hF fd FD, He.glo_ok X G (s.d.fact 28 (f := .glo ("_law_rule" : Str)) rfl), FD.kp, bindEq FD fun _ _ _ _ _ _ us hl => match us, hl with | [_, _], _ => rfl, bindKw FD fun _ _ _ _ _ _ us hl => match us, hl with | [_, _], _ => rfl⟩
theorem c29 (X : K.In h) (G : h.Ns mainGlobals mg) (s : Says w K) {φ : DF} (hF : ∀ fd, FunD K df29.name df29.qual df29.params df29.body df29.scope [] [] (He.fAd K df29.at_) fd → FnG P w K mg base (CX P w) k (He.fAd K df29.at_) fd [("_law_feed_here" : Str), ("_law_rule_here" : Str)] (spF tabs ⟨K, w, P⟩ 2 φ)) : Cal tabs P w K mg base k ("_law_changed" : Str) [("_law_feed_here" : Str), ("_law_rule_here" : Str)] φ := by
  obtain ⟨fd, FD⟩ := s.d.def_ 29 (d := df29) rfl
  have FD : FunD K df29.name df29.qual df29.params df29.body df29.scope [] [] (He.fAd K df29.at_) fd := FD
  exact ⟨_, fd, hF fd FD, He.glo_ok X G (s.d.fact 29 (f := .glo ("_law_changed" : Str)) rfl), FD.kp, bindEq FD fun _ _ _ _ _ _ us hl => match us, hl with | [_, _], _ => rfl, bindKw FD fun _ _ _ _ _ _ us hl => match us, hl with | [_, _], _ => rfl⟩
theorem c30 (X : K.In h) (G : h.Ns mainGlobals mg) (s : Says w K) {φ : DF} (hF : ∀ fd, FunD K df30.name df30.qual df30.params df30.body df30.scope [] [] (He.fAd K df30.at_) fd → FnG P w K mg base (CX P w) k (He.fAd K df30.at_) fd [("_law_feed_here" : Str), ("_law_most" : Str)] (spF tabs ⟨K, w, P⟩ 2 φ)) : Cal tabs P w K mg base k ("_law_two" : Str) [("_law_feed_here" : Str), ("_law_most" : Str)] φ := by
  obtain ⟨fd, FD⟩ := s.d.def_ 30 (d := df30) rfl
  have FD : FunD K df30.name df30.qual df30.params df30.body df30.scope [] [] (He.fAd K df30.at_) fd := FD
  exact ⟨_, fd, hF fd FD, He.glo_ok X G (s.d.fact 30 (f := .glo ("_law_two" : Str)) rfl), FD.kp, bindEq FD fun _ _ _ _ _ _ us hl => match us, hl with | [_, _], _ => rfl, bindKw FD fun _ _ _ _ _ _ us hl => match us, hl with | [_, _], _ => rfl⟩
theorem c31 (X : K.In h) (G : h.Ns mainGlobals mg) (s : Says w K) {φ : DF} (hF : ∀ fd, FunD K df31.name df31.qual df31.params df31.body df31.scope [] [] (He.fAd K df31.at_) fd → FnG P w K mg base (CX P w) k (He.fAd K df31.at_) fd [("_law_rule_here" : Str), ("_law_order" : Str)] (spF tabs ⟨K, w, P⟩ 2 φ)) : Cal tabs P w K mg base k ("_law_renamed" : Str) [("_law_rule_here" : Str), ("_law_order" : Str)] φ := by
  obtain ⟨fd, FD⟩ := s.d.def_ 31 (d := df31) rfl
  have FD : FunD K df31.name df31.qual df31.params df31.body df31.scope [] [] (He.fAd K df31.at_) fd := FD
  exact ⟨_, fd, hF fd FD, He.glo_ok X G (s.d.fact 31 (f := .glo ("_law_renamed" : Str)) rfl), FD.kp, bindEq FD fun _ _ _ _ _ _ us hl => match us, hl with | [_, _], _ => rfl, bindKw FD fun _ _ _ _ _ _ us hl => match us, hl with | [_, _], _ => rfl⟩
theorem c32 (X : K.In h) (G : h.Ns mainGlobals mg) (s : Says w K) {φ : DF} (hF : ∀ fd, FunD K df32.name df32.qual df32.params df32.body df32.scope [] [] (He.fAd K df32.at_) fd → FnG P w K mg base (CX P w) k (He.fAd K df32.at_) fd [("_law_feed_here" : Str), ("_law_rule_here" : Str)] (spF tabs ⟨K, w, P⟩ 2 φ)) : Cal tabs P w K mg base k ("_law_twin" : Str) [("_law_feed_here" : Str), ("_law_rule_here" : Str)] φ := by
  obtain ⟨fd, FD⟩ := s.d.def_ 32 (d := df32) rfl
  have FD : FunD K df32.name df32.qual df32.params df32.body df32.scope [] [] (He.fAd K df32.at_) fd := FD
  exact ⟨_, fd, hF fd FD, He.glo_ok X G (s.d.fact 32 (f := .glo ("_law_twin" : Str)) rfl), FD.kp, bindEq FD fun _ _ _ _ _ _ us hl => match us, hl with | [_, _], _ => rfl, bindKw FD fun _ _ _ _ _ _ us hl => match us, hl with | [_, _], _ => rfl⟩
theorem c33 (X : K.In h) (G : h.Ns mainGlobals mg) (s : Says w K) {φ : DF} (hF : ∀ fd, FunD K df33.name df33.qual df33.params df33.body df33.scope [] [] (He.fAd K df33.at_) fd → FnG P w K mg base (CX P w) k (He.fAd K df33.at_) fd [("_law_pair_here" : Str)] (spF tabs ⟨K, w, P⟩ 1 φ)) : Cal tabs P w K mg base k ("_law_is_above" : Str) [("_law_pair_here" : Str)] φ := by
  obtain ⟨fd, FD⟩ := s.d.def_ 33 (d := df33) rfl
  have FD : FunD K df33.name df33.qual df33.params df33.body df33.scope [] [] (He.fAd K df33.at_) fd := FD
  exact ⟨_, fd, hF fd FD, He.glo_ok X G (s.d.fact 33 (f := .glo ("_law_is_above" : Str)) rfl), FD.kp, bindEq FD fun _ _ _ _ _ _ us hl => match us, hl with | [_], _ => rfl, bindKw FD fun _ _ _ _ _ _ us hl => match us, hl with | [_], _ => rfl⟩
theorem c34 (X : K.In h) (G : h.Ns mainGlobals mg) (s : Says w K) {φ : DF} (hF : ∀ fd, FunD K df34.name df34.qual df34.params df34.body df34.scope [] [] (He.fAd K df34.at_) fd → FnG P w K mg base (CX P w) k (He.fAd K df34.at_) fd [("_law_first" : Str), ("_law_top" : Str), ("_law_most" : Str)] (spF tabs ⟨K, w, P⟩ 3 φ)) : Cal tabs P w K mg base k ("_law_rows" : Str) [("_law_first" : Str), ("_law_top" : Str), ("_law_most" : Str)] φ := by
  obtain ⟨fd, FD⟩ := s.d.def_ 34 (d := df34) rfl
  have FD : FunD K df34.name df34.qual df34.params df34.body df34.scope [] [] (He.fAd K df34.at_) fd := FD
  exact ⟨_, fd, hF fd FD, He.glo_ok X G (s.d.fact 34 (f := .glo ("_law_rows" : Str)) rfl), FD.kp, bindEq FD fun _ _ _ _ _ _ us hl => match us, hl with | [_, _, _], _ => rfl, bindKw FD fun _ _ _ _ _ _ us hl => match us, hl with | [_, _, _], _ => rfl⟩
theorem c35 (X : K.In h) (G : h.Ns mainGlobals mg) (s : Says w K) {φ : DF} (hF : ∀ fd, FunD K df35.name df35.qual df35.params df35.body df35.scope [] [] (He.fAd K df35.at_) fd → FnG P w K mg base (CX P w) k (He.fAd K df35.at_) fd [("_law_feed_here" : Str), ("_law_most" : Str)] (spF tabs ⟨K, w, P⟩ 2 φ)) : Cal tabs P w K mg base k ("_law_span" : Str) [("_law_feed_here" : Str), ("_law_most" : Str)] φ := by
  obtain ⟨fd, FD⟩ := s.d.def_ 35 (d := df35) rfl
  have FD : FunD K df35.name df35.qual df35.params df35.body df35.scope [] [] (He.fAd K df35.at_) fd := FD
  exact ⟨_, fd, hF fd FD, He.glo_ok X G (s.d.fact 35 (f := .glo ("_law_span" : Str)) rfl), FD.kp, bindEq FD fun _ _ _ _ _ _ us hl => match us, hl with | [_, _], _ => rfl, bindKw FD fun _ _ _ _ _ _ us hl => match us, hl with | [_, _], _ => rfl⟩
theorem c36 (X : K.In h) (G : h.Ns mainGlobals mg) (s : Says w K) {φ : DF} (hF : ∀ fd, FunD K df36.name df36.qual df36.params df36.body df36.scope [] [] (He.fAd K df36.at_) fd → FnG P w K mg base (CX P w) k (He.fAd K df36.at_) fd [("_law_one" : Str), ("_law_two_here" : Str), ("_law_frame" : Str)] (spF tabs ⟨K, w, P⟩ 3 φ)) : Cal tabs P w K mg base k ("_law_pair_right" : Str) [("_law_one" : Str), ("_law_two_here" : Str), ("_law_frame" : Str)] φ := by
  obtain ⟨fd, FD⟩ := s.d.def_ 36 (d := df36) rfl
  have FD : FunD K df36.name df36.qual df36.params df36.body df36.scope [] [] (He.fAd K df36.at_) fd := FD
  exact ⟨_, fd, hF fd FD, He.glo_ok X G (s.d.fact 36 (f := .glo ("_law_pair_right" : Str)) rfl), FD.kp, bindEq FD fun _ _ _ _ _ _ us hl => match us, hl with | [_, _, _], _ => rfl, bindKw FD fun _ _ _ _ _ _ us hl => match us, hl with | [_, _, _], _ => rfl⟩
theorem c37 (X : K.In h) (G : h.Ns mainGlobals mg) (s : Says w K) {φ : DF} (hF : ∀ fd, FunD K df37.name df37.qual df37.params df37.body df37.scope [] [] (He.fAd K df37.at_) fd → FnG P w K mg base (CX P w) k (He.fAd K df37.at_) fd [("_law_script" : Str)] (spF tabs ⟨K, w, P⟩ 1 φ)) : Cal tabs P w K mg base k ("law" : Str) [("_law_script" : Str)] φ := by
  obtain ⟨fd, FD⟩ := s.d.def_ 37 (d := df37) rfl
  have FD : FunD K df37.name df37.qual df37.params df37.body df37.scope [] [] (He.fAd K df37.at_) fd := FD
  exact ⟨_, fd, hF fd FD, He.glo_ok X G (s.d.fact 37 (f := .glo ("law" : Str)) rfl), FD.kp, bindEq FD fun _ _ _ _ _ _ us hl => match us, hl with | [_], _ => rfl, bindKw FD fun _ _ _ _ _ _ us hl => match us, hl with | [_], _ => rfl⟩
theorem cals (X : K.In h) (G : h.Ns mainGlobals mg) (s : Says w K) : ∀ (k i : Nat) (x : Str) (ps : List Str), tab[i]? = some (x, ps) → Cal tabs P w K mg base k x ps (callF k i)
  | 0, i, x, ps, e => match i, e with
    | 0, e => by
      cases e
      exact c0 X G s fun fd _ => fn_0
    | 1, e => by
      cases e
      exact c1 X G s fun fd _ => fn_0
    | 2, e => by
      cases e
      exact c2 X G s fun fd _ => fn_0
    | 3, e => by
      cases e
      exact c3 X G s fun fd _ => fn_0
    | 4, e => by
      cases e
      exact c4 X G s fun fd _ => fn_0
    | 5, e => by
      cases e
      exact c5 X G s fun fd _ => fn_0
    | 6, e => by
      cases e
      exact c6 X G s fun fd _ => fn_0
    | 7, e => by
      cases e
      exact c7 X G s fun fd _ => fn_0
    | 8, e => by
      cases e
      exact c8 X G s fun fd _ => fn_0
    | 9, e => by
      cases e
      exact c9 X G s fun fd _ => fn_0
    | 10, e => by
      cases e
      exact c10 X G s fun fd _ => fn_0
    | 11, e => by
      cases e
      exact c11 X G s fun fd _ => fn_0
    | 12, e => by
      cases e
      exact c12 X G s fun fd _ => fn_0
    | 13, e => by
      cases e
      exact c13 X G s fun fd _ => fn_0
    | 14, e => by
      cases e
      exact c14 X G s fun fd _ => fn_0
    | 15, e => by
      cases e
      exact c15 X G s fun fd _ => fn_0
    | 16, e => by
      cases e
      exact c16 X G s fun fd _ => fn_0
    | 17, e => by
      cases e
      exact c17 X G s fun fd _ => fn_0
    | 18, e => by
      cases e
      exact c18 X G s fun fd _ => fn_0
    | 19, e => by
      cases e
      exact c19 X G s fun fd _ => fn_0
    | 20, e => by
      cases e
      exact c20 X G s fun fd _ => fn_0
    | 21, e => by
      cases e
      exact c21 X G s fun fd _ => fn_0
    | 22, e => by
      cases e
      exact c22 X G s fun fd _ => fn_0
    | 23, e => by
      cases e
      exact c23 X G s fun fd _ => fn_0
    | 24, e => by
      cases e
      exact c24 X G s fun fd _ => fn_0
    | 25, e => by
      cases e
      exact c25 X G s fun fd _ => fn_0
    | 26, e => by
      cases e
      exact c26 X G s fun fd _ => fn_0
    | 27, e => by
      cases e
      exact c27 X G s fun fd _ => fn_0
    | 28, e => by
      cases e
      exact c28 X G s fun fd _ => fn_0
    | 29, e => by
      cases e
      exact c29 X G s fun fd _ => fn_0
    | 30, e => by
      cases e
      exact c30 X G s fun fd _ => fn_0
    | 31, e => by
      cases e
      exact c31 X G s fun fd _ => fn_0
    | 32, e => by
      cases e
      exact c32 X G s fun fd _ => fn_0
    | 33, e => by
      cases e
      exact c33 X G s fun fd _ => fn_0
    | 34, e => by
      cases e
      exact c34 X G s fun fd _ => fn_0
    | 35, e => by
      cases e
      exact c35 X G s fun fd _ => fn_0
    | 36, e => by
      cases e
      exact c36 X G s fun fd _ => fn_0
    | 37, e => by
      cases e
      exact c37 X G s fun fd _ => fn_0
    | n + 38, e => by cases e
  | k + 1, i, x, ps, e => match i, e with
    | 0, e => by
      cases e
      exact c0 X G s fun fd FD => fn_d (base := base) FD S0 fun cdv A outer s_ H E W wx b => b0 (fx_of X G s (cals X G s k)) b
    | 1, e => by
      cases e
      exact c1 X G s fun fd FD => fn_d (base := base) FD S1 fun cdv A outer s_ H E W wx b => b1 (fx_of X G s (cals X G s k)) b
    | 2, e => by
      cases e
      exact c2 X G s fun fd FD => fn_d (base := base) FD S2 fun cdv A outer s_ H E W wx b => b2 (fx_of X G s (cals X G s k)) b
    | 3, e => by
      cases e
      exact c3 X G s fun fd FD => fn_d (base := base) FD S3 fun cdv A outer s_ H E W wx b => b3 (fx_of X G s (cals X G s k)) b
    | 4, e => by
      cases e
      exact c4 X G s fun fd FD => fn_d (base := base) FD S4 fun cdv A outer s_ H E W wx b => b4 (fx_of X G s (cals X G s k)) b
    | 5, e => by
      cases e
      exact c5 X G s fun fd FD => fn_d (base := base) FD S5 fun cdv A outer s_ H E W wx b => b5 (fx_of X G s (cals X G s k)) b
    | 6, e => by
      cases e
      exact c6 X G s fun fd FD => fn_d (base := base) FD S6 fun cdv A outer s_ H E W wx b => b6 (fx_of X G s (cals X G s k)) b
    | 7, e => by
      cases e
      exact c7 X G s fun fd FD => fn_d (base := base) FD S7 fun cdv A outer s_ H E W wx b => b7 (fx_of X G s (cals X G s k)) b
    | 8, e => by
      cases e
      exact c8 X G s fun fd FD => fn_d (base := base) FD S8 fun cdv A outer s_ H E W wx b => b8 (fx_of X G s (cals X G s k)) b
    | 9, e => by
      cases e
      exact c9 X G s fun fd FD => fn_d (base := base) FD S9 fun cdv A outer s_ H E W wx b => b9 (fx_of X G s (cals X G s k)) b
    | 10, e => by
      cases e
      exact c10 X G s fun fd FD => fn_d (base := base) FD S10 fun cdv A outer s_ H E W wx b => b10 (fx_of X G s (cals X G s k)) b
    | 11, e => by
      cases e
      exact c11 X G s fun fd FD => fn_d (base := base) FD S11 fun cdv A outer s_ H E W wx b => b11 (fx_of X G s (cals X G s k)) b
    | 12, e => by
      cases e
      exact c12 X G s fun fd FD => fn_d (base := base) FD S12 fun cdv A outer s_ H E W wx b => b12 (fx_of X G s (cals X G s k)) b
    | 13, e => by
      cases e
      exact c13 X G s fun fd FD => fn_d (base := base) FD S13 fun cdv A outer s_ H E W wx b => b13 (fx_of X G s (cals X G s k)) b
    | 14, e => by
      cases e
      exact c14 X G s fun fd FD => fn_d (base := base) FD S14 fun cdv A outer s_ H E W wx b => b14 (fx_of X G s (cals X G s k)) b
    | 15, e => by
      cases e
      exact c15 X G s fun fd FD => fn_d (base := base) FD S15 fun cdv A outer s_ H E W wx b => b15 (fx_of X G s (cals X G s k)) b
    | 16, e => by
      cases e
      exact c16 X G s fun fd FD => fn_d (base := base) FD S16 fun cdv A outer s_ H E W wx b => b16 (fx_of X G s (cals X G s k)) b
    | 17, e => by
      cases e
      exact c17 X G s fun fd FD => fn_d (base := base) FD S17 fun cdv A outer s_ H E W wx b => b17 (fx_of X G s (cals X G s k)) b
    | 18, e => by
      cases e
      exact c18 X G s fun fd FD => fn_d (base := base) FD S18 fun cdv A outer s_ H E W wx b => b18 (fx_of X G s (cals X G s k)) b
    | 19, e => by
      cases e
      exact c19 X G s fun fd FD => fn_d (base := base) FD S19 fun cdv A outer s_ H E W wx b => b19 (fx_of X G s (cals X G s k)) b
    | 20, e => by
      cases e
      exact c20 X G s fun fd FD => fn_d (base := base) FD S20 fun cdv A outer s_ H E W wx b => b20 (fx_of X G s (cals X G s k)) b
    | 21, e => by
      cases e
      exact c21 X G s fun fd FD => fn_d (base := base) FD S21 fun cdv A outer s_ H E W wx b => b21 (fx_of X G s (cals X G s k)) b
    | 22, e => by
      cases e
      exact c22 X G s fun fd FD => fn_d (base := base) FD S22 fun cdv A outer s_ H E W wx b => b22 (fx_of X G s (cals X G s k)) b
    | 23, e => by
      cases e
      exact c23 X G s fun fd FD => fn_d (base := base) FD S23 fun cdv A outer s_ H E W wx b => b23 (fx_of X G s (cals X G s k)) b
    | 24, e => by
      cases e
      exact c24 X G s fun fd FD => fn_d (base := base) FD S24 fun cdv A outer s_ H E W wx b => b24 (fx_of X G s (cals X G s k)) b
    | 25, e => by
      cases e
      exact c25 X G s fun fd FD => fn_d (base := base) FD S25 fun cdv A outer s_ H E W wx b => b25 (fx_of X G s (cals X G s k)) b
    | 26, e => by
      cases e
      exact c26 X G s fun fd FD => fn_d (base := base) FD S26 fun cdv A outer s_ H E W wx b => b26 (fx_of X G s (cals X G s k)) b
    | 27, e => by
      cases e
      exact c27 X G s fun fd FD => fn_d (base := base) FD S27 fun cdv A outer s_ H E W wx b => b27 (fx_of X G s (cals X G s k)) b
    | 28, e => by
      cases e
      exact c28 X G s fun fd FD => fn_d (base := base) FD S28 fun cdv A outer s_ H E W wx b => b28 (fx_of X G s (cals X G s k)) b
    | 29, e => by
      cases e
      exact c29 X G s fun fd FD => fn_d (base := base) FD S29 fun cdv A outer s_ H E W wx b => b29 (fx_of X G s (cals X G s k)) b
    | 30, e => by
      cases e
      exact c30 X G s fun fd FD => fn_d (base := base) FD S30 fun cdv A outer s_ H E W wx b => b30 (fx_of X G s (cals X G s k)) b
    | 31, e => by
      cases e
      exact c31 X G s fun fd FD => fn_d (base := base) FD S31 fun cdv A outer s_ H E W wx b => b31 (fx_of X G s (cals X G s k)) b
    | 32, e => by
      cases e
      exact c32 X G s fun fd FD => fn_d (base := base) FD S32 fun cdv A outer s_ H E W wx b => b32 (fx_of X G s (cals X G s k)) b
    | 33, e => by
      cases e
      exact c33 X G s fun fd FD => fn_d (base := base) FD S33 fun cdv A outer s_ H E W wx b => b33 (fx_of X G s (cals X G s k)) b
    | 34, e => by
      cases e
      exact c34 X G s fun fd FD => fn_d (base := base) FD S34 fun cdv A outer s_ H E W wx b => b34 (fx_of X G s (cals X G s k)) b
    | 35, e => by
      cases e
      exact c35 X G s fun fd FD => fn_d (base := base) FD S35 fun cdv A outer s_ H E W wx b => b35 (fx_of X G s (cals X G s k)) b
    | 36, e => by
      cases e
      exact c36 X G s fun fd FD => fn_d (base := base) FD S36 fun cdv A outer s_ H E W wx b => b36 (fx_of X G s (cals X G s k)) b
    | 37, e => by
      cases e
      exact c37 X G s fun fd FD => fn_d (base := base) FD S37 fun cdv A outer s_ H E W wx b => b37 (fx_of X G s (cals X G s k)) b
    | n + 38, e => by cases e
end
end K62
namespace K62
open PySem DV L2
abbrev End := Option Int
inductive Mv | take | next | out | wait
deriving DecidableEq
structure Ph where
  near : Mv × Nat
  at_ : Mv × Nat
  far : Mv × Nat
structure Rule where
  marks : List Int
  phs : List Ph
structure State where
  ph : Nat
  end_ : End
  last : End
deriving DecidableEq
def above : End → End → Bool
  | _, none => false
  | none, some _ => true
  | some i, some j => decide (j < i)
/-- is_less -/
def less (a b : End) : Bool := above b a
inductive Case | near | at_ | far
deriving DecidableEq
def upper (marks : List Int) (x : Int) : End := marks[(marks.filter fun m => decide (m ≤ x)).length]?
def caseOf (marks : List Int) (x : Int) (y : End) : Case := match y with
  | none => .far
  | some j => match upper marks x with
    | none => .near
    | some u => if j < u then .near else if j = u then .at_ else .far
def least (marks : List Int) (y : End) : End := match y with
  | none => none
  | some j => (marks.filter fun m => decide (j ≤ m))[0]?
def endBy (marks : List Int) (x : End) (y : End) : Mv → End
  | .take => y
  | .next => least marks y
  | .out => none
  | .wait => x
def Ph.by_ (p : Ph) : Case → Mv × Nat
  | .near => p.near
  | .at_ => p.at_
  | .far => p.far
/-- behind one more element -/
def step (r : Rule) (s : State) (y : End) : State := match s.end_ with
  | none => s
  | some x => if above y (some x) = true then
      (match r.phs[s.ph]? with
      | none => ⟨s.ph, none, none⟩
      | some p =>
        let f := endBy r.marks (some x) y (p.by_ (caseOf r.marks x y)).1
        ⟨(p.by_ (caseOf r.marks x y)).2, f, if above y f = true then y else f⟩)
    else s
def eD : End → D
  | none => .non
  | some i => .int i
def mT : Mv → Txt
  | .take => tx "take"
  | .next => tx "next"
  | .out => tx "out"
  | .wait => tx "wait"
def pD (p : Mv × Nat) : D := .tup [.str (mT p.1), .int (p.2 : Nat)]
def phD (p : Ph) : D := .tup [pD p.near, pD p.at_, pD p.far]
def ruleD (r : Rule) : D := .tup [.tup (r.marks.map .int), .tup (r.phs.map phD)]
def stD (s : State) : D := .tup [.int (s.ph : Nat), eD s.end_, eD s.last]
def jD (j : State × State) : D := .tup [stD j.1, stD j.2]
def cT : Case → Txt
  | .near => tx "near"
  | .at_ => tx "at"
  | .far => tx "far"
/-- a rule that is one -/
structure Rule.Ok (r : Rule) : Prop where
  ne : r.phs ≠ []
  nx : ∀ p ∈ r.phs, p.near.2 < r.phs.length ∧ p.at_.2 < r.phs.length ∧ p.far.2 < r.phs.length
  up : r.marks.Pairwise (· < ·)
theorem isNon_eD (e : End) : DV.isNon (eD e) = e.isNone := by cases e <;> rfl
@[irreducible] def cF : Nat → CF := callF
theorem step_ (k i : Nat) : cF (k + 1) i = body (cF k) i := by
  unfold cF
  rfl
theorem cF_eq : cF = callF := by
  unfold cF
  rfl
end K62
namespace K62
open PySem DV L2
local macro_rules | `(tactic| simp_arith [$xs,*]) => `(tactic| simp only [wE_ok, wE_exc, wE_bad, wE_bind, wE_dbind, wE_if, wE_noX, ↓wS_seq, ↓wS_nil, ↓wS_pass, ↓wS_break, ↓wS_cont, ↓wS_expr, ↓wS_ret, ↓wS_retN, ↓wS_if, wG_some, wG_none, setAll, ↓wS_asg, ↓wS_par, ↓wS_set, ↓wS_setN, ↓wS_raise, ↓wS_try, ↓wS_for, wS_nx, wS_rt, forI_items, forS_nil, ↓forS_cons, ↓u_varO, uO_some, ↓u_cst, ↓u_nil, ↓u_cons, ↓u_d2, ↓u_tru, ↓u_bl, ↓u_and, ↓u_or, ↓u_tand, ↓u_tor, ↓u_tnot, ↓u_not, ↓u_neg, ↓u_ite, ↓u_tup, ↓u_lst, ↓u_call, ↓u_callF, ↓u_meth, ↓u_sl, ↓u_pNone, ↓u_pSome, ↓u_rev, ↓u_dic0, ↓u_prs0, ↓u_prs, ↓u_dic, ↓u_dicN, ↓u_lr2, ↓u_iVal, ↓u_iEn, ↓u_iRng1, ↓u_lc, aName_run, List.set_cons_zero, List.set_cons_succ, List.getElem?_cons_zero, List.getElem?_cons_succ, List.append_nil, List.length_cons, List.length_nil, truD_bl, truD_non, truD_int, truD_tup, blD_bl, pInt, eqB_int, eqB_str, reduceIte, Nat.reduceAdd, Nat.zero_add, Nat.reduceLeDiff, true_and, and_true, Bool.not_true, Bool.not_false, Bool.false_eq_true, Bool.true_eq_false, decide_true, decide_false, isi_non_int, isi_non_bool, isi_non_str, isi_non_tuple, isi_non_list, isi_bl_int, isi_bl_bool, isi_bl_str, isi_bl_tuple, isi_bl_list, isi_int_int, isi_int_bool, isi_int_str, isi_int_tuple, isi_int_list, isi_str_int, isi_str_bool, isi_str_str, isi_str_tuple, isi_str_list, isi_tup_int, isi_tup_bool, isi_tup_str, isi_tup_tuple, isi_tup_list, isi_frz_int, isi_frz_bool, isi_frz_str, isi_frz_tuple, isi_frz_list, len_tup, len_frz, ix0, ix1, ix2, ix3, ix4, ix5, neg_int, add_int, sub_int, add_tup, is_non, in_cdt, in_chr, ord_int, mod_int, fdiv_int, int_int, DV.sl_tup, itV_tup, itV_frz, list_tup, lit_big, Int.cast_ofNat_Int, enK_tup, aPair, cast_succ0, $xs,*])
local macro_rules | `(tactic| simp_arith! [$xs,*]) => `(tactic| simp only [wE_ok, wE_exc, wE_bad, wE_bind, wE_dbind, wE_if, wE_noX, ↓wS_seq, ↓wS_nil, ↓wS_pass, ↓wS_break, ↓wS_cont, ↓wS_expr, ↓wS_ret, ↓wS_retN, wG_some, wG_none, setAll, ↓wS_asg, ↓wS_par, ↓wS_set, ↓wS_setN, ↓wS_raise, ↓wS_try, wS_nx, wS_rt, forI_items, forS_nil, ↓u_varO, uO_some, ↓u_cst, ↓u_nil, ↓u_cons, ↓u_d2, ↓u_tru, ↓u_bl, ↓u_and, ↓u_or, ↓u_tand, ↓u_tor, ↓u_tnot, ↓u_not, ↓u_neg, ↓u_ite, ↓u_tup, ↓u_lst, ↓u_call, ↓u_callF, ↓u_meth, ↓u_sl, ↓u_pNone, ↓u_pSome, ↓u_rev, ↓u_dic0, ↓u_prs0, ↓u_prs, ↓u_dic, ↓u_dicN, ↓u_lr2, ↓u_iVal, ↓u_iEn, ↓u_iRng1, ↓u_lc, aName_run, List.set_cons_zero, List.set_cons_succ, List.getElem?_cons_zero, List.getElem?_cons_succ, List.append_nil, List.length_cons, List.length_nil, truD_bl, truD_non, truD_int, truD_tup, blD_bl, pInt, eqB_int, eqB_str, reduceIte, Nat.reduceAdd, Nat.zero_add, Nat.reduceLeDiff, true_and, and_true, Bool.not_true, Bool.not_false, Bool.false_eq_true, Bool.true_eq_false, decide_true, decide_false, isi_non_int, isi_non_bool, isi_non_str, isi_non_tuple, isi_non_list, isi_bl_int, isi_bl_bool, isi_bl_str, isi_bl_tuple, isi_bl_list, isi_int_int, isi_int_bool, isi_int_str, isi_int_tuple, isi_int_list, isi_str_int, isi_str_bool, isi_str_str, isi_str_tuple, isi_str_list, isi_tup_int, isi_tup_bool, isi_tup_str, isi_tup_tuple, isi_tup_list, isi_frz_int, isi_frz_bool, isi_frz_str, isi_frz_tuple, isi_frz_list, len_tup, len_frz, ix0, ix1, ix2, ix3, ix4, ix5, neg_int, add_int, sub_int, add_tup, is_non, in_cdt, in_chr, ord_int, mod_int, fdiv_int, int_int, DV.sl_tup, itV_tup, itV_frz, list_tup, lit_big, Int.cast_ofNat_Int, enK_tup, aPair, cast_succ0, $xs,*])
section
variable {h : DH}
theorem g0 (k : Nat) (a b : End) : cF (k + 1) 0 [eD a, eD b] h = .ok (.bl (above a b)) h := by
  rw [step_]
  apply Ok.run
  refine (wE_run rfl).mpr ?_
  show wS (m0 (cF k) [some _, some _] h) _ _
  unfold m0
  cases a <;> cases b <;> simp_arith [eD, DV.isNon, above, OrdK.z]
theorem g8 (k : Nat) (a b : End) : cF (k + 1) 8 [eD a, eD b] h = .ok (.bl (less a b)) h := by
  rw [step_]
  apply Ok.run
  refine (wE_run rfl).mpr ?_
  show wS (m8 (cF k) [some _, some _] h) _ _
  unfold m8
  cases a <;> cases b <;> simp_arith [eD, DV.isNon, above, less, OrdK.z]
def intsOf (ms : List Int) : List D := ms.map .int
theorem g1 (k : Nat) (ms : List Int) (x : Int) (hl : ms.length ≤ big) : ∃ y, cF (k + 1) 1 [.tup (ms.map .int), .int x] h = .ok (.int ((ms.filter fun m => decide (m ≤ x)).length : Nat)) (h ++ y) := by
  suffices q : Ok (cF (k + 1) 1 [.tup (ms.map .int), .int x] h) fun v h' => v = .int ((ms.filter fun m => decide (m ≤ x)).length : Nat) ∧ h <+: h' by
    obtain ⟨v, h', e, rfl, y, rfl⟩ := q.eq
    exact ⟨y, e⟩
  rw [step_]
  refine (wE_run rfl).mpr ?_
  show wS (m1 (cF k) [some _, some _, none] h) _ _
  unfold m1
  simp_arith []
  rw [u_lcS_pure (fun d => [some (.tup (ms.map .int)), some (.int x), some d]) (fun d => match d with | .int m => decide (m ≤ x) | _ => false) (fun d => d) ?_]
  · have e : List.filter (fun d => match d with | D.int m => decide (m ≤ x) | _ => false) (ms.map D.int) = (ms.filter fun m => decide (m ≤ x)).map D.int := by
      rw [List.filter_map]
      rfl
    rw [e, List.map_id']
    refine ⟨by simp; exact Nat.le_trans (List.length_filter_le _ _) hl, ?_⟩
    simp_arith [len_ref app_get, List.length_map]
    exact ⟨_, rfl⟩
  · intro d m
    obtain ⟨i, _, rfl⟩ := List.mem_map.mp m
    refine ⟨rfl, ?_, fun _ => rfl⟩
    apply Ok.run
    simp_arith [OrdK.z]
theorem g2 (k : Nat) (ms : List Int) (x : Int) (hl : ms.length ≤ big) : ∃ y, cF (k + 2) 2 [.tup (ms.map .int), .int x] h = .ok (eD (upper ms x)) (h ++ y) := by
  obtain ⟨y, e1⟩ := g1 k ms x hl (h := h)
  refine ⟨y, ?_⟩
  rw [step_]
  apply Ok.run
  refine (wE_run rfl).mpr ?_
  show wS (m2 (cF (k + 1)) [some _, some _, none] h) _ _
  unfold m2
  simp_arith [e1, OrdK.z, List.length_map]
  unfold upper
  by_cases lt : (ms.filter fun m => decide (m ≤ x)).length < ms.length
  · have d1 : decide (((ms.filter fun m => decide (m ≤ x)).length : Int) < (ms.length : Int)) = true := decide_eq_true (by omega)
    have ix := ix_at (h := h ++ y) (ds := ms.map D.int) (i := (ms.filter fun m => decide (m ≤ x)).length) (d := .int ms[(ms.filter fun m => decide (m ≤ x)).length]) (by rw [List.getElem?_map, List.getElem?_eq_getElem lt]; rfl)
    simp_arith [d1, ix]
    rw [List.getElem?_eq_getElem lt]
    rfl
  · have d1 : decide (((ms.filter fun m => decide (m ≤ x)).length : Int) < (ms.length : Int)) = false := decide_eq_false (by omega)
    simp_arith [d1]
    rw [List.getElem?_eq_none_iff.mpr (by omega)]
    rfl
def caseD (ms : List Int) (x y : End) : D := match x with
  | none => .non
  | some i => if above y (some i) = true then .str (cT (caseOf ms i y)) else .non
theorem g3 (k : Nat) (ms : List Int) (x y : End) (hl : ms.length ≤ big) : ∃ z, cF (k + 3) 3 [.tup (ms.map .int), eD x, eD y] h = .ok (caseD ms x y) (h ++ z) := by
  suffices q : Ok (cF (k + 3) 3 [.tup (ms.map .int), eD x, eD y] h) fun v h' => v = caseD ms x y ∧ h <+: h' by
    obtain ⟨v, h', e, rfl, y, rfl⟩ := q.eq
    exact ⟨y, e⟩
  have e0 := g0 (k + 1) y x (h := h)
  rw [step_]
  refine (wE_run rfl).mpr ?_
  show wS (m3 (cF (k + 2)) [some _, some _, some _, none] h) _ _
  unfold m3
  cases x with
  | none =>
    have a0 : above y none = false := by cases y <;> rfl
    rw [a0] at e0
    simp_arith [e0]
    exact ⟨rfl, ⟨[], by simp⟩⟩
  | some i =>
    cases ab : above y (some i) with
    | false =>
      rw [ab] at e0
      simp_arith [e0]
      refine ⟨?_, ⟨[], by simp⟩⟩
      simp only [caseD, ab]
      rfl
    | true =>
      rw [ab] at e0
      obtain ⟨z, e2⟩ := g2 k ms i hl (h := h)
      have ed : eD (some i) = .int i := rfl
      have cd : caseD ms (some i) y = .str (cT (caseOf ms i y)) := by simp only [caseD, ab]; rfl
      rw [cd]
      rw [ed] at e0 ⊢
      simp_arith [e0, e2, isNon_eD]
      cases y with
      | none =>
        simp_arith [Option.isNone_none, caseOf, cT]
        exact pre_app
      | some j =>
        have edj : eD (some j) = .int j := rfl
        cases u : upper ms i with
        | none =>
          simp_arith [Option.isNone_some, Option.isNone_none, caseOf, u, cT]
          exact pre_app
        | some m =>
          have edm : eD (some m) = .int m := rfl
          by_cases l1 : j < m
          · simp_arith [Option.isNone_some, edj, edm, OrdK.z, l1, caseOf, u, cT]
            exact pre_app
          · by_cases l2 : j = m
            · simp_arith [Option.isNone_some, edj, edm, OrdK.z, l1, l2, Int.lt_irrefl, caseOf, u, cT]
              exact pre_app
            · simp_arith [Option.isNone_some, edj, edm, OrdK.z, l1, l2, caseOf, u, cT]
              exact pre_app
end
end K62
namespace K62
open PySem DV L2
local macro_rules | `(tactic| simp_arith [$xs,*]) => `(tactic| simp only [wE_ok, wE_exc, wE_bad, wE_bind, wE_dbind, wE_if, wE_noX, ↓wS_seq, ↓wS_nil, ↓wS_pass, ↓wS_break, ↓wS_cont, ↓wS_expr, ↓wS_ret, ↓wS_retN, ↓wS_if, wG_some, wG_none, setAll, ↓wS_asg, ↓wS_par, ↓wS_set, ↓wS_setN, ↓wS_raise, ↓wS_try, ↓wS_for, wS_nx, wS_rt, forI_items, forS_nil, ↓forS_cons, ↓u_varO, uO_some, ↓u_cst, ↓u_nil, ↓u_cons, ↓u_d2, ↓u_tru, ↓u_bl, ↓u_and, ↓u_or, ↓u_tand, ↓u_tor, ↓u_tnot, ↓u_not, ↓u_neg, ↓u_ite, ↓u_tup, ↓u_lst, ↓u_call, ↓u_callF, ↓u_meth, ↓u_sl, ↓u_pNone, ↓u_pSome, ↓u_rev, ↓u_dic0, ↓u_prs0, ↓u_prs, ↓u_dic, ↓u_dicN, ↓u_lr2, ↓u_iVal, ↓u_iEn, ↓u_iRng1, ↓u_lc, aName_run, List.set_cons_zero, List.set_cons_succ, List.getElem?_cons_zero, List.getElem?_cons_succ, List.append_nil, List.length_cons, List.length_nil, truD_bl, truD_non, truD_int, truD_tup, blD_bl, pInt, eqB_int, eqB_str, reduceIte, Nat.reduceAdd, Nat.zero_add, Nat.reduceLeDiff, true_and, and_true, Bool.not_true, Bool.not_false, Bool.false_eq_true, Bool.true_eq_false, decide_true, decide_false, isi_non_int, isi_non_bool, isi_non_str, isi_non_tuple, isi_non_list, isi_bl_int, isi_bl_bool, isi_bl_str, isi_bl_tuple, isi_bl_list, isi_int_int, isi_int_bool, isi_int_str, isi_int_tuple, isi_int_list, isi_str_int, isi_str_bool, isi_str_str, isi_str_tuple, isi_str_list, isi_tup_int, isi_tup_bool, isi_tup_str, isi_tup_tuple, isi_tup_list, isi_frz_int, isi_frz_bool, isi_frz_str, isi_frz_tuple, isi_frz_list, len_tup, len_frz, ix0, ix1, ix2, ix3, ix4, ix5, neg_int, add_int, sub_int, add_tup, is_non, in_cdt, in_chr, ord_int, mod_int, fdiv_int, int_int, DV.sl_tup, itV_tup, itV_frz, list_tup, lit_big, Int.cast_ofNat_Int, enK_tup, aPair, cast_succ0, $xs,*])
local macro_rules | `(tactic| simp_arith! [$xs,*]) => `(tactic| simp only [wE_ok, wE_exc, wE_bad, wE_bind, wE_dbind, wE_if, wE_noX, ↓wS_seq, ↓wS_nil, ↓wS_pass, ↓wS_break, ↓wS_cont, ↓wS_expr, ↓wS_ret, ↓wS_retN, wG_some, wG_none, setAll, ↓wS_asg, ↓wS_par, ↓wS_set, ↓wS_setN, ↓wS_raise, ↓wS_try, wS_nx, wS_rt, forI_items, forS_nil, ↓u_varO, uO_some, ↓u_cst, ↓u_nil, ↓u_cons, ↓u_d2, ↓u_tru, ↓u_bl, ↓u_and, ↓u_or, ↓u_tand, ↓u_tor, ↓u_tnot, ↓u_not, ↓u_neg, ↓u_ite, ↓u_tup, ↓u_lst, ↓u_call, ↓u_callF, ↓u_meth, ↓u_sl, ↓u_pNone, ↓u_pSome, ↓u_rev, ↓u_dic0, ↓u_prs0, ↓u_prs, ↓u_dic, ↓u_dicN, ↓u_lr2, ↓u_iVal, ↓u_iEn, ↓u_iRng1, ↓u_lc, aName_run, List.set_cons_zero, List.set_cons_succ, List.getElem?_cons_zero, List.getElem?_cons_succ, List.append_nil, List.length_cons, List.length_nil, truD_bl, truD_non, truD_int, truD_tup, blD_bl, pInt, eqB_int, eqB_str, reduceIte, Nat.reduceAdd, Nat.zero_add, Nat.reduceLeDiff, true_and, and_true, Bool.not_true, Bool.not_false, Bool.false_eq_true, Bool.true_eq_false, decide_true, decide_false, isi_non_int, isi_non_bool, isi_non_str, isi_non_tuple, isi_non_list, isi_bl_int, isi_bl_bool, isi_bl_str, isi_bl_tuple, isi_bl_list, isi_int_int, isi_int_bool, isi_int_str, isi_int_tuple, isi_int_list, isi_str_int, isi_str_bool, isi_str_str, isi_str_tuple, isi_str_list, isi_tup_int, isi_tup_bool, isi_tup_str, isi_tup_tuple, isi_tup_list, isi_frz_int, isi_frz_bool, isi_frz_str, isi_frz_tuple, isi_frz_list, len_tup, len_frz, ix0, ix1, ix2, ix3, ix4, ix5, neg_int, add_int, sub_int, add_tup, is_non, in_cdt, in_chr, ord_int, mod_int, fdiv_int, int_int, DV.sl_tup, itV_tup, itV_frz, list_tup, lit_big, Int.cast_ofNat_Int, enK_tup, aPair, cast_succ0, $xs,*])
section
variable {h : DH}
theorem g4 (k : Nat) (ms : List Int) (y : End) (hl : ms.length ≤ big) : ∃ z, cF (k + 1) 4 [.tup (ms.map .int), eD y] h = .ok (eD (least ms y)) (h ++ z) := by
  suffices q : Ok (cF (k + 1) 4 [.tup (ms.map .int), eD y] h) fun v h' => v = eD (least ms y) ∧ h <+: h' by
    obtain ⟨v, h', e, rfl, y, rfl⟩ := q.eq
    exact ⟨y, e⟩
  rw [step_]
  refine (wE_run rfl).mpr ?_
  show wS (m4 (cF k) [some _, some _, none, none] h) _ _
  unfold m4
  simp_arith []
  rw [u_lcS_pure (fun d => [some (.tup (ms.map .int)), some (eD y), none, some d]) (fun d => match y, d with | some j, .int m => decide (j ≤ m) | _, _ => false) (fun d => d) ?_]
  · have e : List.filter (fun d => match y, d with | some j, D.int m => decide (j ≤ m) | _, _ => false) (ms.map D.int) = (match y with | none => [] | some j => ms.filter fun m => decide (j ≤ m)).map D.int := by
      cases y with
      | none =>
        show _ = []
        rw [List.filter_eq_nil_iff]
        intro a m
        simp
      | some j =>
        rw [List.filter_map]
        rfl
    rw [e, List.map_id']
    have hle : (match y with | none => [] | some j => ms.filter fun m => decide (j ≤ m)).length ≤ big := by
      cases y with
      | none => exact Nat.zero_le _
      | some j => exact Nat.le_trans (List.length_filter_le _ _) hl
    refine ⟨by rw [List.length_map]; exact hle, ?_⟩
    have hr : least ms y = (match y with | none => [] | some j => ms.filter fun m => decide (j ≤ m))[0]? := by cases y <;> rfl
    rw [hr]
    generalize (match y with | none => [] | some j => ms.filter fun m => decide (j ≤ m)) = L
    simp_arith [len_ref app_get, List.length_map, OrdK.z]
    cases L with
    | nil =>
      simp_arith [Int.lt_irrefl]
      exact ⟨rfl, ⟨_, rfl⟩⟩
    | cons a L =>
      have p0 : decide ((0 : Int) < ((L.length + 1 : Nat) : Int)) = true := decide_eq_true (by omega)
      have ix := ix_ref (h := h ++ [DO.lst (D.int a :: L.map D.int)]) (n := h.length) (i := 0) (d := .int a) app_get rfl
      have ix' : ixD (.ref h.length) (.int 0) (h ++ [DO.lst (D.int a :: L.map D.int)]) = .ok (.int a) (h ++ [DO.lst (D.int a :: L.map D.int)]) := ix
      simp_arith [p0, List.map_cons, ix']
      exact ⟨rfl, ⟨_, rfl⟩⟩
  · intro d m
    obtain ⟨i, _, rfl⟩ := List.mem_map.mp m
    refine ⟨rfl, ?_, fun _ => rfl⟩
    apply Ok.run
    cases y with
    | none => simp_arith [isNon_eD, Option.isNone_none]
    | some j =>
      have ed : eD (some j) = .int j := rfl
      simp_arith [DV.isNon, ed, OrdK.z]
theorem mT_take (m : Mv) : (mT m = tx "take") = (m = .take) := by
  cases m <;> simp <;> decide +kernel
theorem mT_next (m : Mv) : (mT m = tx "next") = (m = .next) := by
  cases m <;> simp <;> decide +kernel
theorem mT_out (m : Mv) : (mT m = tx "out") = (m = .out) := by
  cases m <;> simp <;> decide +kernel
theorem g5 (k : Nat) (ms : List Int) (x y : End) (m : Mv) (hl : ms.length ≤ big) : ∃ z, cF (k + 2) 5 [.tup (ms.map .int), eD x, eD y, .str (mT m)] h = .ok (eD (endBy ms x y m)) (h ++ z) := by
  suffices q : Ok (cF (k + 2) 5 [.tup (ms.map .int), eD x, eD y, .str (mT m)] h) fun v h' => v = eD (endBy ms x y m) ∧ h <+: h' by
    obtain ⟨v, h', e, rfl, y, rfl⟩ := q.eq
    exact ⟨y, e⟩
  obtain ⟨z, e4⟩ := g4 k ms y hl (h := h)
  rw [step_]
  refine (wE_run rfl).mpr ?_
  show wS (m5 (cF (k + 1)) [some _, some _, some _, some _] h) _ _
  unfold m5
  cases m
  · simp_arith [mT_take, endBy]
    exact ⟨[], by simp⟩
  · simp_arith [mT_take, mT_next, reduceCtorEq, e4, endBy]
    exact ⟨_, rfl⟩
  · simp_arith [mT_take, mT_next, mT_out, reduceCtorEq, endBy]
    exact ⟨rfl, ⟨[], by simp⟩⟩
  · simp_arith [mT_take, mT_next, mT_out, reduceCtorEq, endBy]
    exact ⟨[], by simp⟩
theorem look_case (c : Case) : lookT (cT c) [(tx "near", (.int (0))), (tx "at", (.int (1))), (tx "far", (.int (2)))] = some (D.int (match c with | .near => 0 | .at_ => 1 | .far => 2)) := by
  have h1 : (tx "near" = tx "at") = False := eq_false (by decide +kernel)
  have h2 : (tx "near" = tx "far") = False := eq_false (by decide +kernel)
  have h3 : (tx "at" = tx "far") = False := eq_false (by decide +kernel)
  cases c <;> simp [lookT, cT, h1, h2, h3]
theorem g6 (k : Nat) (r : Rule) (n : Nat) (c : Case) (p : Ph) (hp : r.phs[n]? = some p) : cF (k + 1) 6 [ruleD r, .int (n : Nat), .str (cT c)] h = .ok (pD (p.by_ c)) h := by
  rw [step_]
  apply Ok.run
  refine (wE_run rfl).mpr ?_
  show wS (m6 (cF k) [some _, some _, some _] h) _ _
  unfold m6
  have ix := ix_at (h := h) (ds := r.phs.map phD) (i := n) (d := phD p) (by rw [List.getElem?_map, hp]; rfl)
  simp_arith [ruleD, ix, c_CASE_PLACES, ix_cdt (look_case c)]
  cases c <;> simp_arith [phD, Ph.by_]
theorem ruleD_marks {r : Rule} : ixD (ruleD r) (.int 0) h = .ok (.tup (r.marks.map .int)) h := ix0
theorem caseD_none {ms : List Int} {x y : End} (h1 : x = none ∨ (∃ i, x = some i ∧ above y (some i) = false)) : caseD ms x y = .non := by
  rcases h1 with rfl | ⟨i, rfl, e⟩
  · rfl
  · simp only [caseD, e]
    rfl
theorem g7 (k : Nat) (r : Rule) (s : State) (y : End) (hl : r.marks.length ≤ big) (hs : s.ph < r.phs.length) : ∃ z, cF (k + 4) 7 [ruleD r, stD s, eD y] h = .ok (stD (step r s y)) (h ++ z) := by
  suffices q : Ok (cF (k + 4) 7 [ruleD r, stD s, eD y] h) fun v h' => v = stD (step r s y) ∧ h <+: h' by
    obtain ⟨v, h', e, rfl, y, rfl⟩ := q.eq
    exact ⟨y, e⟩
  obtain ⟨z, e3⟩ := g3 k r.marks s.end_ y hl (h := h)
  have a3 : ∀ (a0 a1 a2 : D) (env : DV.Env) (i j l : Nat), aTup 3 (aCons (aName i) (aCons (aName j) (aCons (aName l) aNil))) (.tup [a0, a1, a2]) env = some (((env.set i (some a0)).set j (some a1)).set l (some a2)) := fun _ _ _ _ _ _ _ => rfl
  rw [step_]
  refine (wE_run rfl).mpr ?_
  show wS (m7 (cF (k + 3)) [some _, some _, some _, none, none, none, none, none, none, none] h) _ _
  unfold m7
  cases hx : s.end_ with
  | none =>
    have c1 : caseD r.marks none y = .non := rfl
    have c2 : step r s y = s := by unfold step; rw [hx]
    rw [hx, c1] at e3
    rw [c2]
    have es : stD s = .tup [.int (s.ph : Nat), .non, eD s.last] := by unfold stD; rw [hx]; rfl
    have e3 : cF (k + 3) 3 [.tup (r.marks.map .int), .non, eD y] h = .ok .non (h ++ z) := e3
    rw [es]
    simp_arith [a3, ruleD_marks, e3, DV.isNon]
    exact ⟨_, rfl⟩
  | some x =>
    have es : stD s = .tup [.int (s.ph : Nat), .int x, eD s.last] := by unfold stD; rw [hx]; rfl
    cases ab : above y (some x) with
    | false =>
      have c1 : caseD r.marks (some x) y = .non := caseD_none (.inr ⟨x, rfl, ab⟩)
      have c2 : step r s y = s := by unfold step; rw [hx]; simp only [ab]; rfl
      rw [hx, c1] at e3
      rw [c2]
      have e3 : cF (k + 3) 3 [.tup (r.marks.map .int), .int x, eD y] h = .ok .non (h ++ z) := e3
      rw [es]
      simp_arith [a3, ruleD_marks, e3, DV.isNon]
      exact ⟨_, rfl⟩
    | true =>
      have c1 : caseD r.marks (some x) y = .str (cT (caseOf r.marks x y)) := by simp only [caseD, ab]; rfl
      have hp : r.phs[s.ph]? = some r.phs[s.ph] := List.getElem?_eq_getElem hs
      generalize r.phs[s.ph] = p at hp
      have c2 : step r s y = ⟨(p.by_ (caseOf r.marks x y)).2, endBy r.marks (some x) y (p.by_ (caseOf r.marks x y)).1, if above y (endBy r.marks (some x) y (p.by_ (caseOf r.marks x y)).1) = true then y else endBy r.marks (some x) y (p.by_ (caseOf r.marks x y)).1⟩ := by
        unfold step
        rw [hx]
        simp only [ab, hp, if_true]
      rw [hx, c1] at e3
      rw [c2]
      have e3 : cF (k + 3) 3 [.tup (r.marks.map .int), .int x, eD y] h = .ok (.str (cT (caseOf r.marks x y))) (h ++ z) := e3
      have e6 := g6 (k + 2) r s.ph (caseOf r.marks x y) p hp (h := h ++ z)
      generalize hc : p.by_ (caseOf r.marks x y) = mv at *
      obtain ⟨z5, e5⟩ := g5 (k + 1) r.marks (some x) y mv.1 hl (h := h ++ z)
      have e5 : cF (k + 3) 5 [.tup (r.marks.map .int), .int x, eD y, .str (mT mv.1)] (h ++ z) = .ok (eD (endBy r.marks (some x) y mv.1)) (h ++ z ++ z5) := e5
      rw [es]
      have e0 := g0 (k + 2) y (endBy r.marks (some x) y mv.1) (h := h ++ z ++ z5)
      simp_arith [a3, ruleD_marks, e3, DV.isNon, e6, pD, e5, e0]
      cases above y (endBy r.marks (some x) y mv.1) <;> simp_arith [List.append_assoc] <;> exact ⟨rfl, pre_app⟩
end
end K62
namespace K62
open PySem DV L2
abbrev Joint := State × State
abbrev Row := List Int
def st0 (x : Int) : State := ⟨0, some x, some x⟩
def jstep (r o : Rule) (j : Joint) (y : Int) : Joint := (step r j.1 (some y), step o j.2 (some y))
def run (r : Rule) (lo : Int) (ys : Row) : State := ys.foldl (fun s y => step r s (some y)) (st0 lo)
def jrun (r o : Rule) (lo : Int) (ys : Row) : Joint := (run r lo ys, run o lo ys)
theorem run_snoc {r : Rule} {lo : Int} {ys : Row} {y : Int} : run r lo (ys ++ [y]) = step r (run r lo ys) (some y) := by
  unfold run
  rw [List.foldl_append]
  rfl
theorem jrun_snoc {r o : Rule} {lo : Int} {ys : Row} {y : Int} : jrun r o lo (ys ++ [y]) = jstep r o (jrun r o lo ys) y := by
  unfold jrun jstep
  rw [run_snoc, run_snoc]
def lesserLast (j : Joint) : End := if less j.2.last j.1.last = true then j.2.last else j.1.last
def aboveJ (j : Joint) : Bool := less j.2.end_ j.1.end_
def ups (a : Int) (n : Nat) : Row := (List.range n).map fun k => a + (k : Nat)
theorem mem_ups {a y : Int} {n : Nat} : y ∈ ups a n ↔ a ≤ y ∧ y < a + n := by
  unfold ups
  rw [List.mem_map]
  constructor
  · rintro ⟨k, m, rfl⟩
    have := List.mem_range.mp m
    omega
  · rintro ⟨h1, h2⟩
    exact ⟨(y - a).toNat, List.mem_range.mpr (by omega), by omega⟩
theorem ups_len {a : Int} {n : Nat} : (ups a n).length = n := by simp [ups]
def further (j : Joint) (lo top : Int) : Row := match lesserLast j with
  | none => []
  | some l => ups (if lo < l then l else lo) (top + 1 - (if lo < l then l else lo)).toNat
/-- a row of elements, none under the one ahead, and its last -/
inductive Asc (lo top : Int) : Row → Int → Prop
  | nil : Asc lo top [] lo
  | snoc {ys : Row} {z y : Int} : Asc lo top ys z → z ≤ y → y ≤ top → Asc lo top (ys ++ [y]) y
theorem Asc.ge {lo top z : Int} {ys : Row} (a : Asc lo top ys z) : lo ≤ z := by
  induction a with
  | nil => exact Int.le_refl _
  | snoc _ h _ ih => omega
/-- where a state's last lies, behind a row that ends in z -/
structure SI (z : Int) (s : State) : Prop where
  hi : above s.end_ s.last = false
  la : s.last = some z ∨ (s.last = s.end_ ∧ ∀ l, s.last = some l → z ≤ l)
theorem si_st0 {x : Int} : SI x (st0 x) := ⟨by simp [st0, above], .inl rfl⟩
/-- an element that is not above the end changes nothing -/
theorem step_idle {r : Rule} {s : State} {y : End} (h : ∀ x, s.end_ = some x → above y (some x) = false) : step r s y = s := by
  unfold step
  split
  · rfl
  · rename_i x e
    rw [h x e]
    simp
theorem si_step {r : Rule} {s : State} {y z : Int} (h : SI z s) (zy : z ≤ y) : SI y (step r s (some y)) := by
  cases e : s.end_ with
  | none =>
    rw [step_idle (by rw [e]; simp)]
    refine ⟨h.hi, ?_⟩
    have hi := h.hi
    rw [e] at hi ⊢
    cases el : s.last with
    | none => simp
    | some l => rw [el] at hi; simp [above] at hi
  | some x =>
    by_cases ab : above (some y) (some x) = true
    · unfold step
      simp only [e, ab, if_true]
      split
      · exact ⟨rfl, .inr ⟨rfl, by simp⟩⟩
      · rename_i p _
        generalize endBy r.marks _ _ _ = f
        by_cases q : above (some y) f = true
        · constructor
          · rw [if_pos q]
            cases f <;> simp [above] at q ⊢
            omega
          · rw [if_pos q]
            exact .inl rfl
        · constructor
          · rw [if_neg q]
            cases f <;> simp [above]
          · rw [if_neg q]
            refine .inr ⟨rfl, ?_⟩
            rintro l rfl
            simp [above] at q
            exact q
    · rw [step_idle (by rw [e]; intro x' e'; cases e'; simpa using ab)]
      refine ⟨h.hi, ?_⟩
      have hi := h.hi
      simp [above] at ab
      rcases h.la with q | ⟨q, q2⟩
      · rw [e, q] at hi
        simp [above] at hi
        left
        rw [q]
        congr 1
        omega
      · right
        refine ⟨q, ?_⟩
        intro l el
        rw [q, e] at el
        cases el
        exact ab
theorem si_run {r : Rule} {lo top z : Int} {ys : Row} (a : Asc lo top ys z) : SI z (run r lo ys) := by
  induction a with
  | nil => exact si_st0
  | snoc _ h _ ih => rw [run_snoc]; exact si_step ih h
theorem step_under {r : Rule} {s : State} {y z : Int} (h : SI z s) (zy : z ≤ y) (q : ∀ l, s.last = some l → y < l) : step r s (some y) = s := by
  refine step_idle fun x e => ?_
  rcases h.la with q1 | ⟨q1, _⟩
  · have := q z q1
    omega
  · rw [e] at q1
    have := q x q1
    simp [above]
    omega
theorem further_out {r o : Rule} {j : Joint} {lo top y z : Int} (h1 : SI z j.1) (h2 : SI z j.2) (hz : z ≤ y) (hy : lo ≤ y ∧ y ≤ top) (q : y ∉ further j lo top) : jstep r o j y = j := by
  unfold jstep
  have both : (∀ l, j.1.last = some l → y < l) ∧ (∀ l, j.2.last = some l → y < l) := by
    unfold further lesserLast at q
    cases e1 : j.1.last with
    | none => cases e2 : j.2.last with
      | none => simp
      | some b =>
        rw [e1, e2] at q
        simp only [less, above, if_true, mem_ups] at q
        refine ⟨by simp, fun l e => ?_⟩
        cases e
        split at q <;> omega
    | some a => cases e2 : j.2.last with
      | none =>
        rw [e1, e2] at q
        simp only [less, above, Bool.false_eq_true, if_false, mem_ups] at q
        refine ⟨fun l e => ?_, by simp⟩
        cases e
        split at q <;> omega
      | some b =>
        rw [e1, e2] at q
        simp only [less, above, decide_eq_true_eq] at q
        by_cases ab : b < a
        · rw [if_pos ab] at q
          simp only [mem_ups] at q
          constructor <;> (intro l e; cases e; split at q <;> omega)
        · rw [if_neg ab] at q
          simp only [mem_ups] at q
          constructor <;> (intro l e; cases e; split at q <;> omega)
  rw [step_under h1 hz both.1, step_under h2 hz both.2]
theorem further_in {j : Joint} {lo top y z : Int} (h1 : SI z j.1) (h2 : SI z j.2) (q : y ∈ further j lo top) : z ≤ y ∧ y ≤ top := by
  have ge : ∀ s : State, SI z s → ∀ l, s.last = some l → z ≤ l := by
    intro s h l e
    rcases h.la with q1 | ⟨q1, q2⟩
    · rw [e] at q1; cases q1; exact Int.le_refl _
    · exact q2 l e
  have gl : ∀ l, lesserLast j = some l → z ≤ l := by
    intro l e
    unfold lesserLast at e
    split at e
    · exact ge _ h2 l e
    · exact ge _ h1 l e
  unfold further at q
  split at q
  · cases q
  · rename_i l e
    have := gl l e
    rw [mem_ups] at q
    split at q <;> omega
def ends (r : Rule) (lo top : Int) : List End := none :: (r.marks ++ ups lo (top + 1 - lo).toNat).map some
def sts (r : Rule) (lo top : Int) : List State := (List.range r.phs.length).flatMap fun p => (ends r lo top).flatMap fun e => (ends r lo top).map fun l => ⟨p, e, l⟩
theorem mem_sts {r : Rule} {lo top : Int} {s : State} : s ∈ sts r lo top ↔ s.ph < r.phs.length ∧ s.end_ ∈ ends r lo top ∧ s.last ∈ ends r lo top := by
  unfold sts
  simp only [List.mem_flatMap, List.mem_map, List.mem_range]
  constructor
  · rintro ⟨p, h1, e, h2, l, h3, rfl⟩
    exact ⟨h1, h2, h3⟩
  · rintro ⟨h1, h2, h3⟩
    exact ⟨_, h1, _, h2, _, h3, rfl⟩
theorem mem_ends {r : Rule} {lo top y : Int} (hy : lo ≤ y ∧ y ≤ top) : some y ∈ ends r lo top := by
  unfold ends
  refine List.mem_cons_of_mem _ (List.mem_map.mpr ⟨y, List.mem_append.mpr (.inr (mem_ups.mpr (by omega))), rfl⟩)
theorem none_ends {r : Rule} {lo top : Int} : none ∈ ends r lo top := List.mem_cons_self
theorem sts_st0 {r : Rule} {lo top : Int} (ok : r.Ok) (l : lo ≤ top) : st0 lo ∈ sts r lo top :=
  mem_sts.mpr ⟨List.length_pos_iff.mpr ok.ne, mem_ends ⟨Int.le_refl _, l⟩, mem_ends ⟨Int.le_refl _, l⟩⟩
theorem sts_step {r : Rule} {lo top y : Int} (ok : r.Ok) {s : State} (hs : s ∈ sts r lo top) (hy : lo ≤ y ∧ y ≤ top) : step r s (some y) ∈ sts r lo top := by
  unfold step
  split
  · exact hs
  · split
    · split
      · exact mem_sts.mpr ⟨(mem_sts.mp hs).1, none_ends, none_ends⟩
      · rename_i x ex _ _ p hp
        obtain ⟨h1, h2, h3⟩ := mem_sts.mp hs
        have mp := List.mem_of_getElem? hp
        have fe : endBy r.marks (some x) (some y) (p.by_ (caseOf r.marks x (some y))).1 ∈ ends r lo top := by
          cases (p.by_ (caseOf r.marks x (some y))).1
          · exact mem_ends hy
          · show least r.marks (some y) ∈ _
            show (r.marks.filter fun m => decide (y ≤ m))[0]? ∈ _
            cases e : (r.marks.filter fun m => decide (y ≤ m))[0]? with
            | none => exact none_ends
            | some m =>
              have := List.mem_of_getElem? e
              exact List.mem_cons_of_mem _ (List.mem_map.mpr ⟨m, List.mem_append.mpr (.inl ((List.mem_filter.mp this).1)), rfl⟩)
          · exact none_ends
          · rw [← ex]; exact h2
        refine mem_sts.mpr ⟨?_, fe, ?_⟩
        · obtain ⟨a, b, c⟩ := ok.nx p mp
          cases caseOf r.marks x (some y) <;> assumption
        · dsimp only
          split
          · exact mem_ends hy
          · exact fe
    · exact hs
theorem sts_len {r : Rule} {lo top : Int} : (sts r lo top).length = r.phs.length * ((ends r lo top).length * (ends r lo top).length) := by
  unfold sts
  simp [List.length_flatMap, List.map_const', List.sum_replicate_nat]
def jts (r o : Rule) (lo top : Int) : List Joint := (sts r lo top).flatMap fun a => (sts o lo top).map fun b => (a, b)
theorem mem_jts {r o : Rule} {lo top : Int} {j : Joint} : j ∈ jts r o lo top ↔ j.1 ∈ sts r lo top ∧ j.2 ∈ sts o lo top := by
  unfold jts
  simp only [List.mem_flatMap, List.mem_map]
  constructor
  · rintro ⟨a, h1, b, h2, rfl⟩
    exact ⟨h1, h2⟩
  · rintro ⟨h1, h2⟩
    exact ⟨_, h1, _, h2, rfl⟩
theorem jts_len {r o : Rule} {lo top : Int} : (jts r o lo top).length = (sts r lo top).length * (sts o lo top).length := by
  unfold jts
  simp [List.length_flatMap, List.map_const', List.sum_replicate_nat]
theorem nodup_le {α : Type} [DecidableEq α] : ∀ {l m : List α}, l.Nodup → (∀ x ∈ l, x ∈ m) → l.length ≤ m.length
  | [], _, _, _ => Nat.zero_le _
  | a :: l, m, nd, s => by
    rw [List.nodup_cons] at nd
    have ih := nodup_le (l := l) (m := m.erase a) nd.2 fun x hx => by
      have ne : x ≠ a := by rintro rfl; exact nd.1 hx
      rw [List.mem_erase_of_ne ne]
      exact s x (List.mem_cons_of_mem _ hx)
    have ma := s a List.mem_cons_self
    have p := List.length_pos_of_mem ma
    rw [List.length_erase_of_mem ma] at ih
    rw [List.length_cons]
    omega
abbrev Ent := Joint × Row
abbrev keysOf (L : List Ent) : List Joint := L.map (·.1)
def add (L : List Ent) (j : Joint) (row : Row) : List Ent := if j ∈ keysOf L then L else L ++ [(j, row)]
def Rch (r o : Rule) (L : List Ent) (e : Ent) (y : Int) : Prop := ∃ e' ∈ L, e'.1 = jstep r o e.1 y ∧ e'.2.length ≤ e.2.length + 1
structure Base (r o : Rule) (lo top : Int) (L : List Ent) : Prop where
  nd : (keysOf L).Nodup
  row : ∀ e ∈ L, ∃ ys z, e.2 = lo :: ys ∧ Asc lo top ys z ∧ e.1 = jrun r o lo ys
  srt : L.Pairwise fun a b => a.2.length ≤ b.2.length
  hd : L[0]? = some (jrun r o lo [], [lo])
  len : ∀ i e, L[i]? = some e → e.2.length ≤ i + 1
def Cap (L : List Ent) (n : Nat) : Prop := ∀ i e, n ≤ i → L[i]? = some e → ∀ e' ∈ L, e'.2.length ≤ e.2.length + 1
def Clo (r o : Rule) (lo top : Int) (L : List Ent) (n : Nat) : Prop := ∀ i e, i < n → L[i]? = some e → ∀ y ∈ further e.1 lo top, Rch r o L e y
structure Inv (r o : Rule) (lo top : Int) (L : List Ent) (n : Nat) : Prop where
  b : Base r o lo top L
  cap : Cap L n
  clo : Clo r o lo top L n
/-- while the joint at n is worked on -/
structure Mid (r o : Rule) (lo top : Int) (L : List Ent) (n : Nat) (e : Ent) (done : Row) : Prop where
  b : Base r o lo top L
  at_ : L[n]? = some e
  cap : Cap L n
  clo : Clo r o lo top L n
  dn : ∀ y ∈ done, Rch r o L e y
section
variable {r o : Rule} {lo top : Int} {L : List Ent} {n : Nat} {e : Ent}
theorem Rch.add {y : Int} {j : Joint} {row : Row} (h : Rch r o L e y) : Rch r o (add L j row) e y := by
  obtain ⟨e', m, a, b⟩ := h
  refine ⟨e', ?_, a, b⟩
  unfold K62.add
  split
  · exact m
  · exact List.mem_append_left _ m
theorem get_add {i : Nat} {j : Joint} {row : Row} (h : L[i]? = some e) : (add L j row)[i]? = some e := by
  unfold K62.add
  split
  · exact h
  · rw [List.getElem?_append_left (List.getElem?_eq_some_iff.mp h).1]
    exact h
theorem Inv.start : Inv r o lo top [(jrun r o lo [], [lo])] 0 where
  b := ⟨by simp, fun e m => by rw [List.mem_singleton.mp m]; exact ⟨[], lo, rfl, .nil, rfl⟩, by simp, rfl, fun i e h => by
    rw [List.mem_singleton.mp (List.mem_of_getElem? h)]
    exact Nat.le_add_left _ _⟩
  cap := by
    intro i e _ h e' m
    have : e = (jrun r o lo [], [lo]) := by
      cases i with
      | zero => exact (by simpa using h.symm)
      | succ i => simp at h
    have m : e' = (jrun r o lo [], [lo]) := List.mem_singleton.mp m
    rw [this, m]
    exact Nat.le_succ _
  clo := fun i e l => absurd l (Nat.not_lt_zero _)
theorem Inv.mid (a : Inv r o lo top L n) (h : L[n]? = some e) : Mid r o lo top L n e [] := ⟨a.b, h, a.cap, a.clo, by simp⟩
theorem Mid.add {done : Row} {y : Int} (a : Mid r o lo top L n e done) (hy : y ∈ further e.1 lo top) : Mid r o lo top (add L (jstep r o e.1 y) (e.2 ++ [y])) n e (done ++ [y]) := by
  have me := List.mem_of_getElem? a.at_
  by_cases q : jstep r o e.1 y ∈ keysOf L
  · have : K62.add L (jstep r o e.1 y) (e.2 ++ [y]) = L := by unfold K62.add; rw [if_pos q]
    rw [this]
    refine ⟨a.b, a.at_, a.cap, a.clo, ?_⟩
    intro z m
    rcases List.mem_append.mp m with m | m
    · exact a.dn z m
    · rw [List.mem_singleton.mp m]
      obtain ⟨e', m', q'⟩ := List.mem_map.mp q
      exact ⟨e', m', q', a.cap n e (Nat.le_refl _) a.at_ e' m'⟩
  · have ea : K62.add L (jstep r o e.1 y) (e.2 ++ [y]) = L ++ [(jstep r o e.1 y, e.2 ++ [y])] := by unfold K62.add; rw [if_neg q]
    have up : ∀ {e0 y}, Rch r o L e0 y → Rch r o (L ++ [(jstep r o e.1 _, e.2 ++ [_])]) e0 y := fun h => ea ▸ h.add
    have cl : Clo r o lo top (L ++ [(jstep r o e.1 y, e.2 ++ [y])]) n := by
      intro i e0 l h z z1
      have ln := (List.getElem?_eq_some_iff.mp a.at_).1
      rw [List.getElem?_append_left (by omega)] at h
      exact up (a.clo i e0 l h z z1)
    rw [ea]
    have c0 := a.cap n e (Nat.le_refl _) a.at_
    refine ⟨⟨?_, ?_, ?_, ?_, ?_⟩, ?_, ?_, cl, ?_⟩
    · unfold keysOf
      rw [List.map_append, List.nodup_append]
      refine ⟨a.b.nd, by simp, ?_⟩
      intro x hx z hz
      rw [List.map_singleton, List.mem_singleton] at hz
      rintro rfl
      rw [hz] at hx
      exact q hx
    · intro e0 m
      rcases List.mem_append.mp m with m | m
      · exact a.b.row e0 m
      · rw [List.mem_singleton.mp m]
        obtain ⟨ys, z, h1, h2, h3⟩ := a.b.row e me
        rw [h3] at hy
        obtain ⟨y1, y2⟩ := further_in (si_run h2) (si_run h2) hy
        exact ⟨ys ++ [y], y, by rw [h1]; rfl, h2.snoc y1 y2, by rw [jrun_snoc, h3]⟩
    · rw [List.pairwise_append]
      refine ⟨a.b.srt, by simp, ?_⟩
      intro e0 m z hz
      rw [List.mem_singleton.mp hz, List.length_append]
      exact c0 e0 m
    · have h := a.b.hd
      rw [List.getElem?_append_left (List.getElem?_eq_some_iff.mp h).1]
      exact h
    · intro i e0 h
      by_cases il : i < L.length
      · rw [List.getElem?_append_left il] at h
        exact a.b.len i e0 h
      · rw [List.getElem?_append_right (by omega)] at h
        have := List.mem_singleton.mp (List.mem_of_getElem? h)
        rw [this, List.length_append]
        have ln := (List.getElem?_eq_some_iff.mp a.at_).1
        have := a.b.len n e a.at_
        simp only [List.length_singleton]
        omega
    · rw [List.getElem?_append_left (List.getElem?_eq_some_iff.mp a.at_).1]
      exact a.at_
    · intro i e0 l h e' m
      have srt0 : ∀ e1, L[i]? = some e1 → e.2.length ≤ e1.2.length := by
        intro e1 h1
        by_cases ii : i = n
        · subst ii
          rw [a.at_] at h1
          cases h1
          exact Nat.le_refl _
        · have h1' := List.getElem?_eq_some_iff.mp h1
          have h2' := List.getElem?_eq_some_iff.mp a.at_
          obtain ⟨l1, q1⟩ := h1'
          obtain ⟨l2, q2⟩ := h2'
          have := List.pairwise_iff_getElem.mp a.b.srt n i l2 l1 (by omega)
          rw [q1, q2] at this
          exact this
      by_cases il : i < L.length
      · rw [List.getElem?_append_left il] at h
        rcases List.mem_append.mp m with m | m
        · exact a.cap i e0 l h e' m
        · rw [List.mem_singleton.mp m, List.length_append]
          have := srt0 e0 h
          simp only [List.length_singleton]
          omega
      · rw [List.getElem?_append_right (by omega)] at h
        have : e0 = (jstep r o e.1 y, e.2 ++ [y]) := by
          cases hi : i - L.length with
          | zero => rw [hi] at h; simpa using h.symm
          | succ k => rw [hi] at h; simp at h
        rw [this]
        dsimp only
        rw [List.length_append]
        simp only [List.length_singleton]
        rcases List.mem_append.mp m with m | m
        · have := c0 e' m
          omega
        · rw [List.mem_singleton.mp m, List.length_append]
          simp
    · intro z m
      rcases List.mem_append.mp m with m | m
      · exact up (a.dn z m)
      · rw [List.mem_singleton.mp m]
        exact ⟨_, List.mem_append_right _ List.mem_cons_self, rfl, by rw [List.length_append]; simp⟩
theorem Mid.inv {done : Row} (a : Mid r o lo top L n e done) (h : ∀ y ∈ further e.1 lo top, y ∈ done) : Inv r o lo top L (n + 1) where
  b := a.b
  cap := fun i e0 l => a.cap i e0 (by omega)
  clo := by
    intro i e0 l h0 y y1
    by_cases q : i < n
    · exact a.clo i e0 q h0 y y1
    · have : i = n := by omega
      subst this
      rw [a.at_] at h0
      cases h0
      exact a.dn y (h y y1)
theorem Base.sub (a : Base r o lo top L) (ok1 : r.Ok) (ok2 : o.Ok) (l : lo ≤ top) : ∀ x ∈ keysOf L, x ∈ jts r o lo top := by
  intro x hm
  obtain ⟨e, m, rfl⟩ := List.mem_map.mp hm
  obtain ⟨ys, z, h1, h2, h3⟩ := a.row e m
  rw [h3]
  have : ∀ (r : Rule) (ok : r.Ok), run r lo ys ∈ sts r lo top := by
    intro r ok
    clear h1 h3
    induction h2 with
    | nil => exact sts_st0 ok l
    | snoc a h h' ih => rw [run_snoc]; exact sts_step ok ih ⟨by have := a.ge; omega, h'⟩
  exact mem_jts.mpr ⟨this r ok1, this o ok2⟩
theorem Base.le (a : Base r o lo top L) (ok1 : r.Ok) (ok2 : o.Ok) (l : lo ≤ top) : L.length ≤ (jts r o lo top).length := by
  have := nodup_le a.nd (a.sub ok1 ok2 l)
  rwa [List.length_map] at this
/-- all is found -/
theorem Inv.all (a : Inv r o lo top L L.length) {ys : Row} {z : Int} (hy : Asc lo top ys z) : ∃ e ∈ L, e.1 = jrun r o lo ys ∧ e.2.length ≤ ys.length + 1 := by
  induction hy with
  | nil => exact ⟨_, List.mem_of_getElem? a.b.hd, rfl, by simp⟩
  | snoc h hz ht ih =>
    rename_i ys z y
    obtain ⟨e, m, h1, h2⟩ := ih
    have lz := h.ge
    by_cases f : y ∈ further e.1 lo top
    · obtain ⟨i, hi, rfl⟩ := List.getElem_of_mem m
      obtain ⟨e', m', q1, q2⟩ := a.clo i L[i] hi (List.getElem?_eq_getElem hi) y f
      refine ⟨e', m', by rw [q1, h1, jrun_snoc], ?_⟩
      rw [List.length_append]
      simp only [List.length_singleton]
      omega
    · refine ⟨e, m, ?_, by rw [List.length_append]; omega⟩
      rw [jrun_snoc, ← h1]
      rw [h1] at f ⊢
      exact (further_out (si_run h) (si_run h) hz ⟨by omega, ht⟩ f).symm
end
/-- what above_row tells -/
structure Told (r o : Rule) (lo top : Int) (res : Option Row) : Prop where
  no : res = none → ∀ (ys : Row) (z : Int), Asc lo top ys z → aboveJ (jrun r o lo ys) = false
  yes : ∀ row, res = some row → ∃ ys z, row = lo :: ys ∧ Asc lo top ys z ∧ aboveJ (jrun r o lo ys) = true
  least : ∀ row, res = some row → ∀ (ys : Row) (z : Int), Asc lo top ys z → aboveJ (jrun r o lo ys) = true → row.length ≤ ys.length + 1
def firstAbove (L : List Ent) : Option Row := (L.find? fun e => aboveJ e.1).map (·.2)
theorem told {r o : Rule} {lo top : Int} {L : List Ent} (a : Inv r o lo top L L.length) : Told r o lo top (firstAbove L) where
  no := by
    intro h ys z hy
    obtain ⟨e, m, h1, h2⟩ := a.all hy
    unfold firstAbove at h
    rw [Option.map_eq_none_iff, List.find?_eq_none] at h
    rw [← h1]
    simpa using h e m
  yes := by
    intro row h
    unfold firstAbove at h
    obtain ⟨e, he, rfl⟩ := Option.map_eq_some_iff.mp h
    obtain ⟨ys, z, h1, h2, h3⟩ := a.b.row e (List.mem_of_find?_eq_some he)
    exact ⟨ys, z, h1, h2, by rw [← h3]; exact List.find?_some (p := fun e : Ent => aboveJ e.1) he⟩
  least := by
    intro row h ys z hy q
    unfold firstAbove at h
    obtain ⟨e, he, rfl⟩ := Option.map_eq_some_iff.mp h
    obtain ⟨e', m, h1, h2⟩ := a.all hy
    obtain ⟨_, as, bs, es, hno⟩ := List.find?_eq_some_iff_append.mp he
    have srt := a.b.srt
    rw [es] at m srt
    rcases List.mem_append.mp m with m | m
    · have := hno e' m
      rw [h1, q] at this
      simp at this
    · rcases List.mem_cons.mp m with rfl | m
      · exact h2
      · have := (List.pairwise_cons.mp (List.pairwise_append.mp srt).2.1).1 e' m
        omega
end K62
namespace K62
open PySem DV L2
local macro_rules | `(tactic| simp_arith [$xs,*]) => `(tactic| simp only [wE_ok, wE_exc, wE_bad, wE_bind, wE_dbind, wE_if, wE_noX, ↓wS_seq, ↓wS_nil, ↓wS_pass, ↓wS_break, ↓wS_cont, ↓wS_expr, ↓wS_ret, ↓wS_retN, ↓wS_if, wG_some, wG_none, setAll, ↓wS_asg, ↓wS_par, ↓wS_set, ↓wS_setN, ↓wS_raise, ↓wS_try, ↓wS_for, wS_nx, wS_rt, forI_items, forS_nil, ↓forS_cons, ↓u_varO, uO_some, ↓u_cst, ↓u_nil, ↓u_cons, ↓u_d2, ↓u_tru, ↓u_bl, ↓u_and, ↓u_or, ↓u_tand, ↓u_tor, ↓u_tnot, ↓u_not, ↓u_neg, ↓u_ite, ↓u_tup, ↓u_lst, ↓u_call, ↓u_callF, ↓u_meth, ↓u_sl, ↓u_pNone, ↓u_pSome, ↓u_rev, ↓u_dic0, ↓u_prs0, ↓u_prs, ↓u_dic, ↓u_dicN, ↓u_lr2, ↓u_iVal, ↓u_iEn, ↓u_iRng1, ↓u_lc, aName_run, List.set_cons_zero, List.set_cons_succ, List.getElem?_cons_zero, List.getElem?_cons_succ, List.append_nil, List.length_cons, List.length_nil, truD_bl, truD_non, truD_int, truD_tup, blD_bl, pInt, eqB_int, eqB_str, reduceIte, Nat.reduceAdd, Nat.zero_add, Nat.reduceLeDiff, true_and, and_true, Bool.not_true, Bool.not_false, Bool.false_eq_true, Bool.true_eq_false, decide_true, decide_false, isi_non_int, isi_non_bool, isi_non_str, isi_non_tuple, isi_non_list, isi_bl_int, isi_bl_bool, isi_bl_str, isi_bl_tuple, isi_bl_list, isi_int_int, isi_int_bool, isi_int_str, isi_int_tuple, isi_int_list, isi_str_int, isi_str_bool, isi_str_str, isi_str_tuple, isi_str_list, isi_tup_int, isi_tup_bool, isi_tup_str, isi_tup_tuple, isi_tup_list, isi_frz_int, isi_frz_bool, isi_frz_str, isi_frz_tuple, isi_frz_list, len_tup, len_frz, ix0, ix1, ix2, ix3, ix4, ix5, neg_int, add_int, sub_int, add_tup, is_non, in_cdt, in_chr, ord_int, mod_int, fdiv_int, int_int, DV.sl_tup, itV_tup, itV_frz, list_tup, lit_big, Int.cast_ofNat_Int, enK_tup, aPair, cast_succ0, $xs,*])
local macro_rules | `(tactic| simp_arith! [$xs,*]) => `(tactic| simp only [wE_ok, wE_exc, wE_bad, wE_bind, wE_dbind, wE_if, wE_noX, ↓wS_seq, ↓wS_nil, ↓wS_pass, ↓wS_break, ↓wS_cont, ↓wS_expr, ↓wS_ret, ↓wS_retN, wG_some, wG_none, setAll, ↓wS_asg, ↓wS_par, ↓wS_set, ↓wS_setN, ↓wS_raise, ↓wS_try, wS_nx, wS_rt, forI_items, forS_nil, ↓u_varO, uO_some, ↓u_cst, ↓u_nil, ↓u_cons, ↓u_d2, ↓u_tru, ↓u_bl, ↓u_and, ↓u_or, ↓u_tand, ↓u_tor, ↓u_tnot, ↓u_not, ↓u_neg, ↓u_ite, ↓u_tup, ↓u_lst, ↓u_call, ↓u_callF, ↓u_meth, ↓u_sl, ↓u_pNone, ↓u_pSome, ↓u_rev, ↓u_dic0, ↓u_prs0, ↓u_prs, ↓u_dic, ↓u_dicN, ↓u_lr2, ↓u_iVal, ↓u_iEn, ↓u_iRng1, ↓u_lc, aName_run, List.set_cons_zero, List.set_cons_succ, List.getElem?_cons_zero, List.getElem?_cons_succ, List.append_nil, List.length_cons, List.length_nil, truD_bl, truD_non, truD_int, truD_tup, blD_bl, pInt, eqB_int, eqB_str, reduceIte, Nat.reduceAdd, Nat.zero_add, Nat.reduceLeDiff, true_and, and_true, Bool.not_true, Bool.not_false, Bool.false_eq_true, Bool.true_eq_false, decide_true, decide_false, isi_non_int, isi_non_bool, isi_non_str, isi_non_tuple, isi_non_list, isi_bl_int, isi_bl_bool, isi_bl_str, isi_bl_tuple, isi_bl_list, isi_int_int, isi_int_bool, isi_int_str, isi_int_tuple, isi_int_list, isi_str_int, isi_str_bool, isi_str_str, isi_str_tuple, isi_str_list, isi_tup_int, isi_tup_bool, isi_tup_str, isi_tup_tuple, isi_tup_list, isi_frz_int, isi_frz_bool, isi_frz_str, isi_frz_tuple, isi_frz_list, len_tup, len_frz, ix0, ix1, ix2, ix3, ix4, ix5, neg_int, add_int, sub_int, add_tup, is_non, in_cdt, in_chr, ord_int, mod_int, fdiv_int, int_int, DV.sl_tup, itV_tup, itV_frz, list_tup, lit_big, Int.cast_ofNat_Int, enK_tup, aPair, cast_succ0, $xs,*])
def nkE : End → NestedKey
  | none => .none
  | some i => .num i
def nkS (s : State) : NestedKey := .tup [.num (s.ph : Nat), nkE s.end_, nkE s.last]
def nkJ (j : Joint) : NestedKey := .tup [nkS j.1, nkS j.2]
theorem nkE_eq {e : End} : nkD (eD e) = some (nkE e) := by
  cases e <;> simp [eD, nkD, nkE]
theorem nkS_eq {s : State} : nkD (stD s) = some (nkS s) := by
  simp [stD, nkD, nkL, nkE_eq, nkS]
theorem nkJ_eq {j : Joint} : nkD (jD j) = some (nkJ j) := by
  simp [jD, nkD, nkL, nkS_eq, nkJ]
theorem nkE_inj {a b : End} (h : nkE a = nkE b) : a = b := by
  cases a <;> cases b <;> simp [nkE] at h ⊢
  exact h
theorem nkJ_inj {a b : Joint} (h : nkJ a = nkJ b) : a = b := by
  obtain ⟨⟨p, e, l⟩, ⟨q, f, m⟩⟩ := a
  obtain ⟨⟨p', e', l'⟩, ⟨q', f', m'⟩⟩ := b
  simp only [nkJ, nkS, NestedKey.tup.injEq, List.cons.injEq, NestedKey.num.injEq, and_true, Int.ofNat_inj] at h
  obtain ⟨⟨h1, h2, h3⟩, h4, h5, h6⟩ := h
  rw [h1, nkE_inj h2, nkE_inj h3, h4, nkE_inj h5, nkE_inj h6]
theorem nkD_iff {a b : Joint} : (nkD (jD a) = nkD (jD b)) ↔ a = b := by
  rw [nkJ_eq, nkJ_eq]
  exact ⟨fun h => nkJ_inj (Option.some.inj h), fun h => by rw [h]⟩
theorem nkJ_ok {j : Joint} : nkOk (jD j) = true := by
  have hj := nkJ_eq (j := j)
  unfold jD at hj ⊢
  unfold nkOk
  simp only [hj]
  clear hj
  refine decide_eq_true ?_
  obtain ⟨⟨p, e, l⟩, ⟨q, f, m⟩⟩ := j
  cases e <;> cases l <;> cases f <;> cases m <;> simp [nkJ, nkS, nkE, NestedKey.depth, NestedKey.depthAll]
def rowD (row : Row) : D := .tup (row.map .int)
def entD (e : Ent) : D × D := (jD e.1, rowD e.2)
theorem look_none {j : Joint} : ∀ {L : List Ent}, j ∉ keysOf L → lookN (jD j) (L.map entD) = none
  | [], _ => rfl
  | e :: L, h => by
    simp only [List.map_cons, List.mem_cons, not_or] at h
    have ne : nkD (jD e.1) ≠ nkD (jD j) := fun q => h.1 (nkD_iff.mp q).symm
    show lookN (jD j) ((jD e.1, rowD e.2) :: L.map entD) = none
    unfold lookN
    rw [if_neg ne]
    exact look_none h.2
theorem look_some {e : Ent} : ∀ {L : List Ent}, (keysOf L).Nodup → e ∈ L → lookN (jD e.1) (L.map entD) = some (rowD e.2)
  | [], _, h => by cases h
  | x :: L, nd, h => by
    have nd : (x.1 :: keysOf L).Nodup := nd
    rw [List.nodup_cons] at nd
    show lookN (jD e.1) ((jD x.1, rowD x.2) :: L.map entD) = _
    unfold lookN
    rcases List.mem_cons.mp h with rfl | h
    · rw [if_pos rfl]
    · have ne : nkD (jD x.1) ≠ nkD (jD e.1) := fun q => nd.1 (by rw [nkD_iff.mp q]; exact List.mem_map.mpr ⟨e, h, rfl⟩)
      rw [if_neg ne]
      exact look_some nd.2 h
theorem put_new {j : Joint} {row : Row} : ∀ {L : List Ent}, j ∉ keysOf L → putN (jD j) (rowD row) (L.map entD) = (L ++ [(j, row)]).map entD
  | [], _ => rfl
  | e :: L, h => by
    simp only [List.map_cons, List.mem_cons, not_or] at h
    have ne : nkD (jD e.1) ≠ nkD (jD j) := fun q => h.1 (nkD_iff.mp q).symm
    show putN (jD j) (rowD row) ((jD e.1, rowD e.2) :: L.map entD) = _
    unfold putN
    rw [if_neg ne, put_new h.2]
    rfl
theorem pre_set {h h' : DH} {n : Nat} {o : DO} (p : h <+: h') (l : h.length ≤ n) : h <+: h'.set n o := by
  obtain ⟨t, rfl⟩ := p
  rw [List.set_append_right _ _ l]
  exact pre_app
theorem ups_rng {a : Int} {n : Nat} : rngC a 1 n = (ups a n).map .int := by
  unfold rngC ups
  rw [List.map_map]
  refine List.map_congr_left fun k _ => ?_
  simp
/-- the bounds that the draws keep -/
structure Sm (r o : Rule) (lo top : Int) : Prop where
  ok1 : r.Ok
  ok2 : o.Ok
  m1 : r.marks.length ≤ 8
  m2 : o.marks.length ≤ 8
  p1 : r.phs.length ≤ 4
  p2 : o.phs.length ≤ 4
  b1 : ∀ m ∈ r.marks, -1000 ≤ m ∧ m ≤ 1000
  b2 : ∀ m ∈ o.marks, -1000 ≤ m ∧ m ≤ 1000
  l : lo ≤ top
  s : top ≤ lo + 4
  c : -500 ≤ lo ∧ lo ≤ 500
section
variable {h : DH} {r o : Rule} {lo top : Int}
theorem Sm.ends1 (s : Sm r o lo top) : (ends r lo top).length ≤ 14 := by
  have := s.m1; have := s.s; have := s.l
  simp only [ends, List.length_cons, List.length_map, List.length_append, ups_len]
  omega
theorem Sm.ends2 (s : Sm r o lo top) : (ends o lo top).length ≤ 14 := by
  have := s.m2; have := s.s; have := s.l
  simp only [ends, List.length_cons, List.length_map, List.length_append, ups_len]
  omega
theorem Sm.jts (s : Sm r o lo top) : (jts r o lo top).length ≤ 614656 := by
  rw [jts_len, sts_len, sts_len]
  have a := Nat.mul_le_mul s.p1 (Nat.mul_le_mul s.ends1 s.ends1)
  have b := Nat.mul_le_mul s.p2 (Nat.mul_le_mul s.ends2 s.ends2)
  exact Nat.mul_le_mul a b
theorem Base.le' {L : List Ent} (a : Base r o lo top L) (s : Sm r o lo top) : L.length ≤ 614656 := Nat.le_trans (a.le s.ok1 s.ok2 s.l) s.jts
theorem Base.lastB {L : List Ent} (a : Base r o lo top L) (s : Sm r o lo top) {e : Ent} (m : e ∈ L) : ∀ l, lesserLast e.1 = some l → -1000 ≤ l ∧ l ≤ 1000 := by
  obtain ⟨h1, h2⟩ := mem_jts.mp (a.sub s.ok1 s.ok2 s.l e.1 (List.mem_map.mpr ⟨e, m, rfl⟩))
  have cl : ∀ (r : Rule), (∀ m ∈ r.marks, -1000 ≤ m ∧ m ≤ 1000) → ∀ l, some l ∈ ends r lo top → -1000 ≤ l ∧ l ≤ 1000 := by
    intro r b l q
    have := s.s; have := s.l; have := s.c
    simp only [ends, List.mem_cons, reduceCtorEq, false_or, List.mem_map, Option.some.injEq, exists_eq_right, List.mem_append, mem_ups] at q
    rcases q with q | q
    · exact b l q
    · omega
  intro l q
  unfold lesserLast at q
  split at q
  · exact cl o s.b2 l (q ▸ (mem_sts.mp h2).2.2)
  · exact cl r s.b1 l (q ▸ (mem_sts.mp h1).2.2)
theorem Base.ph {L : List Ent} (a : Base r o lo top L) (s : Sm r o lo top) {e : Ent} (m : e ∈ L) : e.1.1.ph < r.phs.length ∧ e.1.2.ph < o.phs.length := by
  obtain ⟨h1, h2⟩ := mem_jts.mp (a.sub s.ok1 s.ok2 s.l e.1 (List.mem_map.mpr ⟨e, m, rfl⟩))
  exact ⟨(mem_sts.mp h1).1, (mem_sts.mp h2).1⟩
theorem g9 (k : Nat) : cF (k + 1) 9 [.int lo] h = .ok (jD (jrun r o lo [])) h := by
  rw [step_]
  apply Ok.run
  show Ok (runB 1 N9.length (m9 (cF k)) [.int lo] h) _
  refine (wE_run (n := 1) (as := [.int lo]) rfl).mpr ?_
  show wS (m9 (cF k) [some _] h) _ _
  unfold m9
  simp_arith []
  rfl
theorem g10 (k : Nat) (j : Joint) (y : Int) (hl1 : r.marks.length ≤ big) (hl2 : o.marks.length ≤ big) (hs1 : j.1.ph < r.phs.length) (hs2 : j.2.ph < o.phs.length) : ∃ z, cF (k + 5) 10 [ruleD r, ruleD o, jD j, .int y] h = .ok (jD (jstep r o j y)) (h ++ z) := by
  suffices q : Ok (cF (k + 5) 10 [ruleD r, ruleD o, jD j, .int y] h) fun v h' => v = jD (jstep r o j y) ∧ h <+: h' by
    obtain ⟨v, h', e, rfl, y, rfl⟩ := q.eq
    exact ⟨y, e⟩
  obtain ⟨z1, e1⟩ := g7 k r j.1 (some y) hl1 hs1 (h := h)
  obtain ⟨z2, e2⟩ := g7 k o j.2 (some y) hl2 hs2 (h := h ++ z1)
  have ed : eD (some y) = .int y := rfl
  rw [ed] at e1 e2
  rw [step_]
  refine (wE_run rfl).mpr ?_
  show wS (m10 (cF (k + 4)) [some _, some _, some _, some _] h) _ _
  unfold m10
  simp_arith [jD, e1, e2, List.append_assoc]
  exact ⟨rfl, pre_app⟩
theorem g11 (k : Nat) (j : Joint) : cF (k + 2) 11 [jD j] h = .ok (.bl (aboveJ j)) h := by
  have e := g8 k j.2.end_ j.1.end_ (h := h)
  rw [step_]
  apply Ok.run
  refine (wE_run rfl).mpr ?_
  show wS (m11 (cF (k + 1)) [some _] h) _ _
  unfold m11
  simp_arith [jD, stD, e]
  rfl
theorem g12 (k : Nat) (j : Joint) : cF (k + 2) 12 [jD j] h = .ok (eD (lesserLast j)) h := by
  have e := g8 k j.2.last j.1.last (h := h)
  rw [step_]
  apply Ok.run
  refine (wE_run rfl).mpr ?_
  show wS (m12 (cF (k + 1)) [some _] h) _ _
  unfold m12
  unfold lesserLast
  simp_arith [jD, stD, e]
  cases less j.2.last j.1.last <;> simp_arith []
theorem g13 (k : Nat) (j : Joint) (s0 : lo ≤ top) (s1 : top ≤ lo + 4) (s2 : -500 ≤ lo ∧ lo ≤ 500) (hb : ∀ l, lesserLast j = some l → -1000 ≤ l ∧ l ≤ 1000) : cF (k + 3) 13 [jD j, .tup [.int lo, .int top]] h = .ok (.ref h.length) (h ++ [.lst ((further j lo top).map .int)]) := by
  have e := g12 k j (h := h)
  have a2 : ∀ (a0 a1 : D) (env : DV.Env) (i j : Nat), aTup 2 (aCons (aName i) (aCons (aName j) aNil)) (.tup [a0, a1]) env = some ((env.set i (some a0)).set j (some a1)) := fun _ _ _ _ _ => rfl
  rw [step_]
  apply Ok.run
  refine (wE_run rfl).mpr ?_
  show wS (m13 (cF (k + 2)) [some _, some _, none, none, none] h) _ _
  unfold m13
  unfold further
  cases el : lesserLast j with
  | none =>
    rw [el] at e
    have e : cF (k + 2) 12 [jD j] h = .ok .non h := e
    simp_arith [e, DV.isNon]
    rfl
  | some l =>
    rw [el] at e
    have e : cF (k + 2) 12 [jD j] h = .ok (.int l) h := e
    have b := hb l el
    have sm : ∀ i : Int, -2000 ≤ i → i ≤ 2000 → sm62 i = true := by
      intro i h1 h2
      simp only [sm62, Bool.and_eq_true, decide_eq_true_eq]
      omega
    by_cases q : lo < l
    · have lr := lr2_ok (h := h) (i := l) (j := top + 1) (sm _ (by omega) (by omega)) (sm _ (by omega) (by omega)) (by simp only [big]; omega)
      simp_arith [a2, e, DV.isNon, OrdK.z, q, lr, ups_rng]
    · have lr := lr2_ok (h := h) (i := lo) (j := top + 1) (sm _ (by omega) (by omega)) (sm _ (by omega) (by omega)) (by simp only [big]; omega)
      simp_arith [a2, e, DV.isNon, OrdK.z, q, lr, ups_rng]
end
end K62
namespace K62
open PySem DV L2
local macro_rules | `(tactic| simp_arith [$xs,*]) => `(tactic| simp only [wE_ok, wE_exc, wE_bad, wE_bind, wE_dbind, wE_if, wE_noX, ↓wS_seq, ↓wS_nil, ↓wS_pass, ↓wS_break, ↓wS_cont, ↓wS_expr, ↓wS_ret, ↓wS_retN, ↓wS_if, wG_some, wG_none, setAll, ↓wS_asg, ↓wS_par, ↓wS_set, ↓wS_setN, ↓wS_raise, ↓wS_try, ↓wS_for, wS_nx, wS_rt, forI_items, forS_nil, ↓forS_cons, ↓u_varO, uO_some, ↓u_cst, ↓u_nil, ↓u_cons, ↓u_d2, ↓u_tru, ↓u_bl, ↓u_and, ↓u_or, ↓u_tand, ↓u_tor, ↓u_tnot, ↓u_not, ↓u_neg, ↓u_ite, ↓u_tup, ↓u_lst, ↓u_call, ↓u_callF, ↓u_meth, ↓u_sl, ↓u_pNone, ↓u_pSome, ↓u_rev, ↓u_dic0, ↓u_prs0, ↓u_prs, ↓u_dic, ↓u_dicN, ↓u_lr2, ↓u_iVal, ↓u_iEn, ↓u_iRng1, ↓u_lc, aName_run, List.set_cons_zero, List.set_cons_succ, List.getElem?_cons_zero, List.getElem?_cons_succ, List.append_nil, List.length_cons, List.length_nil, truD_bl, truD_non, truD_int, truD_tup, blD_bl, pInt, eqB_int, eqB_str, reduceIte, Nat.reduceAdd, Nat.zero_add, Nat.reduceLeDiff, true_and, and_true, Bool.not_true, Bool.not_false, Bool.false_eq_true, Bool.true_eq_false, decide_true, decide_false, isi_non_int, isi_non_bool, isi_non_str, isi_non_tuple, isi_non_list, isi_bl_int, isi_bl_bool, isi_bl_str, isi_bl_tuple, isi_bl_list, isi_int_int, isi_int_bool, isi_int_str, isi_int_tuple, isi_int_list, isi_str_int, isi_str_bool, isi_str_str, isi_str_tuple, isi_str_list, isi_tup_int, isi_tup_bool, isi_tup_str, isi_tup_tuple, isi_tup_list, isi_frz_int, isi_frz_bool, isi_frz_str, isi_frz_tuple, isi_frz_list, len_tup, len_frz, ix0, ix1, ix2, ix3, ix4, ix5, neg_int, add_int, sub_int, add_tup, is_non, in_cdt, in_chr, ord_int, mod_int, fdiv_int, int_int, DV.sl_tup, itV_tup, itV_frz, list_tup, lit_big, Int.cast_ofNat_Int, enK_tup, aPair, cast_succ0, $xs,*])
local macro_rules | `(tactic| simp_arith! [$xs,*]) => `(tactic| simp only [wE_ok, wE_exc, wE_bad, wE_bind, wE_dbind, wE_if, wE_noX, ↓wS_seq, ↓wS_nil, ↓wS_pass, ↓wS_break, ↓wS_cont, ↓wS_expr, ↓wS_ret, ↓wS_retN, wG_some, wG_none, setAll, ↓wS_asg, ↓wS_par, ↓wS_set, ↓wS_setN, ↓wS_raise, ↓wS_try, wS_nx, wS_rt, forI_items, forS_nil, ↓u_varO, uO_some, ↓u_cst, ↓u_nil, ↓u_cons, ↓u_d2, ↓u_tru, ↓u_bl, ↓u_and, ↓u_or, ↓u_tand, ↓u_tor, ↓u_tnot, ↓u_not, ↓u_neg, ↓u_ite, ↓u_tup, ↓u_lst, ↓u_call, ↓u_callF, ↓u_meth, ↓u_sl, ↓u_pNone, ↓u_pSome, ↓u_rev, ↓u_dic0, ↓u_prs0, ↓u_prs, ↓u_dic, ↓u_dicN, ↓u_lr2, ↓u_iVal, ↓u_iEn, ↓u_iRng1, ↓u_lc, aName_run, List.set_cons_zero, List.set_cons_succ, List.getElem?_cons_zero, List.getElem?_cons_succ, List.append_nil, List.length_cons, List.length_nil, truD_bl, truD_non, truD_int, truD_tup, blD_bl, pInt, eqB_int, eqB_str, reduceIte, Nat.reduceAdd, Nat.zero_add, Nat.reduceLeDiff, true_and, and_true, Bool.not_true, Bool.not_false, Bool.false_eq_true, Bool.true_eq_false, decide_true, decide_false, isi_non_int, isi_non_bool, isi_non_str, isi_non_tuple, isi_non_list, isi_bl_int, isi_bl_bool, isi_bl_str, isi_bl_tuple, isi_bl_list, isi_int_int, isi_int_bool, isi_int_str, isi_int_tuple, isi_int_list, isi_str_int, isi_str_bool, isi_str_str, isi_str_tuple, isi_str_list, isi_tup_int, isi_tup_bool, isi_tup_str, isi_tup_tuple, isi_tup_list, isi_frz_int, isi_frz_bool, isi_frz_str, isi_frz_tuple, isi_frz_list, len_tup, len_frz, ix0, ix1, ix2, ix3, ix4, ix5, neg_int, add_int, sub_int, add_tup, is_non, in_cdt, in_chr, ord_int, mod_int, fdiv_int, int_int, DV.sl_tup, itV_tup, itV_frz, list_tup, lit_big, Int.cast_ofNat_Int, enK_tup, aPair, cast_succ0, $xs,*])
section
variable {h : DH} {r o : Rule} {lo top : Int}
def spanD (lo top : Int) : D := .tup [.int lo, .int top]
def env14 (r o : Rule) (lo top : Int) (nr nd : Nat) (n : Nat) (x7 x8 x9 : Option D) : DV.Env := [some (ruleD r), some (ruleD o), some (spanD lo top), some (jD (jrun r o lo [])), some (.ref nr), some (.ref nd), some (.int (n : Nat)), x7, x8, x9]
structure Hp14 (h h' : DH) (L : List Ent) : Prop where
  p : h <+: h'
  r : h'[h.length]? = some (.dcn (L.map entD))
  d : h'[h.length + 1]? = some (.lst ((keysOf L).map jD))
def I14 (r o : Rule) (lo top : Int) (h : DH) (env : DV.Env) (h' : DH) : Prop := ∃ L n x7 x8 x9, env = env14 r o lo top h.length (h.length + 1) n x7 x8 x9 ∧ Inv r o lo top L n ∧ n ≤ L.length ∧ Hp14 h h' L
def J14 (r o : Rule) (lo top : Int) (h : DH) (n m : Nat) (e : Ent) (i : Nat) (env : DV.Env) (h' : DH) : Prop := ∃ L x8 x9, env = env14 r o lo top h.length (h.length + 1) (n + 1) (some (jD e.1)) x8 x9 ∧ Mid r o lo top L n e ((further e.1 lo top).take i) ∧ Hp14 h h' L ∧ h.length + 1 < m ∧ h'[m]? = some (.lst ((further e.1 lo top).map .int))
def mu14 (env : DV.Env) (_ : DH) : Nat := match env[6]? with
  | some (some (D.int n)) => (614656 - n).toNat
  | _ => 0
def F14 (r o : Rule) (lo top : Int) (h : DH) (env : DV.Env) (h' : DH) : Prop := ∃ L n x7 x8 x9, env = env14 r o lo top h.length (h.length + 1) n x7 x8 x9 ∧ Inv r o lo top L L.length ∧ Hp14 h h' L
def Q14 (r o : Rule) (lo top : Int) (h : DH) (v : D) (h' : DH) : Prop := ∃ L, v = .ref h.length ∧ Inv r o lo top L L.length ∧ h <+: h' ∧ h'[h.length]? = some (.dcn (L.map entD))
theorem g14 (k : Nat) (s : Sm r o lo top) : Ok (cF (k + 6) 14 [ruleD r, ruleD o, spanD lo top] h) (Q14 r o lo top h) := by
  have bg : big = 16777216 := rfl
  rw [step_]
  refine (wE_run rfl).mpr ?_
  show wS (m14 (cF (k + 5)) [some _, some _, some _, none, none, none, none, none, none, none] h) _ _
  unfold m14
  have e9 := g9 (k + 4) (lo := lo) (r := r) (o := o) (h := h)
  have en : keysN [(jD (jrun r o lo []), D.tup [.int lo])] = true := by
    simp only [keysN, List.all_cons, List.all_nil, Bool.and_true]
    exact nkJ_ok
  rw [show spanD lo top = .tup [.int lo, .int top] from rfl]
  simp_arith! [e9, en]
  refine wS_cut (F14 r o lo top h) ?_ ?_
  · refine wS_while (I14 r o lo top h) mu14 ?_ _ _ _ ?_ ?_
    · rintro env h' ⟨L, n, x7, x8, x9, rfl, inv, nl, hp⟩
      have ll := inv.b.le' s
      unfold env14
      have ln := len_ref hp.d
      rw [List.length_map, List.length_map] at ln
      simp_arith! [ln, OrdK.z]
      by_cases lt : n < L.length
      · have d1 : decide ((n : Int) < (L.length : Nat)) = true := decide_eq_true (by omega)
        rw [d1, if_pos rfl]
        have he : L[n]? = some L[n] := List.getElem?_eq_getElem lt
        generalize L[n] = e at he
        have me := List.mem_of_getElem? he
        have ix := ix_ref (h := h') hp.d (i := n) (d := jD e.1) (by rw [List.getElem?_map, List.getElem?_map, he]; rfl)
        have e13 := g13 (k + 2) e.1 s.l s.s s.c (inv.b.lastB s me) (h := h')
        rw [show spanD lo top = .tup [.int lo, .int top] from rfl]
        simp_arith! [ix]
        rw [wS_for]
        simp_arith! [e13, itV_ref app_get]
        have lm : h.length + 1 < h'.length := (List.getElem?_eq_some_iff.mp hp.d).1
        refine wS_forR (J14 r o lo top h n h'.length e) ?_ ?_ ?_ ?_ ?_ (ds := (further e.1 lo top).map .int)
        · rw [List.length_map]
          unfold further
          have := inv.b.lastB s me
          have := s.l; have := s.s; have := s.c
          split
          · simp
          · rename_i l el
            have := inv.b.lastB s me l el
            rw [ups_len]
            split <;> omega
        · exact ⟨L, _, _, rfl, inv.mid he, ⟨hp.p.trans pre_app, app_l hp.r, app_l hp.d⟩, lm, app_get⟩
        · rintro i env h2 ⟨L, x8, x9, _, _, _, _, q⟩
          exact q
        · rintro i d env h2 hi ⟨L2, x8, x9, rfl, mid, hp2, lm2, q⟩
          rw [List.getElem?_map] at hi
          obtain ⟨y, hy, rfl⟩ := Option.map_eq_some_iff.mp hi
          have my := List.mem_of_getElem? hy
          refine ⟨_, rfl, ?_⟩
          have me2 := List.mem_of_getElem? mid.at_
          obtain ⟨p1, p2⟩ := mid.b.ph s me2
          have b1 := s.m1; have b2 := s.m2
          obtain ⟨z, e10⟩ := g10 k e.1 y (h := h2) (hl1 := by omega) (hl2 := by omega) p1 p2 (r := r) (o := o)
          have inn := fun (neg : Bool) => in_dcn (neg := neg) (dk_dcn (app_l (x := z) hp2.r)) (nkJ_ok (j := jstep r o e.1 y))
          have inn' : inB true (jD (jstep r o e.1 y)) (.ref h.length) (h2 ++ z) = .ok (.bl (!(lookN (jD (jstep r o e.1 y)) (L2.map entD)).isSome)) (h2 ++ z) := inn true
          have nx := mid.add my
          have tk : (further e.1 lo top).take i ++ [y] = (further e.1 lo top).take (i + 1) := by
            rw [List.take_add_one, hy]
            rfl
          rw [tk] at nx
          unfold env14
          rw [show spanD lo top = .tup [.int lo, .int top] from rfl]
          by_cases ink : jstep r o e.1 y ∈ keysOf L2
          · have lk : (lookN (jD (jstep r o e.1 y)) (L2.map entD)).isSome = true := by
              obtain ⟨e', m', q'⟩ := List.mem_map.mp ink
              rw [← q', look_some mid.b.nd m']
              rfl
            have ea : add L2 (jstep r o e.1 y) (e.2 ++ [y]) = L2 := by unfold add; rw [if_pos ink]
            rw [lk] at inn'
            rw [ea] at nx
            simp_arith [e10, inn']
            refine ⟨L2, _, _, rfl, nx, ⟨hp2.p.trans pre_app, app_l hp2.r, app_l hp2.d⟩, lm2, app_l q⟩
          · have lk : (lookN (jD (jstep r o e.1 y)) (L2.map entD)).isSome = false := by
              rw [look_none ink]
              rfl
            have ea : add L2 (jstep r o e.1 y) (e.2 ++ [y]) = L2 ++ [(jstep r o e.1 y, e.2 ++ [y])] := by unfold add; rw [if_neg ink]
            rw [lk] at inn'
            rw [ea] at nx
            have ll2 := mid.b.le' s
            have ixr : ixD (.ref h.length) (jD e.1) (h2 ++ z) = .ok (rowD e.2) (h2 ++ z) := ix_dcn (dk_dcn (app_l hp2.r)) nkJ_ok (look_some mid.b.nd me2)
            have ad : addD (rowD e.2) (.tup [.int y]) (h2 ++ z) = .ok (rowD (e.2 ++ [y])) (h2 ++ z) := by
              unfold rowD
              have lr := mid.b.len n e mid.at_
              rw [add_tup, List.map_append, if_pos (by simp only [List.length_map, List.length_singleton]; omega)]
              rfl
            have st : setN (.ref h.length) (jD (jstep r o e.1 y)) (rowD (e.2 ++ [y])) (h2 ++ z) = .ok () ((h2 ++ z).set h.length (.dcn ((L2 ++ [(jstep r o e.1 y, e.2 ++ [y])]).map entD))) := by
              rw [← put_new ink]
              exact setN_dcn (app_l hp2.r) nkJ_ok (by rw [List.length_map]; omega)
            have d3 : ((h2 ++ z).set h.length (.dcn ((L2 ++ [(jstep r o e.1 y, e.2 ++ [y])]).map entD)))[h.length + 1]? = some (.lst ((keysOf L2).map jD)) := by
              rw [List.getElem?_set_ne (by omega)]
              exact app_l hp2.d
            have q3 : ((h2 ++ z).set h.length (.dcn ((L2 ++ [(jstep r o e.1 y, e.2 ++ [y])]).map entD)))[h'.length]? = some (.lst ((further e.1 lo top).map .int)) := by
              rw [List.getElem?_set_ne (by omega)]
              exact app_l q
            have r3 : ((h2 ++ z).set h.length (.dcn ((L2 ++ [(jstep r o e.1 y, e.2 ++ [y])]).map entD)))[h.length]? = some (.dcn ((L2 ++ [(jstep r o e.1 y, e.2 ++ [y])]).map entD)) := get_set (by rw [app_l hp2.r]; rfl)
            have p3 : h <+: ((h2 ++ z).set h.length (.dcn ((L2 ++ [(jstep r o e.1 y, e.2 ++ [y])]).map entD))) := pre_set (hp2.p.trans pre_app) (Nat.le_refl _)
            simp_arith [e10, inn', ixr, ad, st]
            generalize (h2 ++ z).set h.length (.dcn ((L2 ++ [(jstep r o e.1 y, e.2 ++ [y])]).map entD)) = h3 at d3 q3 r3 p3 ⊢
            have ap := append_ref (d := jD (jstep r o e.1 y)) d3 (by rw [List.length_map, List.length_map]; omega)
            simp_arith [ap, tyD_lst d3]
            refine ⟨L2 ++ [(jstep r o e.1 y, e.2 ++ [y])], _, _, rfl, nx, ⟨pre_set p3 (by omega), ?_, ?_⟩, lm2, ?_⟩
            · rw [List.getElem?_set_ne (by omega)]
              exact r3
            · rw [get_set (by rw [d3]; rfl)]
              simp [keysOf]
            · rw [List.getElem?_set_ne (by omega)]
              exact q3
        · rintro env h2 ⟨L2, x8, x9, rfl, mid, hp2, _, _⟩
          rw [List.length_map, List.take_length] at mid
          have iv := mid.inv (fun y m => m)
          show wS (sNil _ _) _ ⟨⟩
          rw [wS_nil]
          refine ⟨⟨L2, n + 1, _, _, _, rfl, iv, ?_, hp2⟩, ?_⟩
          · exact (List.getElem?_eq_some_iff.mp mid.at_).1
          · show (614656 - ((n + 1 : Nat) : Int)).toNat < (614656 - (n : Int)).toNat
            omega
      · have d1 : decide ((n : Int) < (L.length : Nat)) = false := decide_eq_false (by omega)
        rw [d1, if_neg (by simp)]
        have : n = L.length := by omega
        subst this
        exact ⟨L, _, _, _, _, rfl, inv, hp⟩
    · refine ⟨[(jrun r o lo [], [lo])], 0, none, none, none, by simp [env14, spanD], Inv.start, Nat.zero_le _, ⟨?_, ?_, ?_⟩⟩
      · rw [List.append_assoc]; exact pre_app
      · rw [List.append_assoc, List.getElem?_append_right (Nat.le_refl _), Nat.sub_self]
        rfl
      · rw [List.getElem?_append_right (by simp)]
        simp
    · show (614656 - (0 : Int)).toNat < 1000000000
      omega
  · rintro env h' ⟨L, n, x7, x8, x9, rfl, inv, hp⟩
    unfold env14
    simp_arith []
    exact ⟨L, rfl, inv, hp.p, hp.r⟩
def resD : Option Row → D
  | none => .non
  | some row => rowD row
def Q15 (r o : Rule) (lo top : Int) (h : DH) (v : D) (h' : DH) : Prop := ∃ res, v = resD res ∧ Told r o lo top res ∧ (∀ row, res = some row → row.length ≤ 614656) ∧ h <+: h'
theorem g15 (k : Nat) (s : Sm r o lo top) : Ok (cF (k + 7) 15 [ruleD r, ruleD o, spanD lo top] h) (Q15 r o lo top h) := by
  rw [step_]
  refine (wE_run rfl).mpr ?_
  show wS (m15 (cF (k + 6)) [some _, some _, some _, none, none] h) _ _
  unfold m15
  simp_arith! []
  refine wE_of (g14 k s) ?_
  rintro v h1 ⟨L, rfl, inv, p, hr⟩
  simp_arith! []
  have td := told inv
  refine wS_forN (kvs := L.map entD) rfl hr (fun i env h' => (∃ x4, env = [some (ruleD r), some (ruleD o), some (spanD lo top), some (.ref h.length), x4]) ∧ h <+: h' ∧ h'[h.length]? = some (.lck (L.map entD)) ∧ ∀ e ∈ L.take i, aboveJ e.1 = false) ?_ ?_ ?_ ?_
  · refine ⟨⟨_, rfl⟩, pre_set p (Nat.le_refl _), get_set (by rw [hr]; rfl), by simp⟩
  · exact fun i env h' I => I.2.2.1
  · rintro i d env h' hi ⟨⟨x4, rfl⟩, p1, hl, no⟩
    rw [List.getElem?_map, List.getElem?_map, Option.map_map] at hi
    obtain ⟨e, he, rfl⟩ := Option.map_eq_some_iff.mp hi
    have me := List.mem_of_getElem? he
    refine ⟨_, rfl, ?_⟩
    have e11 := g11 (k + 4) e.1 (h := h')
    have ix : ixD (.ref h.length) (jD e.1) h' = .ok (rowD e.2) h' := ix_dcn (dk_lck hl) nkJ_ok (look_some inv.b.nd me)
    have ee : (Prod.fst ∘ entD) e = jD e.1 := rfl
    rw [ee]
    cases ab : aboveJ e.1 with
    | true =>
      rw [ab] at e11
      simp_arith [e11, ix]
      have lim := inv.b.le' s
      have len := inv.b.len i e he
      have il := (List.getElem?_eq_some_iff.mp he).1
      refine ⟨hl, some e.2, rfl, ?_, (fun row q => by cases q; omega), pre_set p1 (Nat.le_refl _)⟩
      have : firstAbove L = some e.2 := by
        unfold firstAbove
        obtain ⟨lt, q⟩ := List.getElem?_eq_some_iff.mp he
        have : L = L.take i ++ e :: L.drop (i + 1) := by
          rw [← q, ← List.drop_eq_getElem_cons lt, List.take_append_drop]
        rw [this, List.find?_append, List.find?_eq_none.mpr (by simpa using no)]
        simp [ab]
      rw [← this]
      exact td
    | false =>
      rw [ab] at e11
      simp_arith [e11]
      refine ⟨⟨_, rfl⟩, p1, hl, ?_⟩
      rw [List.take_add_one, he]
      intro e' m
      rcases List.mem_append.mp m with m | m
      · exact no e' m
      · have : e' = e := by simpa using m
        rw [this]
        exact ab
  · rintro env h' ⟨⟨x4, rfl⟩, p1, hl, no⟩
    simp_arith []
    refine ⟨none, rfl, ?_, (fun row q => by cases q), pre_set p1 (Nat.le_refl _)⟩
    have : firstAbove L = none := by
      unfold firstAbove
      rw [Option.map_eq_none_iff, List.find?_eq_none]
      rw [List.length_map, List.take_length] at no
      simpa using no
    rw [← this]
    exact td
def Q16 (r o : Rule) (lo top : Int) (h : DH) (v : D) (h' : DH) : Prop := ∃ b, v = .bl b ∧ (b = true ↔ ∀ (ys : Row) (z : Int), Asc lo top ys z → aboveJ (jrun r o lo ys) = false) ∧ h <+: h'
theorem g16 (k : Nat) (s : Sm r o lo top) : Ok (cF (k + 8) 16 [ruleD r, ruleD o, spanD lo top] h) (Q16 r o lo top h) := by
  rw [step_]
  refine (wE_run rfl).mpr ?_
  show wS (m16 (cF (k + 7)) [some _, some _, some _] h) _ _
  unfold m16
  simp_arith! []
  refine wE_of (g15 k s) ?_
  rintro v h1 ⟨res, rfl, td, _, p⟩
  cases res with
  | none =>
    simp_arith [resD]
    exact ⟨true, rfl, ⟨fun _ => td.no rfl, fun _ => rfl⟩, p⟩
  | some row =>
    simp_arith [resD, rowD]
    refine ⟨false, rfl, ⟨fun q => (by cases q), fun q => ?_⟩, p⟩
    obtain ⟨ys, z, _, a, b⟩ := td.yes row rfl
    rw [q ys z a] at b
    cases b
end
end K62
namespace K62
open PySem DV L2
local macro_rules | `(tactic| simp_arith [$xs,*]) => `(tactic| simp only [wE_ok, wE_exc, wE_bad, wE_bind, wE_dbind, wE_if, wE_noX, ↓wS_seq, ↓wS_nil, ↓wS_pass, ↓wS_break, ↓wS_cont, ↓wS_expr, ↓wS_ret, ↓wS_retN, ↓wS_if, wG_some, wG_none, setAll, ↓wS_asg, ↓wS_par, ↓wS_set, ↓wS_setN, ↓wS_raise, ↓wS_try, ↓wS_for, wS_nx, wS_rt, forI_items, forS_nil, ↓forS_cons, ↓u_varO, uO_some, ↓u_cst, ↓u_nil, ↓u_cons, ↓u_d2, ↓u_tru, ↓u_bl, ↓u_and, ↓u_or, ↓u_tand, ↓u_tor, ↓u_tnot, ↓u_not, ↓u_neg, ↓u_ite, ↓u_tup, ↓u_lst, ↓u_call, ↓u_callF, ↓u_meth, ↓u_sl, ↓u_pNone, ↓u_pSome, ↓u_rev, ↓u_dic0, ↓u_prs0, ↓u_prs, ↓u_dic, ↓u_dicN, ↓u_lr2, ↓u_iVal, ↓u_iEn, ↓u_iRng1, ↓u_lc, aName_run, List.set_cons_zero, List.set_cons_succ, List.getElem?_cons_zero, List.getElem?_cons_succ, List.append_nil, List.length_cons, List.length_nil, truD_bl, truD_non, truD_int, truD_tup, blD_bl, pInt, eqB_int, eqB_str, reduceIte, Nat.reduceAdd, Nat.zero_add, Nat.reduceLeDiff, true_and, and_true, Bool.not_true, Bool.not_false, Bool.false_eq_true, Bool.true_eq_false, decide_true, decide_false, isi_non_int, isi_non_bool, isi_non_str, isi_non_tuple, isi_non_list, isi_bl_int, isi_bl_bool, isi_bl_str, isi_bl_tuple, isi_bl_list, isi_int_int, isi_int_bool, isi_int_str, isi_int_tuple, isi_int_list, isi_str_int, isi_str_bool, isi_str_str, isi_str_tuple, isi_str_list, isi_tup_int, isi_tup_bool, isi_tup_str, isi_tup_tuple, isi_tup_list, isi_frz_int, isi_frz_bool, isi_frz_str, isi_frz_tuple, isi_frz_list, len_tup, len_frz, ix0, ix1, ix2, ix3, ix4, ix5, neg_int, add_int, sub_int, add_tup, is_non, in_cdt, in_chr, ord_int, mod_int, fdiv_int, int_int, DV.sl_tup, itV_tup, itV_frz, list_tup, lit_big, Int.cast_ofNat_Int, enK_tup, aPair, cast_succ0, $xs,*])
local macro_rules | `(tactic| simp_arith! [$xs,*]) => `(tactic| simp only [wE_ok, wE_exc, wE_bad, wE_bind, wE_dbind, wE_if, wE_noX, ↓wS_seq, ↓wS_nil, ↓wS_pass, ↓wS_break, ↓wS_cont, ↓wS_expr, ↓wS_ret, ↓wS_retN, wG_some, wG_none, setAll, ↓wS_asg, ↓wS_par, ↓wS_set, ↓wS_setN, ↓wS_raise, ↓wS_try, wS_nx, wS_rt, forI_items, forS_nil, ↓u_varO, uO_some, ↓u_cst, ↓u_nil, ↓u_cons, ↓u_d2, ↓u_tru, ↓u_bl, ↓u_and, ↓u_or, ↓u_tand, ↓u_tor, ↓u_tnot, ↓u_not, ↓u_neg, ↓u_ite, ↓u_tup, ↓u_lst, ↓u_call, ↓u_callF, ↓u_meth, ↓u_sl, ↓u_pNone, ↓u_pSome, ↓u_rev, ↓u_dic0, ↓u_prs0, ↓u_prs, ↓u_dic, ↓u_dicN, ↓u_lr2, ↓u_iVal, ↓u_iEn, ↓u_iRng1, ↓u_lc, aName_run, List.set_cons_zero, List.set_cons_succ, List.getElem?_cons_zero, List.getElem?_cons_succ, List.append_nil, List.length_cons, List.length_nil, truD_bl, truD_non, truD_int, truD_tup, blD_bl, pInt, eqB_int, eqB_str, reduceIte, Nat.reduceAdd, Nat.zero_add, Nat.reduceLeDiff, true_and, and_true, Bool.not_true, Bool.not_false, Bool.false_eq_true, Bool.true_eq_false, decide_true, decide_false, isi_non_int, isi_non_bool, isi_non_str, isi_non_tuple, isi_non_list, isi_bl_int, isi_bl_bool, isi_bl_str, isi_bl_tuple, isi_bl_list, isi_int_int, isi_int_bool, isi_int_str, isi_int_tuple, isi_int_list, isi_str_int, isi_str_bool, isi_str_str, isi_str_tuple, isi_str_list, isi_tup_int, isi_tup_bool, isi_tup_str, isi_tup_tuple, isi_tup_list, isi_frz_int, isi_frz_bool, isi_frz_str, isi_frz_tuple, isi_frz_list, len_tup, len_frz, ix0, ix1, ix2, ix3, ix4, ix5, neg_int, add_int, sub_int, add_tup, is_non, in_cdt, in_chr, ord_int, mod_int, fdiv_int, int_int, DV.sl_tup, itV_tup, itV_frz, list_tup, lit_big, Int.cast_ofNat_Int, enK_tup, aPair, cast_succ0, $xs,*])
def srcD (s r c : Int) : DO := .dct [(.str (tx "cells"), .ref 1), (.str (tx "next"), .int s), (.str (tx "rest"), .int r), (.str (tx "turn"), .int c)]
def Src (h : DH) : Prop := ∃ (cells : List Int) (s r c : Int), h[1]? = some (.lst (cells.map .int)) ∧ h[2]? = some (srcD s r c)
theorem tx_cells : tx "cells" = [99, 101, 108, 108, 115] := by decide +kernel
theorem tx_spot : tx "next" = [110, 101, 120, 116] := by decide +kernel
theorem tx_rest : tx "rest" = [114, 101, 115, 116] := by decide +kernel
theorem tx_count : tx "turn" = [116, 117, 114, 110] := by decide +kernel
theorem Src.kp {h h' : DH} (s : Src h) (p : h <+: h') : Src h' := by
  obtain ⟨c, a, b, d, e1, e2⟩ := s
  exact ⟨c, a, b, d, pre_get p e1, pre_get p e2⟩
section
variable {h : DH} {s r c v : Int}
theorem ix_cells (e : h[2]? = some (srcD s r c)) : ixD (.ref 2) (.str (tx "cells")) h = .ok (.ref 1) h := ix_dct e (by simp [lookK, keq])
theorem ix_spot (e : h[2]? = some (srcD s r c)) : ixD (.ref 2) (.str (tx "next")) h = .ok (.int s) h := ix_dct e (by simp [lookK, keq, tx_cells, tx_spot])
theorem ix_rest (e : h[2]? = some (srcD s r c)) : ixD (.ref 2) (.str (tx "rest")) h = .ok (.int r) h := ix_dct e (by simp [lookK, keq, tx_cells, tx_spot, tx_rest])
theorem ix_count (e : h[2]? = some (srcD s r c)) : ixD (.ref 2) (.str (tx "turn")) h = .ok (.int c) h := ix_dct e (by simp [lookK, keq, tx_cells, tx_spot, tx_rest, tx_count])
theorem set_spot (e : h[2]? = some (srcD s r c)) : setD (.ref 2) (.str (tx "next")) (.int v) h = .ok () (h.set 2 (srcD v r c)) := by
  rw [set_dct e (by simp [big])]
  simp [putD, keq, tx_cells, tx_spot, srcD]
theorem set_rest (e : h[2]? = some (srcD s r c)) : setD (.ref 2) (.str (tx "rest")) (.int v) h = .ok () (h.set 2 (srcD s v c)) := by
  rw [set_dct e (by simp [big])]
  simp [putD, keq, tx_cells, tx_spot, tx_rest, srcD]
theorem set_count (e : h[2]? = some (srcD s r c)) : setD (.ref 2) (.str (tx "turn")) (.int v) h = .ok () (h.set 2 (srcD s r v)) := by
  rw [set_dct e (by simp [big])]
  simp [putD, keq, tx_cells, tx_spot, tx_rest, tx_count, srcD]
/-- writing the source leaves the lists -/
theorem src_set {s' r' c' : Int} (e : h[2]? = some (srcD s r c)) : Kp h (h.set 2 (srcD s' r' c')) ∧ (h.set 2 (srcD s' r' c'))[2]? = some (srcD s' r' c') ∧ (h.set 2 (srcD s' r' c'))[1]? = h[1]? :=
  ⟨Kp.refl.set (by intro ds q; rw [e] at q; cases q), get_set (by rw [e]; rfl), List.getElem?_set_ne (by decide)⟩
end
/-- a drawn number -/
def Dn (many : Int) (h : DH) (v : D) (h' : DH) : Prop := ∃ j : Nat, v = .int (j : Nat) ∧ (j : Int) < many ∧ Src h' ∧ Kp h h'
theorem g18 (k : Nat) {many : Int} {h : DH} (src : Src h) (m0 : 0 < many) (m1 : many < 1073741824) : Ok (cF (k + 1) 18 [.ref 2, .int many] h) (Dn many h) := by
  obtain ⟨cells, s, r, c, hc, hs⟩ := src
  rw [step_]
  refine (wE_run rfl).mpr ?_
  show wS (m18 (cF k) [some (.ref 2), some (.int many), none, none, none, none, none] h) _ _
  unfold m18
  have res : ∀ x : Int, ∃ j : Nat, D.int (x % many) = .int (j : Nat) ∧ (j : Int) < many := fun x => by
    have h1 := Int.emod_nonneg x (show many ≠ 0 by omega)
    have h2 := Int.emod_lt_of_pos x m0
    exact ⟨(x % many).toNat, by rw [Int.toNat_of_nonneg h1], by rw [Int.toNat_of_nonneg h1]; exact h2⟩
  simp_arith [ix_count hs, set_count hs]
  obtain ⟨k1, s1, c1⟩ := src_set (s' := s) (r' := r) (c' := c + 1) hs
  rw [hc] at c1
  generalize hh1 : h.set 2 (srcD s r (c + 1)) = h1 at k1 s1 c1
  simp_arith [ix_rest s1, OrdK.z]
  by_cases hr : 0 < r
  · simp_arith [hr, ix_rest s1, mod_int m0, fdiv_int ⟨m0, m1⟩, set_rest s1]
    obtain ⟨k2, s2, c2⟩ := src_set (s' := s) (r' := r / many) (c' := c + 1) s1
    rw [c1] at c2
    obtain ⟨j, e1, e2⟩ := res r
    exact ⟨j, e1, e2, ⟨_, _, _, _, c2, s2⟩, k1.trans k2⟩
  · have gz := fun (z : Bool) => eq_ints_nil (neg := true) (n := 1) (m := h1.length) (app_l (x := [DO.lst []]) c1) app_get
    simp_arith [hr, ix_cells s1, ix_spot s1, gz true, Bool.not_eq_true']
    generalize hh2 : h1 ++ [DO.lst []] = h2
    have s3 : h2[2]? = some (srcD s r (c + 1)) := by rw [← hh2]; exact app_l s1
    have c3 : h2[1]? = some (DO.lst (cells.map D.int)) := by rw [← hh2]; exact app_l c1
    have k3 : Kp h h2 := by rw [← hh2]; exact k1.trans Kp.app
    have hcell : ∃ cell : Int, ((!cells.isEmpty) = true → ixD (.ref 1) (.int (s % (cells.length : Nat))) h2 = .ok (.int cell) h2) ∧ ((!cells.isEmpty) = true → (0 : Int) < (cells.length : Nat)) := by
      cases cells with
      | nil => exact ⟨0, by simp, by simp⟩
      | cons a l =>
        have l0 : (0 : Int) < ((a :: l).length : Nat) := by rw [List.length_cons]; omega
        have h1' := Int.emod_nonneg s (show (((a :: l).length : Nat) : Int) ≠ 0 by omega)
        have h2' := Int.emod_lt_of_pos s l0
        obtain ⟨j, hj⟩ : ∃ j : Nat, s % (((a :: l).length : Nat) : Int) = (j : Int) := ⟨_, (Int.toNat_of_nonneg h1').symm⟩
        have lt : j < (a :: l).length := by omega
        refine ⟨(a :: l)[j], fun _ => ?_, fun _ => l0⟩
        rw [hj]
        exact ix_ref c3 (by rw [List.getElem?_map, List.getElem?_eq_getElem lt]; rfl)
    obtain ⟨cell, g1, g2⟩ := hcell
    have pw := fun i j (e : 0 ≤ j ∧ j ≤ 1000000 ∧ i.natAbs < 2 ^ 64) h => pow_int (i := i) (j := j) (h := h) e
    have p10 : ∀ h, powD (.int 10) (.int 18) h = .ok (.int 1000000000000000000) h := pw 10 18 (by decide)
    have ml : ∀ (i j : Int) (h : DH), i.natAbs < 2 ^ 64 → mulD (.int i) (.int j) h = .ok (.int (i * j)) h := fun i j h e => mul_l e
    have ln := len_ref c3
    rw [List.length_map] at ln
    obtain ⟨k4, s4, c4⟩ := src_set (s' := s + 1) (r' := r) (c' := c + 1) s3
    rw [c3] at c4
    have ln4 := len_ref c4
    rw [List.length_map] at ln4
    cases he : cells.isEmpty
    case' true =>
      simp_arith [set_spot s3]
      generalize (1389 : Int) = cell
    case' false =>
      rw [he] at g1 g2
      simp_arith [ln, mod_int (g2 rfl), g1 rfl, set_spot s3]
    all_goals
      generalize hh4 : h2.set 2 (srcD (s + 1) r (c + 1)) = h4 at k4 s4 c4 ln4
      simp_arith [p10, OrdK.z, ln4]
      by_cases q : 1000000000000000000 ≤ cell ∧ s < (cells.length : Nat)
      · simp_arith [q, fdiv_int ⟨m0, m1⟩, mod_int m0, set_rest s4]
        obtain ⟨k5, s5, c5⟩ := src_set (s' := s + 1) (r' := cell / many) (c' := c + 1) s4
        rw [c4] at c5
        obtain ⟨j, e1, e2⟩ := res cell
        exact ⟨j, e1, e2, ⟨_, _, _, _, c5, s5⟩, (k3.trans k4).trans k5⟩
      · have qq : ∀ A B : Prop, (if decide (1000000000000000000 ≤ cell) = true then (if decide (s < (cells.length : Nat)) = true then A else B) else B) = B := by
          intro A B
          by_cases q1 : 1000000000000000000 ≤ cell
          · have q2 : ¬ s < (cells.length : Nat) := fun z => q ⟨q1, z⟩
            simp [q1, q2]
          · simp [q1]
        rw [qq]
        simp_arith [mod_int (show (0 : Int) < 1000000993 by decide), mod_int (show (0 : Int) < 2147482801 by decide), ix_count s4, ml 310019 _ _ (by decide)]
        generalize hv : (cell % 1000000993 + 310019 * (c + 1) + 311) % 2147482801 = v1
        have b1 : v1.natAbs < 2 ^ 64 := by omega
        simp_arith [ml v1 _ _ b1, mod_int (show (0 : Int) < 2147481901 by decide), ix_count s4, ml 4200013 _ _ (by decide)]
        generalize hw : (v1 * v1 + 4200013 * (c + 1) + 131) % 2147481901 = v2
        have b2 : v2.natAbs < 2 ^ 64 := by omega
        simp_arith [ml v2 _ _ b2, mod_int (show (0 : Int) < 2147481793 by decide), ml 211 _ _ (by decide)]
        generalize hx : (v2 * v2 + 211 * v2) % 2147481793 = v3
        simp_arith [fdiv_int (show (0 : Int) < 8 ∧ (8 : Int) < 1073741824 by decide), mod_int m0]
        obtain ⟨j, e1, e2⟩ := res (v3 / 8)
        exact ⟨j, e1, e2, ⟨_, _, _, _, c4, s4⟩, k3.trans k4⟩
/-- one of a list's -/
theorem g19 (k : Nat) {h : DH} {n : Nat} {ds : List D} (src : Src h) (hn : h[n]? = some (.lst ds)) (l0 : 0 < ds.length) (l1 : ds.length ≤ 1000) : Ok (cF (k + 2) 19 [.ref 2, .ref n] h) fun v h' => v ∈ ds ∧ Src h' ∧ Kp h h' := by
  rw [step_]
  refine (wE_run rfl).mpr ?_
  show wS (m19 (cF (k + 1)) [some _, some _] h) _ _
  unfold m19
  simp_arith [len_ref hn]
  refine wE_of (g18 k src (by omega) (by omega)) ?_
  rintro v h1 ⟨j, rfl, jl, s1, k1⟩
  have lt : j < ds.length := by omega
  have ix := ix_ref (k1.lst n ds hn) (i := j) (d := ds[j]) (List.getElem?_eq_getElem lt)
  simp_arith [ix]
  exact ⟨List.getElem_mem lt, s1, k1⟩
end K62
namespace K62
open PySem DV L2
local macro_rules | `(tactic| simp_arith [$xs,*]) => `(tactic| simp only [wE_ok, wE_exc, wE_bad, wE_bind, wE_dbind, wE_if, wE_noX, ↓wS_seq, ↓wS_nil, ↓wS_pass, ↓wS_break, ↓wS_cont, ↓wS_expr, ↓wS_ret, ↓wS_retN, ↓wS_if, wG_some, wG_none, setAll, ↓wS_asg, ↓wS_par, ↓wS_set, ↓wS_setN, ↓wS_raise, ↓wS_try, ↓wS_for, wS_nx, wS_rt, forI_items, forS_nil, ↓forS_cons, ↓u_varO, uO_some, ↓u_cst, ↓u_nil, ↓u_cons, ↓u_d2, ↓u_tru, ↓u_bl, ↓u_and, ↓u_or, ↓u_tand, ↓u_tor, ↓u_tnot, ↓u_not, ↓u_neg, ↓u_ite, ↓u_tup, ↓u_lst, ↓u_call, ↓u_callF, ↓u_meth, ↓u_sl, ↓u_pNone, ↓u_pSome, ↓u_rev, ↓u_dic0, ↓u_prs0, ↓u_prs, ↓u_dic, ↓u_dicN, ↓u_lr2, ↓u_iVal, ↓u_iEn, ↓u_iRng1, ↓u_lc, aName_run, List.set_cons_zero, List.set_cons_succ, List.getElem?_cons_zero, List.getElem?_cons_succ, List.append_nil, List.length_cons, List.length_nil, truD_bl, truD_non, truD_int, truD_tup, blD_bl, pInt, eqB_int, eqB_str, reduceIte, Nat.reduceAdd, Nat.zero_add, Nat.reduceLeDiff, true_and, and_true, Bool.not_true, Bool.not_false, Bool.false_eq_true, Bool.true_eq_false, decide_true, decide_false, isi_non_int, isi_non_bool, isi_non_str, isi_non_tuple, isi_non_list, isi_bl_int, isi_bl_bool, isi_bl_str, isi_bl_tuple, isi_bl_list, isi_int_int, isi_int_bool, isi_int_str, isi_int_tuple, isi_int_list, isi_str_int, isi_str_bool, isi_str_str, isi_str_tuple, isi_str_list, isi_tup_int, isi_tup_bool, isi_tup_str, isi_tup_tuple, isi_tup_list, isi_frz_int, isi_frz_bool, isi_frz_str, isi_frz_tuple, isi_frz_list, len_tup, len_frz, ix0, ix1, ix2, ix3, ix4, ix5, neg_int, add_int, sub_int, add_tup, is_non, in_cdt, in_chr, ord_int, mod_int, fdiv_int, int_int, DV.sl_tup, itV_tup, itV_frz, list_tup, lit_big, Int.cast_ofNat_Int, enK_tup, aPair, cast_succ0, $xs,*])
local macro_rules | `(tactic| simp_arith! [$xs,*]) => `(tactic| simp only [wE_ok, wE_exc, wE_bad, wE_bind, wE_dbind, wE_if, wE_noX, ↓wS_seq, ↓wS_nil, ↓wS_pass, ↓wS_break, ↓wS_cont, ↓wS_expr, ↓wS_ret, ↓wS_retN, wG_some, wG_none, setAll, ↓wS_asg, ↓wS_par, ↓wS_set, ↓wS_setN, ↓wS_raise, ↓wS_try, wS_nx, wS_rt, forI_items, forS_nil, ↓u_varO, uO_some, ↓u_cst, ↓u_nil, ↓u_cons, ↓u_d2, ↓u_tru, ↓u_bl, ↓u_and, ↓u_or, ↓u_tand, ↓u_tor, ↓u_tnot, ↓u_not, ↓u_neg, ↓u_ite, ↓u_tup, ↓u_lst, ↓u_call, ↓u_callF, ↓u_meth, ↓u_sl, ↓u_pNone, ↓u_pSome, ↓u_rev, ↓u_dic0, ↓u_prs0, ↓u_prs, ↓u_dic, ↓u_dicN, ↓u_lr2, ↓u_iVal, ↓u_iEn, ↓u_iRng1, ↓u_lc, aName_run, List.set_cons_zero, List.set_cons_succ, List.getElem?_cons_zero, List.getElem?_cons_succ, List.append_nil, List.length_cons, List.length_nil, truD_bl, truD_non, truD_int, truD_tup, blD_bl, pInt, eqB_int, eqB_str, reduceIte, Nat.reduceAdd, Nat.zero_add, Nat.reduceLeDiff, true_and, and_true, Bool.not_true, Bool.not_false, Bool.false_eq_true, Bool.true_eq_false, decide_true, decide_false, isi_non_int, isi_non_bool, isi_non_str, isi_non_tuple, isi_non_list, isi_bl_int, isi_bl_bool, isi_bl_str, isi_bl_tuple, isi_bl_list, isi_int_int, isi_int_bool, isi_int_str, isi_int_tuple, isi_int_list, isi_str_int, isi_str_bool, isi_str_str, isi_str_tuple, isi_str_list, isi_tup_int, isi_tup_bool, isi_tup_str, isi_tup_tuple, isi_tup_list, isi_frz_int, isi_frz_bool, isi_frz_str, isi_frz_tuple, isi_frz_list, len_tup, len_frz, ix0, ix1, ix2, ix3, ix4, ix5, neg_int, add_int, sub_int, add_tup, is_non, in_cdt, in_chr, ord_int, mod_int, fdiv_int, int_int, DV.sl_tup, itV_tup, itV_frz, list_tup, lit_big, Int.cast_ofNat_Int, enK_tup, aPair, cast_succ0, $xs,*])
theorem lt_two {i j : Int} : PySem.W.dataLt (.tuple [.int 0, .int i]) (.tuple [.int 0, .int j]) = decide (i < j) := by
  rw [PySem.W.dataLt_tuple, PySem.W.dataLt_all_yes rfl (by simp [PyData.eqv])]
  by_cases e : i = j
  · subst e
    rw [PySem.W.dataLt_all_yes rfl (by simp [PyData.eqv])]
    simp only [Int.lt_irrefl, decide_false]
    rfl
  · rw [PySem.W.dataLt_all_no rfl (by simp [PyData.eqv, e]), PySem.W.dataLt_int]
def keyD : End → D
  | none => .tup [.int 1, .int 0]
  | some i => .tup [.int 0, .int i]
theorem lt_key {h : DH} {a b : End} : ordD .lt (keyD a) (keyD b) h = .ok (.bl (less a b)) h := by
  cases a <;> cases b
  · rfl
  · rfl
  · rfl
  · rename_i i j
    have e : ordD .lt (.tup [.int 0, .int i]) (.tup [.int 0, .int j]) h = .ok (.bl (PySem.W.dataLt (.tuple [.int 0, .int i]) (.tuple [.int 0, .int j]))) h := rfl
    show ordD .lt (.tup [.int 0, .int i]) (.tup [.int 0, .int j]) h = _
    rw [e, lt_two]
    rfl
theorem gt_key {h : DH} {a b : End} : ordD .gt (keyD a) (keyD b) h = .ok (.bl (less b a)) h := by
  cases a <;> cases b
  · rfl
  · rfl
  · rfl
  · rename_i i j
    have e : ordD .gt (.tup [.int 0, .int i]) (.tup [.int 0, .int j]) h = .ok (.bl (PySem.W.dataLt (.tuple [.int 0, .int j]) (.tuple [.int 0, .int i]))) h := rfl
    show ordD .gt (.tup [.int 0, .int i]) (.tup [.int 0, .int j]) h = _
    rw [e, lt_two]
    rfl
def pE : End → PyData
  | none => .none
  | some i => .int i
theorem toPy_e {h : DH} {m : Nat} {e : End} : toPy h (m + 1) (eD e) = some (pE e) := by cases e <;> rfl
theorem ends_seq {h : DH} (es : List End) (m : Nat) : seqO ((es.map eD).map (toPy h (m + 1))) = some (es.map pE) := by
  induction es with
  | nil => rfl
  | cons a l ih => simp only [List.map_cons, toPy_e, seqO, ih]; rfl
theorem pE_lay {e : End} : (pE e).canLay0 = true := by cases e <;> rfl
theorem ends_lay (es : List End) : PyData.canLayAll0 (es.map pE) = true := by
  rw [canLayAll_all]
  simp [pE_lay]
theorem ends_depth (es : List End) : (PyData.tuple (es.map pE)).depth ≤ 1 := by
  have : PyData.depthAll (es.map pE) ≤ 0 := depthAll_le.mpr (by
    intro p m
    obtain ⟨e, _, rfl⟩ := List.mem_map.mp m
    cases e <;> simp [pE, PyData.depth])
  simp only [PyData.depth]
  omega
theorem ends_alike : ∀ es : List End, PySem.W.alikeAll (es.map pE) (es.map pE) = true
  | [] => rfl
  | e :: es => by
    simp only [List.map_cons, PySem.W.alikeAll, ends_alike es, Bool.and_true]
    cases e <;> rfl
/-- two rows of ends that are one -/
theorem eq_self {h : DH} {neg : Bool} {es : List End} : eqB neg (.tup (es.map eD)) (.tup (es.map eD)) h = .ok (.bl neg.not) h := by
  have z : toPy h 60 (.tup (es.map eD)) = some (.tuple (es.map pE)) := by
    simp only [toPy]
    rw [ends_seq]
    rfl
  show eqB0 neg _ _ h = _
  simp only [eqB0, z]
  have sh : SeqAt.shaped (.tuple (es.map pE)) = true := by
    have := ends_depth es
    simp only [SeqAt.shaped, PyData.canLay0, ends_lay, Bool.true_and]
    exact decide_eq_true (by omega)
  rw [if_pos ⟨sh, sh⟩]
  have e2 : PyData.eqv (.tuple (es.map pE)) (.tuple (es.map pE)) = true := PySem.W.eqv_refl_alike _ (ends_alike es)
  rw [e2]
  cases neg <;> rfl
section
variable {h : DH}
theorem g17 (k : Nat) {ns : List Int} (hn : ns.length ≤ 63) : Ok (cF (k + 1) 17 [.frz (ns.map .int)] []) fun v h' => v = .ref 2 ∧ Src h' := by
  rw [step_]
  show Ok (runB 1 N17.length (m17 (cF k)) [.frz (ns.map .int)] []) _
  refine (wE_run (n := 1) (as := [.frz (ns.map .int)]) rfl).mpr ?_
  show wS (m17 (cF k) [some (.frz (ns.map .int))] []) _ _
  unfold m17
  have ct : cut (ns.map D.int) none (some 63) = ns.map D.int := by
    have := cut_0n (ns.map D.int) 63
    rw [List.take_of_length_le (by simpa using hn)] at this
    exact this
  have sl : slD (.frz (ns.map D.int)) none (some 63) [] = .ok (.ref 0) [DO.lst (ns.map D.int)] := by
    simp only [slD, ct]
    rfl
  have ls : listF2 [.ref 0] [DO.lst (ns.map D.int)] = .ok (.ref 1) [DO.lst (ns.map D.int), DO.lst (ns.map D.int)] := rfl
  simp_arith [sl, ls]
  refine ⟨rfl, ns, 0, 0, 0, rfl, ?_⟩
  simp [mergeD, putD, keq, tx_cells, tx_spot, tx_rest, tx_count, srcD]
theorem g20 (k : Nat) (e : End) : cF (k + 1) 20 [eD e] h = .ok (keyD e) h := by
  rw [step_]
  apply Ok.run
  refine (wE_run rfl).mpr ?_
  show wS (m20 (cF k) [some _] h) _ _
  unfold m20
  cases e <;> simp_arith [eD, DV.isNon, keyD]
def caseN (marks : List Int) (x y : Int) : Int := match caseOf marks x (some y) with
  | .near => 0
  | .at_ => 1
  | .far => 2
/-- for marks that ascend the first above is the next behind those that are not -/
theorem upper_eq {marks : List Int} {x : Int} (up : marks.Pairwise (· < ·)) : upper marks x = (marks.filter fun m => decide (x < m))[0]? := by
  unfold upper
  induction marks with
  | nil => rfl
  | cons a l ih =>
    rw [List.pairwise_cons] at up
    have ih := ih up.2
    by_cases q : a ≤ x
    · have q2 : ¬ x < a := by omega
      simp only [List.filter_cons, q, q2, decide_true, decide_false, if_true, Bool.false_eq_true, if_false, List.length_cons, List.getElem?_cons_succ]
      exact ih
    · have q2 : x < a := by omega
      have e : l.filter (fun m => decide (m ≤ x)) = [] := by
        rw [List.filter_eq_nil_iff]
        intro m hm
        have := up.1 m hm
        simp
        omega
      simp only [List.filter_cons, q, q2, decide_true, decide_false, if_true, Bool.false_eq_true, if_false, e, List.length_nil, List.getElem?_cons_zero]
theorem eq_lst_nil {n m : Nat} {neg : Bool} {ns : List Int} (e1 : h[n]? = some (.lst (ns.map .int))) (e2 : h[m]? = some (.lst [])) : eqB neg (.ref n) (.ref m) h = .ok (.bl (if neg then !ns.isEmpty else ns.isEmpty)) h := eq_ints_nil e1 e2
theorem g21 (k : Nat) (ms : List Int) (x y : Int) (up : ms.Pairwise (· < ·)) (hl : ms.length ≤ big) : ∃ z, cF (k + 1) 21 [.tup (ms.map .int), .int x, .int y] h = .ok (.int (caseN ms x y)) (h ++ z) := by
  suffices q : Ok (cF (k + 1) 21 [.tup (ms.map .int), .int x, .int y] h) fun v h' => v = .int (caseN ms x y) ∧ h <+: h' by
    obtain ⟨v, h', e, rfl, y, rfl⟩ := q.eq
    exact ⟨y, e⟩
  rw [step_]
  refine (wE_run rfl).mpr ?_
  show wS (m21 (cF k) [some _, some _, some _, none, none] h) _ _
  unfold m21
  simp_arith []
  rw [u_lcS_pure (fun d => [some (.tup (ms.map .int)), some (.int x), some (.int y), none, some d]) (fun d => match d with | .int m => decide (x < m) | _ => false) (fun d => d) ?_]
  · have e : List.filter (fun d => match d with | D.int m => decide (x < m) | _ => false) (ms.map D.int) = (ms.filter fun m => decide (x < m)).map D.int := by
      rw [List.filter_map]
      rfl
    rw [e, List.map_id']
    refine ⟨by simp; exact Nat.le_trans (List.length_filter_le _ _) hl, ?_⟩
    have hu := upper_eq (x := x) up
    unfold caseN caseOf
    rw [hu]
    generalize ms.filter (fun m => decide (x < m)) = L
    have p1 : (h ++ [DO.lst (L.map D.int)])[h.length]? = some (DO.lst (L.map D.int)) := app_get
    generalize h1e : h ++ [DO.lst (L.map D.int)] = h1 at p1
    have pr : h <+: h1 := by rw [← h1e]; exact pre_app
    have eqn := eq_lst_nil (neg := false) (m := h1.length) (ns := L) (app_l (x := [DO.lst []]) p1) app_get
    simp_arith [DV.isNon, eqn]
    cases L with
    | nil =>
      simp_arith [List.isEmpty_nil]
      exact ⟨rfl, pr.trans pre_app⟩
    | cons a L =>
      have ix := ix_ref (app_l (x := [DO.lst []]) p1) (i := 0) (d := .int a) rfl
      have ix' : ixD (.ref h.length) (.int 0) (h1 ++ [DO.lst []]) = .ok (.int a) (h1 ++ [DO.lst []]) := ix
      simp_arith [List.isEmpty_cons, ix', OrdK.z]
      by_cases q : y < a
      · simp_arith [q]
        exact pr.trans pre_app
      · have eqm := eq_lst_nil (neg := true) (m := (h1 ++ [DO.lst []]).length) (ns := a :: L) (app_l (x := [DO.lst []]) (app_l (x := [DO.lst []]) p1)) app_get
        have ix2 := ix_ref (app_l (x := [DO.lst []]) (app_l (x := [DO.lst []]) p1)) (i := 0) (d := .int a) rfl
        have ix2' : ixD (.ref h.length) (.int 0) (h1 ++ [DO.lst []] ++ [DO.lst []]) = .ok (.int a) (h1 ++ [DO.lst []] ++ [DO.lst []]) := ix2
        simp_arith [q, eqm, List.isEmpty_cons, ix2']
        by_cases q3 : y = a
        · simp_arith [q3]
          exact (pr.trans pre_app).trans pre_app
        · simp_arith [q3]
          exact (pr.trans pre_app).trans pre_app
  · intro d m
    obtain ⟨i, _, rfl⟩ := List.mem_map.mp m
    refine ⟨rfl, ?_, fun _ => rfl⟩
    apply Ok.run
    simp_arith [OrdK.z]
theorem mT_wait (m : Mv) : (mT m = tx "wait") = (m = .wait) := by
  cases m <;> simp <;> decide +kernel
theorem g22 (k : Nat) (ms : List Int) (x y : Int) (m : Mv) (hl : ms.length ≤ big) : ∃ z, cF (k + 1) 22 [.tup (ms.map .int), .str (mT m), .int x, .int y] h = .ok (eD (endBy ms (some x) (some y) m)) (h ++ z) := by
  suffices q : Ok (cF (k + 1) 22 [.tup (ms.map .int), .str (mT m), .int x, .int y] h) fun v h' => v = eD (endBy ms (some x) (some y) m) ∧ h <+: h' by
    obtain ⟨v, h', e, rfl, y, rfl⟩ := q.eq
    exact ⟨y, e⟩
  rw [step_]
  refine (wE_run rfl).mpr ?_
  show wS (m22 (cF k) [some _, some _, some _, some _, none, none] h) _ _
  unfold m22
  cases m with
  | take =>
    simp_arith [mT_next, mT_take, reduceCtorEq]
    exact ⟨rfl, ⟨[], by simp⟩⟩
  | out =>
    simp_arith [mT_next, mT_take, mT_wait, reduceCtorEq]
    exact ⟨rfl, ⟨[], by simp⟩⟩
  | wait =>
    simp_arith [mT_next, mT_take, mT_wait, reduceCtorEq]
    exact ⟨rfl, ⟨[], by simp⟩⟩
  | next =>
    simp_arith [mT_next]
    rw [u_lcS_pure (fun d => [some (.tup (ms.map .int)), some (.str (mT .next)), some (.int x), some (.int y), none, some d]) (fun d => match d with | .int m => decide (y ≤ m) | _ => false) (fun d => d) ?_]
    · have e : List.filter (fun d => match d with | D.int m => decide (y ≤ m) | _ => false) (ms.map D.int) = (ms.filter fun m => decide (y ≤ m)).map D.int := by
        rw [List.filter_map]
        rfl
      rw [e, List.map_id']
      refine ⟨by simp; exact Nat.le_trans (List.length_filter_le _ _) hl, ?_⟩
      have e2 : endBy ms (some x) (some y) .next = (ms.filter fun m => decide (y ≤ m))[0]? := rfl
      rw [e2]
      generalize ms.filter (fun m => decide (y ≤ m)) = L
      have p1 : (h ++ [DO.lst (L.map D.int)])[h.length]? = some (DO.lst (L.map D.int)) := app_get
      generalize h1e : h ++ [DO.lst (L.map D.int)] = h1 at p1
      have pr : h <+: h1 := by rw [← h1e]; exact pre_app
      have eqn := eq_lst_nil (neg := true) (m := h1.length) (ns := L) (app_l (x := [DO.lst []]) p1) app_get
      simp_arith [eqn]
      cases L with
      | nil =>
        simp_arith [List.isEmpty_nil]
        exact ⟨rfl, pr.trans pre_app⟩
      | cons a L =>
        have ix := ix_ref (app_l (x := [DO.lst []]) p1) (i := 0) (d := .int a) rfl
        have ix' : ixD (.ref h.length) (.int 0) (h1 ++ [DO.lst []]) = .ok (.int a) (h1 ++ [DO.lst []]) := ix
        simp_arith [List.isEmpty_cons, ix']
        exact ⟨rfl, pr.trans pre_app⟩
    · intro d m
      obtain ⟨i, _, rfl⟩ := List.mem_map.mp m
      refine ⟨rfl, ?_, fun _ => rfl⟩
      apply Ok.run
      simp_arith [OrdK.z, DV.isNon]
end
end K62
namespace K62
open PySem DV L2
local macro_rules | `(tactic| simp_arith [$xs,*]) => `(tactic| simp only [wE_ok, wE_exc, wE_bad, wE_bind, wE_dbind, wE_if, wE_noX, ↓wS_seq, ↓wS_nil, ↓wS_pass, ↓wS_break, ↓wS_cont, ↓wS_expr, ↓wS_ret, ↓wS_retN, ↓wS_if, wG_some, wG_none, setAll, ↓wS_asg, ↓wS_par, ↓wS_set, ↓wS_setN, ↓wS_raise, ↓wS_try, ↓wS_for, wS_nx, wS_rt, forI_items, forS_nil, ↓forS_cons, ↓u_varO, uO_some, ↓u_cst, ↓u_nil, ↓u_cons, ↓u_d2, ↓u_tru, ↓u_bl, ↓u_and, ↓u_or, ↓u_tand, ↓u_tor, ↓u_tnot, ↓u_not, ↓u_neg, ↓u_ite, ↓u_tup, ↓u_lst, ↓u_call, ↓u_callF, ↓u_meth, ↓u_sl, ↓u_pNone, ↓u_pSome, ↓u_rev, ↓u_dic0, ↓u_prs0, ↓u_prs, ↓u_dic, ↓u_dicN, ↓u_lr2, ↓u_iVal, ↓u_iEn, ↓u_iRng1, ↓u_iRng2, u_yes, ↓u_lc, aName_run, List.set_cons_zero, List.set_cons_succ, List.getElem?_cons_zero, List.getElem?_cons_succ, List.append_nil, List.length_cons, List.length_nil, truD_bl, truD_non, truD_int, truD_tup, blD_bl, pInt, eqB_int, eqB_str, reduceIte, Nat.reduceAdd, Nat.zero_add, Nat.reduceLeDiff, true_and, and_true, Bool.not_true, Bool.not_false, Bool.false_eq_true, Bool.true_eq_false, decide_true, decide_false, isi_non_int, isi_non_bool, isi_non_str, isi_non_tuple, isi_non_list, isi_bl_int, isi_bl_bool, isi_bl_str, isi_bl_tuple, isi_bl_list, isi_int_int, isi_int_bool, isi_int_str, isi_int_tuple, isi_int_list, isi_str_int, isi_str_bool, isi_str_str, isi_str_tuple, isi_str_list, isi_tup_int, isi_tup_bool, isi_tup_str, isi_tup_tuple, isi_tup_list, isi_frz_int, isi_frz_bool, isi_frz_str, isi_frz_tuple, isi_frz_list, len_tup, len_frz, ix0, ix1, ix2, ix3, ix4, ix5, neg_int, add_int, sub_int, add_tup, is_non, in_cdt, in_chr, ord_int, mod_int, fdiv_int, int_int, DV.sl_tup, itV_tup, itV_frz, list_tup, lit_big, Int.cast_ofNat_Int, enK_tup, aPair, cast_succ0, $xs,*])
local macro_rules | `(tactic| simp_arith! [$xs,*]) => `(tactic| simp only [wE_ok, wE_exc, wE_bad, wE_bind, wE_dbind, wE_if, wE_noX, ↓wS_seq, ↓wS_nil, ↓wS_pass, ↓wS_break, ↓wS_cont, ↓wS_expr, ↓wS_ret, ↓wS_retN, wG_some, wG_none, setAll, ↓wS_asg, ↓wS_par, ↓wS_set, ↓wS_setN, ↓wS_raise, ↓wS_try, wS_nx, wS_rt, forI_items, forS_nil, ↓u_varO, uO_some, ↓u_cst, ↓u_nil, ↓u_cons, ↓u_d2, ↓u_tru, ↓u_bl, ↓u_and, ↓u_or, ↓u_tand, ↓u_tor, ↓u_tnot, ↓u_not, ↓u_neg, ↓u_ite, ↓u_tup, ↓u_lst, ↓u_call, ↓u_callF, ↓u_meth, ↓u_sl, ↓u_pNone, ↓u_pSome, ↓u_rev, ↓u_dic0, ↓u_prs0, ↓u_prs, ↓u_dic, ↓u_dicN, ↓u_lr2, ↓u_iVal, ↓u_iEn, ↓u_iRng1, ↓u_iRng2, u_yes, ↓u_lc, aName_run, List.set_cons_zero, List.set_cons_succ, List.getElem?_cons_zero, List.getElem?_cons_succ, List.append_nil, List.length_cons, List.length_nil, truD_bl, truD_non, truD_int, truD_tup, blD_bl, pInt, eqB_int, eqB_str, reduceIte, Nat.reduceAdd, Nat.zero_add, Nat.reduceLeDiff, true_and, and_true, Bool.not_true, Bool.not_false, Bool.false_eq_true, Bool.true_eq_false, decide_true, decide_false, isi_non_int, isi_non_bool, isi_non_str, isi_non_tuple, isi_non_list, isi_bl_int, isi_bl_bool, isi_bl_str, isi_bl_tuple, isi_bl_list, isi_int_int, isi_int_bool, isi_int_str, isi_int_tuple, isi_int_list, isi_str_int, isi_str_bool, isi_str_str, isi_str_tuple, isi_str_list, isi_tup_int, isi_tup_bool, isi_tup_str, isi_tup_tuple, isi_tup_list, isi_frz_int, isi_frz_bool, isi_frz_str, isi_frz_tuple, isi_frz_list, len_tup, len_frz, ix0, ix1, ix2, ix3, ix4, ix5, neg_int, add_int, sub_int, add_tup, is_non, in_cdt, in_chr, ord_int, mod_int, fdiv_int, int_int, DV.sl_tup, itV_tup, itV_frz, list_tup, lit_big, Int.cast_ofNat_Int, enK_tup, aPair, cast_succ0, $xs,*])
/-- at one phase with one end -/
def Eqs (s t : State) : Prop := s.ph = t.ph ∧ s.end_ = t.end_
theorem step_eqs {r : Rule} {s t : State} {y : End} (e : Eqs s t) : Eqs (step r s y) (step r t y) := by
  obtain ⟨e1, e2⟩ := e
  unfold step
  rw [e1, e2]
  split
  · exact ⟨e1, e2⟩
  · split
    · split <;> exact ⟨rfl, rfl⟩
    · exact ⟨e1, e2⟩
section
variable {h : DH}
def caseI : Case → Int
  | .near => 0
  | .at_ => 1
  | .far => 2
theorem ix_case {p : Ph} {c : Case} : ixD (phD p) (.int (caseI c)) h = .ok (pD (p.by_ c)) h := by
  cases c <;> rfl
theorem g23 (k : Nat) (r : Rule) (s : State) (y : Int) (up : r.marks.Pairwise (· < ·)) (hl : r.marks.length ≤ big) (hs : s.ph < r.phs.length) : Ok (cF (k + 2) 23 [ruleD r, stD s, .int y] h) fun v h' => (∃ s', v = stD s' ∧ Eqs s' (step r s (some y))) ∧ h <+: h' := by
  have a3 : ∀ (a0 a1 a2 : D) (env : DV.Env) (i j l : Nat), aTup 3 (aCons (aName i) (aCons (aName j) (aCons (aName l) aNil))) (.tup [a0, a1, a2]) env = some (((env.set i (some a0)).set j (some a1)).set l (some a2)) := fun _ _ _ _ _ _ _ => rfl
  have a2 : ∀ (a0 a1 : D) (env : DV.Env) (i j : Nat), aTup 2 (aCons (aName i) (aCons (aName j) aNil)) (.tup [a0, a1]) env = some ((env.set i (some a0)).set j (some a1)) := fun _ _ _ _ _ => rfl
  rw [step_]
  refine (wE_run rfl).mpr ?_
  show wS (m23 (cF (k + 1)) [some _, some _, some _, none, none, none, none, none, none] h) _ _
  unfold m23
  cases hx : s.end_ with
  | none =>
    have es : stD s = .tup [.int (s.ph : Nat), .non, eD s.last] := by unfold stD; rw [hx]; rfl
    have c2 : step r s (some y) = s := by unfold step; rw [hx]
    rw [es, c2]
    simp_arith [a3, DV.isNon]
    exact ⟨⟨⟨s.ph, none, none⟩, rfl, rfl, hx.symm⟩, List.prefix_rfl⟩
  | some x =>
    have es : stD s = .tup [.int (s.ph : Nat), .int x, eD s.last] := by unfold stD; rw [hx]; rfl
    rw [es]
    by_cases q : y ≤ x
    · have ab : above (some y) (some x) = false := by simp [above]; omega
      have c2 : step r s (some y) = s := by unfold step; rw [hx]; simp only [ab]; rfl
      rw [c2]
      simp_arith [a3, DV.isNon, OrdK.z, q]
      exact ⟨⟨⟨s.ph, some x, some x⟩, rfl, rfl, hx.symm⟩, List.prefix_rfl⟩
    · have ab : above (some y) (some x) = true := by simp [above]; omega
      have hp : r.phs[s.ph]? = some r.phs[s.ph] := List.getElem?_eq_getElem hs
      generalize r.phs[s.ph] = p at hp
      have c2 : step r s (some y) = ⟨(p.by_ (caseOf r.marks x (some y))).2, endBy r.marks (some x) (some y) (p.by_ (caseOf r.marks x (some y))).1, if above (some y) (endBy r.marks (some x) (some y) (p.by_ (caseOf r.marks x (some y))).1) = true then some y else endBy r.marks (some x) (some y) (p.by_ (caseOf r.marks x (some y))).1⟩ := by
        unfold step
        rw [hx]
        simp only [ab, hp, if_true]
      rw [c2]
      obtain ⟨z1, e1⟩ := g21 k r.marks x y up hl (h := h)
      have ixp := ix_at (h := h ++ z1) (ds := r.phs.map phD) (i := s.ph) (d := phD p) (by rw [List.getElem?_map, hp]; rfl)
      have ixp0 := ix_at (h := h) (ds := r.phs.map phD) (i := s.ph) (d := phD p) (by rw [List.getElem?_map, hp]; rfl)
      have ci : caseN r.marks x y = caseI (caseOf r.marks x (some y)) := by
        unfold caseN
        cases caseOf r.marks x (some y) <;> rfl
      rw [ci] at e1
      generalize hc : caseOf r.marks x (some y) = c at *
      generalize hm : p.by_ c = mv at *
      obtain ⟨z2, e2⟩ := g22 k r.marks x y mv.1 hl (h := h ++ z1)
      generalize hf : endBy r.marks (some x) (some y) mv.1 = f at *
      have ixc : ixD (phD p) (.int (caseI c)) (h ++ z1) = .ok (pD mv) (h ++ z1) := by rw [ix_case, hm]
      have k1 := g20 k f (h := h ++ z1 ++ z2)
      have k2 := g20 k (some y) (h := h ++ z1 ++ z2)
      have ed : eD (some y) = .int y := rfl
      rw [ed] at k2
      have lk := lt_key (a := f) (b := some y) (h := h ++ z1 ++ z2)
      have lq : less f (some y) = above (some y) f := rfl
      rw [lq] at lk
      simp_arith [a3, a2, DV.isNon, OrdK.z, q, ruleD, ixp, ixp0, e1, ixc, pD, e2, k1, k2, lk]
      cases above (some y) f with
      | true =>
        simp_arith [List.append_assoc]
        exact ⟨⟨⟨mv.2, f, some y⟩, rfl, rfl, rfl⟩, pre_app⟩
      | false =>
        simp_arith [List.append_assoc]
        exact ⟨⟨⟨mv.2, f, f⟩, rfl, rfl, rfl⟩, pre_app⟩
/-- a list of states as the law runs them -/
def Sts (r : Rule) (lo : Int) (ys : Row) (ss : List State) : Prop := ss.length = ys.length + 1 ∧ ∀ i, i ≤ ys.length → ∃ s, ss[i]? = some s ∧ Eqs s (run r lo (ys.take i))
theorem run_ph {r : Rule} {lo : Int} (ok : r.Ok) : ∀ (ys : Row), (run r lo ys).ph < r.phs.length := by
  suffices ∀ (n : Nat) (ys : Row), ys.length = n → (run r lo ys).ph < r.phs.length from fun ys => this _ ys rfl
  intro n
  induction n with
  | zero =>
    intro ys e
    cases List.length_eq_zero_iff.mp e
    exact List.length_pos_iff.mpr ok.ne
  | succ n ih =>
    intro ys e
    have ne : ys ≠ [] := by rintro rfl; cases e
    have es := List.dropLast_concat_getLast ne
    generalize ys.dropLast = zs at es
    generalize ys.getLast ne = z at es
    subst es
    rw [List.length_append] at e
    have ih := ih zs (by simpa using e)
    rw [run_snoc]
    generalize run r lo zs = s at ih
    unfold step
    split
    · exact ih
    · split
      · split
        · exact ih
        · rename_i x _ _ _ p hp
          obtain ⟨a, b, c⟩ := ok.nx p (List.mem_of_getElem? hp)
          cases caseOf r.marks x (some z) <;> assumption
      · exact ih
theorem g24 (k : Nat) (r : Rule) (lo : Int) (ys : Row) (ok : r.Ok) (hl : r.marks.length ≤ big) (yl : ys.length ≤ 1000000) : Ok (cF (k + 3) 24 [ruleD r, rowD (lo :: ys)] h) fun v h' => ∃ ss : List State, v = .ref h.length ∧ h'[h.length]? = some (.lst (ss.map stD)) ∧ Sts r lo ys ss ∧ h <+: h' := by
  have bg : big = 16777216 := rfl
  rw [step_]
  refine (wE_run rfl).mpr ?_
  show wS (m24 (cF (k + 2)) [some _, some _, none, none] h) _ _
  unfold m24
  have sl : ∀ h, slD (.tup (.int lo :: ys.map .int)) (some 1) none h = .ok (.tup (ys.map .int)) h := fun h => by
    have e := cut_n (D.int lo :: ys.map .int) 1
    have e : cut (D.int lo :: ys.map .int) (some 1) none = ys.map .int := e
    rw [DV.sl_tup, e]
  rw [show rowD (lo :: ys) = .tup (.int lo :: ys.map .int) from rfl]
  simp_arith! [sl]
  rw [wS_for]
  simp_arith! [sl]
  refine wS_forS (fun i env h' => ∃ (ss : List State) (x3 : Option D), env = [some (ruleD r), some (.tup (.int lo :: ys.map .int)), some (.ref h.length), x3] ∧ h'[h.length]? = some (.lst (ss.map stD)) ∧ ss.length = i + 1 ∧ (∀ j, j ≤ i → ∃ s, ss[j]? = some s ∧ Eqs s (run r lo (ys.take j))) ∧ h <+: h') ?_ ?_ ?_
  · refine ⟨[st0 lo], none, rfl, ?_, rfl, ?_, pre_app⟩
    · simp; rfl
    · intro j hj
      cases Nat.le_zero.mp hj
      exact ⟨_, rfl, rfl, rfl⟩
  · rintro i d env h' hd ⟨ss, x3, rfl, hn, sl, all, p⟩
    rw [List.getElem?_map] at hd
    obtain ⟨y, hy, rfl⟩ := Option.map_eq_some_iff.mp hd
    have il := (List.getElem?_eq_some_iff.mp hy).1
    refine ⟨_, rfl, ?_⟩
    obtain ⟨s, hs, es⟩ := all i (Nat.le_refl _)
    have lst : (ss.map stD).getLast? = some (stD s) := by
      rw [List.getLast?_eq_getElem?, List.length_map, sl, Nat.add_sub_cancel, List.getElem?_map, hs]
      rfl
    have ix := ixL_ref hn lst
    simp_arith! [ix]
    refine ⟨tyD_lst hn, ?_⟩
    refine wE_of (g23 k r s y ok.up hl (by rw [es.1]; exact run_ph ok _)) ?_
    rintro v h2 ⟨⟨s', rfl, es'⟩, p2⟩
    have hn2 := pre_get p2 hn
    have ap := append_ref (d := stD s') hn2 (by rw [List.length_map]; omega)
    simp_arith! [ap]
    refine ⟨ss ++ [s'], _, rfl, ?_, by simp [sl], ?_, pre_set (p.trans p2) (Nat.le_refl _)⟩
    · rw [get_set (by rw [hn2]; rfl), List.map_append]
      rfl
    · intro j hj
      by_cases ji : j ≤ i
      · obtain ⟨t, ht, et⟩ := all j ji
        exact ⟨t, by rw [List.getElem?_append_left (by omega)]; exact ht, et⟩
      · have : j = i + 1 := by omega
        subst this
        refine ⟨s', by rw [List.getElem?_append_right (by omega)]; simp [sl], ?_⟩
        rw [List.take_add_one, hy]
        show Eqs s' (run r lo (ys.take i ++ [y]))
        rw [run_snoc]
        have := step_eqs (r := r) (y := some y) es
        exact ⟨es'.1.trans this.1, es'.2.trans this.2⟩
  · rintro env h' ⟨ss, x3, rfl, hn, sl, all, p⟩
    rw [List.length_map] at sl all
    simp_arith! []
    exact ⟨ss, hn, ⟨sl, all⟩, p⟩
/-- the ends on the way -/
def wayE (r : Rule) (lo : Int) (ys : Row) : List End := (List.range (ys.length + 1)).map fun i => (run r lo (ys.take i)).end_
theorem sts_way {r : Rule} {lo : Int} {ys : Row} {ss : List State} (s : Sts r lo ys ss) : ss.map (·.end_) = wayE r lo ys := by
  apply List.ext_getElem?
  intro i
  unfold wayE
  rw [List.getElem?_map, List.getElem?_map]
  by_cases l : i < ys.length + 1
  · obtain ⟨t, ht, et⟩ := s.2 i (by omega)
    rw [ht, List.getElem?_range l]
    simp [et.2]
  · rw [List.getElem?_eq_none_iff.mpr (by rw [s.1]; omega), List.getElem?_eq_none_iff.mpr (by simp; omega)]
    rfl
theorem g25 (k : Nat) (r : Rule) (lo : Int) (ys : Row) (ok : r.Ok) (hl : r.marks.length ≤ big) (yl : ys.length ≤ 50000) : Ok (cF (k + 4) 25 [ruleD r, rowD (lo :: ys)] h) fun v h' => v = .tup ((wayE r lo ys).map eD) ∧ h <+: h' := by
  have bg : big = 16777216 := rfl
  rw [step_]
  refine (wE_run rfl).mpr ?_
  show wS (m25 (cF (k + 3)) [some _, some _, none] h) _ _
  unfold m25
  simp_arith []
  refine wE_of (g24 k r lo ys ok hl (by omega)) ?_
  rintro v h1 ⟨ss, rfl, hn, st, p⟩
  simp_arith [itV_ref hn]
  rw [u_lcR_pure (fun d => [some (ruleD r), some (rowD (lo :: ys)), some d]) (fun _ => true) (fun d => match d with | .tup [_, e, _] => e | _ => .non) hn (by rw [List.length_map, st.1]; omega) ?_]
  · have e : List.map (fun d => match d with | D.tup [_, e, _] => e | _ => .non) (List.filter (fun _ => true) (ss.map stD)) = (wayE r lo ys).map eD := by
      rw [List.filter_eq_self.mpr (by simp), ← sts_way st, List.map_map, List.map_map]
      rfl
    rw [e]
    refine ⟨by rw [List.length_map]; unfold wayE; simp; omega, ?_⟩
    simp_arith [tuple_ref app_get]
    exact p.trans pre_app
  · intro d m
    obtain ⟨s, _, rfl⟩ := List.mem_map.mp m
    refine ⟨rfl, rfl, fun _ => ?_⟩
    apply Ok.run
    simp_arith [stD]
theorem g33 (k : Nat) (s t : State) : cF (k + 2) 33 [.tup [stD s, stD t]] h = .ok (.bl (aboveJ (s, t))) h := by
  have k1 := g20 k s.end_ (h := h)
  have k2 := g20 k t.end_ (h := h)
  have lk := gt_key (a := s.end_) (b := t.end_) (h := h)
  rw [step_]
  apply Ok.run
  show Ok (runB 1 N33.length (m33 (cF (k + 1))) [.tup [stD s, stD t]] h) _
  refine (wE_run (n := 1) (as := [.tup [stD s, stD t]]) rfl).mpr ?_
  show wS (m33 (cF (k + 1)) [some _] h) _ _
  unfold m33
  simp_arith [stD, k1, k2, lk]
  rfl
end
end K62
namespace K62
open PySem DV L2
local macro_rules | `(tactic| simp_arith [$xs,*]) => `(tactic| simp only [wE_ok, wE_exc, wE_bad, wE_bind, wE_dbind, wE_if, wE_noX, ↓wS_seq, ↓wS_nil, ↓wS_pass, ↓wS_break, ↓wS_cont, ↓wS_expr, ↓wS_ret, ↓wS_retN, ↓wS_if, wG_some, wG_none, setAll, ↓wS_asg, ↓wS_par, ↓wS_set, ↓wS_setN, ↓wS_raise, ↓wS_try, ↓wS_for, wS_nx, wS_rt, forI_items, forS_nil, ↓forS_cons, ↓u_varO, uO_some, ↓u_cst, ↓u_nil, ↓u_cons, ↓u_d2, ↓u_tru, ↓u_bl, ↓u_and, ↓u_or, ↓u_tand, ↓u_tor, ↓u_tnot, ↓u_not, ↓u_neg, ↓u_ite, ↓u_tup, ↓u_lst, ↓u_call, ↓u_callF, ↓u_meth, ↓u_sl, ↓u_pNone, ↓u_pSome, ↓u_rev, ↓u_dic0, ↓u_prs0, ↓u_prs, ↓u_dic, ↓u_dicN, ↓u_lr2, ↓u_iVal, ↓u_iEn, ↓u_iRng1, ↓u_iRng2, u_yes, ↓u_lc, aName_run, List.set_cons_zero, List.set_cons_succ, List.getElem?_cons_zero, List.getElem?_cons_succ, List.append_nil, List.length_cons, List.length_nil, truD_bl, truD_non, truD_int, truD_tup, blD_bl, pInt, eqB_int, eqB_str, reduceIte, Nat.reduceAdd, Nat.zero_add, Nat.reduceLeDiff, true_and, and_true, Bool.not_true, Bool.not_false, Bool.false_eq_true, Bool.true_eq_false, decide_true, decide_false, isi_non_int, isi_non_bool, isi_non_str, isi_non_tuple, isi_non_list, isi_bl_int, isi_bl_bool, isi_bl_str, isi_bl_tuple, isi_bl_list, isi_int_int, isi_int_bool, isi_int_str, isi_int_tuple, isi_int_list, isi_str_int, isi_str_bool, isi_str_str, isi_str_tuple, isi_str_list, isi_tup_int, isi_tup_bool, isi_tup_str, isi_tup_tuple, isi_tup_list, isi_frz_int, isi_frz_bool, isi_frz_str, isi_frz_tuple, isi_frz_list, len_tup, len_frz, ix0, ix1, ix2, ix3, ix4, ix5, neg_int, add_int, sub_int, add_tup, is_non, in_cdt, in_chr, ord_int, mod_int, fdiv_int, int_int, DV.sl_tup, itV_tup, itV_frz, list_tup, lit_big, Int.cast_ofNat_Int, enK_tup, aPair, cast_succ0, $xs,*])
local macro_rules | `(tactic| simp_arith! [$xs,*]) => `(tactic| simp only [wE_ok, wE_exc, wE_bad, wE_bind, wE_dbind, wE_if, wE_noX, ↓wS_seq, ↓wS_nil, ↓wS_pass, ↓wS_break, ↓wS_cont, ↓wS_expr, ↓wS_ret, ↓wS_retN, wG_some, wG_none, setAll, ↓wS_asg, ↓wS_par, ↓wS_set, ↓wS_setN, ↓wS_raise, ↓wS_try, wS_nx, wS_rt, forI_items, forS_nil, ↓u_varO, uO_some, ↓u_cst, ↓u_nil, ↓u_cons, ↓u_d2, ↓u_tru, ↓u_bl, ↓u_and, ↓u_or, ↓u_tand, ↓u_tor, ↓u_tnot, ↓u_not, ↓u_neg, ↓u_ite, ↓u_tup, ↓u_lst, ↓u_call, ↓u_callF, ↓u_meth, ↓u_sl, ↓u_pNone, ↓u_pSome, ↓u_rev, ↓u_dic0, ↓u_prs0, ↓u_prs, ↓u_dic, ↓u_dicN, ↓u_lr2, ↓u_iVal, ↓u_iEn, ↓u_iRng1, ↓u_iRng2, u_yes, ↓u_lc, aName_run, List.set_cons_zero, List.set_cons_succ, List.getElem?_cons_zero, List.getElem?_cons_succ, List.append_nil, List.length_cons, List.length_nil, truD_bl, truD_non, truD_int, truD_tup, blD_bl, pInt, eqB_int, eqB_str, reduceIte, Nat.reduceAdd, Nat.zero_add, Nat.reduceLeDiff, true_and, and_true, Bool.not_true, Bool.not_false, Bool.false_eq_true, Bool.true_eq_false, decide_true, decide_false, isi_non_int, isi_non_bool, isi_non_str, isi_non_tuple, isi_non_list, isi_bl_int, isi_bl_bool, isi_bl_str, isi_bl_tuple, isi_bl_list, isi_int_int, isi_int_bool, isi_int_str, isi_int_tuple, isi_int_list, isi_str_int, isi_str_bool, isi_str_str, isi_str_tuple, isi_str_list, isi_tup_int, isi_tup_bool, isi_tup_str, isi_tup_tuple, isi_tup_list, isi_frz_int, isi_frz_bool, isi_frz_str, isi_frz_tuple, isi_frz_list, len_tup, len_frz, ix0, ix1, ix2, ix3, ix4, ix5, neg_int, add_int, sub_int, add_tup, is_non, in_cdt, in_chr, ord_int, mod_int, fdiv_int, int_int, DV.sl_tup, itV_tup, itV_frz, list_tup, lit_big, Int.cast_ofNat_Int, enK_tup, aPair, cast_succ0, $xs,*])
theorem Asc.le {lo top z : Int} {ys : Row} (a : Asc lo top ys z) (l : lo ≤ top) : z ≤ top := by
  cases a with
  | nil => exact l
  | snoc _ _ h => exact h
theorem Asc.last {lo top z : Int} {ys : Row} (a : Asc lo top ys z) : (lo :: ys).getLast? = some z := by
  cases a with
  | nil => rfl
  | snoc _ _ _ => rw [← List.cons_append, List.getLast?_concat]
/-- rows that the law lays -/
def RowsP (lo top : Int) (t : Nat) (L : List D) : Prop := ∀ d ∈ L, ∃ ys z, d = rowD (lo :: ys) ∧ Asc lo top ys z ∧ ys.length ≤ t
theorem RowsP.up {lo top : Int} {t u : Nat} {L : List D} (a : RowsP lo top t L) (l : t ≤ u) : RowsP lo top u L := fun d m => by
  obtain ⟨ys, z, h1, h2, h3⟩ := a d m
  exact ⟨ys, z, h1, h2, Nat.le_trans h3 l⟩
theorem RowsP.app {lo top : Int} {t : Nat} {L M : List D} (a : RowsP lo top t L) (b : RowsP lo top t M) : RowsP lo top t (L ++ M) := fun d m => (List.mem_append.mp m).elim (a d) (b d)
theorem rng_ups {a : Int} {n : Nat} : rngI a n = (ups a n).map .int := by
  unfold rngI ups
  rw [List.map_map]
  rfl
section
variable {h : DH} {lo top : Int}
def O34 (lo top : Int) (h : DH) (t : Nat) (env : DV.Env) (h' : DH) : Prop := ∃ (n4 : Nat) (LF LL : List D) (x5 x6 x7 x8 : Option D), env = [some (.int lo), some (.int top), some (.int 5), some (.ref h.length), some (.ref n4), x5, x6, x7, x8] ∧ h <+: h' ∧ h.length < n4 ∧ h'[h.length]? = some (.lst LF) ∧ h'[n4]? = some (.lst LL) ∧ RowsP lo top t LF ∧ RowsP lo top t LL ∧ LF.length ≤ 1 + 3125 * t ∧ LL.length ≤ 5 ^ t
def P34 (lo top : Int) (h : DH) (n4 n6 : Nat) (LF LL : List D) (t : Nat) (x5 : Option D) (i : Nat) (env : DV.Env) (h' : DH) : Prop := ∃ (LT : List D) (x7 x8 : Option D), env = [some (.int lo), some (.int top), some (.int 5), some (.ref h.length), some (.ref n4), x5, some (.ref n6), x7, x8] ∧ h <+: h' ∧ h'[h.length]? = some (.lst LF) ∧ h'[n4]? = some (.lst LL) ∧ h'[n6]? = some (.lst LT) ∧ RowsP lo top (t + 1) LT ∧ LT.length ≤ 5 * i
theorem g34 (k : Nat) (s0 : lo ≤ top) (s1 : top ≤ lo + 4) (s2 : -500 ≤ lo ∧ lo ≤ 500) : Ok (cF (k + 1) 34 [.int lo, .int top, .int 5] h) fun v h' => ∃ L, v = .ref h.length ∧ h'[h.length]? = some (.lst L) ∧ RowsP lo top 4 L ∧ L.length ≤ 50000 ∧ h <+: h' := by
  have bg : big = 16777216 := rfl
  rw [step_]
  refine (wE_run rfl).mpr ?_
  show wS (m34 (cF k) [some _, some _, some _, none, none, none, none, none, none] h) _ _
  unfold m34
  simp_arith! []
  rw [wS_for]
  simp_arith! []
  have r4 : rngI 0 4 = [.int 0, .int 1, .int 2, .int 3] := rfl
  have one : RowsP lo top 0 [.tup [.int lo]] := fun d m => by
    rw [List.mem_singleton.mp m]
    exact ⟨[], lo, rfl, .nil, Nat.le_refl _⟩
  refine ⟨4, rfl, by decide, ?_⟩
  refine wS_forS (O34 lo top h) ?_ ?_ ?_
  · refine ⟨h.length + 1, [.tup [.int lo]], [.tup [.int lo]], none, none, none, none, by simp, ?_, by omega, ?_, ?_, one, one, by simp, by simp⟩
    · rw [List.append_assoc]; exact pre_app
    · exact app_get2
    · rw [List.getElem?_append_right (by simp)]
      simp
  · rintro t d env h' hd ⟨n4, LF, LL, x5, x6, x7, x8, rfl, p, l4, hf, hl, pf, pl, cf, cl⟩
    have t4 : t < 4 := by
      have := (List.getElem?_eq_some_iff.mp hd).1
      have e : (rngI 0 (4 : Int).toNat).length = 4 := rfl
      omega
    refine ⟨_, rfl, ?_⟩
    simp_arith! []
    have n4l := (List.getElem?_eq_some_iff.mp hl).1
    have l5 : LL.length ≤ 125 := by
      have : 5 ^ t ≤ 5 ^ 3 := Nat.pow_le_pow_right (by decide) (by omega)
      have e : 5 ^ 3 = 125 := rfl
      omega
    rw [wS_for]
    simp_arith! [itV_ref (app_l (x := [DO.lst []]) hl)]
    refine wS_cut (fun env h2 => ∃ i, i ≤ LL.length ∧ P34 lo top h n4 h'.length LF LL t (some d) i env h2) ?_ ?_
    · refine wS_forR (fun i env h2 => P34 lo top h n4 h'.length LF LL t (some d) i env h2) (by omega) ?_ ?_ ?_ ?_ (ds := LL)
      · exact ⟨[], _, _, rfl, p.trans pre_app, app_l hf, app_l hl, app_get, (fun d m => by cases m), by simp⟩
      · rintro i env h2 ⟨LT, x7, x8, _, _, _, q, _⟩
        exact q
      · rintro i d' env h2 hd' ⟨LT, x7, x8, rfl, p2, hf2, hl2, ht2, pt, ct⟩
        obtain ⟨ys, z, rfl, asc, yl⟩ := pl d' (List.mem_of_getElem? hd')
        have il := (List.getElem?_eq_some_iff.mp hd').1
        refine ⟨_, rfl, ?_⟩
        have zl := asc.le s0
        have zg := asc.ge
        have ixz : ixD (rowD (lo :: ys)) (.int (-1)) h2 = .ok (.int z) h2 := by
          unfold rowD
          refine ixL_tup ?_
          rw [List.getLast?_map, asc.last]
          rfl
        have sm : ∀ i : Int, -2000 ≤ i → i ≤ 2000 → sm62 i = true := by
          intro i h1 h2
          simp only [sm62, Bool.and_eq_true, decide_eq_true_eq]
          omega
        simp_arith! [ixz]
        refine ⟨tyD_lst ht2, z, top + 1, rfl, sm _ (by omega) (by omega), sm _ (by omega) (by omega), ?_⟩
        rw [rng_ups]
        rw [u_lcS_pure (fun y => [some (.int lo), some (.int top), some (.int 5), some (.ref h.length), some (.ref n4), some d, some (.ref h'.length), some (rowD (lo :: ys)), some y]) (fun _ => true) (fun d => match d with | .int y => rowD (lo :: (ys ++ [y])) | _ => .non) ?_]
        · have e : List.map (fun d => match d with | .int y => rowD (lo :: (ys ++ [y])) | _ => .non) (List.filter (fun _ => true) ((ups z (top + 1 - z).toNat).map D.int)) = (ups z (top + 1 - z).toNat).map fun y => rowD (lo :: (ys ++ [y])) := by
            rw [List.filter_eq_self.mpr (by simp), List.map_map]
            rfl
          rw [e]
          have ul : ((ups z (top + 1 - z).toNat).map fun y => rowD (lo :: (ys ++ [y]))).length ≤ 5 := by
            rw [List.length_map, ups_len]
            omega
          have ur : RowsP lo top (t + 1) ((ups z (top + 1 - z).toNat).map fun y => rowD (lo :: (ys ++ [y]))) := by
            intro d m
            obtain ⟨y, my, rfl⟩ := List.mem_map.mp m
            have := mem_ups.mp my
            exact ⟨_, _, rfl, asc.snoc (by omega) (by omega), by rw [List.length_append]; simp; omega⟩
          generalize (ups z (top + 1 - z).toNat).map (fun y => rowD (lo :: (ys ++ [y]))) = U at ul ur
          refine ⟨by omega, ?_⟩
          have ex := extend_ref (app_l (x := [DO.lst U]) ht2) (app_get (h := h2) (ds := U)) (by omega)
          simp_arith! [ex]
          have hl' : h.length ≤ h'.length := p.length_le
          refine ⟨LT ++ U, _, _, rfl, pre_set (p2.trans pre_app) hl', ?_, ?_, get_set (by rw [app_l ht2]; rfl), pt.app ur, by rw [List.length_append]; omega⟩
          · rw [List.getElem?_set_ne (by omega)]
            exact app_l hf2
          · rw [List.getElem?_set_ne (by omega)]
            exact app_l hl2
        · intro d'' m
          obtain ⟨y, my, rfl⟩ := List.mem_map.mp m
          refine ⟨rfl, rfl, fun _ => ?_⟩
          apply Ok.run
          have bl : (List.map D.int (lo :: ys)).length + 1 ≤ big := by rw [List.length_map, List.length_cons]; omega
          simp_arith [rowD, bl]
          simp
      · rintro env h2 q
        exact ⟨LL.length, Nat.le_refl _, q⟩
    · rintro env h2 ⟨i, il, LT, x7, x8, rfl, p2, hf2, hl2, ht2, pt, ct⟩
      have lf : listF2 [.ref h'.length] h2 = .ok (.ref h2.length) (h2 ++ [.lst LT]) := by
        simp only [listF2, listF, ht2]
        rfl
      have ht3 := app_l (x := [DO.lst LT]) ht2
      have hf3 := app_l (x := [DO.lst LT]) hf2
      have ex := extend_ref hf3 ht3 (by omega)
      show wS _ _ ⟨⟩
      have hl' : h.length ≤ h'.length := p.length_le
      have h2l := (List.getElem?_eq_some_iff.mp ht2).1
      simp_arith! [lf, ex, tyD_lst hf3]
      refine ⟨h2.length, LF ++ LT, LT, _, _, _, _, rfl, pre_set (p2.trans pre_app) (Nat.le_refl _), by omega, get_set (by rw [hf3]; rfl), ?_, (pf.up (Nat.le_succ _)).app pt, pt, by rw [List.length_append]; omega, ?_⟩
      · rw [List.getElem?_set_ne (by omega)]
        exact app_get
      · rw [Nat.pow_succ]
        have := Nat.mul_le_mul_right 5 cl
        omega
  · rintro env h' ⟨n4, LF, LL, x5, x6, x7, x8, rfl, p, l4, hf, hl, pf, pl, cf, cl⟩
    have e : (rngI 0 (4 : Int).toNat).length = 4 := rfl
    rw [e] at pf cf
    simp_arith! []
    exact ⟨LF, hf, pf, by omega, p⟩
theorem g35 (k : Nat) (src : Src h) : Ok (cF (k + 2) 35 [.ref 2, .int 3] h) fun v h' => (∃ lo top, v = spanD lo top ∧ lo ≤ top ∧ top ≤ lo + 3 ∧ -1 ≤ lo ∧ lo ≤ 2) ∧ Src h' ∧ Kp h h' := by
  rw [step_]
  refine (wE_run rfl).mpr ?_
  show wS (m35 (cF (k + 1)) [some _, some _, none] h) _ _
  unfold m35
  simp_arith! []
  refine wE_of (g18 k src (by decide) (by decide)) ?_
  rintro v h1 ⟨i, rfl, il, s1, k1⟩
  simp_arith! []
  refine wE_of (g18 k s1 (by decide) (by decide)) ?_
  rintro v h2 ⟨j, rfl, jl, s2, k2⟩
  simp_arith! []
  exact ⟨⟨_, _, rfl, by omega, by omega, by omega, by omega⟩, s2, k1.trans k2⟩
end
end K62
namespace K62
open PySem DV L2
local macro_rules | `(tactic| simp_arith [$xs,*]) => `(tactic| simp only [wE_ok, wE_exc, wE_bad, wE_bind, wE_dbind, wE_if, wE_noX, ↓wS_seq, ↓wS_nil, ↓wS_pass, ↓wS_break, ↓wS_cont, ↓wS_expr, ↓wS_ret, ↓wS_retN, ↓wS_if, wG_some, wG_none, setAll, ↓wS_asg, ↓wS_par, ↓wS_set, ↓wS_setN, ↓wS_raise, ↓wS_try, ↓wS_for, wS_nx, wS_rt, forI_items, forS_nil, ↓forS_cons, ↓u_varO, uO_some, ↓u_cst, ↓u_nil, ↓u_cons, ↓u_d2, ↓u_tru, ↓u_bl, ↓u_and, ↓u_or, ↓u_tand, ↓u_tor, ↓u_tnot, ↓u_not, ↓u_neg, ↓u_ite, ↓u_tup, ↓u_lst, ↓u_call, ↓u_callF, ↓u_meth, ↓u_sl, ↓u_pNone, ↓u_pSome, ↓u_rev, ↓u_dic0, ↓u_prs0, ↓u_prs, ↓u_dic, ↓u_dicN, ↓u_lr2, ↓u_iVal, ↓u_iEn, ↓u_iRng1, ↓u_iRng2, u_yes, ↓u_lc, aName_run, List.set_cons_zero, List.set_cons_succ, List.getElem?_cons_zero, List.getElem?_cons_succ, List.append_nil, List.length_cons, List.length_nil, truD_bl, truD_non, truD_int, truD_tup, blD_bl, pInt, eqB_int, eqB_str, reduceIte, Nat.reduceAdd, Nat.zero_add, Nat.reduceLeDiff, true_and, and_true, Bool.not_true, Bool.not_false, Bool.false_eq_true, Bool.true_eq_false, decide_true, decide_false, isi_non_int, isi_non_bool, isi_non_str, isi_non_tuple, isi_non_list, isi_bl_int, isi_bl_bool, isi_bl_str, isi_bl_tuple, isi_bl_list, isi_int_int, isi_int_bool, isi_int_str, isi_int_tuple, isi_int_list, isi_str_int, isi_str_bool, isi_str_str, isi_str_tuple, isi_str_list, isi_tup_int, isi_tup_bool, isi_tup_str, isi_tup_tuple, isi_tup_list, isi_frz_int, isi_frz_bool, isi_frz_str, isi_frz_tuple, isi_frz_list, len_tup, len_frz, ix0, ix1, ix2, ix3, ix4, ix5, neg_int, add_int, sub_int, add_tup, is_non, in_cdt, in_chr, ord_int, mod_int, fdiv_int, int_int, DV.sl_tup, itV_tup, itV_frz, list_tup, lit_big, Int.cast_ofNat_Int, enK_tup, aPair, cast_succ0, $xs,*])
local macro_rules | `(tactic| simp_arith! [$xs,*]) => `(tactic| simp only [wE_ok, wE_exc, wE_bad, wE_bind, wE_dbind, wE_if, wE_noX, ↓wS_seq, ↓wS_nil, ↓wS_pass, ↓wS_break, ↓wS_cont, ↓wS_expr, ↓wS_ret, ↓wS_retN, wG_some, wG_none, setAll, ↓wS_asg, ↓wS_par, ↓wS_set, ↓wS_setN, ↓wS_raise, ↓wS_try, wS_nx, wS_rt, forI_items, forS_nil, ↓u_varO, uO_some, ↓u_cst, ↓u_nil, ↓u_cons, ↓u_d2, ↓u_tru, ↓u_bl, ↓u_and, ↓u_or, ↓u_tand, ↓u_tor, ↓u_tnot, ↓u_not, ↓u_neg, ↓u_ite, ↓u_tup, ↓u_lst, ↓u_call, ↓u_callF, ↓u_meth, ↓u_sl, ↓u_pNone, ↓u_pSome, ↓u_rev, ↓u_dic0, ↓u_prs0, ↓u_prs, ↓u_dic, ↓u_dicN, ↓u_lr2, ↓u_iVal, ↓u_iEn, ↓u_iRng1, ↓u_iRng2, u_yes, ↓u_lc, aName_run, List.set_cons_zero, List.set_cons_succ, List.getElem?_cons_zero, List.getElem?_cons_succ, List.append_nil, List.length_cons, List.length_nil, truD_bl, truD_non, truD_int, truD_tup, blD_bl, pInt, eqB_int, eqB_str, reduceIte, Nat.reduceAdd, Nat.zero_add, Nat.reduceLeDiff, true_and, and_true, Bool.not_true, Bool.not_false, Bool.false_eq_true, Bool.true_eq_false, decide_true, decide_false, isi_non_int, isi_non_bool, isi_non_str, isi_non_tuple, isi_non_list, isi_bl_int, isi_bl_bool, isi_bl_str, isi_bl_tuple, isi_bl_list, isi_int_int, isi_int_bool, isi_int_str, isi_int_tuple, isi_int_list, isi_str_int, isi_str_bool, isi_str_str, isi_str_tuple, isi_str_list, isi_tup_int, isi_tup_bool, isi_tup_str, isi_tup_tuple, isi_tup_list, isi_frz_int, isi_frz_bool, isi_frz_str, isi_frz_tuple, isi_frz_list, len_tup, len_frz, ix0, ix1, ix2, ix3, ix4, ix5, neg_int, add_int, sub_int, add_tup, is_non, in_cdt, in_chr, ord_int, mod_int, fdiv_int, int_int, DV.sl_tup, itV_tup, itV_frz, list_tup, lit_big, Int.cast_ofNat_Int, enK_tup, aPair, cast_succ0, $xs,*])
section
variable {h : DH} {r o : Rule} {lo top : Int}
theorem Asc.up {t z : Int} {ys : Row} (a : Asc lo t ys z) (l : t ≤ top) : Asc lo top ys z := by
  induction a with
  | nil => exact .nil
  | snoc _ h1 h2 ih => exact ih.snoc h1 (by omega)
theorem Sm.flip (s : Sm r o lo top) : Sm o r lo top := ⟨s.ok2, s.ok1, s.m2, s.m1, s.p2, s.p1, s.b2, s.b1, s.l, s.s, s.c⟩
theorem Sm.low {t : Int} (s : Sm r o lo top) (h1 : lo ≤ t) (h2 : t ≤ top) : Sm r o lo t := ⟨s.ok1, s.ok2, s.m1, s.m2, s.p1, s.p2, s.b1, s.b2, h1, by have := s.s; omega, s.c⟩
/-- never above, in plain words -/
def Never (r o : Rule) (lo top : Int) : Prop := ∀ (ys : Row) (z : Int), Asc lo top ys z → aboveJ (jrun r o lo ys) = false
theorem less_both {a b : End} (h1 : less a b = false) (h2 : less b a = false) : a = b := by
  cases a <;> cases b <;> simp [less, above] at h1 h2 ⊢
  omega
theorem never_eq (h1 : Never r o lo top) (h2 : Never o r lo top) {ys : Row} {z : Int} (a : Asc lo top ys z) : (run r lo ys).end_ = (run o lo ys).end_ :=
  less_both (h2 ys z a) (h1 ys z a)
theorem Asc.take {ys : Row} {z : Int} (a : Asc lo top ys z) : ∀ i, ∃ w, Asc lo top (ys.take i) w := by
  induction a with
  | nil => exact fun i => ⟨lo, by rw [List.take_nil]; exact .nil⟩
  | snoc a h1 h2 ih =>
    rename_i ys z y
    intro i
    by_cases l : i ≤ ys.length
    · rw [List.take_append_of_le_length l]
      exact ih i
    · rw [List.take_of_length_le (by rw [List.length_append]; simp; omega)]
      exact ⟨y, a.snoc h1 h2⟩
theorem never_way (h1 : Never r o lo top) (h2 : Never o r lo top) {ys : Row} {z : Int} (a : Asc lo top ys z) : wayE r lo ys = wayE o lo ys := by
  unfold wayE
  refine List.map_congr_left fun i _ => ?_
  obtain ⟨w, aw⟩ := a.take i
  exact never_eq h1 h2 aw
theorem Sts.last {ys : Row} {ss : List State} (s : Sts r lo ys ss) : ∃ t, (ss.map stD).getLast? = some (stD t) ∧ t.end_ = (run r lo ys).end_ := by
  obtain ⟨t, ht, et⟩ := s.2 ys.length (Nat.le_refl _)
  rw [List.take_length] at et
  refine ⟨t, ?_, et.2⟩
  rw [List.getLast?_eq_getElem?, List.length_map, s.1, Nat.add_sub_cancel, List.getElem?_map, ht]
  rfl
theorem g36 (k : Nat) (s : Sm r o lo top) : Ok (cF (k + 9) 36 [ruleD r, ruleD o, spanD lo top] h) fun v h' => v = .bl true ∧ h <+: h' := by
  have bg : big = 16777216 := rfl
  have m1 := s.m1; have m2 := s.m2; have sl := s.l; have ss := s.s; have sc := s.c
  have sm : ∀ i : Int, -2000 ≤ i → i ≤ 2000 → sm62 i = true := by
    intro i h1 h2
    simp only [sm62, Bool.and_eq_true, decide_eq_true_eq]
    omega
  rw [step_]
  refine (wE_run rfl).mpr ?_
  show wS (m36 (cF (k + 8)) [some _, some _, some _, none, none, none, none, none, none, none] h) _ _
  unfold m36
  simp_arith! []
  refine wE_of (g16 k s) ?_
  rintro v h1 ⟨b, rfl, hb, p1⟩
  simp_arith! []
  refine wS_cut (fun env h' => (∃ x4, env = [some (ruleD r), some (ruleD o), some (spanD lo top), some (.bl b), x4, none, none, none, none, none]) ∧ h <+: h') ?_ ?_
  · rw [wS_if]
    simp_arith! []
    cases b with
    | false =>
      simp_arith! []
      exact ⟨⟨_, rfl⟩, p1⟩
    | true =>
      have n1 : Never r o lo top := hb.mp rfl
      simp_arith! []
      refine wE_of (g16 k s.flip) ?_
      rintro v h2 ⟨b, rfl, hb2, p2⟩
      simp_arith! []
      cases b with
      | false =>
        simp_arith! []
        exact ⟨⟨_, rfl⟩, p1.trans p2⟩
      | true =>
        have n2 : Never o r lo top := hb2.mp rfl
        simp_arith! []
        rw [show spanD lo top = .tup [.int lo, .int top] from rfl]
        simp_arith! []
        refine wE_of (g34 (k + 7) sl ss sc) ?_
        rintro v h3 ⟨L, rfl, hL, pL, cL, p3⟩
        simp_arith! []
        rw [wS_if]
        simp_arith! [itV_ref hL]
        refine u_lcR (fun i acc h' => acc = [] ∧ h3 <+: h') (by omega) ⟨rfl, List.prefix_rfl⟩ (ds := L) (fun i acc h' q => pre_get q.2 hL) ?_ ?_
        · rintro i d acc h' hd ⟨rfl, p4⟩
          obtain ⟨ys, z, rfl, asc, yl⟩ := pL d (List.mem_of_getElem? hd)
          refine ⟨[some (ruleD r), some (ruleD o), some (.tup [.int lo, .int top]), some (.bl true), some (.ref h2.length), none, none, none, none, some (rowD (lo :: ys))], rfl, ?_⟩
          simp_arith! []
          refine wE_of (g25 (k + 4) r lo ys s.ok1 (by omega) (by omega)) ?_
          rintro v h5 ⟨rfl, p5⟩
          simp_arith! []
          refine wE_of (g25 (k + 4) o lo ys s.ok2 (by omega) (by omega)) ?_
          rintro v h6 ⟨rfl, p6⟩
          rw [never_way n1 n2 asc]
          simp_arith! [eq_self (neg := true)]
          exact (p4.trans p5).trans p6
        · rintro acc h' ⟨rfl, p4⟩
          refine ⟨by simp, ?_⟩
          have en := eq_ints_nil (neg := true) (ns := []) (n := h'.length) (m := (h' ++ [DO.lst []]).length) (h := h' ++ [DO.lst []] ++ [DO.lst []]) (app_l app_get) app_get
          simp_arith! [en, List.isEmpty_nil]
          exact ⟨⟨_, rfl⟩, (((p1.trans p2).trans p3).trans p4).trans (by rw [List.append_assoc]; exact pre_app)⟩
  · rintro env h2 ⟨⟨x4, rfl⟩, p2⟩
    show wS _ _ ⟨⟩
    simp_arith! []
    refine wE_of (g15 (k + 1) s) ?_
    rintro v h3 ⟨told, rfl, td, tz, p3⟩
    simp_arith! []
    rw [wS_for]
    rw [show spanD lo top = .tup [.int lo, .int top] from rfl]
    simp_arith! []
    refine ⟨lo, top, rfl, sm _ (by omega) (by omega), sm _ (by omega) (by omega), ?_⟩
    rw [rng_ups]
    have pA := p2.trans p3
    refine wS_cut (fun env h' => (∃ x6 x7 x8, env = [some (ruleD r), some (ruleD o), some (.tup [.int lo, .int top]), some (.bl b), x4, some (resD told), x6, x7, x8, none]) ∧ h <+: h') ?_ ?_
    · refine wS_forS (fun i env h' => (∃ x6 x7 x8, env = [some (ruleD r), some (ruleD o), some (.tup [.int lo, .int top]), some (.bl b), x4, some (resD told), x6, x7, x8, none]) ∧ h <+: h') ?_ ?_ ?_
      · exact ⟨⟨_, _, _, rfl⟩, pA⟩
      · rintro i d env h4 hd ⟨⟨x6, x7, x8, rfl⟩, p4⟩
        have md := List.mem_of_getElem? hd
        obtain ⟨t, mt, rfl⟩ := List.mem_map.mp md
        have mt := mem_ups.mp mt
        refine ⟨_, rfl, ?_⟩
        simp_arith! []
        refine wE_of (g15 (k + 1) (s.low (t := t) (by omega) (by omega))) ?_
        rintro v h5 ⟨lessR, rfl, tl, lz, p5⟩
        cases lessR with
        | none =>
          simp_arith! [resD]
          rw [wS_if]
          simp_arith! []
          exact ⟨⟨_, _, _, rfl⟩, p4.trans p5⟩
        | some row =>
          obtain ⟨ys, z, rfl, asc, ab⟩ := tl.yes row rfl
          have asc2 := asc.up (top := top) (by omega)
          have yl : ys.length ≤ 1000000 := by
            have := lz _ rfl
            rw [List.length_cons] at this
            omega
          rw [show resD (some (lo :: ys)) = rowD (lo :: ys) from rfl]
          have nn : DV.isNon (rowD (lo :: ys)) = false := rfl
          simp_arith! []
          rw [wS_if]
          simp_arith! [nn]
          refine wE_of (g24 (k + 5) r lo ys s.ok1 (by omega) yl) ?_
          rintro v h6 ⟨s1, rfl, hs1, st1, p6⟩
          obtain ⟨t1, l1, e1⟩ := st1.last
          simp_arith! [ixL_ref hs1 l1]
          refine wE_of (g24 (k + 5) o lo ys s.ok2 (by omega) yl) ?_
          rintro v h7 ⟨s2, rfl, hs2, st2, p7⟩
          obtain ⟨t2, l2, e2⟩ := st2.last
          simp_arith! [ixL_ref hs2 l2]
          rw [wS_if]
          have ab2 : aboveJ (t1, t2) = true := by
            unfold aboveJ at ab ⊢
            rw [e1, e2]
            exact ab
          have e33 := g33 (k + 6) t1 t2 (h := h7)
          rw [ab2] at e33
          cases told with
          | none =>
            rw [td.no rfl ys z asc2] at ab
            cases ab
          | some row0 =>
            obtain ⟨ys0, z0, rfl, asc0, ab0⟩ := td.yes row0 rfl
            have le := td.least _ rfl ys z asc2 ab
            have d1 : decide (((lo :: ys).length : Int) < ((lo :: ys0).length : Nat)) = false := decide_eq_false (by simp only [List.length_cons] at le ⊢; omega)
            have n5 : DV.isNon (resD (some (lo :: ys0))) = false := rfl
            have len7 : lenF2 [rowD (lo :: ys)] h7 = .ok (.int ((lo :: ys).length : Nat)) h7 := by
              unfold rowD
              rw [len_tup, List.length_map]
            have len5 : lenF2 [resD (some (lo :: ys0))] h7 = .ok (.int ((lo :: ys0).length : Nat)) h7 := by
              unfold resD rowD
              rw [len_tup, List.length_map]
            generalize (lo :: ys0).length = a at *
            generalize (lo :: ys).length = b at *
            simp_arith! [n5, len7, len5, OrdK.z, d1, e33]
            exact ⟨⟨_, _, _, rfl⟩, (p4.trans p5).trans (p6.trans p7)⟩
      · rintro env h' ⟨q, p⟩
        exact ⟨q, p⟩
    · rintro env h' ⟨⟨x6, x7, x8, rfl⟩, p⟩
      show wS _ _ ⟨⟩
      have tb : ∀ c, reprF [.bl c] h' = .ok (.str (PyData.bool c).shown.cps.toList) h' := fun c => Th.bl.repr (k := 0) (w := 200) (by omega) (by omega)
      simp_arith! [tb]
      refine ⟨?_, p⟩
      have : b = DV.isNon (resD told) := by
        cases told with
        | none =>
          have : b = true := hb.mpr (fun ys z a => td.no rfl ys z a)
          rw [this]
          rfl
        | some row =>
          obtain ⟨ys, z, rfl, asc, ab⟩ := td.yes row rfl
          have e : DV.isNon (resD (some (lo :: ys))) = false := rfl
          rw [e]
          cases b with
          | false => rfl
          | true =>
            rw [hb.mp rfl ys z asc] at ab
            cases ab
      rw [this, decide_eq_true rfl]
end
end K62
namespace K62
open PySem DV L2
local macro_rules | `(tactic| simp_arith [$xs,*]) => `(tactic| simp only [wE_ok, wE_exc, wE_bad, wE_bind, wE_dbind, wE_if, wE_noX, ↓wS_seq, ↓wS_nil, ↓wS_pass, ↓wS_break, ↓wS_cont, ↓wS_expr, ↓wS_ret, ↓wS_retN, ↓wS_if, wG_some, wG_none, setAll, ↓wS_asg, ↓wS_par, ↓wS_set, ↓wS_setN, ↓wS_raise, ↓wS_try, ↓wS_for, wS_nx, wS_rt, forI_items, forS_nil, ↓forS_cons, ↓u_varO, uO_some, ↓u_cst, ↓u_nil, ↓u_cons, ↓u_d2, ↓u_tru, ↓u_bl, ↓u_and, ↓u_or, ↓u_tand, ↓u_tor, ↓u_tnot, ↓u_not, ↓u_neg, ↓u_ite, ↓u_tup, ↓u_lst, ↓u_call, ↓u_callF, ↓u_meth, ↓u_sl, ↓u_pNone, ↓u_pSome, ↓u_rev, ↓u_dic0, ↓u_prs0, ↓u_prs, ↓u_dic, ↓u_dicN, ↓u_lr2, ↓u_iVal, ↓u_iEn, ↓u_iRng1, ↓u_iRng2, u_yes, ↓u_lc, aName_run, List.set_cons_zero, List.set_cons_succ, List.getElem?_cons_zero, List.getElem?_cons_succ, List.append_nil, List.length_cons, List.length_nil, truD_bl, truD_non, truD_int, truD_tup, blD_bl, pInt, eqB_int, eqB_str, reduceIte, Nat.reduceAdd, Nat.zero_add, Nat.reduceLeDiff, true_and, and_true, Bool.not_true, Bool.not_false, Bool.false_eq_true, Bool.true_eq_false, decide_true, decide_false, isi_non_int, isi_non_bool, isi_non_str, isi_non_tuple, isi_non_list, isi_bl_int, isi_bl_bool, isi_bl_str, isi_bl_tuple, isi_bl_list, isi_int_int, isi_int_bool, isi_int_str, isi_int_tuple, isi_int_list, isi_str_int, isi_str_bool, isi_str_str, isi_str_tuple, isi_str_list, isi_tup_int, isi_tup_bool, isi_tup_str, isi_tup_tuple, isi_tup_list, isi_frz_int, isi_frz_bool, isi_frz_str, isi_frz_tuple, isi_frz_list, len_tup, len_frz, ix0, ix1, ix2, ix3, ix4, ix5, neg_int, add_int, sub_int, add_tup, is_non, in_cdt, in_chr, ord_int, mod_int, fdiv_int, int_int, DV.sl_tup, itV_tup, itV_frz, list_tup, lit_big, Int.cast_ofNat_Int, enK_tup, aPair, cast_succ0, $xs,*])
local macro_rules | `(tactic| simp_arith! [$xs,*]) => `(tactic| simp only [wE_ok, wE_exc, wE_bad, wE_bind, wE_dbind, wE_if, wE_noX, ↓wS_seq, ↓wS_nil, ↓wS_pass, ↓wS_break, ↓wS_cont, ↓wS_expr, ↓wS_ret, ↓wS_retN, wG_some, wG_none, setAll, ↓wS_asg, ↓wS_par, ↓wS_set, ↓wS_setN, ↓wS_raise, ↓wS_try, wS_nx, wS_rt, forI_items, forS_nil, ↓u_varO, uO_some, ↓u_cst, ↓u_nil, ↓u_cons, ↓u_d2, ↓u_tru, ↓u_bl, ↓u_and, ↓u_or, ↓u_tand, ↓u_tor, ↓u_tnot, ↓u_not, ↓u_neg, ↓u_ite, ↓u_tup, ↓u_lst, ↓u_call, ↓u_callF, ↓u_meth, ↓u_sl, ↓u_pNone, ↓u_pSome, ↓u_rev, ↓u_dic0, ↓u_prs0, ↓u_prs, ↓u_dic, ↓u_dicN, ↓u_lr2, ↓u_iVal, ↓u_iEn, ↓u_iRng1, ↓u_iRng2, u_yes, ↓u_lc, aName_run, List.set_cons_zero, List.set_cons_succ, List.getElem?_cons_zero, List.getElem?_cons_succ, List.append_nil, List.length_cons, List.length_nil, truD_bl, truD_non, truD_int, truD_tup, blD_bl, pInt, eqB_int, eqB_str, reduceIte, Nat.reduceAdd, Nat.zero_add, Nat.reduceLeDiff, true_and, and_true, Bool.not_true, Bool.not_false, Bool.false_eq_true, Bool.true_eq_false, decide_true, decide_false, isi_non_int, isi_non_bool, isi_non_str, isi_non_tuple, isi_non_list, isi_bl_int, isi_bl_bool, isi_bl_str, isi_bl_tuple, isi_bl_list, isi_int_int, isi_int_bool, isi_int_str, isi_int_tuple, isi_int_list, isi_str_int, isi_str_bool, isi_str_str, isi_str_tuple, isi_str_list, isi_tup_int, isi_tup_bool, isi_tup_str, isi_tup_tuple, isi_tup_list, isi_frz_int, isi_frz_bool, isi_frz_str, isi_frz_tuple, isi_frz_list, len_tup, len_frz, ix0, ix1, ix2, ix3, ix4, ix5, neg_int, add_int, sub_int, add_tup, is_non, in_cdt, in_chr, ord_int, mod_int, fdiv_int, int_int, DV.sl_tup, itV_tup, itV_frz, list_tup, lit_big, Int.cast_ofNat_Int, enK_tup, aPair, cast_succ0, $xs,*])
/-- a rule that the draws may give -/
structure RD (P : Nat) (r : Rule) : Prop where
  ok : r.Ok
  rg : ∀ m ∈ r.marks, 0 ≤ m ∧ m ≤ 6
  ps : r.phs.length ≤ P
def RDv (P : Nat) (v : D) : Prop := ∃ r, v = ruleD r ∧ RD P r
section
variable {h : DH}
theorem set2 {a b c : DO} : (h ++ [a] ++ [b]).set h.length c = h ++ [c] ++ [b] := by
  rw [List.append_assoc, List.set_append_right _ _ (Nat.le_refl _), Nat.sub_self, List.append_assoc]
  rfl
theorem ty2 {A : List D} {b : DO} : tyD "list" (.ref h.length) (h ++ [.lst A] ++ [b]) = true := tyD_lst (app_l app_get)
theorem ty1 {A : List D} : tyD "list" (.ref h.length) (h ++ [.lst A]) = true := tyD_lst app_get
theorem ap2 {A : List D} {b : DO} {d : D} (l : A.length + 1 ≤ big) : appendM (.ref h.length) [d] (h ++ [.lst A] ++ [b]) = .ok .non (h ++ [.lst (A ++ [d])] ++ [b]) := by
  rw [append_ref (app_l app_get) (by omega), set2]
theorem ex2 {A B : List D} (l : A.length + B.length ≤ big) : extendM (.ref h.length) [.ref (h ++ [DO.lst A]).length] (h ++ [.lst A] ++ [.lst B]) = .ok .non (h ++ [.lst (A ++ B)] ++ [.lst B]) := by
  rw [extend_ref (app_l app_get) app_get l, set2]
theorem ex2' {A B : List D} (l : A.length + B.length ≤ big) : extendM (.ref h.length) [.ref (h.length + 1)] (h ++ [.lst A] ++ [.lst B]) = .ok .non (h ++ [.lst (A ++ B)] ++ [.lst B]) := by
  have := ex2 (h := h) l
  rw [List.length_append] at this
  exact this
theorem mul3 {a : D} : mulD (.tup [a]) (.int 3) h = .ok (.tup [a, a, a]) h := (rfl)
theorem g26 (k : Nat) (src : Src h) : Ok (cF (k + 3) 26 [.ref 2] h) fun v h' => RDv 3 v ∧ Src h' ∧ Kp h h' := by
  have a4 : ∀ (a0 a1 a2 a3 : D) (env : DV.Env) (i j l m : Nat), aTup 4 (aCons (aName i) (aCons (aName j) (aCons (aName l) (aCons (aName m) aNil)))) (.tup [a0, a1, a2, a3]) env = some ((((env.set i (some a0)).set j (some a1)).set l (some a2)).set m (some a3)) := fun _ _ _ _ _ _ _ _ _ => rfl
  rw [step_]
  refine (wE_run rfl).mpr ?_
  show wS (m26 (cF (k + 2)) [some _, none, none, none, none, none] h) _ _
  unfold m26
  simp_arith! [a4, mul3, ty1, ty2, ex2, ex2', ap2, List.cons_append, List.nil_append]
  refine wE_of (g19 k (src.kp (by rw [List.append_assoc]; exact pre_app)) (app_l app_get) (by simp) (by simp)) ?_
  rintro v h1 ⟨mv, s1, k1⟩
  refine ⟨?_, s1, (Kp.of_pre (by rw [List.append_assoc]; exact pre_app)).trans k1⟩
  simp only [List.mem_cons, List.not_mem_nil, or_false] at mv
  rcases mv with rfl | rfl | rfl | rfl | rfl | rfl | rfl | rfl
  · exact ⟨⟨[5], [⟨(.take, 1), (.take, 0), (.out, 0)⟩, ⟨(.out, 1), (.take, 0), (.out, 0)⟩]⟩, rfl, ⟨by simp, by simp, by simp⟩, by simp, by simp⟩
  · exact ⟨⟨[5], [⟨(.next, 0), (.take, 0), (.out, 0)⟩]⟩, rfl, ⟨by simp, by simp, by simp⟩, by simp, by simp⟩
  · exact ⟨⟨[2, 4], [⟨(.take, 1), (.take, 1), (.take, 2)⟩, ⟨(.next, 1), (.take, 1), (.take, 2)⟩, ⟨(.out, 2), (.out, 2), (.out, 2)⟩]⟩, rfl, ⟨by simp, by simp, by simp⟩, by simp, by simp⟩
  · exact ⟨⟨[], [⟨(.take, 0), (.take, 0), (.take, 0)⟩]⟩, rfl, ⟨by simp, by simp, by simp⟩, by simp, by simp⟩
  · exact ⟨⟨[2, 4], [⟨(.take, 1), (.take, 1), (.out, 1)⟩, ⟨(.out, 1), (.take, 1), (.take, 1)⟩]⟩, rfl, ⟨by simp, by simp, by simp⟩, by simp, by simp⟩
  · exact ⟨⟨[3], [⟨(.wait, 1), (.next, 1), (.wait, 0)⟩, ⟨(.take, 0), (.out, 0), (.take, 0)⟩]⟩, rfl, ⟨by simp, by simp, by simp⟩, by simp, by simp⟩
  · exact ⟨⟨[1, 2], [⟨(.wait, 0), (.wait, 0), (.next, 0)⟩]⟩, rfl, ⟨by simp, by simp, by simp⟩, by simp, by simp⟩
  · exact ⟨⟨[2], [⟨(.wait, 1), (.take, 0), (.out, 0)⟩, ⟨(.out, 0), (.out, 0), (.out, 0)⟩]⟩, rfl, ⟨by simp, by simp, by simp⟩, by simp, by simp⟩
def Prv (many : Int) (v : D) : Prop := ∃ m : Mv, ∃ j : Nat, v = pD (m, j) ∧ (j : Int) < many
theorem g27 (k : Nat) {many : Int} (src : Src h) (m0 : 0 < many) (m1 : many < 1073741824) : Ok (cF (k + 3) 27 [.ref 2, .int many] h) fun v h' => Prv many v ∧ Src h' ∧ Kp h h' := by
  rw [step_]
  refine (wE_run rfl).mpr ?_
  show wS (m27 (cF (k + 2)) [some _, some _, none] h) _ _
  unfold m27
  simp_arith! []
  refine wE_of (g19 k (src.kp pre_app) app_get (by simp) (by simp)) ?_
  rintro v h1 ⟨mv, s1, k1⟩
  have hm : ∃ m : Mv, v = .str (mT m) := by
    simp only [List.mem_cons, List.not_mem_nil, or_false] at mv
    rcases mv with rfl | rfl | rfl | rfl | rfl | rfl
    · exact ⟨.take, rfl⟩
    · exact ⟨.take, rfl⟩
    · exact ⟨.next, rfl⟩
    · exact ⟨.next, rfl⟩
    · exact ⟨.out, rfl⟩
    · exact ⟨.wait, rfl⟩
  obtain ⟨m, rfl⟩ := hm
  simp_arith! []
  refine wE_of (g18 (k + 1) s1 m0 m1) ?_
  rintro v h2 ⟨j, rfl, jl, s2, k2⟩
  simp_arith! []
  exact ⟨⟨m, j, rfl, jl⟩, s2, (Kp.app.trans k1).trans k2⟩
end
end K62
namespace K62
open PySem DV L2
local macro_rules | `(tactic| simp_arith [$xs,*]) => `(tactic| simp only [wE_ok, wE_exc, wE_bad, wE_bind, wE_dbind, wE_if, wE_noX, ↓wS_seq, ↓wS_nil, ↓wS_pass, ↓wS_break, ↓wS_cont, ↓wS_expr, ↓wS_ret, ↓wS_retN, ↓wS_if, wG_some, wG_none, setAll, ↓wS_asg, ↓wS_par, ↓wS_set, ↓wS_setN, ↓wS_raise, ↓wS_try, ↓wS_for, wS_nx, wS_rt, forI_items, forS_nil, ↓forS_cons, ↓u_varO, uO_some, ↓u_cst, ↓u_nil, ↓u_cons, ↓u_d2, ↓u_tru, ↓u_bl, ↓u_and, ↓u_or, ↓u_tand, ↓u_tor, ↓u_tnot, ↓u_not, ↓u_neg, ↓u_ite, ↓u_tup, ↓u_lst, ↓u_call, ↓u_callF, ↓u_meth, ↓u_sl, ↓u_pNone, ↓u_pSome, ↓u_rev, ↓u_dic0, ↓u_prs0, ↓u_prs, ↓u_dic, ↓u_dicN, ↓u_lr2, ↓u_iVal, ↓u_iEn, ↓u_iRng1, ↓u_iRng2, u_yes, ↓u_sortSet, ↓u_lc, aName_run, List.set_cons_zero, List.set_cons_succ, List.getElem?_cons_zero, List.getElem?_cons_succ, List.append_nil, List.length_cons, List.length_nil, truD_bl, truD_non, truD_int, truD_tup, blD_bl, pInt, eqB_int, eqB_str, reduceIte, Nat.reduceAdd, Nat.zero_add, Nat.reduceLeDiff, true_and, and_true, Bool.not_true, Bool.not_false, Bool.false_eq_true, Bool.true_eq_false, decide_true, decide_false, isi_non_int, isi_non_bool, isi_non_str, isi_non_tuple, isi_non_list, isi_bl_int, isi_bl_bool, isi_bl_str, isi_bl_tuple, isi_bl_list, isi_int_int, isi_int_bool, isi_int_str, isi_int_tuple, isi_int_list, isi_str_int, isi_str_bool, isi_str_str, isi_str_tuple, isi_str_list, isi_tup_int, isi_tup_bool, isi_tup_str, isi_tup_tuple, isi_tup_list, isi_frz_int, isi_frz_bool, isi_frz_str, isi_frz_tuple, isi_frz_list, len_tup, len_frz, ix0, ix1, ix2, ix3, ix4, ix5, neg_int, add_int, sub_int, add_tup, is_non, in_cdt, in_chr, ord_int, mod_int, fdiv_int, int_int, DV.sl_tup, itV_tup, itV_frz, list_tup, lit_big, Int.cast_ofNat_Int, enK_tup, aPair, cast_succ0, $xs,*])
local macro_rules | `(tactic| simp_arith! [$xs,*]) => `(tactic| simp only [wE_ok, wE_exc, wE_bad, wE_bind, wE_dbind, wE_if, wE_noX, ↓wS_seq, ↓wS_nil, ↓wS_pass, ↓wS_break, ↓wS_cont, ↓wS_expr, ↓wS_ret, ↓wS_retN, wG_some, wG_none, setAll, ↓wS_asg, ↓wS_par, ↓wS_set, ↓wS_setN, ↓wS_raise, ↓wS_try, wS_nx, wS_rt, forI_items, forS_nil, ↓u_varO, uO_some, ↓u_cst, ↓u_nil, ↓u_cons, ↓u_d2, ↓u_tru, ↓u_bl, ↓u_and, ↓u_or, ↓u_tand, ↓u_tor, ↓u_tnot, ↓u_not, ↓u_neg, ↓u_ite, ↓u_tup, ↓u_lst, ↓u_call, ↓u_callF, ↓u_meth, ↓u_sl, ↓u_pNone, ↓u_pSome, ↓u_rev, ↓u_dic0, ↓u_prs0, ↓u_prs, ↓u_dic, ↓u_dicN, ↓u_lr2, ↓u_iVal, ↓u_iEn, ↓u_iRng1, ↓u_iRng2, u_yes, ↓u_sortSet, ↓u_lc, aName_run, List.set_cons_zero, List.set_cons_succ, List.getElem?_cons_zero, List.getElem?_cons_succ, List.append_nil, List.length_cons, List.length_nil, truD_bl, truD_non, truD_int, truD_tup, blD_bl, pInt, eqB_int, eqB_str, reduceIte, Nat.reduceAdd, Nat.zero_add, Nat.reduceLeDiff, true_and, and_true, Bool.not_true, Bool.not_false, Bool.false_eq_true, Bool.true_eq_false, decide_true, decide_false, isi_non_int, isi_non_bool, isi_non_str, isi_non_tuple, isi_non_list, isi_bl_int, isi_bl_bool, isi_bl_str, isi_bl_tuple, isi_bl_list, isi_int_int, isi_int_bool, isi_int_str, isi_int_tuple, isi_int_list, isi_str_int, isi_str_bool, isi_str_str, isi_str_tuple, isi_str_list, isi_tup_int, isi_tup_bool, isi_tup_str, isi_tup_tuple, isi_tup_list, isi_frz_int, isi_frz_bool, isi_frz_str, isi_frz_tuple, isi_frz_list, len_tup, len_frz, ix0, ix1, ix2, ix3, ix4, ix5, neg_int, add_int, sub_int, add_tup, is_non, in_cdt, in_chr, ord_int, mod_int, fdiv_int, int_int, DV.sl_tup, itV_tup, itV_frz, list_tup, lit_big, Int.cast_ofNat_Int, enK_tup, aPair, cast_succ0, $xs,*])
theorem rng_get {n i : Nat} {d : D} (e : (rngI 0 n)[i]? = some d) : d = .int (i : Nat) ∧ i < n := by
  unfold rngI at e
  rw [List.getElem?_map] at e
  obtain ⟨k, hk, rfl⟩ := Option.map_eq_some_iff.mp e
  have l := (List.getElem?_eq_some_iff.mp hk).1
  rw [List.length_range] at l
  rw [List.getElem?_range l] at hk
  cases hk
  exact ⟨by rw [Int.zero_add], l⟩
theorem rng_len {n : Nat} : (rngI 0 n).length = n := by simp [rngI]
/-- where a phase may lead -/
def Tgt (n : Nat) (p : Ph) : Prop := p.near.2 < n ∧ p.at_.2 < n ∧ p.far.2 < n
theorem three {n : Nat} {l : List D} (h3 : l.length = 3) (h : ∀ d ∈ l, Prv (n : Nat) d) : ∃ p, D.tup l = phD p ∧ Tgt n p := by
  match l, h3, h with
  | [a, b, c], _, h =>
    obtain ⟨m1, j1, rfl, l1⟩ := h a (by simp)
    obtain ⟨m2, j2, rfl, l2⟩ := h b (by simp)
    obtain ⟨m3, j3, rfl, l3⟩ := h c (by simp)
    exact ⟨⟨(m1, j1), (m2, j2), (m3, j3)⟩, rfl, Int.ofNat_lt.mp l1, Int.ofNat_lt.mp l2, Int.ofNat_lt.mp l3⟩
def Asc7 (i : Nat) (xs : List Int) : Prop := xs.Pairwise (· < ·) ∧ (∀ m ∈ xs, 0 ≤ m ∧ m < i) ∧ xs.length ≤ i
theorem Asc7.skip {i : Nat} {xs : List Int} (a : Asc7 i xs) : Asc7 (i + 1) xs := ⟨a.1, fun m q => ⟨(a.2.1 m q).1, by have := (a.2.1 m q).2; omega⟩, Nat.le_succ_of_le a.2.2⟩
theorem Asc7.more {i : Nat} {xs : List Int} (a : Asc7 i xs) : Asc7 (i + 1) (xs ++ [(i : Int)]) := by
  refine ⟨?_, fun m q => ?_, by rw [List.length_append]; simpa using a.2.2⟩
  · rw [List.pairwise_append]
    refine ⟨a.1, by simp, fun x hx y hy => ?_⟩
    rw [List.mem_singleton.mp hy]
    exact (a.2.1 x hx).2
  · rcases List.mem_append.mp q with q | q
    · exact ⟨(a.2.1 m q).1, by have := (a.2.1 m q).2; omega⟩
    · rw [List.mem_singleton.mp q]
      omega
section
variable {h : DH}
theorem g28 (k : Nat) (src : Src h) : Ok (cF (k + 4) 28 [.ref 2, .int 2] h) fun v h' => RDv 3 v ∧ Src h' ∧ Kp h h' := by
  have bg : big = 16777216 := rfl
  have a2 : ∀ (a0 a1 : D) (env : DV.Env) (i j : Nat), aTup 2 (aCons (aName i) (aCons (aName j) aNil)) (.tup [a0, a1]) env = some ((env.set i (some a0)).set j (some a1)) := fun _ _ _ _ _ => rfl
  rw [step_]
  refine (wE_run rfl).mpr ?_
  show wS (m28 (cF (k + 3)) [some _, some _, none, none, none, none, none] h) _ _
  unfold m28
  simp_arith! []
  refine wS_cut (fun env h' => env = [some (.ref 2), some (.int 2), none, none, none, none, none] ∧ Src h' ∧ Kp h h') ?_ ?_
  · rw [wS_if]
    simp_arith! []
    refine wE_of (g18 (k + 2) src (by decide) (by decide)) ?_
    rintro v h1 ⟨j, rfl, jl, s1, k1⟩
    simp_arith! []
    by_cases j0 : (j : Int) = 0
    · simp_arith! [j0]
      refine wE_of (g26 k s1) ?_
      rintro v h2 ⟨rd, s2, k2⟩
      exact ⟨rd, s2, k1.trans k2⟩
    · simp_arith! [j0]
      exact ⟨s1, k1⟩
  · rintro env h1 ⟨rfl, s1, k1⟩
    show wS _ _ ⟨⟩
    simp_arith! []
    refine wE_of (g18 (k + 2) s1 (by decide) (by decide)) ?_
    rintro v h2 ⟨j, rfl, jl, s2, k2⟩
    have em : (1 + (j : Int)) = ((1 + j : Nat) : Int) := by omega
    simp_arith! []
    rw [em]
    generalize hm : 1 + j = m
    refine ⟨7, rfl, by decide, ?_⟩
    refine u_lcS (fun i acc h' => ∃ xs : List Int, acc = xs.map .int ∧ Asc7 i xs ∧ Src h' ∧ Kp h h') ⟨[], rfl, ⟨by simp, by simp, by simp⟩, s2, k1.trans k2⟩ ?_ ?_
    · rintro i d acc h3 hd ⟨xs, rfl, ax, s3, k3⟩
      obtain ⟨rfl, il⟩ := rng_get hd
      refine ⟨[some (.ref 2), some (.int 2), none, none, none, some (.int i), none], rfl, ?_⟩
      simp_arith! []
      refine wE_of (g18 (k + 2) s3 (by decide) (by decide)) ?_
      rintro v h4 ⟨j', rfl, jl', s4, k4⟩
      simp_arith! []
      by_cases j0 : (j' : Int) = 0
      · simp_arith! [j0]
        exact ⟨xs ++ [(i : Int)], by rw [List.map_append]; rfl, ax.more, s4, k3.trans k4⟩
      · simp_arith! [j0]
        exact ⟨xs, rfl, ax.skip, s4, k3.trans k4⟩
    · rintro r h3 ⟨xs, rfl, ax, s3, k3⟩
      have ax : Asc7 7 xs := ax
      have xl : xs.length ≤ 7 := ax.2.2
      refine ⟨by rw [List.length_map]; omega, ?_⟩
      have a7 := ax.2.1
      simp_arith! [a2]
      have hx : (h3 ++ [DO.lst (xs.map D.int)])[h3.length]? = some (DO.lst (xs.map D.int)) := app_get
      have s3' : Src (h3 ++ [DO.lst (xs.map D.int)]) := s3.kp pre_app
      have k3' : Kp h (h3 ++ [DO.lst (xs.map D.int)]) := k3.trans Kp.app
      generalize h3.length = nx at hx
      generalize h3 ++ [DO.lst (xs.map D.int)] = h4 at hx s3' k3'
      have m2 : m ≤ 2 := by omega
      have m0 : 0 < m := by omega
      refine ⟨m, rfl, by simp only [sm62, Bool.and_eq_true, decide_eq_true_eq]; omega, ?_⟩
      rw [Int.toNat_natCast]
      refine u_lcS (fun i acc h' => ∃ ps : List Ph, acc = ps.map phD ∧ ps.length = i ∧ (∀ p ∈ ps, Tgt m p) ∧ Src h' ∧ Kp h4 h') ⟨[], rfl, rfl, by simp, s3', Kp.refl⟩ ?_ ?_
      · rintro i d acc h5 hd ⟨ps, rfl, pl, pt, s5, k5⟩
        obtain ⟨rfl, il⟩ := rng_get hd
        refine ⟨[some (.ref 2), some (.int 2), some (.int (m : Nat)), some (.ref nx), none, some (.int i), none], rfl, ?_⟩
        simp_arith! []
        refine ⟨3, rfl, by decide, ?_⟩
        refine u_lcS (fun i acc h' => acc.length = i ∧ (∀ d ∈ acc, Prv (m : Nat) d) ∧ Src h' ∧ Kp h4 h') ⟨rfl, by simp, s5, k5⟩ ?_ ?_
        · rintro i' d acc h6 hd ⟨al, ap, s6, k6⟩
          refine ⟨[some (.ref 2), some (.int 2), some (.int (m : Nat)), some (.ref nx), none, some (.int i), some d], rfl, ?_⟩
          simp_arith! []
          refine wE_of (g27 k s6 (by omega) (by omega)) ?_
          rintro v h7 ⟨pv, s7, k7⟩
          refine ⟨by rw [List.length_append, al]; rfl, ?_, s7, k6.trans k7⟩
          intro d' m'
          rcases List.mem_append.mp m' with m' | m'
          · exact ap d' m'
          · rw [List.mem_singleton.mp m']; exact pv
        · rintro r h6 ⟨al, ap, s6, k6⟩
          have al : r.length = 3 := al
          obtain ⟨p, ep, tp⟩ := three al ap
          refine ⟨by omega, ?_⟩
          simp_arith! [tuple_ref app_get]
          refine ⟨ps ++ [p], by rw [List.map_append, ep]; rfl, by rw [List.length_append, pl]; rfl, ?_, s6.kp pre_app, k6.trans Kp.app⟩
          intro p' m'
          rcases List.mem_append.mp m' with m' | m'
          · exact pt p' m'
          · rw [List.mem_singleton.mp m']; exact tp
      · rintro r h5 ⟨ps, rfl, pl, pt, s5, k5⟩
        rw [rng_len] at pl
        refine ⟨by rw [List.length_map]; omega, ?_⟩
        have hx5 := k5.lst _ _ hx
        have hx6 := app_l (x := [DO.lst (ps.map phD)]) hx5
        have ct : cut (xs.map D.int) none (some 5) = (xs.take 5).map D.int := by
          have := cut_0n (xs.map D.int) 5
          rw [← List.map_take] at this
          exact this
        have sl := sl_ref (lo := none) (hi := some 5) hx6
        rw [ct] at sl
        have t2 : tupleF2 [.ref h5.length] (h5 ++ [DO.lst (ps.map phD)] ++ [DO.lst ((xs.take 5).map D.int)]) = .ok (.tup (ps.map phD)) (h5 ++ [DO.lst (ps.map phD)] ++ [DO.lst ((xs.take 5).map D.int)]) := tuple_ref (app_l app_get)
        simp_arith! [sl, tuple_ref app_get, t2]
        refine ⟨⟨⟨xs.take 5, ps⟩, rfl, ⟨?_, ?_, ?_⟩, ?_, ?_⟩, (s5.kp pre_app).kp pre_app, (k3'.trans k5).trans (Kp.app.trans Kp.app)⟩
        · intro e
          have e : ps = [] := e
          rw [e] at pl
          simp at pl
          omega
        · intro p mp
          have := pt p mp
          rw [← pl] at this
          exact this
        · exact List.Pairwise.sublist (List.take_sublist 5 xs) ax.1
        · intro m' mm
          have := a7 m' (List.mem_of_mem_take mm)
          omega
        · show ps.length ≤ 3
          omega
end
end K62
namespace K62
open PySem DV L2
local macro_rules | `(tactic| simp_arith [$xs,*]) => `(tactic| simp only [wE_ok, wE_exc, wE_bad, wE_bind, wE_dbind, wE_if, wE_noX, ↓wS_seq, ↓wS_nil, ↓wS_pass, ↓wS_break, ↓wS_cont, ↓wS_expr, ↓wS_ret, ↓wS_retN, ↓wS_if, wG_some, wG_none, setAll, ↓wS_asg, ↓wS_par, ↓wS_set, ↓wS_setN, ↓wS_raise, ↓wS_try, ↓wS_for, wS_nx, wS_rt, forI_items, forS_nil, ↓forS_cons, ↓u_varO, uO_some, ↓u_cst, ↓u_nil, ↓u_cons, ↓u_d2, ↓u_tru, ↓u_bl, ↓u_and, ↓u_or, ↓u_tand, ↓u_tor, ↓u_tnot, ↓u_not, ↓u_neg, ↓u_ite, ↓u_tup, ↓u_lst, ↓u_call, ↓u_callF, ↓u_meth, ↓u_sl, ↓u_pNone, ↓u_pSome, ↓u_rev, ↓u_dic0, ↓u_prs0, ↓u_prs, ↓u_dic, ↓u_dicN, ↓u_lr2, ↓u_iVal, ↓u_iEn, ↓u_iRng1, ↓u_iRng2, u_yes, ↓u_sortSet, ↓u_lc, aName_run, List.set_cons_zero, List.set_cons_succ, List.getElem?_cons_zero, List.getElem?_cons_succ, List.append_nil, List.length_cons, List.length_nil, truD_bl, truD_non, truD_int, truD_tup, blD_bl, pInt, eqB_int, eqB_str, reduceIte, Nat.reduceAdd, Nat.zero_add, Nat.reduceLeDiff, true_and, and_true, Bool.not_true, Bool.not_false, Bool.false_eq_true, Bool.true_eq_false, decide_true, decide_false, isi_non_int, isi_non_bool, isi_non_str, isi_non_tuple, isi_non_list, isi_bl_int, isi_bl_bool, isi_bl_str, isi_bl_tuple, isi_bl_list, isi_int_int, isi_int_bool, isi_int_str, isi_int_tuple, isi_int_list, isi_str_int, isi_str_bool, isi_str_str, isi_str_tuple, isi_str_list, isi_tup_int, isi_tup_bool, isi_tup_str, isi_tup_tuple, isi_tup_list, isi_frz_int, isi_frz_bool, isi_frz_str, isi_frz_tuple, isi_frz_list, len_tup, len_frz, ix0, ix1, ix2, ix3, ix4, ix5, neg_int, add_int, sub_int, add_tup, is_non, in_cdt, in_chr, ord_int, mod_int, fdiv_int, int_int, DV.sl_tup, itV_tup, itV_frz, list_tup, lit_big, Int.cast_ofNat_Int, enK_tup, aPair, cast_succ0, $xs,*])
local macro_rules | `(tactic| simp_arith! [$xs,*]) => `(tactic| simp only [wE_ok, wE_exc, wE_bad, wE_bind, wE_dbind, wE_if, wE_noX, ↓wS_seq, ↓wS_nil, ↓wS_pass, ↓wS_break, ↓wS_cont, ↓wS_expr, ↓wS_ret, ↓wS_retN, wG_some, wG_none, setAll, ↓wS_asg, ↓wS_par, ↓wS_set, ↓wS_setN, ↓wS_raise, ↓wS_try, wS_nx, wS_rt, forI_items, forS_nil, ↓u_varO, uO_some, ↓u_cst, ↓u_nil, ↓u_cons, ↓u_d2, ↓u_tru, ↓u_bl, ↓u_and, ↓u_or, ↓u_tand, ↓u_tor, ↓u_tnot, ↓u_not, ↓u_neg, ↓u_ite, ↓u_tup, ↓u_lst, ↓u_call, ↓u_callF, ↓u_meth, ↓u_sl, ↓u_pNone, ↓u_pSome, ↓u_rev, ↓u_dic0, ↓u_prs0, ↓u_prs, ↓u_dic, ↓u_dicN, ↓u_lr2, ↓u_iVal, ↓u_iEn, ↓u_iRng1, ↓u_iRng2, u_yes, ↓u_sortSet, ↓u_lc, aName_run, List.set_cons_zero, List.set_cons_succ, List.getElem?_cons_zero, List.getElem?_cons_succ, List.append_nil, List.length_cons, List.length_nil, truD_bl, truD_non, truD_int, truD_tup, blD_bl, pInt, eqB_int, eqB_str, reduceIte, Nat.reduceAdd, Nat.zero_add, Nat.reduceLeDiff, true_and, and_true, Bool.not_true, Bool.not_false, Bool.false_eq_true, Bool.true_eq_false, decide_true, decide_false, isi_non_int, isi_non_bool, isi_non_str, isi_non_tuple, isi_non_list, isi_bl_int, isi_bl_bool, isi_bl_str, isi_bl_tuple, isi_bl_list, isi_int_int, isi_int_bool, isi_int_str, isi_int_tuple, isi_int_list, isi_str_int, isi_str_bool, isi_str_str, isi_str_tuple, isi_str_list, isi_tup_int, isi_tup_bool, isi_tup_str, isi_tup_tuple, isi_tup_list, isi_frz_int, isi_frz_bool, isi_frz_str, isi_frz_tuple, isi_frz_list, len_tup, len_frz, ix0, ix1, ix2, ix3, ix4, ix5, neg_int, add_int, sub_int, add_tup, is_non, in_cdt, in_chr, ord_int, mod_int, fdiv_int, int_int, DV.sl_tup, itV_tup, itV_frz, list_tup, lit_big, Int.cast_ofNat_Int, enK_tup, aPair, cast_succ0, $xs,*])
theorem RD.len {P : Nat} {r : Rule} (d : RD P r) : r.marks.length ≤ 7 := by
  have nd : r.marks.Nodup := d.ok.up.imp (fun h => by omega)
  have := nodup_le nd (m := ups 0 7) fun x m => by
    have := d.rg x m
    exact mem_ups.mpr (by omega)
  rwa [ups_len] at this
theorem eq_tints_nil {h : DH} {neg : Bool} {ns : List Int} (hb : ∀ i ∈ ns, i.natAbs < 10 ^ 60) : eqB neg (.tup (ns.map .int)) (.tup []) h = .ok (.bl (if neg then !ns.isEmpty else ns.isEmpty)) h := by
  obtain ⟨p, t⟩ := row_th (h := h) (ds := ns.map .int) fun d m => by
    obtain ⟨i, mi, rfl⟩ := List.mem_map.mp m
    exact decide_eq_true (hb i mi)
  have := eq_tup_nil (neg := neg) t (by omega)
  have e : (ns.map D.int).isEmpty = ns.isEmpty := by cases ns <;> rfl
  rw [e] at this
  exact this
section
variable {h : DH}
theorem g29 (k : Nat) {P : Nat} {r : Rule} (rd : RD P r) (P4 : P ≤ 4) (src : Src h) : Ok (cF (k + 4) 29 [.ref 2, ruleD r] h) fun v h' => RDv P v ∧ Src h' ∧ Kp h h' := by
  have bg : big = 16777216 := rfl
  have a2 : ∀ (a0 a1 : D) (env : DV.Env) (i j : Nat), aTup 2 (aCons (aName i) (aCons (aName j) aNil)) (.tup [a0, a1]) env = some ((env.set i (some a0)).set j (some a1)) := fun _ _ _ _ _ => rfl
  have ml := rd.len
  have pl := rd.ps
  have p0 := List.length_pos_iff.mpr rd.ok.ne
  rw [step_]
  refine (wE_run rfl).mpr ?_
  show wS (m29 (cF (k + 3)) [some _, some _, none, none, none, none, none, none, none, none] h) _ _
  unfold m29
  rw [show ruleD r = .tup [.tup (r.marks.map .int), .tup (r.phs.map phD)] from rfl]
  simp_arith! [a2]
  refine wE_of (g18 (k + 2) src (by decide) (by decide)) ?_
  rintro v h1 ⟨t, rfl, tl, s1, k1⟩
  simp_arith! [List.length_map]
  refine wE_of (g18 (k + 2) s1 (by omega) (by omega)) ?_
  rintro v h2 ⟨q, rfl, ql, s2, k2⟩
  simp_arith! []
  refine wE_of (g18 (k + 2) s2 (by decide) (by decide)) ?_
  rintro v h3 ⟨c, rfl, cl, s3, k3⟩
  have k3 := (k1.trans k2).trans k3
  clear s1 s2 k1 k2
  simp_arith! []
  refine wS_cut (fun env h' => env = [some (.ref 2), some (.tup [.tup (r.marks.map .int), .tup (r.phs.map phD)]), some (.tup (r.marks.map .int)), some (.tup (r.phs.map phD)), some (.int (t : Nat)), some (.int (q : Nat)), some (.int (c : Nat)), none, none, none] ∧ Src h' ∧ Kp h h') ?_ ?_
  · rw [wS_if]
    simp_arith! []
    by_cases t0 : (t : Int) = 0
    · simp_arith! [t0, List.length_map, OrdK.z]
      by_cases l6 : (r.marks.length : Int) < 6
      · simp_arith! [l6]
        refine wE_of (g18 (k + 2) s3 (by decide) (by decide)) ?_
        rintro v h4 ⟨m, rfl, mm, s4, k4⟩
        have ad := add_lst (h := h4 ++ [DO.lst [D.int (m : Nat)]] ++ [DO.lst (r.marks.map .int)]) (app_l app_get) app_get (ds := [D.int (m : Nat)]) (es := r.marks.map .int) (by simp; omega)
        have so := sortSet_ref (h := h4 ++ [DO.lst [D.int (m : Nat)]] ++ [DO.lst (r.marks.map .int)] ++ [DO.lst ([D.int (m : Nat)] ++ r.marks.map .int)]) (ns := (m : Int) :: r.marks) app_get (by simp; omega)
        simp_arith! [ad, so, tuple_ref app_get]
        refine ⟨⟨⟨usort ((m : Int) :: r.marks), r.phs⟩, rfl, ⟨rd.ok.ne, rd.ok.nx, usort_up⟩, ?_, rd.ps⟩, (((s4.kp pre_app).kp pre_app).kp pre_app).kp pre_app, (((k3.trans k4).trans Kp.app).trans Kp.app).trans (Kp.app.trans Kp.app)⟩
        intro x mx
        rcases List.mem_cons.mp (mem_usort.mp mx) with rfl | mx
        · omega
        · exact rd.rg x mx
      · simp_arith! [l6]
        exact ⟨s3, k3⟩
    · simp_arith! [t0]
      exact ⟨s3, k3⟩
  · rintro env h4 ⟨rfl, s4, k4⟩
    show wS _ _ ⟨⟩
    clear s3 k3
    simp_arith! []
    refine wS_cut (fun env h' => env = [some (.ref 2), some (.tup [.tup (r.marks.map .int), .tup (r.phs.map phD)]), some (.tup (r.marks.map .int)), some (.tup (r.phs.map phD)), some (.int (t : Nat)), some (.int (q : Nat)), some (.int (c : Nat)), none, none, none] ∧ Src h' ∧ Kp h h') ?_ ?_
    · rw [wS_if]
      simp_arith! []
      by_cases t1 : (t : Int) = 1
      · have eqn := eq_tints_nil (neg := true) (h := h4) (ns := r.marks) fun i m => by
          have := rd.rg i m
          omega
        simp_arith! [t1, eqn]
        cases he : r.marks.isEmpty with
        | true =>
          simp_arith! []
          exact ⟨s4, k4⟩
        | false =>
          have m0 : 0 < r.marks.length := by
            cases hm : r.marks with
            | nil => rw [hm] at he; cases he
            | cons a l => simp
          simp_arith! [List.length_map]
          refine wE_of (g18 (k + 2) s4 (by omega) (by omega)) ?_
          rintro v h5 ⟨j, rfl, jl, s5, k5⟩
          have c1 : cut (r.marks.map D.int) none (some (j : Int)) = (r.marks.take j).map .int := by rw [cut_0n, List.map_take]
          have c2 : cut (r.marks.map D.int) (some ((j : Int) + 1)) none = (r.marks.drop (j + 1)).map .int := by
            have := cut_n (r.marks.map D.int) (j + 1)
            rw [List.map_drop]
            exact this
          have bl : ((r.marks.take j).map D.int).length + ((r.marks.drop (j + 1)).map D.int).length ≤ big := by
            rw [List.length_map, List.length_map, List.length_take, List.length_drop]
            omega
          simp_arith! [c1, c2, bl]
          have sub : (r.marks.take j ++ r.marks.drop (j + 1)).Sublist r.marks := by
            rw [← List.eraseIdx_eq_take_drop_succ]
            exact List.eraseIdx_sublist _ _
          refine ⟨⟨⟨r.marks.take j ++ r.marks.drop (j + 1), r.phs⟩, by rw [ruleD, List.map_append], ⟨rd.ok.ne, rd.ok.nx, List.Pairwise.sublist sub rd.ok.up⟩, fun x mx => rd.rg x (sub.mem mx), rd.ps⟩, s5, k4.trans k5⟩
      · simp_arith! [t1]
        exact ⟨s4, k4⟩
    · rintro env h5 ⟨rfl, s5, k5⟩
      show wS _ _ ⟨⟩
      have qn : q < r.phs.length := by omega
      have hq : r.phs[q]? = some r.phs[q] := List.getElem?_eq_getElem qn
      generalize hp : r.phs[q] = p at hq
      have ix : ixD (.tup (r.phs.map phD)) (.int (q : Nat)) h5 = .ok (.tup [pD p.near, pD p.at_, pD p.far]) h5 := ix_at (by rw [List.getElem?_map, hq]; rfl)
      obtain ⟨t1, t2, t3⟩ := rd.ok.nx p (List.mem_of_getElem? hq)
      generalize hl : [pD p.near, pD p.at_, pD p.far] = l at ix
      have ll : l.length = 3 := by rw [← hl]; rfl
      have c1 : cut l none (some (c : Int)) = l.take c := cut_0n l c
      have c2 : cut l (some ((c : Int) + 1)) none = l.drop (c + 1) := cut_n l (c + 1)
      have b1 : (l.take c).length + 1 ≤ big := by rw [List.length_take]; omega
      simp_arith! [ix, c1, List.length_map]
      refine wE_of (g27 k s5 (by omega) (by omega)) ?_
      rintro v h6 ⟨⟨m, j, rfl, jl⟩, s6, k6⟩
      have b2 : (l.take c ++ [pD (m, j)]).length + (l.drop (c + 1)).length ≤ big := by
        rw [List.length_append, List.length_take, List.length_drop]
        simp
        omega
      have hz : ∃ p', D.tup (l.take c ++ [pD (m, j)] ++ l.drop (c + 1)) = phD p' ∧ Tgt r.phs.length p' := by
        have jl' : j < r.phs.length := by omega
        rw [← hl]
        have : c = 0 ∨ c = 1 ∨ c = 2 := by omega
        rcases this with rfl | rfl | rfl
        · exact ⟨⟨(m, j), p.at_, p.far⟩, rfl, jl', t2, t3⟩
        · exact ⟨⟨p.near, (m, j), p.far⟩, rfl, t1, jl', t3⟩
        · exact ⟨⟨p.near, p.at_, (m, j)⟩, rfl, t1, t2, jl'⟩
      obtain ⟨p', ep, tp⟩ := hz
      simp_arith! [b1, c2, b2]
      rw [ep]
      have d1 : cut (r.phs.map phD) none (some (q : Int)) = (r.phs.take q).map phD := by rw [cut_0n, List.map_take]
      have d2 : cut (r.phs.map phD) (some ((q : Int) + 1)) none = (r.phs.drop (q + 1)).map phD := by
        have := cut_n (r.phs.map phD) (q + 1)
        rw [List.map_drop]
        exact this
      have b3 : ((r.phs.take q).map phD).length + 1 ≤ big := by rw [List.length_map, List.length_take]; omega
      have b4 : ((r.phs.take q).map phD ++ [phD p']).length + ((r.phs.drop (q + 1)).map phD).length ≤ big := by
        rw [List.length_append, List.length_map, List.length_map, List.length_take, List.length_drop]
        simp
        omega
      simp_arith! [d1, d2, b3, b4]
      have nl : (r.phs.take q ++ [p'] ++ r.phs.drop (q + 1)).length = r.phs.length := by
        rw [List.length_append, List.length_append, List.length_take, List.length_drop]
        simp
        omega
      refine ⟨⟨⟨r.marks, r.phs.take q ++ [p'] ++ r.phs.drop (q + 1)⟩, ?_, ⟨?_, ?_, rd.ok.up⟩, rd.rg, by rw [nl]; exact rd.ps⟩, s6, k5.trans k6⟩
      · simp [ruleD]
      · intro e
        have z : r.phs.length = 0 := by rw [← nl]; exact congrArg List.length e
        omega
      · intro x mx
        show x.near.2 < (r.phs.take q ++ [p'] ++ r.phs.drop (q + 1)).length ∧ x.at_.2 < (r.phs.take q ++ [p'] ++ r.phs.drop (q + 1)).length ∧ x.far.2 < (r.phs.take q ++ [p'] ++ r.phs.drop (q + 1)).length
        rw [nl]
        rcases List.mem_append.mp mx with mx | mx
        · rcases List.mem_append.mp mx with mx | mx
          · exact rd.ok.nx x (List.mem_of_mem_take mx)
          · rw [List.mem_singleton.mp mx]
            exact tp
        · exact rd.ok.nx x (List.mem_of_mem_drop mx)
def Two (v : D) : Prop := ∃ a b, v = .tup [ruleD a, ruleD b] ∧ RD 3 a ∧ RD 3 b
theorem g30 (k : Nat) (src : Src h) : Ok (cF (k + 5) 30 [.ref 2, .int 2] h) fun v h' => Two v ∧ Src h' ∧ Kp h h' := by
  rw [step_]
  refine (wE_run rfl).mpr ?_
  show wS (m30 (cF (k + 4)) [some _, some _, none] h) _ _
  unfold m30
  simp_arith! []
  refine wE_of (g28 k src) ?_
  rintro v h1 ⟨⟨a, rfl, ra⟩, s1, k1⟩
  simp_arith! []
  refine wE_of (g18 (k + 3) s1 (by decide) (by decide)) ?_
  rintro v h2 ⟨j, rfl, jl, s2, k2⟩
  simp_arith! [OrdK.z]
  by_cases j0 : (0 : Int) < (j : Int)
  · simp_arith! [j0]
    refine wE_of (g29 k ra (by decide) s2) ?_
    rintro v h3 ⟨⟨b, rfl, rb⟩, s3, k3⟩
    simp_arith! []
    exact ⟨⟨a, b, rfl, ra, rb⟩, s3, (k1.trans k2).trans k3⟩
  · simp_arith! [j0]
    refine wE_of (g28 k s2) ?_
    rintro v h3 ⟨⟨b, rfl, rb⟩, s3, k3⟩
    simp_arith! []
    exact ⟨⟨a, b, rfl, ra, rb⟩, s3, (k1.trans k2).trans k3⟩
end
end K62
namespace K62
open PySem DV L2
/-- one step's answer is the same -/
def Like (c : Case) (a b : Mv) : Prop := a = b ∨ (c = .at_ ∧ (a = .take ∨ a = .next) ∧ (b = .take ∨ b = .next))
structure Bis (r r' : Rule) (f : Nat → Nat → Prop) : Prop where
  ms : r'.marks = r.marks
  up : r.marks.Pairwise (· < ·)
  z : f 0 0
  st : ∀ p p', f p p' → ∃ P P', r.phs[p]? = some P ∧ r'.phs[p']? = some P' ∧ ∀ c : Case, f (P.by_ c).2 (P'.by_ c).2 ∧ Like c (P.by_ c).1 (P'.by_ c).1
theorem least_mark {ms : List Int} (up : ms.Pairwise (· < ·)) {j : Int} (m : j ∈ ms) : least ms (some j) = some j := by
  show (ms.filter fun m => decide (j ≤ m))[0]? = some j
  induction ms with
  | nil => cases m
  | cons a l ih =>
    rw [List.pairwise_cons] at up
    by_cases e : a = j
    · subst e
      simp
    · have ml : j ∈ l := by
        rcases List.mem_cons.mp m with q | q
        · exact absurd q.symm e
        · exact q
      have := up.1 j ml
      rw [List.filter_cons_of_neg (by simp; omega)]
      exact ih up.2 ml
theorem like_end {ms : List Int} (up : ms.Pairwise (· < ·)) {x : Int} {y : Int} {a b : Mv} (h : Like (caseOf ms x (some y)) a b) : endBy ms (some x) (some y) a = endBy ms (some x) (some y) b := by
  rcases h with rfl | ⟨hc, ha, hb⟩
  · rfl
  · have key : least ms (some y) = some y := by
      unfold caseOf at hc
      dsimp only at hc
      split at hc
      · cases hc
      · rename_i u hu
        split at hc
        · cases hc
        · split at hc
          · rename_i e
            subst e
            exact least_mark up (List.mem_of_getElem? hu)
          · cases hc
    rcases ha with rfl | rfl <;> rcases hb with rfl | rfl <;> simp [endBy, key]
theorem Bis.run {r r' : Rule} {f : Nat → Nat → Prop} (b : Bis r r' f) (lo : Int) : ∀ (ys : Row), (run r lo ys).end_ = (run r' lo ys).end_ ∧ f (run r lo ys).ph (run r' lo ys).ph := by
  suffices ∀ (n : Nat) (ys : Row), ys.length = n → (K62.run r lo ys).end_ = (K62.run r' lo ys).end_ ∧ f (K62.run r lo ys).ph (K62.run r' lo ys).ph from fun ys => this _ ys rfl
  intro n
  induction n with
  | zero =>
    intro ys e
    cases List.length_eq_zero_iff.mp e
    exact ⟨rfl, b.z⟩
  | succ n ih =>
    intro ys e
    have ne : ys ≠ [] := by rintro rfl; cases e
    have es := List.dropLast_concat_getLast ne
    generalize ys.dropLast = zs at es
    generalize ys.getLast ne = y at es
    subst es
    rw [List.length_append] at e
    obtain ⟨e1, e2⟩ := ih zs (by simpa using e)
    rw [run_snoc, run_snoc]
    generalize K62.run r lo zs = s at e1 e2
    generalize K62.run r' lo zs = s' at e1 e2
    unfold step
    rw [← e1]
    cases hx : s.end_ with
    | none => exact ⟨by rw [← e1], e2⟩
    | some x =>
      dsimp only
      split
      · obtain ⟨P, P', h1, h2, h3⟩ := b.st _ _ e2
        rw [h1, h2, b.ms]
        dsimp only
        have h3 := h3 (caseOf r.marks x (some y))
        exact ⟨like_end b.up h3.2, h3.1⟩
      · exact ⟨e1, e2⟩
/-- twins end alike -/
def Twin (r r' : Rule) : Prop := ∀ lo ys, (run r lo ys).end_ = (run r' lo ys).end_
theorem Bis.twin {r r' : Rule} {f : Nat → Nat → Prop} (b : Bis r r' f) : Twin r r' := fun lo ys => (b.run lo ys).1
theorem Ph.tgt {r : Rule} (ok : r.Ok) {p : Nat} {P : Ph} (h : r.phs[p]? = some P) (c : Case) : (P.by_ c).2 < r.phs.length := by
  obtain ⟨a, b, d⟩ := ok.nx P (List.mem_of_getElem? h)
  cases c <;> assumption
/-- one phase more that none leads to -/
theorem twin_more {r : Rule} (ok : r.Ok) (q : Ph) : Twin r ⟨r.marks, r.phs ++ [q]⟩ := by
  refine (Bis.twin (f := fun p p' => p = p' ∧ p < r.phs.length) ⟨rfl, ok.up, ⟨rfl, List.length_pos_iff.mpr ok.ne⟩, ?_⟩)
  rintro p _ ⟨rfl, l⟩
  have h1 : r.phs[p]? = some r.phs[p] := List.getElem?_eq_getElem l
  exact ⟨_, _, h1, by rw [List.getElem?_append_left l]; exact h1, fun c => ⟨⟨rfl, Ph.tgt ok h1 c⟩, .inl rfl⟩⟩
def swapM : Mv → Mv
  | .take => .next
  | .next => .take
  | m => m
/-- take and next changed at a mark -/
theorem twin_swap {r : Rule} (ok : r.Ok) : Twin r ⟨r.marks, r.phs.map fun p => ⟨p.near, (swapM p.at_.1, p.at_.2), p.far⟩⟩ := by
  refine (Bis.twin (f := fun p p' => p = p' ∧ p < r.phs.length) ⟨rfl, ok.up, ⟨rfl, List.length_pos_iff.mpr ok.ne⟩, ?_⟩)
  rintro p _ ⟨rfl, l⟩
  have h1 : r.phs[p]? = some r.phs[p] := List.getElem?_eq_getElem l
  refine ⟨_, _, h1, by rw [List.getElem?_map, h1]; rfl, fun c => ⟨⟨?_, Ph.tgt ok h1 c⟩, ?_⟩⟩
  · cases c <;> rfl
  · cases c
    · exact .inl rfl
    · show Like .at_ (r.phs[p]).at_.1 (swapM (r.phs[p]).at_.1)
      cases (r.phs[p]).at_.1 <;> simp [Like, swapM]
    · exact .inl rfl
def dupP (k n : Nat) (p : Mv × Nat) : Mv × Nat := (p.1, if p.2 = k then n else p.2)
def dupPh (k n : Nat) (p : Ph) : Ph := ⟨dupP k n p.near, dupP k n p.at_, dupP k n p.far⟩
/-- a phase twice, all lead to the second -/
theorem twin_dup {r : Rule} (ok : r.Ok) {k : Nat} {q : Ph} (hk : r.phs[k]? = some q) : Twin r ⟨r.marks, (r.phs ++ [q]).map (dupPh k r.phs.length)⟩ := by
  have kl := (List.getElem?_eq_some_iff.mp hk).1
  refine (Bis.twin (f := fun p p' => p < r.phs.length ∧ (p = p' ∨ (p = k ∧ p' = r.phs.length))) ⟨rfl, ok.up, ⟨List.length_pos_iff.mpr ok.ne, .inl rfl⟩, ?_⟩)
  rintro p p' ⟨l, e⟩
  have h1 : r.phs[p]? = some r.phs[p] := List.getElem?_eq_getElem l
  have h2 : ((r.phs ++ [q]).map (dupPh k r.phs.length))[p']? = some (dupPh k r.phs.length r.phs[p]) := by
    rw [List.getElem?_map]
    rcases e with rfl | ⟨rfl, rfl⟩
    · rw [List.getElem?_append_left l, h1]
      rfl
    · rw [List.getElem?_append_right (Nat.le_refl _), Nat.sub_self]
      rw [h1] at hk
      cases hk
      rfl
  refine ⟨_, _, h1, h2, fun c => ⟨⟨Ph.tgt ok h1 c, ?_⟩, .inl (by cases c <;> rfl)⟩⟩
  have : ((dupPh k r.phs.length r.phs[p]).by_ c).2 = if ((r.phs[p]).by_ c).2 = k then r.phs.length else ((r.phs[p]).by_ c).2 := by cases c <;> rfl
  rw [this]
  by_cases z : ((r.phs[p]).by_ c).2 = k
  · rw [if_pos z]
    exact .inr ⟨z, rfl⟩
  · rw [if_neg z]
    exact .inl rfl
/-- the phases behind the first turned round -/
def flipN (n i : Nat) : Nat := if i = 0 then 0 else n - i
def flipP (n : Nat) (p : Mv × Nat) : Mv × Nat := (p.1, flipN n p.2)
def flipPh (n : Nat) (p : Ph) : Ph := ⟨flipP n p.near, flipP n p.at_, flipP n p.far⟩
theorem twin_flip {r r' : Rule} (ok : r.Ok) (hm : r'.marks = r.marks) (h : ∀ i, i < r.phs.length → r'.phs[flipN r.phs.length i]? = r.phs[i]?.map (flipPh r.phs.length)) : Twin r r' := by
  refine (Bis.twin (f := fun p p' => p < r.phs.length ∧ p' = flipN r.phs.length p) ⟨hm, ok.up, ⟨List.length_pos_iff.mpr ok.ne, rfl⟩, ?_⟩)
  rintro p _ ⟨l, rfl⟩
  have h1 : r.phs[p]? = some r.phs[p] := List.getElem?_eq_getElem l
  refine ⟨_, _, h1, by rw [h p l, h1]; rfl, fun c => ⟨⟨Ph.tgt ok h1 c, ?_⟩, .inl ?_⟩⟩
  · cases c <;> rfl
  · cases c <;> rfl
end K62
namespace K62
open PySem DV L2
local macro_rules | `(tactic| simp_arith [$xs,*]) => `(tactic| simp only [wE_ok, wE_exc, wE_bad, wE_bind, wE_dbind, wE_if, wE_noX, ↓wS_seq, ↓wS_nil, ↓wS_pass, ↓wS_break, ↓wS_cont, ↓wS_expr, ↓wS_ret, ↓wS_retN, ↓wS_if, wG_some, wG_none, setAll, ↓wS_asg, ↓wS_par, ↓wS_set, ↓wS_setN, ↓wS_raise, ↓wS_try, ↓wS_for, wS_nx, wS_rt, forI_items, forS_nil, ↓forS_cons, ↓u_varO, uO_some, ↓u_cst, ↓u_nil, ↓u_cons, ↓u_d2, ↓u_tru, ↓u_bl, ↓u_and, ↓u_or, ↓u_tand, ↓u_tor, ↓u_tnot, ↓u_not, ↓u_neg, ↓u_ite, ↓u_tup, ↓u_lst, ↓u_call, ↓u_callF, ↓u_meth, ↓u_sl, ↓u_pNone, ↓u_pSome, ↓u_rev, ↓u_dic0, ↓u_prs0, ↓u_prs, ↓u_dic, ↓u_dicN, ↓u_lr2, ↓u_iVal, ↓u_iEn, ↓u_iRng1, ↓u_iRng2, u_yes, ↓u_sortSet, ↓u_lc, aName_run, List.set_cons_zero, List.set_cons_succ, List.getElem?_cons_zero, List.getElem?_cons_succ, List.append_nil, List.length_cons, List.length_nil, truD_bl, truD_non, truD_int, truD_tup, blD_bl, pInt, eqB_int, eqB_str, reduceIte, Nat.reduceAdd, Nat.zero_add, Nat.reduceLeDiff, true_and, and_true, Bool.not_true, Bool.not_false, Bool.false_eq_true, Bool.true_eq_false, decide_true, decide_false, isi_non_int, isi_non_bool, isi_non_str, isi_non_tuple, isi_non_list, isi_bl_int, isi_bl_bool, isi_bl_str, isi_bl_tuple, isi_bl_list, isi_int_int, isi_int_bool, isi_int_str, isi_int_tuple, isi_int_list, isi_str_int, isi_str_bool, isi_str_str, isi_str_tuple, isi_str_list, isi_tup_int, isi_tup_bool, isi_tup_str, isi_tup_tuple, isi_tup_list, isi_frz_int, isi_frz_bool, isi_frz_str, isi_frz_tuple, isi_frz_list, len_tup, len_frz, ix0, ix1, ix2, ix3, ix4, ix5, neg_int, add_int, sub_int, add_tup, is_non, in_cdt, in_chr, ord_int, mod_int, fdiv_int, int_int, DV.sl_tup, itV_tup, itV_frz, list_tup, lit_big, Int.cast_ofNat_Int, enK_tup, aPair, cast_succ0, $xs,*])
local macro_rules | `(tactic| simp_arith! [$xs,*]) => `(tactic| simp only [wE_ok, wE_exc, wE_bad, wE_bind, wE_dbind, wE_if, wE_noX, ↓wS_seq, ↓wS_nil, ↓wS_pass, ↓wS_break, ↓wS_cont, ↓wS_expr, ↓wS_ret, ↓wS_retN, wG_some, wG_none, setAll, ↓wS_asg, ↓wS_par, ↓wS_set, ↓wS_setN, ↓wS_raise, ↓wS_try, wS_nx, wS_rt, forI_items, forS_nil, ↓u_varO, uO_some, ↓u_cst, ↓u_nil, ↓u_cons, ↓u_d2, ↓u_tru, ↓u_bl, ↓u_and, ↓u_or, ↓u_tand, ↓u_tor, ↓u_tnot, ↓u_not, ↓u_neg, ↓u_ite, ↓u_tup, ↓u_lst, ↓u_call, ↓u_callF, ↓u_meth, ↓u_sl, ↓u_pNone, ↓u_pSome, ↓u_rev, ↓u_dic0, ↓u_prs0, ↓u_prs, ↓u_dic, ↓u_dicN, ↓u_lr2, ↓u_iVal, ↓u_iEn, ↓u_iRng1, ↓u_iRng2, u_yes, ↓u_sortSet, ↓u_lc, aName_run, List.set_cons_zero, List.set_cons_succ, List.getElem?_cons_zero, List.getElem?_cons_succ, List.append_nil, List.length_cons, List.length_nil, truD_bl, truD_non, truD_int, truD_tup, blD_bl, pInt, eqB_int, eqB_str, reduceIte, Nat.reduceAdd, Nat.zero_add, Nat.reduceLeDiff, true_and, and_true, Bool.not_true, Bool.not_false, Bool.false_eq_true, Bool.true_eq_false, decide_true, decide_false, isi_non_int, isi_non_bool, isi_non_str, isi_non_tuple, isi_non_list, isi_bl_int, isi_bl_bool, isi_bl_str, isi_bl_tuple, isi_bl_list, isi_int_int, isi_int_bool, isi_int_str, isi_int_tuple, isi_int_list, isi_str_int, isi_str_bool, isi_str_str, isi_str_tuple, isi_str_list, isi_tup_int, isi_tup_bool, isi_tup_str, isi_tup_tuple, isi_tup_list, isi_frz_int, isi_frz_bool, isi_frz_str, isi_frz_tuple, isi_frz_list, len_tup, len_frz, ix0, ix1, ix2, ix3, ix4, ix5, neg_int, add_int, sub_int, add_tup, is_non, in_cdt, in_chr, ord_int, mod_int, fdiv_int, int_int, DV.sl_tup, itV_tup, itV_frz, list_tup, lit_big, Int.cast_ofNat_Int, enK_tup, aPair, cast_succ0, $xs,*])
theorem index_ints {h : DH} {n j : Nat} {ns : List Int} {i : Int} (e : h[n]? = some (.lst (ns.map .int))) (f : ns.findIdx? (fun z => decide (z = i)) = some j) : indexM (.ref n) [.int i] h = .ok (.int (j : Nat)) h := by
  have z : toPy h 60 (.ref n) = some (.list (ns.map .int)) := by
    simp only [toPy, e]
    rw [ints_seq]
    rfl
  have z2 : toPy h 60 (.int i) = some (.int i) := rfl
  have sh : SeqAt.shaped (.list (ns.map .int)) = true := by
    have := ints_depth ns
    simp only [SeqAt.shaped, PyData.canLay0, ints_lay, Bool.true_and]
    exact decide_eq_true (by omega)
  have sh2 : SeqAt.shaped (.int i) = true := rfl
  have f2 : (ns.map PyData.int).findIdx? (fun z => PyData.eqv z (.int i)) = some j := by
    rw [List.findIdx?_map, ← f]
    congr 1
  simp only [indexM, z, z2, f2]
  rw [if_pos ⟨sh, sh2⟩]
section
variable {h : DH}
theorem flip_lt {N i : Nat} (l : i < N) : flipN N i < N := by
  unfold flipN
  split <;> omega
theorem flip_flip {N i : Nat} (l : i < N) : flipN N (flipN N i) = i := by
  unfold flipN
  split
  · rename_i e; rw [if_pos rfl]; exact e.symm
  · split <;> omega
def reN (N : Nat) (d : D) : D := match d with
  | .tup [m, .int x] => .tup [m, .int (flipN N x.toNat : Nat)]
  | _ => .non
theorem g31 (k : Nat) {r : Rule} (ok : r.Ok) (N4 : r.phs.length ≤ 4) {n : Nat} {os : List Int} (hn : h[n]? = some (.lst (os.map .int))) (ol : os.length = r.phs.length) (o1 : ∀ i, i < r.phs.length → os[i]? = some ((flipN r.phs.length i : Nat) : Int)) (o2 : ∀ x : Nat, x < r.phs.length → os.findIdx? (fun z => decide (z = (x : Int))) = some (flipN r.phs.length x)) :
    Ok (cF (k + 1) 31 [ruleD r, .ref n] h) fun v h' => (∃ r', v = ruleD r' ∧ r'.marks = r.marks ∧ r'.phs.length = r.phs.length ∧ ∀ i, i < r.phs.length → r'.phs[i]? = r.phs[flipN r.phs.length i]?.map (flipPh r.phs.length)) ∧ h <+: h' := by
  have bg : big = 16777216 := rfl
  have nl := (List.getElem?_eq_some_iff.mp hn).1
  have a2 : ∀ (a0 a1 : D) (env : DV.Env) (i j : Nat), aTup 2 (aCons (aName i) (aCons (aName j) aNil)) (.tup [a0, a1]) env = some ((env.set i (some a0)).set j (some a1)) := fun _ _ _ _ _ => rfl
  rw [step_]
  refine (wE_run rfl).mpr ?_
  show wS (m31 (cF k) [some _, some _, none, none, none, none] h) _ _
  unfold m31
  generalize hN : r.phs.length = N at *
  simp_arith! []
  rw [wS_for]
  simp_arith! [itV_ref (app_l (x := [DO.lst []]) hn)]
  refine wS_cut (fun env h' => ∃ (qs : List Ph) (x3 x4 x5 : Option D), env = [some (ruleD r), some (.ref n), some (.ref h.length), x3, x4, x5] ∧ h <+: h' ∧ h'[h.length]? = some (.lst (qs.map phD)) ∧ qs.length = N ∧ ∀ j, j < N → qs[j]? = r.phs[flipN N j]?.map (flipPh N)) ?_ ?_
  · refine wS_forR (ds := os.map .int) (fun i env h' => ∃ (qs : List Ph) (x3 x4 x5 : Option D), env = [some (ruleD r), some (.ref n), some (.ref h.length), x3, x4, x5] ∧ h <+: h' ∧ h'[h.length]? = some (.lst (qs.map phD)) ∧ qs.length = i ∧ ∀ j, j < i → qs[j]? = r.phs[flipN N j]?.map (flipPh N)) (by rw [List.length_map]; omega) ?_ ?_ ?_ ?_
    · exact ⟨[], none, none, none, rfl, pre_app, app_get, rfl, by intro j hj; omega⟩
    · rintro i env h' ⟨qs, _, _, _, _, p, _⟩
      exact pre_get p hn
    · rintro i d env h' hd ⟨qs, x3, x4, x5, rfl, p, hq, ql, all⟩
      have il : i < N := by
        have := (List.getElem?_eq_some_iff.mp hd).1
        rw [List.length_map] at this
        omega
      rw [List.getElem?_map, o1 i il] at hd
      cases hd
      have fl := flip_lt il
      have hp : r.phs[flipN N i]? = some r.phs[flipN N i] := List.getElem?_eq_getElem (by omega)
      generalize r.phs[flipN N i] = P at hp
      obtain ⟨t1, t2, t3⟩ := ok.nx P (List.mem_of_getElem? hp)
      rw [hN] at t1 t2 t3
      refine ⟨_, rfl, ?_⟩
      have ix0 : ixD (ruleD r) (.int 1) h' = .ok (.tup (r.phs.map phD)) h' := rfl
      have ix : ixD (.tup (r.phs.map phD)) (.int (flipN N i : Nat)) h' = .ok (.tup [pD P.near, pD P.at_, pD P.far]) h' := ix_at (by rw [List.getElem?_map, hp]; rfl)
      simp_arith! [tyD_lst hq, ix0, ix]
      rw [u_lcS_pure (fun d => match d with | .tup [m, x] => [some (ruleD r), some (.ref n), some (.ref h.length), some (.int (flipN N i : Nat)), some m, some x] | _ => []) (fun _ => true) (reN N) ?_]
      · have e : List.map (reN N) (List.filter (fun _ => true) [pD P.near, pD P.at_, pD P.far]) = [pD (flipP N P.near), pD (flipP N P.at_), pD (flipP N P.far)] := by
          rw [List.filter_eq_self.mpr (by simp)]
          simp [reN, pD, flipP]
        rw [e]
        have hq2 := app_l (x := [DO.lst [pD (flipP N P.near), pD (flipP N P.at_), pD (flipP N P.far)]]) hq
        have ap := append_ref (d := .tup [pD (flipP N P.near), pD (flipP N P.at_), pD (flipP N P.far)]) hq2 (by rw [List.length_map]; omega)
        simp_arith! [tuple_ref app_get, ap]
        refine ⟨qs ++ [flipPh N P], _, _, _, rfl, pre_set (p.trans pre_app) (Nat.le_refl _), ?_, by rw [List.length_append, ql]; rfl, ?_⟩
        · rw [get_set (by rw [hq2]; rfl), List.map_append]
          rfl
        · intro j hj
          by_cases ji : j < i
          · rw [List.getElem?_append_left (by omega)]
            exact all j ji
          · have : j = i := by omega
            subst this
            rw [List.getElem?_append_right (by omega), ql, Nat.sub_self, hp]
            rfl
      · intro d m
        have hd : ∃ q : Mv × Nat, d = pD q ∧ q.2 < N := by
          simp only [List.mem_cons, List.not_mem_nil, or_false] at m
          rcases m with rfl | rfl | rfl
          · exact ⟨_, rfl, t1⟩
          · exact ⟨_, rfl, t2⟩
          · exact ⟨_, rfl, t3⟩
        obtain ⟨q, rfl, qN⟩ := hd
        have hn' := pre_get p hn
        have ixx := index_ints hn' (o2 q.2 qN)
        have re : reN N (pD q) = .tup [.str (mT q.1), .int (flipN N q.2 : Nat)] := by simp [reN, pD]
        refine ⟨rfl, rfl, fun _ => ?_⟩
        apply Ok.run
        rw [re]
        show wE _ _ _ ⟨⟩
        simp_arith [pD, tyD_lst hn', ixx]
    · rintro env h' ⟨qs, x3, x4, x5, rfl, p, hq, ql, all⟩
      rw [List.length_map, ol] at ql all
      exact ⟨qs, _, _, _, rfl, p, hq, ql, all⟩
  · rintro env h' ⟨qs, x3, x4, x5, rfl, p, hq, ql, all⟩
    show wS _ _ ⟨⟩
    have ix0 : ixD (ruleD r) (.int 0) h' = .ok (.tup (r.marks.map .int)) h' := rfl
    simp_arith! [ix0, tuple_ref hq]
    exact ⟨⟨⟨r.marks, qs⟩, rfl, rfl, ql, all⟩, p⟩
end
end K62
namespace K62
open PySem DV L2
local macro_rules | `(tactic| simp_arith [$xs,*]) => `(tactic| simp only [wE_ok, wE_exc, wE_bad, wE_bind, wE_dbind, wE_if, wE_noX, ↓wS_seq, ↓wS_nil, ↓wS_pass, ↓wS_break, ↓wS_cont, ↓wS_expr, ↓wS_ret, ↓wS_retN, ↓wS_if, wG_some, wG_none, setAll, ↓wS_asg, ↓wS_par, ↓wS_set, ↓wS_setN, ↓wS_raise, ↓wS_try, ↓wS_for, wS_nx, wS_rt, forI_items, forS_nil, ↓forS_cons, ↓u_varO, uO_some, ↓u_cst, ↓u_nil, ↓u_cons, ↓u_d2, ↓u_tru, ↓u_bl, ↓u_and, ↓u_or, ↓u_tand, ↓u_tor, ↓u_tnot, ↓u_not, ↓u_neg, ↓u_ite, ↓u_tup, ↓u_lst, ↓u_call, ↓u_callF, ↓u_meth, ↓u_sl, ↓u_pNone, ↓u_pSome, ↓u_rev, ↓u_dic0, ↓u_prs0, ↓u_prs, ↓u_dic, ↓u_dicN, ↓u_lr2, ↓u_iVal, ↓u_iEn, ↓u_iRng1, ↓u_iRng2, u_yes, ↓u_sortSet, ↓u_lc, aName_run, List.set_cons_zero, List.set_cons_succ, List.getElem?_cons_zero, List.getElem?_cons_succ, List.append_nil, List.length_cons, List.length_nil, truD_bl, truD_non, truD_int, truD_tup, blD_bl, pInt, eqB_int, eqB_str, reduceIte, Nat.reduceAdd, Nat.zero_add, Nat.reduceLeDiff, true_and, and_true, Bool.not_true, Bool.not_false, Bool.false_eq_true, Bool.true_eq_false, decide_true, decide_false, isi_non_int, isi_non_bool, isi_non_str, isi_non_tuple, isi_non_list, isi_bl_int, isi_bl_bool, isi_bl_str, isi_bl_tuple, isi_bl_list, isi_int_int, isi_int_bool, isi_int_str, isi_int_tuple, isi_int_list, isi_str_int, isi_str_bool, isi_str_str, isi_str_tuple, isi_str_list, isi_tup_int, isi_tup_bool, isi_tup_str, isi_tup_tuple, isi_tup_list, isi_frz_int, isi_frz_bool, isi_frz_str, isi_frz_tuple, isi_frz_list, len_tup, len_frz, ix0, ix1, ix2, ix3, ix4, ix5, neg_int, add_int, sub_int, add_tup, is_non, in_cdt, in_chr, ord_int, mod_int, fdiv_int, int_int, DV.sl_tup, itV_tup, itV_frz, list_tup, lit_big, Int.cast_ofNat_Int, enK_tup, aPair, cast_succ0, $xs,*])
local macro_rules | `(tactic| simp_arith! [$xs,*]) => `(tactic| simp only [wE_ok, wE_exc, wE_bad, wE_bind, wE_dbind, wE_if, wE_noX, ↓wS_seq, ↓wS_nil, ↓wS_pass, ↓wS_break, ↓wS_cont, ↓wS_expr, ↓wS_ret, ↓wS_retN, wG_some, wG_none, setAll, ↓wS_asg, ↓wS_par, ↓wS_set, ↓wS_setN, ↓wS_raise, ↓wS_try, wS_nx, wS_rt, forI_items, forS_nil, ↓u_varO, uO_some, ↓u_cst, ↓u_nil, ↓u_cons, ↓u_d2, ↓u_tru, ↓u_bl, ↓u_and, ↓u_or, ↓u_tand, ↓u_tor, ↓u_tnot, ↓u_not, ↓u_neg, ↓u_ite, ↓u_tup, ↓u_lst, ↓u_call, ↓u_callF, ↓u_meth, ↓u_sl, ↓u_pNone, ↓u_pSome, ↓u_rev, ↓u_dic0, ↓u_prs0, ↓u_prs, ↓u_dic, ↓u_dicN, ↓u_lr2, ↓u_iVal, ↓u_iEn, ↓u_iRng1, ↓u_iRng2, u_yes, ↓u_sortSet, ↓u_lc, aName_run, List.set_cons_zero, List.set_cons_succ, List.getElem?_cons_zero, List.getElem?_cons_succ, List.append_nil, List.length_cons, List.length_nil, truD_bl, truD_non, truD_int, truD_tup, blD_bl, pInt, eqB_int, eqB_str, reduceIte, Nat.reduceAdd, Nat.zero_add, Nat.reduceLeDiff, true_and, and_true, Bool.not_true, Bool.not_false, Bool.false_eq_true, Bool.true_eq_false, decide_true, decide_false, isi_non_int, isi_non_bool, isi_non_str, isi_non_tuple, isi_non_list, isi_bl_int, isi_bl_bool, isi_bl_str, isi_bl_tuple, isi_bl_list, isi_int_int, isi_int_bool, isi_int_str, isi_int_tuple, isi_int_list, isi_str_int, isi_str_bool, isi_str_str, isi_str_tuple, isi_str_list, isi_tup_int, isi_tup_bool, isi_tup_str, isi_tup_tuple, isi_tup_list, isi_frz_int, isi_frz_bool, isi_frz_str, isi_frz_tuple, isi_frz_list, len_tup, len_frz, ix0, ix1, ix2, ix3, ix4, ix5, neg_int, add_int, sub_int, add_tup, is_non, in_cdt, in_chr, ord_int, mod_int, fdiv_int, int_int, DV.sl_tup, itV_tup, itV_frz, list_tup, lit_big, Int.cast_ofNat_Int, enK_tup, aPair, cast_succ0, $xs,*])
def dupQ (k n : Nat) (d : D) : D := match d with
  | .tup [m, .int x] => .tup [m, .int (if x = (k : Int) then (n : Int) else x)]
  | _ => .non
theorem dupQ_p (k n : Nat) (p : Mv × Nat) : dupQ k n (pD p) = pD (dupP k n p) := by
  unfold pD dupP
  simp only [dupQ]
  by_cases e : p.2 = k
  · rw [if_pos e, if_pos (by omega)]
  · rw [if_neg e, if_neg (by omega)]
def swapT (w : Txt) : Txt := if w = tx "take" then tx "next" else if w = tx "next" then tx "take" else w
theorem swapT_m (m : Mv) : swapT (mT m) = mT (swapM m) := by
  cases m <;> simp only [swapT, mT_take, mT_next, reduceCtorEq, if_true, if_false] <;> rfl
def swapQ (d : D) : D := match d with
  | .tup [a, .tup [.str w, x], c] => .tup [a, .tup [.str (swapT w), x], c]
  | _ => .non
def swapP (p : Ph) : Ph := ⟨p.near, (swapM p.at_.1, p.at_.2), p.far⟩
theorem swapQ_p (p : Ph) : swapQ (phD p) = phD (swapP p) := by
  unfold phD pD
  simp only [swapQ, swapT_m, swapP]
def swapL : List (D × D) := [(.str (tx "take"), .str (tx "next")), (.str (tx "next"), .str (tx "take")), (.str (tx "out"), .str (tx "out")), (.str (tx "wait"), .str (tx "wait"))]
theorem swap_merge : mergeD [] swapL = swapL := by
  have h1 : tx "take" = [116, 97, 107, 101] := by decide +kernel
  have h2 : tx "next" = [110, 101, 120, 116] := by decide +kernel
  have h3 : tx "out" = [111, 117, 116] := by decide +kernel
  have h4 : tx "wait" = [119, 97, 105, 116] := by decide +kernel
  simp [swapL, mergeD, putD, keq, h1, h2, h3, h4]
theorem swap_look (m : Mv) : lookK (.str (mT m)) swapL = some (.str (mT (swapM m))) := by
  have h1 : tx "take" = [116, 97, 107, 101] := by decide +kernel
  have h2 : tx "next" = [110, 101, 120, 116] := by decide +kernel
  have h3 : tx "out" = [111, 117, 116] := by decide +kernel
  have h4 : tx "wait" = [119, 97, 105, 116] := by decide +kernel
  cases m <;> simp [swapL, lookK, keq, mT, swapM, h1, h2, h3, h4]
theorem wE_lr3 {Q : D → DH → Prop} {X : XQ} {t : Tg2 Q X} {ml : DEn (List D)} {env : DV.Env} {h : DH} : wE (dLr3 ml env h) Q X t = wE (ml env h) (fun ds h => wE (dLr3 (fun _ h => .ok ds h) [] h) Q X ⟨⟩) X ⟨⟩ := by
  unfold dLr3
  rw [wE_dbind]
  refine wE_cg fun ds h => ?_
  rw [wE_dbind]
  rfl
theorem lr3_0 {h : DH} : dLr3 (fun _ h => .ok [.int 0, .int 0, .int (-1)] h) [] h = .ok (.ref h.length) (h ++ [.lst []]) := by
  rfl
theorem lr3_1 {h : DH} : dLr3 (fun _ h => .ok [.int 1, .int 0, .int (-1)] h) [] h = .ok (.ref h.length) (h ++ [.lst [.int 1]]) := by
  rfl
theorem lr3_2 {h : DH} : dLr3 (fun _ h => .ok [.int 2, .int 0, .int (-1)] h) [] h = .ok (.ref h.length) (h ++ [.lst [.int 2, .int 1]]) := by
  rfl
theorem nums (N : Nat) (h : 0 < N ∧ N ≤ 3) : ∃ l : List Int, (∀ h : DH, dLr3 (fun _ h => .ok [.int ((N : Int) - 1), .int 0, .int (-1)] h) [] h = .ok (.ref h.length) (h ++ [.lst (l.map .int)])) ∧ (0 :: l).length = N ∧ (∀ i, i < N → (0 :: l)[i]? = some ((flipN N i : Nat) : Int)) ∧ ∀ x : Nat, x < N → (0 :: l).findIdx? (fun z => decide (z = (x : Int))) = some (flipN N x) := by
  have : N = 1 ∨ N = 2 ∨ N = 3 := by omega
  rcases this with rfl | rfl | rfl
  · exact ⟨[], fun h => lr3_0, rfl, by decide, by decide⟩
  · exact ⟨[1], fun h => lr3_1, rfl, by decide, by decide⟩
  · exact ⟨[2, 1], fun h => lr3_2, rfl, by decide, by decide⟩
section
variable {h : DH}
def TwV (r : Rule) (v : D) : Prop := ∃ r', v = ruleD r' ∧ RD 3 r' ∧ Twin r r'
theorem g32 (k : Nat) {r : Rule} (rd : RD 3 r) (src : Src h) : Ok (cF (k + 4) 32 [.ref 2, ruleD r] h) fun v h' => TwV r v ∧ Src h' ∧ Kp h h' := by
  have bg : big = 16777216 := rfl
  have a2 : ∀ (a0 a1 : D) (env : DV.Env) (i j : Nat), aTup 2 (aCons (aName i) (aCons (aName j) aNil)) (.tup [a0, a1]) env = some ((env.set i (some a0)).set j (some a1)) := fun _ _ _ _ _ => rfl
  have ml := rd.len
  have pl := rd.ps
  have p0 := List.length_pos_iff.mpr rd.ok.ne
  rw [step_]
  refine (wE_run rfl).mpr ?_
  show wS (m32 (cF (k + 3)) [some _, some _, none, none, none, none, none, none, none, none, none, none, none, none, none, none] h) _ _
  unfold m32
  rw [show ruleD r = .tup [.tup (r.marks.map .int), .tup (r.phs.map phD)] from rfl]
  rw [wS_seq]
  refine wS_cut (fun env h' => env = [some (.ref 2), some (ruleD r), some (.tup (r.marks.map .int)), some (.tup (r.phs.map phD)), none, none, none, none, none, none, none, none, none, none, none, none] ∧ h' = h) ?_ ?_
  · simp_arith! [a2]
    rfl
  rintro env h' ⟨rfl, rfl⟩
  show wS _ _ ⟨⟩
  rw [wS_seq]
  refine wS_cut (fun env h1 => env = [some (.ref 2), some (ruleD r), some (.tup (r.marks.map .int)), some (.tup (r.phs.map phD)), some (.int (r.phs.length : Nat)), none, none, none, none, none, none, none, none, none, none, none] ∧ h1 = h') ?_ ?_
  · simp_arith! [List.length_map]
  rintro env h ⟨rfl, rfl⟩
  show wS _ _ ⟨⟩
  rw [wS_seq]
  refine wS_cut (fun env h' => ∃ t : Nat, env = [some (.ref 2), some (ruleD r), some (.tup (r.marks.map .int)), some (.tup (r.phs.map phD)), some (.int (r.phs.length : Nat)), some (.int (t : Nat)), none, none, none, none, none, none, none, none, none, none] ∧ t < 4 ∧ (t = 0 ∨ t = 3 → r.phs.length ≤ 2) ∧ Src h' ∧ Kp h h') ?_ ?_
  · rw [wS_asg]
    simp_arith! [OrdK.z]
    by_cases m2 : (2 : Int) < (r.phs.length : Nat)
    · simp_arith! [m2]
      refine wE_of (g18 (k + 2) src (by decide) (by decide)) ?_
      rintro v h1 ⟨j, rfl, jl, s1, k1⟩
      simp_arith! []
      refine ⟨1 + j, ?_, by omega, by omega, s1, k1⟩
      rw [show (1 + (j : Int)) = ((1 + j : Nat) : Int) by omega]
    · simp_arith! [m2]
      refine wE_of (g18 (k + 2) src (by decide) (by decide)) ?_
      rintro v h1 ⟨j, rfl, jl, s1, k1⟩
      simp_arith! []
      exact ⟨j, rfl, by omega, by omega, s1, k1⟩
  · rintro env h1 ⟨t, rfl, t4, tm, s1, k1⟩
    show wS _ _ ⟨⟩
    rw [wS_seq]
    refine wS_cut (fun env h' => env = [some (.ref 2), some (ruleD r), some (.tup (r.marks.map .int)), some (.tup (r.phs.map phD)), some (.int (r.phs.length : Nat)), some (.int (t : Nat)), none, none, none, none, none, none, none, none, none, none] ∧ t ≠ 0 ∧ h' = h1) ?_ ?_
    · rw [wS_if]
      simp_arith! []
      by_cases t0 : (t : Int) = 0
      · have n2 := tm (.inl (by omega))
        simp_arith! [t0]
        refine ⟨3, rfl, by decide, ?_⟩
        refine u_lcS (fun i acc h' => acc.length = i ∧ (∀ d ∈ acc, Prv ((r.phs.length + 1 : Nat) : Int) d) ∧ Src h' ∧ Kp h1 h') ⟨rfl, by simp, s1, Kp.refl⟩ ?_ ?_
        · rintro i d acc h2 hd ⟨al, ap, s2, k2⟩
          refine ⟨[some (.ref 2), some (ruleD r), some (.tup (r.marks.map .int)), some (.tup (r.phs.map phD)), some (.int (r.phs.length : Nat)), some (.int 0), none, none, none, none, some d, none, none, none, none, none], rfl, ?_⟩
          simp_arith! []
          have em : ((r.phs.length : Int) + 1) = ((r.phs.length + 1 : Nat) : Int) := by omega
          rw [em]
          refine wE_of (g27 k s2 (by omega) (by omega)) ?_
          rintro v h3 ⟨pv, s3, k3⟩
          refine ⟨by rw [List.length_append, al]; rfl, ?_, s3, k2.trans k3⟩
          intro d' m'
          rcases List.mem_append.mp m' with m' | m'
          · exact ap d' m'
          · rw [List.mem_singleton.mp m']; exact pv
        · rintro acc h2 ⟨al, ap, s2, k2⟩
          have al : acc.length = 3 := al
          obtain ⟨p, ep, tp⟩ := three al ap
          have bl : (r.phs.map phD).length + 1 ≤ big := by rw [List.length_map]; omega
          refine ⟨by omega, ?_⟩
          simp_arith! [tuple_ref app_get, ep, bl]
          refine ⟨⟨⟨r.marks, r.phs ++ [p]⟩, by simp [ruleD], ⟨⟨by simp, ?_, rd.ok.up⟩, rd.rg, ?_⟩, twin_more rd.ok p⟩, s2.kp pre_app, (k1.trans k2).trans Kp.app⟩
          · intro x mx
            show x.near.2 < (r.phs ++ [p]).length ∧ x.at_.2 < (r.phs ++ [p]).length ∧ x.far.2 < (r.phs ++ [p]).length
            rw [List.length_append]
            rcases List.mem_append.mp mx with mx | mx
            · have := rd.ok.nx x mx
              simp
              omega
            · rw [List.mem_singleton.mp mx]
              exact tp
          · show (r.phs ++ [p]).length ≤ 3
            rw [List.length_append]
            simp
            omega
      · simp_arith! [t0]
        omega
    · rintro env h2 ⟨rfl, t0, rfl⟩
      show wS _ _ ⟨⟩
      rw [wS_seq]
      refine wS_cut (fun env h' => env = [some (.ref 2), some (ruleD r), some (.tup (r.marks.map .int)), some (.tup (r.phs.map phD)), some (.int (r.phs.length : Nat)), some (.int (t : Nat)), none, none, none, none, none, none, none, none, none, none] ∧ t ≠ 1 ∧ h' = h2) ?_ ?_
      · rw [wS_if]
        simp_arith! []
        by_cases t1 : (t : Int) = 1
        · obtain ⟨l, ln, ll, l1, l2⟩ := nums r.phs.length ⟨p0, pl⟩
          simp_arith! [t1, wE_lr3, ln]
          have ad := add_lst (h := h2 ++ [DO.lst [D.int 0]] ++ [DO.lst (l.map .int)]) (app_l app_get) app_get (ds := [D.int 0]) (es := l.map .int) (by rw [List.length_cons] at ll; simp; omega)
          simp_arith! [ad]
          refine wE_of (g31 (k + 2) rd.ok (by omega) (os := 0 :: l) app_get ll l1 l2) ?_
          rintro v h3 ⟨⟨r', rfl, hm, hl, all⟩, p3⟩
          have p4 : h2 <+: h3 := ((pre_app.trans pre_app).trans pre_app).trans p3
          refine ⟨⟨r', rfl, ⟨⟨?_, ?_, ?_⟩, ?_, by omega⟩, twin_flip rd.ok hm ?_⟩, s1.kp p4, k1.trans (Kp.of_pre p4)⟩
          · intro e
            rw [e] at hl
            simp at hl
            omega
          · intro x mx
            obtain ⟨i, hi, rfl⟩ := List.getElem_of_mem mx
            have a := all i (by omega)
            rw [List.getElem?_eq_getElem hi, List.getElem?_eq_getElem (flip_lt (by omega))] at a
            have a := Option.some.inj a
            rw [a, hl]
            obtain ⟨q1, q2, q3⟩ := rd.ok.nx _ (List.getElem_mem (flip_lt (N := r.phs.length) (i := i) (by omega)))
            exact ⟨flip_lt q1, flip_lt q2, flip_lt q3⟩
          · rw [hm]; exact rd.ok.up
          · rw [hm]; exact rd.rg
          · intro i hi
            rw [all _ (flip_lt hi), flip_flip hi]
        · simp_arith! [t1]
          omega
      · rintro env h3 ⟨rfl, t1, rfl⟩
        show wS _ _ ⟨⟩
        have a3 : ∀ (a0 a1 a2 : D) (env : DV.Env) (i j l : Nat), aTup 3 (aCons (aName i) (aCons (aName j) (aCons (aName l) aNil))) (.tup [a0, a1, a2]) env = some (((env.set i (some a0)).set j (some a1)).set l (some a2)) := fun _ _ _ _ _ _ _ => rfl
        rw [wS_seq]
        refine wS_cut (fun env h' => env = [some (.ref 2), some (ruleD r), some (.tup (r.marks.map .int)), some (.tup (r.phs.map phD)), some (.int (r.phs.length : Nat)), some (.int (t : Nat)), none, none, none, none, none, none, none, none, none, none] ∧ t ≠ 2 ∧ h' = h3) ?_ ?_
        · rw [wS_if]
          simp_arith! []
          by_cases t2 : (t : Int) = 2
          · have sm : mergeD [] [(D.str (tx "take"), D.str (tx "next")), (.str (tx "next"), .str (tx "take")), (.str (tx "out"), .str (tx "out")), (.str (tx "wait"), .str (tx "wait"))] = swapL := swap_merge
            simp_arith! [t2, sm]
            refine ⟨rfl, ?_⟩
            rw [u_lcS_pure (fun d => match d with | .tup [a, b, c] => [some (.ref 2), some (ruleD r), some (.tup (r.marks.map .int)), some (.tup (r.phs.map phD)), some (.int (r.phs.length : Nat)), some (.int 2), some (.ref h3.length), none, none, none, none, some a, some b, some c, none, none] | _ => []) (fun _ => true) swapQ ?_]
            · have e : List.map swapQ (List.filter (fun _ => true) (r.phs.map phD)) = (r.phs.map swapP).map phD := by
                rw [List.filter_eq_self.mpr (by simp), List.map_map, List.map_map]
                exact List.map_congr_left fun p _ => swapQ_p p
              rw [e]
              refine ⟨by rw [List.length_map, List.length_map]; omega, ?_⟩
              simp_arith! [tuple_ref app_get]
              refine ⟨⟨⟨r.marks, r.phs.map swapP⟩, rfl, ⟨⟨?_, ?_, rd.ok.up⟩, rd.rg, by show (r.phs.map swapP).length ≤ 3; rw [List.length_map]; exact pl⟩, twin_swap rd.ok⟩, (s1.kp pre_app).kp pre_app, k1.trans (Kp.app.trans Kp.app)⟩
              · intro e
                have := congrArg List.length e
                simp at this
                exact rd.ok.ne this
              · intro x mx
                show x.near.2 < (r.phs.map swapP).length ∧ x.at_.2 < (r.phs.map swapP).length ∧ x.far.2 < (r.phs.map swapP).length
                rw [List.length_map]
                obtain ⟨p, mp, rfl⟩ := List.mem_map.mp mx
                exact rd.ok.nx p mp
            · intro d m
              obtain ⟨p, _, rfl⟩ := List.mem_map.mp m
              refine ⟨rfl, rfl, fun _ => ?_⟩
              apply Ok.run
              rw [swapQ_p]
              have ixs := ix_dct (h := h3 ++ [DO.dct swapL]) (n := h3.length) (by simp) (swap_look p.at_.1)
              show wE _ _ _ ⟨⟩
              simp_arith [phD, pD, ixs, swapP]
          · simp_arith! [t2]
            omega
        · rintro env h4 ⟨rfl, t2, rfl⟩
          show wS _ _ ⟨⟩
          have n2 := tm (.inr (by omega))
          have a2' := a2
          simp_arith! []
          refine wE_of (g18 (k + 2) s1 (by omega) (by omega)) ?_
          rintro v h5 ⟨c, rfl, cl, s5, k5⟩
          have cn : c < r.phs.length := by omega
          have hq : r.phs[c]? = some r.phs[c] := List.getElem?_eq_getElem cn
          generalize r.phs[c] = q at hq
          simp_arith! []
          have ix : ixD (.tup (r.phs.map phD)) (.int (c : Nat)) (h5 ++ [DO.lst []]) = .ok (phD q) (h5 ++ [DO.lst []]) := ix_at (by rw [List.getElem?_map, hq]; rfl)
          have bl : (r.phs.map phD).length + 1 ≤ big := by rw [List.length_map]; omega
          rw [wS_for]
          simp_arith! [ix, bl]
          have el : r.phs.map phD ++ [phD q] = (r.phs ++ [q]).map phD := by simp
          rw [el]
          refine wS_cut (fun env h' => ∃ x9 x10 x11 x12 x13 x14 x15, env = [some (.ref 2), some (ruleD r), some (.tup (r.marks.map .int)), some (.tup (r.phs.map phD)), some (.int (r.phs.length : Nat)), some (.int (t : Nat)), none, some (.int (c : Nat)), some (.ref h5.length), x9, x10, x11, x12, x13, x14, x15] ∧ h5 <+: h' ∧ h'[h5.length]? = some (.lst (((r.phs ++ [q]).map (dupPh c r.phs.length)).map phD))) ?_ ?_
          · refine wS_forS (fun i env h' => ∃ x9 x10 x11 x12 x13 x14 x15, env = [some (.ref 2), some (ruleD r), some (.tup (r.marks.map .int)), some (.tup (r.phs.map phD)), some (.int (r.phs.length : Nat)), some (.int (t : Nat)), none, some (.int (c : Nat)), some (.ref h5.length), x9, x10, x11, x12, x13, x14, x15] ∧ h5 <+: h' ∧ h'[h5.length]? = some (.lst ((((r.phs ++ [q]).take i).map (dupPh c r.phs.length)).map phD))) ?_ ?_ ?_
            · exact ⟨_, _, _, _, _, _, _, rfl, pre_app, app_get⟩
            · rintro i d env h' hd ⟨x9, x10, x11, x12, x13, x14, x15, rfl, p, hn⟩
              rw [List.getElem?_map] at hd
              obtain ⟨P, hP, rfl⟩ := Option.map_eq_some_iff.mp hd
              refine ⟨_, rfl, ?_⟩
              have eP : phD P = .tup [pD P.near, pD P.at_, pD P.far] := rfl
              rw [eP]
              simp_arith! [tyD_lst hn]
              rw [u_lcS_pure (fun d => match d with | .tup [m, x] => [some (.ref 2), some (ruleD r), some (.tup (r.marks.map .int)), some (.tup (r.phs.map phD)), some (.int (r.phs.length : Nat)), some (.int (t : Nat)), none, some (.int (c : Nat)), some (.ref h5.length), some (.tup [pD P.near, pD P.at_, pD P.far]), x10, x11, x12, x13, some m, some x] | _ => []) (fun _ => true) (dupQ c r.phs.length) ?_]
              · have e : List.map (dupQ c r.phs.length) (List.filter (fun _ => true) [pD P.near, pD P.at_, pD P.far]) = [pD (dupP c r.phs.length P.near), pD (dupP c r.phs.length P.at_), pD (dupP c r.phs.length P.far)] := by
                  rw [List.filter_eq_self.mpr (by simp)]
                  simp [dupQ_p]
                rw [e]
                have il := (List.getElem?_eq_some_iff.mp hP).1
                rw [List.length_append, List.length_singleton] at il
                have hn2 := app_l (x := [DO.lst [pD (dupP c r.phs.length P.near), pD (dupP c r.phs.length P.at_), pD (dupP c r.phs.length P.far)]]) hn
                have ap := append_ref (d := .tup [pD (dupP c r.phs.length P.near), pD (dupP c r.phs.length P.at_), pD (dupP c r.phs.length P.far)]) hn2 (by rw [List.length_map, List.length_map, List.length_take]; omega)
                simp_arith! [tuple_ref app_get, ap]
                refine ⟨_, _, _, _, _, _, _, rfl, pre_set (p.trans pre_app) (Nat.le_refl _), ?_⟩
                rw [get_set (by rw [hn2]; rfl), List.take_add_one, hP, List.map_append, List.map_append]
                rfl
              · intro d m
                have hd : ∃ q : Mv × Nat, d = pD q := by
                  simp only [List.mem_cons, List.not_mem_nil, or_false] at m
                  rcases m with rfl | rfl | rfl <;> exact ⟨_, rfl⟩
                obtain ⟨q, rfl⟩ := hd
                refine ⟨rfl, rfl, fun _ => ?_⟩
                apply Ok.run
                rw [dupQ_p]
                show wE _ _ _ ⟨⟩
                unfold dupP
                by_cases e : q.2 = c
                · have e2 : ((q.2 : Nat) : Int) = (c : Nat) := by omega
                  rw [if_pos e]
                  simp_arith [pD, e2]
                · have e2 : ¬ ((q.2 : Nat) : Int) = (c : Nat) := by omega
                  rw [if_neg e]
                  simp_arith [pD, e2]
            · rintro env h' ⟨x9, x10, x11, x12, x13, x14, x15, rfl, p, hn⟩
              rw [List.length_map, List.take_length] at hn
              exact ⟨_, _, _, _, _, _, _, rfl, p, hn⟩
          · rintro env h' ⟨x9, x10, x11, x12, x13, x14, x15, rfl, p, hn⟩
            show wS _ _ ⟨⟩
            simp_arith! [tuple_ref hn]
            refine ⟨⟨⟨r.marks, (r.phs ++ [q]).map (dupPh c r.phs.length)⟩, rfl, ⟨⟨by simp, ?_, rd.ok.up⟩, rd.rg, by show ((r.phs ++ [q]).map (dupPh c r.phs.length)).length ≤ 3; rw [List.length_map, List.length_append]; simp; omega⟩, twin_dup rd.ok hq⟩, s5.kp p, (k1.trans k5).trans (Kp.of_pre p)⟩
            intro x mx
            show x.near.2 < ((r.phs ++ [q]).map (dupPh c r.phs.length)).length ∧ x.at_.2 < ((r.phs ++ [q]).map (dupPh c r.phs.length)).length ∧ x.far.2 < ((r.phs ++ [q]).map (dupPh c r.phs.length)).length
            rw [List.length_map, List.length_append, List.length_singleton]
            obtain ⟨P, mP, rfl⟩ := List.mem_map.mp mx
            have mP : P ∈ r.phs := by
              rcases List.mem_append.mp mP with m | m
              · exact m
              · rw [List.mem_singleton.mp m]; exact List.mem_of_getElem? hq
            obtain ⟨q1, q2, q3⟩ := rd.ok.nx P mP
            have one : ∀ z : Mv × Nat, z.2 < r.phs.length → (dupP c r.phs.length z).2 < r.phs.length + 1 := by
              intro z hz
              unfold dupP
              dsimp only
              split <;> omega
            exact ⟨one _ q1, one _ q2, one _ q3⟩
end
end K62
namespace K62
open PySem DV L2
local macro_rules | `(tactic| simp_arith [$xs,*]) => `(tactic| simp only [wE_ok, wE_exc, wE_bad, wE_bind, wE_dbind, wE_if, wE_noX, ↓wS_seq, ↓wS_nil, ↓wS_pass, ↓wS_break, ↓wS_cont, ↓wS_expr, ↓wS_ret, ↓wS_retN, ↓wS_if, wG_some, wG_none, setAll, ↓wS_asg, ↓wS_par, ↓wS_set, ↓wS_setN, ↓wS_raise, ↓wS_try, ↓wS_for, wS_nx, wS_rt, forI_items, forS_nil, ↓forS_cons, ↓u_varO, uO_some, ↓u_cst, ↓u_nil, ↓u_cons, ↓u_d2, ↓u_tru, ↓u_bl, ↓u_and, ↓u_or, ↓u_tand, ↓u_tor, ↓u_tnot, ↓u_not, ↓u_neg, ↓u_ite, ↓u_tup, ↓u_lst, ↓u_call, ↓u_callF, ↓u_meth, ↓u_sl, ↓u_pNone, ↓u_pSome, ↓u_rev, ↓u_dic0, ↓u_prs0, ↓u_prs, ↓u_dic, ↓u_dicN, ↓u_lr2, ↓u_iVal, ↓u_iEn, ↓u_iRng1, ↓u_iRng2, u_yes, ↓u_sortSet, ↓u_lc, aName_run, List.set_cons_zero, List.set_cons_succ, List.getElem?_cons_zero, List.getElem?_cons_succ, List.append_nil, List.length_cons, List.length_nil, truD_bl, truD_non, truD_int, truD_tup, blD_bl, pInt, eqB_int, eqB_str, reduceIte, Nat.reduceAdd, Nat.zero_add, Nat.reduceLeDiff, true_and, and_true, Bool.not_true, Bool.not_false, Bool.false_eq_true, Bool.true_eq_false, decide_true, decide_false, isi_non_int, isi_non_bool, isi_non_str, isi_non_tuple, isi_non_list, isi_bl_int, isi_bl_bool, isi_bl_str, isi_bl_tuple, isi_bl_list, isi_int_int, isi_int_bool, isi_int_str, isi_int_tuple, isi_int_list, isi_str_int, isi_str_bool, isi_str_str, isi_str_tuple, isi_str_list, isi_tup_int, isi_tup_bool, isi_tup_str, isi_tup_tuple, isi_tup_list, isi_frz_int, isi_frz_bool, isi_frz_str, isi_frz_tuple, isi_frz_list, len_tup, len_frz, ix0, ix1, ix2, ix3, ix4, ix5, neg_int, add_int, sub_int, add_tup, is_non, in_cdt, in_chr, ord_int, mod_int, fdiv_int, int_int, DV.sl_tup, itV_tup, itV_frz, list_tup, lit_big, Int.cast_ofNat_Int, enK_tup, aPair, cast_succ0, $xs,*])
local macro_rules | `(tactic| simp_arith! [$xs,*]) => `(tactic| simp only [wE_ok, wE_exc, wE_bad, wE_bind, wE_dbind, wE_if, wE_noX, ↓wS_seq, ↓wS_nil, ↓wS_pass, ↓wS_break, ↓wS_cont, ↓wS_expr, ↓wS_ret, ↓wS_retN, wG_some, wG_none, setAll, ↓wS_asg, ↓wS_par, ↓wS_set, ↓wS_setN, ↓wS_raise, ↓wS_try, wS_nx, wS_rt, forI_items, forS_nil, ↓u_varO, uO_some, ↓u_cst, ↓u_nil, ↓u_cons, ↓u_d2, ↓u_tru, ↓u_bl, ↓u_and, ↓u_or, ↓u_tand, ↓u_tor, ↓u_tnot, ↓u_not, ↓u_neg, ↓u_ite, ↓u_tup, ↓u_lst, ↓u_call, ↓u_callF, ↓u_meth, ↓u_sl, ↓u_pNone, ↓u_pSome, ↓u_rev, ↓u_dic0, ↓u_prs0, ↓u_prs, ↓u_dic, ↓u_dicN, ↓u_lr2, ↓u_iVal, ↓u_iEn, ↓u_iRng1, ↓u_iRng2, u_yes, ↓u_sortSet, ↓u_lc, aName_run, List.set_cons_zero, List.set_cons_succ, List.getElem?_cons_zero, List.getElem?_cons_succ, List.append_nil, List.length_cons, List.length_nil, truD_bl, truD_non, truD_int, truD_tup, blD_bl, pInt, eqB_int, eqB_str, reduceIte, Nat.reduceAdd, Nat.zero_add, Nat.reduceLeDiff, true_and, and_true, Bool.not_true, Bool.not_false, Bool.false_eq_true, Bool.true_eq_false, decide_true, decide_false, isi_non_int, isi_non_bool, isi_non_str, isi_non_tuple, isi_non_list, isi_bl_int, isi_bl_bool, isi_bl_str, isi_bl_tuple, isi_bl_list, isi_int_int, isi_int_bool, isi_int_str, isi_int_tuple, isi_int_list, isi_str_int, isi_str_bool, isi_str_str, isi_str_tuple, isi_str_list, isi_tup_int, isi_tup_bool, isi_tup_str, isi_tup_tuple, isi_tup_list, isi_frz_int, isi_frz_bool, isi_frz_str, isi_frz_tuple, isi_frz_list, len_tup, len_frz, ix0, ix1, ix2, ix3, ix4, ix5, neg_int, add_int, sub_int, add_tup, is_non, in_cdt, in_chr, ord_int, mod_int, fdiv_int, int_int, DV.sl_tup, itV_tup, itV_frz, list_tup, lit_big, Int.cast_ofNat_Int, enK_tup, aPair, cast_succ0, $xs,*])
section
variable {r r' o u : Rule} {lo top : Int}
theorem sm_of (a : RD 3 r) (b : RD 3 o) (h1 : lo ≤ top) (h2 : top ≤ lo + 3) (h3 : -1 ≤ lo ∧ lo ≤ 2) : Sm r o lo top :=
  ⟨a.ok, b.ok, by have := a.len; omega, by have := b.len; omega, by have := a.ps; omega, by have := b.ps; omega, fun m q => by have := a.rg m q; omega, fun m q => by have := b.rg m q; omega, h1, by omega, by omega⟩
theorem less_self (a : End) : less a a = false := by cases a <;> simp [less, above]
theorem less_trans {a b c : End} (h1 : less b a = false) (h2 : less c b = false) : less c a = false := by
  cases a <;> cases b <;> cases c <;> simp [less, above] at h1 h2 ⊢
  omega
theorem never_self : Never r r lo top := fun _ _ _ => less_self _
theorem never_twin (t : Twin r r') : Never r r' lo top := fun ys z _ => by
  show less (run r' lo ys).end_ (run r lo ys).end_ = false
  rw [t lo ys]
  exact less_self _
theorem Twin.symm (t : Twin r r') : Twin r' r := fun lo ys => (t lo ys).symm
theorem never_trans (h1 : Never r o lo top) (h2 : Never o u lo top) : Never r u lo top := fun ys z a => less_trans (h1 ys z a) (h2 ys z a)
theorem never_congr (t : Twin r r') : Never r' o lo top ↔ Never r o lo top := by
  have e : ∀ ys, aboveJ (jrun r' o lo ys) = aboveJ (jrun r o lo ys) := fun ys => by
    show less _ (run r' lo ys).end_ = less _ (run r lo ys).end_
    rw [t lo ys]
    rfl
  exact ⟨fun h ys z a => by rw [← e]; exact h ys z a, fun h ys z a => by rw [e]; exact h ys z a⟩
end
def E37 (script : D) (a b c d : Rule) (lo top : Int) (n : Nat) (x8 x9 x10 x11 : Option D) : DV.Env := [some script, some (.ref 2), some (ruleD a), some (ruleD b), some (ruleD c), some (ruleD d), some (spanD lo top), some (.ref n), x8, x9, x10, x11]
theorem g37 (k : Nat) {ns : List Int} (hn : ns.length ≤ 63) : Ok (cF (k + 10) 37 [.frz (ns.map .int)] []) fun v _ => v = .bl true := by
  have bg : big = 16777216 := rfl
  have a2 : ∀ (a0 a1 : D) (env : DV.Env) (i j : Nat), aTup 2 (aCons (aName i) (aCons (aName j) aNil)) (.tup [a0, a1]) env = some ((env.set i (some a0)).set j (some a1)) := fun _ _ _ _ _ => rfl
  rw [step_]
  show Ok (runB 1 N37.length (m37 (cF (k + 9))) [.frz (ns.map .int)] []) _
  refine (wE_run (n := 1) (as := [.frz (ns.map .int)]) rfl).mpr ?_
  show wS (m37 (cF (k + 9)) [some (.frz (ns.map .int)), none, none, none, none, none, none, none, none, none, none, none] []) _ _
  unfold m37
  simp_arith! []
  refine wE_of (g17 (k + 8) hn) ?_
  rintro v h0 ⟨rfl, s0⟩
  generalize D.frz (ns.map .int) = script
  simp_arith! []
  refine wE_of (g30 (k + 4) s0) ?_
  rintro v h1 ⟨⟨a, b, rfl, ra, rb⟩, s1, k1⟩
  simp_arith! [a2]
  refine wE_of (g29 (k + 5) rb (by decide) s1) ?_
  rintro v h2 ⟨⟨c, rfl, rc⟩, s2, k2⟩
  simp_arith! []
  refine wE_of (g32 (k + 5) ra s2) ?_
  rintro v h3 ⟨⟨d, rfl, rd, tw⟩, s3, k3⟩
  simp_arith! []
  refine wE_of (g35 (k + 7) s3) ?_
  rintro v h4 ⟨⟨lo, top, rfl, l1, l2, l3, l4⟩, s4, k4⟩
  simp_arith! []
  have sm : ∀ {r o : Rule}, RD 3 r → RD 3 o → Sm r o lo top := fun a b => sm_of a b l1 l2 ⟨l3, l4⟩
  refine wE_of (g16 (k + 1) (sm ra ra)) ?_
  rintro v h5 ⟨b1, rfl, q1, p1⟩
  rw [show b1 = true from q1.mpr never_self]
  simp_arith! []
  refine wE_of (g16 (k + 1) (sm ra rd)) ?_
  rintro v h6 ⟨b2, rfl, q2, p2⟩
  rw [show b2 = true from q2.mpr (never_twin tw)]
  simp_arith! []
  refine wE_of (g16 (k + 1) (sm rd ra)) ?_
  rintro v h7 ⟨b3, rfl, q3, p3⟩
  rw [show b3 = true from q3.mpr (never_twin tw.symm)]
  simp_arith! []
  have L : ∀ h : DH, ThL h 0 5 [.bl true, .bl true, .bl true] [.bool true, .bool true, .bool true] := fun h => (ThL.cons (w := 0) Th.bl (ThL.cons (w := 0) Th.bl (ThL.cons (w := 0) Th.bl ThL.nil (w1 := 0)))).up (Nat.le_refl _) (by omega)
  refine wS_cut (fun env h' => env = E37 script a b c d lo top h7.length none none none none) ?_ ?_
  · have r1 := (Th.ref app_get (L (h7 ++ [DO.lst [.bl true, .bl true, .bl true]]))).repr (by omega) (by omega)
    have mr : mulD (.ref (h7 ++ [DO.lst [.bl true, .bl true, .bl true]]).length) (.int 3) (h7 ++ [DO.lst [.bl true, .bl true, .bl true]] ++ [DO.lst [.bl true]]) = .ok (.ref (h7 ++ [DO.lst [.bl true, .bl true, .bl true]] ++ [DO.lst [.bl true]]).length) (h7 ++ [DO.lst [.bl true, .bl true, .bl true]] ++ [DO.lst [.bl true]] ++ [DO.lst [.bl true, .bl true, .bl true]]) := by
      simp only [mulD, app_get]
      rfl
    have r2 := (Th.ref app_get (L (h7 ++ [DO.lst [.bl true, .bl true, .bl true]] ++ [DO.lst [.bl true]] ++ [DO.lst [.bl true, .bl true, .bl true]]))).repr (by omega) (by omega)
    simp_arith [r1, mr, r2]
    rfl
  rintro env h8 rfl
  show wS _ _ ⟨⟩
  unfold E37
  rw [wS_seq]
  refine wS_cut (fun env h' => ∃ x8 x9 x10 x11, env = E37 script a b c d lo top h7.length x8 x9 x10 x11) ?_ ?_
  · rw [wS_for]
    simp_arith! []
    have al : ∀ dd ∈ [D.tup [ruleD a, ruleD b, ruleD c], D.tup [ruleD c, ruleD b, ruleD a], D.tup [ruleD b, ruleD a, ruleD c], D.tup [ruleD a, ruleD c, ruleD b]], ∃ p q u, dd = D.tup [ruleD p, ruleD q, ruleD u] ∧ RD 3 p ∧ RD 3 q ∧ RD 3 u := by
      simp only [List.mem_cons, List.not_mem_nil, or_false]
      rintro dd (rfl | rfl | rfl | rfl)
      · exact ⟨a, b, c, rfl, ra, rb, rc⟩
      · exact ⟨c, b, a, rfl, rc, rb, ra⟩
      · exact ⟨b, a, c, rfl, rb, ra, rc⟩
      · exact ⟨a, c, b, rfl, ra, rc, rb⟩
    generalize [D.tup [ruleD a, ruleD b, ruleD c], D.tup [ruleD c, ruleD b, ruleD a], D.tup [ruleD b, ruleD a, ruleD c], D.tup [ruleD a, ruleD c, ruleD b]] = ds at al
    refine wS_forS (fun _ env h' => ∃ x8 x9 x10 x11, env = E37 script a b c d lo top h7.length x8 x9 x10 x11) ⟨_, _, _, _, rfl⟩ ?_ ?_
    · rintro i dd env h9 hi ⟨x8, x9, x10, x11, rfl⟩
      obtain ⟨p, q, u, rfl, rp, rq, ru⟩ := al dd (List.mem_of_getElem? hi)
      refine ⟨_, rfl, ?_⟩
      unfold E37
      show wS _ _ ⟨⟩
      rw [wS_seq]
      refine wS_cut (fun env h' => ∃ bb, env = E37 script a b c d lo top h7.length (some (ruleD p)) (some (ruleD q)) (some (ruleD u)) (some (.bl bb)) ∧ (bb = true → Never p q lo top ∧ Never q u lo top)) ?_ ?_
      · simp_arith! []
        refine wE_of (g16 (k + 1) (sm rp rq)) ?_
        rintro v h10 ⟨b1, rfl, q1, p1⟩
        cases b1 with
        | false =>
          simp_arith []
          exact ⟨false, rfl, fun z => by cases z⟩
        | true =>
          simp_arith []
          refine wE_of (g16 (k + 1) (sm rq ru)) ?_
          rintro v h11 ⟨b2, rfl, q2, p2⟩
          simp_arith []
          exact ⟨b2, rfl, fun z => ⟨q1.mp rfl, q2.mp z⟩⟩
      · rintro env h10 ⟨bb, rfl, hbb⟩
        show wS _ _ ⟨⟩
        unfold E37
        rw [wS_seq]
        refine wS_cut (fun env h' => env = E37 script a b c d lo top h7.length (some (ruleD p)) (some (ruleD q)) (some (ruleD u)) (some (.bl bb))) ?_ ?_
        · cases bb with
          | false =>
            simp_arith []
            rfl
          | true =>
            simp_arith []
            refine wE_of (g16 (k + 1) (sm rp ru)) ?_
            rintro v h11 ⟨b3, rfl, q3, p3⟩
            rw [show b3 = true from q3.mpr (never_trans (hbb rfl).1 (hbb rfl).2)]
            have e : isB true (.bl true) (.bl true) h11 = .ok (.bl false) h11 := rfl
            simp_arith [e]
            rfl
        · rintro env h11 rfl
          show wS _ _ ⟨⟩
          unfold E37
          simp_arith []
          refine wE_of (g36 k (sm rp rq)) ?_
          rintro v h12 ⟨rfl, p12⟩
          simp_arith []
          exact ⟨_, _, _, _, rfl⟩
    · rintro env h9 h
      exact h
  · rintro env h9 ⟨x8, x9, x10, x11, rfl⟩
    show wS _ _ ⟨⟩
    unfold E37
    simp_arith []
    refine wE_of (g16 (k + 1) (sm rd rb)) ?_
    rintro v h10 ⟨b5, rfl, q5, p5⟩
    simp_arith []
    refine wE_of (g16 (k + 1) (sm ra rb)) ?_
    rintro v h11 ⟨b6, rfl, q6, p6⟩
    have e : b5 = b6 := by
      have := q5.trans ((never_congr tw).trans q6.symm)
      cases b5 <;> cases b6 <;> simp at this ⊢
    subst e
    have e7 : eqB true (.bl b5) (.bl b5) h11 = .ok (.bl false) h11 := by
      cases b5 <;> rfl
    simp_arith [e7]
theorem hmain (ns : List Int) (hn : ns.length ≤ 63) : ∃ h', callF 40 37 [.frz (ns.map D.int)] [] = .ok (.bl true) h' := by
  have z := (g37 30 hn).eq
  rw [cF_eq] at z
  obtain ⟨v, h', e1, e2⟩ := z
  rw [e2] at e1
  exact ⟨h', e1⟩
end K62
namespace K62
open PySem PySem.Spec PyProof.Rows L2 DV
def loose : List Str := ([("__name__" : Str), ("is_above" : Str), ("is_above_kinds" : Str), ("CASE_PLACES" : Str), ("gap_at" : Str), ("upper_at" : Str), ("case_at" : Str), ("least_mark" : Str), ("end_by" : Str), ("pair_for" : Str), ("stepped" : Str), ("is_less" : Str), ("first_joint" : Str), ("joint_after" : Str), ("is_above_joint" : Str), ("lesser_last" : Str), ("further_elements" : Str), ("joints_with_rows" : Str), ("above_row" : Str), ("never_above" : Str), ("_law_feed" : Str), ("_law_draw" : Str), ("_law_any" : Str), ("_law_key" : Str), ("_law_case" : Str), ("_law_jump" : Str), ("_law_moved" : Str), ("_law_states" : Str), ("_law_ends" : Str), ("_law_hand" : Str)] : List Str) ++ ([("_law_pair" : Str), ("_law_rule" : Str), ("_law_changed" : Str), ("_law_two" : Str), ("_law_renamed" : Str), ("_law_twin" : Str), ("_law_is_above" : Str), ("_law_rows" : Str), ("_law_span" : Str), ("_law_pair_right" : Str)] : List Str)
abbrev Rr : PySem.W.OpenRow := PySem.W.OpenLaw.row PySem.Challenge.rw_endclimbs_k62_whole_orders_of_rules
abbrev hk : PySem.W.Hook := hookV 4 fa fn ts ini ex
def ob (s : PySem.W.SharedT) : AlV := obV fa fn ts ini ex (frV 4 (HandSHeadRun.getT s))
theorem ob_eq (s : PySem.W.SharedT) : ob s = hk.obs s.abs := obV_eq (HandSHeadRun.getT_eq s)
theorem runHd (w : World) : HandSHeadRun.RunEq Rr (PySem.W.view Rr.prog [46]) hk ob 20000 loose w :=
  PySem.W.byRow2 "special-get-raises" (P := fun w => HandSHeadRun.RunEq Rr (PySem.W.view Rr.prog [46]) hk ob 20000 loose w) (fun w os => by kernel_rfl) (fun w os => by kernel_rfl) w
theorem endsHd (hmain : ∀ ns : List Int, ns.length ≤ 63 → ∃ h', callF 40 37 [.frz (ns.map D.int)] [] = .ok (.bl true) h') : PySem.Challenge.rw_endclimbs_k62_whole_orders_of_rules.Holds := by
  w_on; o_law
  refine HandSHeadRun.head_any (r := PySem.W.OpenLaw.row PySem.Challenge.rw_endclimbs_k62_whole_orders_of_rules) (q := PySem.W.view (PySem.W.OpenLaw.row PySem.Challenge.rw_endclimbs_k62_whole_orders_of_rules).prog [46]) (H := hk) (ob := ob) (M := 20000) (loose := loose) (d := HandSHeadRun.topDef (PySem.W.OpenLaw.row PySem.Challenge.rw_endclimbs_k62_whole_orders_of_rules).prog 46) (kwd := []) ob_eq
    (by kernel_rfl) (fun s => by kernel_rfl) runHd (by kernel_rfl) (by kernel_rfl) (by kernel_rfl) (by rfl) (by first | assumption | decide +kernel) (by decide +kernel) ⟨rfl, rfl, rfl, rfl, rfl, by decide +kernel⟩ ?hw ?hc
  case hw => w_witness2
  case hc =>
    refine walk_G (CXx := fun _ _ _ _ _ _ => False) (l := PySem.Challenge.rw_endclimbs_k62_whole_orders_of_rules) (n := 63) (k := 40) (x := ("_law_script" : Str)) rfl (by decide) (by kernel_rfl) ⟨rfl, by decide, by decide⟩ ?_
    intro w mg fa_ h Y G hmg0
    obtain ⟨K, KX, s⟩ := Y
    have hmg : mg ("law" : Str) = some (.ref fa_) := by
      have e : (HandSHeadRun.topDef (PySem.W.OpenLaw.row PySem.Challenge.rw_endclimbs_k62_whole_orders_of_rules).prog 46).name = ("law" : Str) := by kernel_rfl
      rw [← e]
      exact hmg0
    obtain ⟨fd, FD⟩ := s.d.def_ 37 (d := df37) rfl
    have FD : FunD K df37.name df37.qual df37.params df37.body df37.scope [] [] (He.fAd K df37.at_) fd := FD
    have ef := hmg.symm.trans (He.glo_ok KX G (s.d.fact 37 (f := .glo ("law" : Str)) rfl))
    cases ef
    refine ⟨K, fd, spF tabs ⟨K, w, P⟩ 1 (callF 40 37), CX P w, KX, bindA FD ("_law_script" : Str) (fun _ _ _ _ _ _ us hl => match us, hl with | [_], _ => rfl), fun H a ns hl _ hS => ?_, fun base hKb hGb => ?_, ?_⟩
    · obtain ⟨h', e⟩ := hmain ns hl
      exact sp_law hS e
    · exact fn_d (base := base) FD S37 fun cdv A outer s_ H E W wx b => b37 (fx_of KX G s (cals KX G s 39)) b
    · exact cx_no
end K62
theorem PySem.Challenge.cw_endclimbs_k62_whole_orders_of_rules_holds : PySem.Challenge.rw_endclimbs_k62_whole_orders_of_rules.Holds := by
  exact K62.endsHd K62.hmain
