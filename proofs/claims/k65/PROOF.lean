import PyProof.Rows.All
import Wide.All
import OpenK.AllK
import Wide.FinOn
import HandS.ForMost
import HandS.Flow
import HandS.Defaults
import HandS.TupAny
import HandS.TupMul
import HandS.More
import HandS.HeadHook1
import HandS.HeadHook2
import HandS.HeadHook3
import HandS.SetKeys
import KE.DataCmp
import HandS.Deep
import HandS.Wide
import HandS.Style
import HandS.TupLe
import HandS.IsInst
import HandS.Conv
import HandS.Exc
import HandS.HeadEnd
import PyProof.ListStr
import HandS.ExcSuper
import HandS.ExcInit
import HandS.ExcField
import KE.KSuper
import HandS.TryMany
import HandS.ExcOwn
import HandS.ExcValue
import HandS.ExcIs
import KE.KExcIs
import PyProof.Rows.SetFrom
import PyProof.TupleOfStr
import HandS.Text
import HandS.Comp
import KE.GoesEnum
import HandS.Iter
import HandS.MakeKwOnly
import HandS.Head0
import HandS.Head1
import HandS.Head2
import PyProof.ReprLen
import PyProof.FitsInt
import PySem.Challenge.RW_endclimbs_k65_programs_by_form
set_option Elab.async false
set_option linter.all false
set_option maxRecDepth 100000
set_option maxHeartbeats 4000000
namespace DV
open PySem PySem.Spec PyProof.Rows L2

theorem key_beq : ∀ a b : Key, (a == b) = decide (a = b)
  | .inl i, .inl j => by show (i == j) = _; by_cases h : i = j <;> simp [h]
  | .inr i, .inr j => by show (i == j) = _; by_cases h : i = j <;> simp [h]
  | .inl i, .inr j => by show false = _; simp
  | .inr i, .inl j => by show false = _; simp
instance lawKey : LawfulBEq Key where
  eq_of_beq := by
    intro a b h
    rw [key_beq] at h
    exact of_decide_eq_true h
  rfl := by
    intro a
    rw [key_beq]
    exact decide_eq_true rfl

abbrev Txt := List Nat
def sOf (t : Txt) : Str := ⟨t.toArray⟩

/-- plain data: what a Python value is worth; ref n: the n-th object that may change -/
inductive D where
  | non | bl (b : Bool) | int (i : Int) | str (t : Txt) | tup (ds : List D) | frz (ds : List D) | ref (n : Nat)
  | cdt (kvs : List (Txt × D))
  | fn (x : Txt)
  | ty (n : String)
deriving Inhabited

/-- objects that may change -/
inductive DO where
  | lst (ds : List D)
  | dct (kvs : List (D × D))
  | set (ks : List D)
  | ins (c : Nat) (fs : List (Txt × D))
deriving Inhabited
abbrev DH := List DO

inductive R (α : Type) where
  | ok (a : α) (h : DH)
  | exc (c : Nat) (a : List D) (h : DH)
  | bad
deriving Inhabited
def R.bind {α β : Type} (r : R α) (k : α → DH → R β) : R β :=
  match r with
  | .ok a h => k a h
  | .exc c a h => .exc c a h
  | .bad => .bad

/-- a read-only list: the script, or one of the module's own -/
def SqF (K : PySem.W.Frag) (H : Hp) (a : Addr) (xs : List V) : Prop :=
  (∃ o, H a = some (.frz o (.lst xs))) ∨
    ∃ (o : Obj) (its : Array Value) (n : Nat), K.lookup a = some o ∧ o.cls = .type "list" ∧ o.dict = none ∧ o.data = .seq its n ∧ its.size ≤ sizeLine ∧ Vals xs its.toList
theorem SqF.sq {K : PySem.W.Frag} {H : Hp} {a : Addr} {xs : List V} (h : SqF K H a xs) : SqL K H a xs := by
  rcases h with ⟨o, h⟩ | h
  · exact .inl (.inr ⟨o, h⟩)
  · exact .inr h

/-- what stands fixed: the written part, the world, the program -/
structure GX where
  K : PySem.W.Frag
  w : World
  P : Program
def gx (X : Cx) : GX := ⟨X.K, X.w, X.prog⟩
/-- a dict of the module's own top with text keys -/
structure CDict (G : GX) (a : Addr) (ks : List Txt) (us : List Value) : Prop where
  kd : ∃ es n, KDict G.K G.w a es n
  at_ : ∀ (i : Nat) k u, ks[i]? = some k → us[i]? = some u → PySem.W.nsIn G.K a (sOf k) = some (some u)
  out : ∀ x : Str, x ∉ ks.map sOf → PySem.W.nsIn G.K a x = some none
  len : us.length = ks.length
mutual
/-- the value v is the data d -/
def Rep (G : GX) (H : Hp) (μ : List Addr) : D → V → Prop
  | .non, v => v = .non
  | .bl b, v => v = .bl b
  | .int i, v => v = .int i
  | .str t, v => v = .str (sOf t)
  | .tup ds, v => ∃ a vs, v = .ref a ∧ SqT G.K H a vs ∧ RepL G H μ ds vs
  | .frz ds, v => ∃ a vs, v = .ref a ∧ SqF G.K H a vs ∧ RepL G H μ ds vs
  | .ref n, v => ∃ a, μ[n]? = some a ∧ v = .ref a
  | .cdt kvs, v => ∃ a us vs, v = .ref a ∧ CDict G a (kvs.map (·.1)) us ∧ Vals vs us ∧ RepV G H μ kvs vs
  | .fn x, v => v = .ref (He.ga G.K (sOf x))
  | .ty n, v => v = .ty n
def RepL (G : GX) (H : Hp) (μ : List Addr) : List D → List V → Prop
  | [], vs => vs = []
  | d :: ds, vs => ∃ v r, vs = v :: r ∧ Rep G H μ d v ∧ RepL G H μ ds r
def RepV (G : GX) (H : Hp) (μ : List Addr) : List (Txt × D) → List V → Prop
  | [], vs => vs = []
  | d :: ds, vs => ∃ v r, vs = v :: r ∧ Rep G H μ d.2 v ∧ RepV G H μ ds r
end

/-- a key of a dict -/
def keyD : D → Option Key
  | .int i => some (.inl i)
  | .str t => some (.inr (sOf t))
  | _ => none
/-- a dict's pairs -/
def RepK (G : GX) (H : Hp) (μ : List Addr) : List (D × D) → List (Key × V) → Prop
  | [], kv => kv = []
  | p :: r, kv => ∃ k v t, kv = (k, v) :: t ∧ keyD p.1 = some k ∧ Rep G H μ p.2 v ∧ RepK G H μ r t
/-- the object at a is o -/
def ORep (G : GX) (H : Hp) (μ : List Addr) : DO → Addr → Prop
  | .lst ds, a => ∃ vs, H a = some (.lst vs) ∧ RepL G H μ ds vs
  | .dct kvs, a => ∃ kv, H a = some (.dK kv) ∧ RepK G H μ kvs kv
  | .set ks, a => ∃ kk : List Key, H a = some (SetK G.P G.w a (fun k => kk.any (· == k)) kk.length) ∧ ks.map keyD = kk.map some
  | .ins c fs, a => False

structure SRep (G : GX) (μ : List Addr) (h : DH) (H : Hp) : Prop where
  len : μ.length = h.length
  nd : μ.Nodup
  ob : ∀ (n : Nat) o a, h[n]? = some o → μ[n]? = some a → ORep G H μ o a

structure Ex0 (μ : List Addr) (H : Hp) (μ' : List Addr) (H' : Hp) : Prop where
  pre : μ <+: μ'
  tup : ∀ a xs, H a = some (.tup xs) → H' a = some (.tup xs)
  frz : ∀ a o u, H a = some (.frz o u) → H' a = some (.frz o u)
structure Ext (μ : List Addr) (H : Hp) (μ' : List Addr) (H' : Hp) : Prop where
  pre : μ <+: μ'
  keep : ∀ a o, H a = some o → a ∉ μ → H' a = some o
  fresh : ∀ a, a ∈ μ' → a ∈ μ ∨ H a = none
  tup : ∀ a xs, H a = some (.tup xs) → H' a = some (.tup xs)
  frz : ∀ a o u, H a = some (.frz o u) → H' a = some (.frz o u)
theorem Ext.x0 {μ μ' : List Addr} {H H' : Hp} (x : Ext μ H μ' H') : Ex0 μ H μ' H' := ⟨x.pre, x.tup, x.frz⟩

section
variable {G : GX} {μ μ' μ1 μ2 : List Addr} {H H' H1 H2 : Hp} {h h' : DH}
theorem Ext.refl : Ext μ H μ H := ⟨⟨[], by simp⟩, fun _ _ e _ => e, fun _ e => .inl e, fun _ _ e => e, fun _ _ _ e => e⟩
theorem Ext.trans (a : Ext μ H μ1 H1) (b : Ext μ1 H1 μ2 H2) : Ext μ H μ2 H2 where
  pre := a.pre.trans b.pre
  keep := fun p o e n => by
    have e1 := a.keep p o e n
    refine b.keep p o e1 fun m => ?_
    rcases a.fresh p m with q | q
    · exact n q
    · rw [q] at e; cases e
  fresh := fun p m => by
    rcases b.fresh p m with q | q
    · exact a.fresh p q
    · by_cases hm : p ∈ μ
      · exact .inl hm
      · cases e : H p with
        | none => exact .inr rfl
        | some o => rw [a.keep p o e hm] at q; cases q
  tup := fun p xs e => b.tup p xs (a.tup p xs e)
  frz := fun p o u e => b.frz p o u (a.frz p o u e)
theorem SqT.ext0 {K : PySem.W.Frag} (x : Ex0 μ H μ' H') {a : Addr} {xs : List V} (h : SqT K H a xs) : SqT K H' a xs := by
  rcases h with (h | ⟨o, h⟩) | h
  · exact .inl (.inl (x.tup _ _ h))
  · exact .inl (.inr ⟨o, x.frz _ _ _ h⟩)
  · exact .inr h
theorem SqF.ext0 {K : PySem.W.Frag} (x : Ex0 μ H μ' H') {a : Addr} {xs : List V} (h : SqF K H a xs) : SqF K H' a xs := by
  rcases h with ⟨o, h⟩ | h
  · exact .inl ⟨o, x.frz _ _ _ h⟩
  · exact .inr h
theorem pre_get {α : Type} {l l' : List α} (p : l <+: l') {n : Nat} {a : α} (e : l[n]? = some a) : l'[n]? = some a := by
  obtain ⟨t, rfl⟩ := p
  rw [List.getElem?_append_left]
  · exact e
  · exact (List.getElem?_eq_some_iff.mp e).1
mutual
theorem Rep.ext0 (x : Ex0 μ H μ' H') : ∀ {d : D} {v : V}, Rep G H μ d v → Rep G H' μ' d v
  | .non, _, e => by unfold Rep at e ⊢; exact e
  | .bl _, _, e => by unfold Rep at e ⊢; exact e
  | .int _, _, e => by unfold Rep at e ⊢; exact e
  | .str _, _, e => by unfold Rep at e ⊢; exact e
  | .tup ds, v, e => by
    unfold Rep at e ⊢
    obtain ⟨a, vs, e1, e2, e3⟩ := e
    exact ⟨a, vs, e1, SqT.ext0 x e2, RepL.ext0 x e3⟩
  | .frz ds, v, e => by
    unfold Rep at e ⊢
    obtain ⟨a, vs, e1, e2, e3⟩ := e
    exact ⟨a, vs, e1, SqF.ext0 x e2, RepL.ext0 x e3⟩
  | .ref n, v, e => by
    unfold Rep at e ⊢
    obtain ⟨a, e1, e2⟩ := e
    exact ⟨a, pre_get x.pre e1, e2⟩
  | .cdt kvs, v, e => by
    unfold Rep at e ⊢
    obtain ⟨a, us, vs, e1, e2, e3, e4⟩ := e
    exact ⟨a, us, vs, e1, e2, e3, RepV.ext0 x e4⟩
  | .fn _, _, e => by
    unfold Rep at e ⊢
    exact e
  | .ty _, _, e => by
    unfold Rep at e ⊢
    exact e
theorem RepL.ext0 (x : Ex0 μ H μ' H') : ∀ {ds : List D} {vs : List V}, RepL G H μ ds vs → RepL G H' μ' ds vs
  | [], _, e => by unfold RepL at e ⊢; exact e
  | d :: ds, vs, e => by
    unfold RepL at e ⊢
    obtain ⟨v, r, e1, e2, e3⟩ := e
    exact ⟨v, r, e1, Rep.ext0 x e2, RepL.ext0 x e3⟩
theorem RepV.ext0 (x : Ex0 μ H μ' H') : ∀ {ds : List (Txt × D)} {vs : List V}, RepV G H μ ds vs → RepV G H' μ' ds vs
  | [], vs, e => by unfold RepV at e ⊢; exact e
  | d :: ds, vs, e => by
    unfold RepV at e ⊢
    obtain ⟨v, r, e1, e2, e3⟩ := e
    exact ⟨v, r, e1, Rep.ext0 x e2, RepV.ext0 x e3⟩
end
theorem SqT.ext {K : PySem.W.Frag} (x : Ext μ H μ' H') {a : Addr} {xs : List V} (h : SqT K H a xs) : SqT K H' a xs := DV.SqT.ext0 x.x0 h
theorem SqF.ext {K : PySem.W.Frag} (x : Ext μ H μ' H') {a : Addr} {xs : List V} (h : SqF K H a xs) : SqF K H' a xs := SqF.ext0 x.x0 h
theorem Rep.ext (x : Ext μ H μ' H') {d : D} {v : V} (r : Rep G H μ d v) : Rep G H' μ' d v := Rep.ext0 x.x0 r
theorem RepL.ext (x : Ext μ H μ' H') {d : List D} {v : List V} (r : RepL G H μ d v) : RepL G H' μ' d v := RepL.ext0 x.x0 r
theorem RepV.ext (x : Ext μ H μ' H') {d : List (Txt × D)} {v : List V} (r : RepV G H μ d v) : RepV G H' μ' d v := RepV.ext0 x.x0 r
theorem RepK.ext0 (x : Ex0 μ H μ' H') : ∀ {kvs : List (D × D)} {kv : List (Key × V)}, RepK G H μ kvs kv → RepK G H' μ' kvs kv
  | [], _, e => e
  | p :: r, kv, ⟨k, v, t, e1, e2, e3, e4⟩ => ⟨k, v, t, e1, e2, e3.ext0 x, RepK.ext0 x e4⟩
theorem RepL.length : ∀ {ds : List D} {vs : List V}, RepL G H μ ds vs → vs.length = ds.length
  | [], vs, e => by unfold RepL at e; subst e; rfl
  | d :: ds, vs, e => by
    unfold RepL at e
    obtain ⟨v, r, rfl, _, e3⟩ := e
    simp [RepL.length e3]
theorem RepL.get : ∀ {ds : List D} {vs : List V} {i : Nat} {d : D}, RepL G H μ ds vs → ds[i]? = some d → ∃ v, vs[i]? = some v ∧ Rep G H μ d v
  | [], vs, i, d, e, h => by simp at h
  | d' :: ds, vs, 0, d, e, h => by
    unfold RepL at e
    obtain ⟨v, r, rfl, e2, e3⟩ := e
    simp at h; subst h
    exact ⟨v, rfl, e2⟩
  | d' :: ds, vs, i + 1, d, e, h => by
    unfold RepL at e
    obtain ⟨v, r, rfl, e2, e3⟩ := e
    obtain ⟨w, h1, h2⟩ := RepL.get e3 (by simpa using h)
    exact ⟨w, by simpa using h1, h2⟩
theorem RepL.append : ∀ {ds es : List D} {vs ws : List V}, RepL G H μ ds vs → RepL G H μ es ws → RepL G H μ (ds ++ es) (vs ++ ws)
  | [], es, vs, ws, a, b => by unfold RepL at a; subst a; exact b
  | d :: ds, es, vs, ws, a, b => by
    unfold RepL at a
    obtain ⟨v, r, rfl, e2, e3⟩ := a
    show RepL G H μ (d :: (ds ++ es)) _
    unfold RepL
    exact ⟨v, r ++ ws, rfl, e2, RepL.append e3 b⟩
end

/-- the frame's names -/
abbrev Env := List (Option D)
def ERep (G : GX) (H : Hp) (μ : List Addr) (env : Env) (σ : L2.St) : Prop := env.length = σ.length ∧
  ∀ (i : Nat) d, env[i]? = some (some d) → ∃ v, σ[i]? = some (some v) ∧ Rep G H μ d v
theorem ERep.ext0 {G : GX} {μ μ' : List Addr} {H H' : Hp} (x : Ex0 μ H μ' H') {env : Env} {σ : L2.St} (e : ERep G H μ env σ) : ERep G H' μ' env σ :=
  ⟨e.1, fun i d h => let ⟨v, h1, h2⟩ := e.2 i d h; ⟨v, h1, h2.ext0 x⟩⟩
theorem ERep.ext {G : GX} {μ μ' : List Addr} {H H' : Hp} (x : Ext μ H μ' H') {env : Env} {σ : L2.St} (e : ERep G H μ env σ) : ERep G H' μ' env σ := e.ext0 x.x0

/-- what is wanted of an exception: the objects' places, the heap, the class, its fields, the objects -/
abbrev XW := List Addr → Hp → Nat → List D → DH → Prop
/-- what an outcome must bring: Q of each value and heap that bear it (rel); W of an exception -/
def Post {α β : Type} (rel : Hp → List Addr → α → β → Prop) (G : GX) (W : XW) (μ : List Addr) (H : Hp) (r : R α) (Q : β → Hp → Prop) : Prop :=
  match r with
  | .ok d h' => ∀ μ' H' v, SRep G μ' h' H' → Ext μ H μ' H' → rel H' μ' d v → Q v H'
  | .exc c a h' => ∀ μ' H', SRep G μ' h' H' → Ext μ H μ' H' → W μ' H' c a h'
  | .bad => False
/-- a test's outcome -/
def EqB : Hp → List Addr → Bool → Bool → Prop := fun _ _ b c => b = c
section
variable {α α' β β' : Type} {rel : Hp → List Addr → α → β → Prop} {rel' : Hp → List Addr → α' → β' → Prop} {G : GX} {W : XW} {μ : List Addr} {H : Hp}
theorem Post.bind {r : R α} {k : α → DH → R α'} {Q : β' → Hp → Prop} (p : Post rel' G W μ H (r.bind k) Q) :
    Post rel G W μ H r fun v H1 => ∃ μ1 d h1, SRep G μ1 h1 H1 ∧ Ext μ H μ1 H1 ∧ rel H1 μ1 d v ∧ Post rel' G W μ1 H1 (k d h1) Q := by
  cases r with
  | bad => exact p
  | exc c a h' => exact p
  | ok d h1 =>
    intro μ1 H1 v s x e
    refine ⟨μ1, d, h1, s, x, e, ?_⟩
    have p : Post rel' G W μ H (k d h1) Q := p
    cases q : k d h1 with
    | bad => rw [q] at p; exact p
    | exc c a h' => rw [q] at p; exact fun μ' H' s' x' => p μ' H' s' (x.trans x')
    | ok d' h' => rw [q] at p; exact fun μ' H' v' s' x' => p μ' H' v' s' (x.trans x')
theorem Post.imp {r : R α} {Q Q' : β → Hp → Prop} (p : Post rel G W μ H r Q) (h : ∀ v H, Q v H → Q' v H) : Post rel G W μ H r Q' := by
  cases r with
  | bad => exact p
  | exc c a h' => exact p
  | ok d h1 => exact fun μ' H' v s x e => h v H' (p μ' H' v s x e)
/-- an outcome that is a value at once -/
theorem Post.now {d : α} {h : DH} {Q : β → Hp → Prop} {v : β} (p : Post rel G W μ H (.ok d h) Q) (s : SRep G μ h H) (e : rel H μ d v) : Q v H := p μ H v s .refl e
end

/-- .. at the slots as they stand -/
abbrev XWS := L2.St → XW
abbrev DEn (α : Type) := Env → DH → R α
abbrev DE := DEn D
def TG' {α β : Type} (rel : Hp → List Addr → α → β → Prop) (G : GX) (W : XWS) (m : DEn α) : L2.St → Hp → (β → Hp → Prop) → Prop :=
  fun σ H Q => ∃ μ env h, SRep G μ h H ∧ ERep G H μ env σ ∧ Post rel G (W σ) μ H (m env h) Q
abbrev TD (G : GX) (W : XWS) (m : DE) : TE := TG' (Rep G) G W m
abbrev TDL (G : GX) (W : XWS) (m : DEn (List D)) : TA := TG' (RepL G) G W m
abbrev TDB (G : GX) (W : XWS) (m : DEn Bool) : TT := TG' EqB G W m
theorem _root_.L2.PE.weakS {X : Cx} {e : Expr} {t : L2.St → TE} {t' : TE} (h : ∀ σ, PE X e (t σ)) (w : ∀ σ H Q, t' σ H Q → t σ σ H Q) : PE X e t' := ⟨fun pins s σ H Q I q => (h σ).run pins s σ H Q I (w σ H Q q)⟩
theorem _root_.L2.PT.weakS {X : Cx} {e : Expr} {t : L2.St → TT} {t' : TT} (h : ∀ σ, PT X e (t σ)) (w : ∀ σ H Q, t' σ H Q → t σ σ H Q) : PT X e t' := ⟨fun pins s σ H Q I q => (h σ).run pins s σ H Q I (w σ H Q q)⟩
theorem _root_.L2.PE.weak {X : Cx} {e : Expr} {t t' : TE} (h : PE X e t) (w : ∀ σ H Q, t' σ H Q → t σ H Q) : PE X e t' := ⟨fun pins s σ H Q I q => h.run pins s σ H Q I (w σ H Q q)⟩
theorem _root_.L2.PT.weak {X : Cx} {e : Expr} {t t' : TT} (h : PT X e t) (w : ∀ σ H Q, t' σ H Q → t σ H Q) : PT X e t' := ⟨fun pins s σ H Q I q => h.run pins s σ H Q I (w σ H Q q)⟩
theorem _root_.L2.PA.weak {X : Cx} {e : List Expr} {t t' : TA} (h : PA X e t) (w : ∀ σ H Q, t' σ H Q → t σ H Q) : PA X e t' := ⟨fun pos pins s σ H Q I q => h.run pos pins s σ H Q I (w σ H Q q)⟩
theorem _root_.L2.PS.weak {X : Cx} {e : Stmt} {t t' : TS} (h : PS X e t) (w : ∀ D σ H, t' D σ H → t D σ H) : PS X e t' := ⟨fun pins s σ H Q I q => h.run pins s σ H Q I (w Q σ H q)⟩
theorem _root_.L2.PSs.weak {X : Cx} {e : List Stmt} {t t' : TS} (h : PSs X e t) (w : ∀ D σ H, t' D σ H → t D σ H) : PSs X e t' := ⟨fun pins s σ H Q I q => h.run pins s σ H Q I (w Q σ H q)⟩
/-- first m, then k -/
def DEn.bind {α β : Type} (m : DEn α) (k : α → DEn β) : DEn β := fun env h => (m env h).bind fun d h1 => k d env h1
section
variable {α α' β β' : Type} {rel : Hp → List Addr → α → β → Prop} {rel' : Hp → List Addr → α' → β' → Prop} {G : GX} {W : XWS} {σ : L2.St} {H : Hp}
theorem TG'.split {ma : DEn α} {k : α → DEn α'} {Q : β' → Hp → Prop} (q : TG' rel' G W (ma.bind k) σ H Q) :
    TG' rel G W ma σ H fun v H1 => ∃ μ1 d env h1, SRep G μ1 h1 H1 ∧ ERep G H1 μ1 env σ ∧ rel H1 μ1 d v ∧ Post rel' G (W σ) μ1 H1 (k d env h1) Q := by
  obtain ⟨μ, env, h, s, e, p⟩ := q
  refine ⟨μ, env, h, s, e, Post.imp (Post.bind (rel := rel) p) ?_⟩
  rintro v H1 ⟨μ1, d, h1, s1, x1, r1, p1⟩
  exact ⟨μ1, d, env, h1, s1, e.ext x1, r1, p1⟩
end
end DV
namespace DV
open PySem PySem.Spec PyProof.Rows L2
abbrev big : Nat := 16777216
theorem big_eq : sizeLine = big := sizeLine_eq
section
variable {α α' β β' : Type} {rel : Hp → List Addr → α → β → Prop} {rel' : Hp → List Addr → α' → β' → Prop} {G : GX} {W : XWS} {σ : L2.St} {H : Hp}
theorem TG'.imp {m : DEn α} {Q Q' : β → Hp → Prop} (q : TG' rel G W m σ H Q) (h : ∀ v H, Q v H → Q' v H) : TG' rel G W m σ H Q' :=
  let ⟨μ, env, h0, s, e, p⟩ := q
  ⟨μ, env, h0, s, e, p.imp h⟩
end
section
variable {G : GX} {μ μ' : List Addr} {H H' : Hp} {h : DH} {p a : Addr} {o : DO} {ho : HO}
theorem ORep.some (r : ORep G H μ o a) : ∃ u, H a = some u ∧ Mut (some u) := by
  cases o with
  | lst ds => obtain ⟨vs, e, _⟩ := r; exact ⟨_, e, trivial⟩
  | dct kvs => obtain ⟨kv, e, _⟩ := r; exact ⟨_, e, trivial⟩
  | set ks => obtain ⟨kk, e, _⟩ := r; exact ⟨_, e, trivial⟩
  | ins c fs => exact r.elim
theorem ORep.ext0 (x : Ex0 μ H μ' H') (e : H' a = H a) (r : ORep G H μ o a) : ORep G H' μ' o a := by
  cases o with
  | lst ds => obtain ⟨vs, e1, e2⟩ := r; exact ⟨vs, e.trans e1, e2.ext0 x⟩
  | dct kvs => obtain ⟨kv, e1, e2⟩ := r; exact ⟨kv, e.trans e1, e2.ext0 x⟩
  | set ks => obtain ⟨kk, e1, e2⟩ := r; exact ⟨kk, e.trans e1, e2⟩
  | ins c fs => exact r.elim
theorem ORep.ext (x : Ext μ H μ' H') (e : H' a = H a) (r : ORep G H μ o a) : ORep G H' μ' o a := r.ext0 x.x0 e
theorem SRep.track (s : SRep G μ h H) (m : a ∈ μ) : ∃ u, H a = some u ∧ Mut (some u) := by
  obtain ⟨n, hn, e⟩ := List.getElem_of_mem m
  have hn' : n < h.length := by rw [← s.len]; exact hn
  exact ORep.some (s.ob n h[n] a (List.getElem?_eq_getElem hn') (by rw [List.getElem?_eq_getElem hn, e]))
theorem SRep.not_mem (s : SRep G μ h H) (hp : H p = none) : p ∉ μ := fun m => by
  obtain ⟨u, e, _⟩ := s.track m
  rw [hp] at e; cases e
theorem Ext.tupled (s : SRep G μ h H) (hp : H p = none) : Ext μ H μ (upd H p ho) where
  pre := ⟨[], by simp⟩
  keep := fun b u e _ => by rw [upd_ne (ne_of_none e hp)]; exact e
  fresh := fun b m => .inl m
  tup := fun b xs e => by rw [upd_ne (ne_of_none e hp)]; exact e
  frz := fun b o u e => by rw [upd_ne (ne_of_none e hp)]; exact e
theorem Ext.new (s : SRep G μ h H) (hp : H p = none) : Ext μ H (μ ++ [p]) (upd H p ho) where
  pre := ⟨[p], rfl⟩
  keep := fun b u e _ => by rw [upd_ne (ne_of_none e hp)]; exact e
  fresh := fun b m => by
    rcases List.mem_append.mp m with q | q
    · exact .inl q
    · rw [List.mem_singleton.mp q]; exact .inr hp
  tup := fun b xs e => by rw [upd_ne (ne_of_none e hp)]; exact e
  frz := fun b o u e => by rw [upd_ne (ne_of_none e hp)]; exact e
theorem SRep.tupled (s : SRep G μ h H) (hp : H p = none) : SRep G μ h (upd H p ho) :=
  ⟨s.len, s.nd, fun n o a e1 e2 => (s.ob n o a e1 e2).ext (Ext.tupled s hp) (upd_ne fun z => s.not_mem hp (z ▸ List.mem_of_getElem? e2))⟩
theorem SRep.new (s : SRep G μ h H) (hp : H p = none) (r : ORep G (upd H p ho) (μ ++ [p]) o p) : SRep G (μ ++ [p]) (h ++ [o]) (upd H p ho) := by
  refine ⟨by simp [s.len], ?_, fun n o' a e1 e2 => ?_⟩
  · rw [List.nodup_append]
    refine ⟨s.nd, by simp, fun a ha b hb => ?_⟩
    rw [List.mem_singleton.mp hb]
    exact fun z => s.not_mem hp (z ▸ ha)
  · by_cases hn : n < h.length
    · rw [List.getElem?_append_left hn] at e1
      rw [List.getElem?_append_left (by rw [s.len]; exact hn)] at e2
      exact (s.ob n o' a e1 e2).ext (Ext.new s hp) (upd_ne fun z => s.not_mem hp (z ▸ List.mem_of_getElem? e2))
    · have hn' : n = h.length := by
        have := (List.getElem?_eq_some_iff.mp e1).1
        simp at this; omega
      subst hn'
      rw [List.getElem?_append_right (Nat.le_refl _)] at e1
      rw [List.getElem?_append_right (by rw [s.len]; exact Nat.le_refl _)] at e2
      simp [s.len] at e1 e2
      subst e1 e2
      exact r
theorem Ext.write (s : SRep G μ h H) (m : a ∈ μ) : Ext μ H μ (upd H a ho) := by
  obtain ⟨u, e, mu⟩ := s.track m
  refine ⟨⟨[], by simp⟩, fun b v q n => ?_, fun b m => .inl m, fun b xs q => ?_, fun b o v q => ?_⟩
  · rw [upd_ne fun z => n (by rw [z]; exact m)]; exact q
  · rw [upd_ne]; exact q
    rintro rfl; rw [q] at e; cases e; exact mu
  · rw [upd_ne]; exact q
    rintro rfl; rw [q] at e; cases e; exact mu
theorem SRep.write {n : Nat} (s : SRep G μ h H) (e : μ[n]? = some a) (r : ORep G (upd H a ho) μ o a) : SRep G μ (h.set n o) (upd H a ho) := by
  refine ⟨by simp [s.len], s.nd, fun k o' b e1 e2 => ?_⟩
  by_cases hk : k = n
  · subst hk
    rw [e] at e2; cases e2
    have hl : k < h.length := by
      have := (List.getElem?_eq_some_iff.mp e1).1
      simpa using this
    rw [List.getElem?_set_self hl] at e1; cases e1
    exact r
  · rw [List.getElem?_set_ne (Ne.symm hk)] at e1
    refine (s.ob k o' b e1 e2).ext (Ext.write s (List.mem_of_getElem? e)) (upd_ne ?_)
    rintro rfl
    exact hk (nodup_idx s.nd e2 e)
where
  nodup_idx {l : List Addr} (hN : l.Nodup) {i j : Nat} {x : Addr} (a : l[i]? = some x) (b : l[j]? = some x) : i = j := by
    obtain ⟨h1, e1⟩ := List.getElem?_eq_some_iff.mp a
    obtain ⟨h2, e2⟩ := List.getElem?_eq_some_iff.mp b
    exact (List.getElem_inj hN).mp (e1.trans e2.symm)
end
def alloc (o : DO) (h : DH) : R D := .ok (.ref h.length) (h ++ [o])
section
variable {G : GX} {W : XW} {μ : List Addr} {H : Hp} {h : DH} {p a : Addr} {o : DO} {ho : HO} {Q : VK}
theorem Post.allo (P : Post (Rep G) G W μ H (alloc o h) Q) (s : SRep G μ h H) (hp : H p = none) (r : ORep G (upd H p ho) (μ ++ [p]) o p) : Q (.ref p) (upd H p ho) :=
  P _ _ _ (s.new hp r) (.new s hp) ⟨p, by rw [List.getElem?_append_right (by rw [s.len]; exact Nat.le_refl _)]; simp [s.len], rfl⟩
theorem Post.allocL {ds : List D} {vs : List V} (P : Post (Rep G) G W μ H (alloc (.lst ds) h) Q) (s : SRep G μ h H) (r : RepL G H μ ds vs) : ∀ p, H p = none → Q (.ref p) (upd H p (.lst vs)) :=
  fun p hp => P.allo s hp ⟨vs, upd_same, r.ext (.new s hp)⟩
theorem Post.tup {ds : List D} {vs : List V} (P : Post (Rep G) G W μ H (.ok (.tup ds) h) Q) (s : SRep G μ h H) (r : RepL G H μ ds vs) : ∀ p, H p = none → Q (.ref p) (upd H p (.tup vs)) :=
  fun p hp => P _ _ _ (s.tupled hp) (.tupled s hp) ⟨p, vs, rfl, .of upd_same, r.ext (.tupled s hp)⟩
theorem SRep.list {n : Nat} {ds : List D} (s : SRep G μ h H) (e : h[n]? = some (.lst ds)) (ea : μ[n]? = some a) : ∃ vs, H a = some (.lst vs) ∧ RepL G H μ ds vs := s.ob n _ a e ea
theorem Rep.ref {n : Nat} {v : V} (r : Rep G H μ (.ref n) v) : ∃ a, μ[n]? = some a ∧ v = .ref a := by unfold Rep at r; exact r
theorem Rep.tupl {ds : List D} {v : V} (r : Rep G H μ (.tup ds) v) : ∃ a vs, v = .ref a ∧ SqT G.K H a vs ∧ RepL G H μ ds vs := by unfold Rep at r; exact r
theorem Rep.frzl {ds : List D} {v : V} (r : Rep G H μ (.frz ds) v) : ∃ a vs, v = .ref a ∧ SqF G.K H a vs ∧ RepL G H μ ds vs := by unfold Rep at r; exact r
theorem Rep.intv {i : Int} {v : V} (r : Rep G H μ (.int i) v) : v = .int i := by unfold Rep at r; exact r
theorem Rep.strv {i : Txt} {v : V} (r : Rep G H μ (.str i) v) : v = .str (sOf i) := by unfold Rep at r; exact r
theorem Rep.blv {i : Bool} {v : V} (r : Rep G H μ (.bl i) v) : v = .bl i := by unfold Rep at r; exact r
theorem Rep.nonv {v : V} (r : Rep G H μ .non v) : v = .non := by unfold Rep at r; exact r
end
theorem sOf_len (t : Txt) : (sOf t).length = t.length := by simp [sOf, Str.length]
theorem sOf_app (s t : Txt) : sOf s ++ sOf t = sOf (s ++ t) := by
  show (⟨_⟩ : Str) = _
  simp [sOf]

def dVar (i : Nat) : DE := fun env h => match env[i]? with
  | some (some d) => .ok d h
  | _ => .bad
def dCst (d : D) : DE := fun _ h => .ok d h
section
variable {X : Cx} {W : XWS} {pos : Pos}
theorem d_var {i : Nat} {x : Str} (hN : X.N[i]? = some x) (hv : Vis X.env.scope x) (hd : (x == ("__debug__" : Str)) = false) (hcd : (x == ("__classdict__" : Str)) = false) : PE X (.Name x pos) (TD (gx X) W (dVar i)) := by
  refine (pe_var hN hv hd hcd).weak fun σ H Q ⟨μ, env, h, s, e, p⟩ => ?_
  unfold dVar at p
  split at p
  · rename_i d q
    obtain ⟨v, h1, h2⟩ := e.2 i d q
    exact ⟨v, h1, p.now s h2⟩
  · exact p.elim
theorem d_int {i : Int} {j} : PE X (.Constant (.int i) j pos) (TD (gx X) W (dCst (.int i))) := pe_int.weak fun σ H Q ⟨μ, env, h, s, e, p⟩ => p.now s (by unfold Rep; rfl)
theorem d_bl {i : Bool} {j} : PE X (.Constant (.bool i) j pos) (TD (gx X) W (dCst (.bl i))) := pe_bl.weak fun σ H Q ⟨μ, env, h, s, e, p⟩ => p.now s (by unfold Rep; rfl)
theorem d_non {j} : PE X (.Constant .none j pos) (TD (gx X) W (dCst .non)) := pe_non.weak fun σ H Q ⟨μ, env, h, s, e, p⟩ => p.now s (by unfold Rep; rfl)
theorem d_str {x : Str} {t : Txt} {j} (e : x = sOf t) : PE X (.Constant (.str x) j pos) (TD (gx X) W (dCst (.str t))) := pe_str.weak fun σ H Q ⟨μ, env, h, s, _, p⟩ => p.now s (by unfold Rep; rw [e])
end

abbrev D2 := D → D → DH → R D
def rD (G : GX) (W : XW) (g : D2) : R2 := fun x y H Q => ∃ μ h d e, SRep G μ h H ∧ Rep G H μ d x ∧ Rep G H μ e y ∧ Post (Rep G) G W μ H (g d e h) Q
def d2 (g : D2) (ma mb : DE) : DE := ma.bind fun d => mb.bind fun e => fun _ h => g d e h
theorem tOp_d {G : GX} {W : XWS} {g : D2} {ma mb : DE} {σ : L2.St} {H : Hp} {Q : VK} (q : TD G W (d2 g ma mb) σ H Q) : tOp (rD G (W σ) g) (TD G W ma) (TD G W mb) σ H Q := by
  refine TG'.imp (TG'.split (rel := Rep G) q) ?_
  rintro x H1 ⟨μ1, d, env, h1, s1, e1, r1, p1⟩
  refine ⟨μ1, env, h1, s1, e1, Post.imp (Post.bind (rel := Rep G) p1) ?_⟩
  rintro y H2 ⟨μ2, e, h2, s2, x2, r2, p2⟩
  exact ⟨μ2, h2, d, e, s2, r1.ext x2, r2, p2⟩
section
variable {X : Cx} {W : XWS} {pos : Pos} {a b : Expr} {ma mb : DE} {g : D2}
theorem d_bin {op : Operator} (ho : ∀ W, OpR X (binaryOp op) (rD (gx X) W g)) (ha : PE X a (TD (gx X) W ma)) (hb : PE X b (TD (gx X) W mb)) : PE X (.BinOp a op b pos) (TD (gx X) W (d2 g ma mb)) :=
  PE.weakS (fun σ => pe_op (ho (W σ)) ha hb) fun _ _ _ q => tOp_d q
theorem d_cmp {op : CmpOp} (ho : ∀ W, OpR X (compareOp op) (rD (gx X) W g)) (ha : PE X a (TD (gx X) W ma)) (hb : PE X b (TD (gx X) W mb)) (hm : behindInMarks op b = false) : PE X (.Compare a [op] [b] pos) (TD (gx X) W (d2 g ma mb)) :=
  PE.weakS (fun σ => pe_cmpR (ho (W σ)) ha hb hm) fun _ _ _ q => tOp_d q
theorem d_ix (ho : ∀ W, IxR X (rD (gx X) W g)) (ha : PE X a (TD (gx X) W ma)) (hb : PE X b (TD (gx X) W mb)) (hs : PlainIx b) : PE X (.Subscript a b pos) (TD (gx X) W (d2 g ma mb)) :=
  PE.weakS (fun σ => pe_ix (ho (W σ)) ha hb hs) fun _ _ _ q => tOp_d q
end

def addD : D2
  | .int i, .int j, h => .ok (.int (i + j)) h
  | .str s, .str t, h => if s.length + t.length ≤ big then .ok (.str (s ++ t)) h else .bad
  | .tup s, .tup t, h => if s.length + t.length ≤ big then .ok (.tup (s ++ t)) h else .bad
  | .ref n, .ref m, h => match h[n]?, h[m]? with
    | some (.lst s), some (.lst t) => if s.length + t.length ≤ big then alloc (.lst (s ++ t)) h else .bad
    | _, _ => .bad
  | _, _, _ => .bad
section
variable {X : Cx} {W : XW}
theorem o_add : OpR X (binaryOp .Add) (rD (gx X) W addD) := by
  intro pins s σ H x y v u Q I rx ry q
  obtain ⟨μ, h, d, e, S, r1, r2, P⟩ := q
  unfold addD at P
  split at P
  · rename_i h i j
    exact op_add pins s σ H x y v u Q I rx ry ⟨i, j, r1.intv, r2.intv, P.now S (by unfold Rep; rfl)⟩
  · rename_i h a b
    split at P
    · rename_i hl
      exact op_add_str pins s σ H x y v u Q I rx ry ⟨sOf a, sOf b, r1.strv, r2.strv, by rw [sOf_len, sOf_len, big_eq]; exact hl, P.now S (by unfold Rep; rw [sOf_app])⟩
    · exact P.elim
  · rename_i h a b
    split at P
    · rename_i hl
      obtain ⟨p1, vs, e1, q1, l1⟩ := r1.tupl
      obtain ⟨p2, ws, e2, q2, l2⟩ := r2.tupl
      refine op_catA pins s σ H x y v u Q I rx ry ⟨p1, p2, vs, ws, e1, e2, q1, q2, by rw [l1.length, l2.length, big_eq]; exact hl, fun z => ?_, fun z z2 => ?_, fun z z2 p hp => ?_⟩
      · subst z
        refine P.now S ?_
        unfold Rep
        exact ⟨p2, ws, rfl, q2, l1.append l2⟩
      · subst z2
        refine P.now S ?_
        unfold Rep
        have := l1.append l2
        rw [List.append_nil] at this
        exact ⟨p1, vs, rfl, q1, this⟩
      · exact P.tup S (l1.append l2) p hp
    · exact P.elim
  · rename_i h n m
    obtain ⟨a, ea, rfl⟩ := r1.ref
    obtain ⟨b, eb, rfl⟩ := r2.ref
    split at P
    · rename_i ds es en em
      obtain ⟨vs, h1, l1⟩ := S.list en ea
      obtain ⟨ws, h2, l2⟩ := S.list em eb
      split at P
      · rename_i hl
        exact op_cat pins s σ H _ _ v u Q I rx ry ⟨a, b, vs, ws, rfl, rfl, h1, h2, by rw [l1.length, l2.length, big_eq]; exact hl, P.allocL S (l1.append l2)⟩
      · exact P.elim
    · exact P.elim
  · exact P.elim
end
end DV
namespace DV
open PySem PySem.Spec PyProof.Rows L2
def seqO {α : Type} : List (Option α) → Option (List α)
  | [] => some []
  | some x :: r => (seqO r).map (x :: ·)
  | none :: _ => none
def toPy (h : DH) : Nat → D → Option PyData
  | 0, _ => none
  | _ + 1, .non => some .none
  | _ + 1, .bl b => some (.bool b)
  | _ + 1, .int i => some (.int i)
  | _ + 1, .str t => some (.str (sOf t))
  | n + 1, .tup ds => (seqO (ds.map (toPy h n))).map .tuple
  | n + 1, .frz ds => (seqO (ds.map (toPy h n))).map .list
  | n + 1, .ref k => match h[k]? with
    | some (.lst ds) => (seqO (ds.map (toPy h n))).map .list
    | _ => none
  | _ + 1, .cdt _ => none
  | _ + 1, .fn _ => none
  | _ + 1, .ty _ => none
theorem seqO_cons {α : Type} {o : Option α} {r : List (Option α)} {l : List α} (h : seqO (o :: r) = some l) : ∃ x t, o = some x ∧ seqO r = some t ∧ l = x :: t := by
  cases o with
  | none => cases h
  | some x =>
    have h' : (seqO r).map (x :: ·) = some l := h
    cases q : seqO r with
    | none => rw [q] at h'; cases h'
    | some t => rw [q] at h'; exact ⟨x, t, rfl, rfl, (Option.some.inj h').symm⟩
section
variable {G : GX} {μ : List Addr} {H : Hp} {h : DH}
theorem toPyL_ok {f : D → Option PyData} (ih : ∀ d v p, f d = some p → Rep G H μ d v → Dp G.K H v p) : ∀ {ds : List D} {vs : List V} {ps : List PyData}, seqO (ds.map f) = some ps → RepL G H μ ds vs → DpAll G.K H vs ps
  | [], vs, ps, e, r => by
    unfold RepL at r; subst r
    have : ps = [] := (Option.some.inj e).symm
    subst this; exact .nil
  | d :: ds, vs, ps, e, r => by
    unfold RepL at r
    obtain ⟨v, t, rfl, r1, r2⟩ := r
    obtain ⟨x, l, e1, e2, rfl⟩ := seqO_cons e
    exact .cons (ih d v x e1 r1) (toPyL_ok ih e2 r2)
theorem toPy_ok (s : SRep G μ h H) : ∀ (n : Nat) (d : D) (v : V) (p : PyData), toPy h n d = some p → Rep G H μ d v → Dp G.K H v p
  | 0, _, _, _, e, _ => nomatch e
  | _ + 1, .non, v, p, e, r => by cases e; rw [r.nonv]; exact .non
  | _ + 1, .bl b, v, p, e, r => by cases e; rw [r.blv]; exact .bl b
  | _ + 1, .int b, v, p, e, r => by cases e; rw [r.intv]; exact .int b
  | _ + 1, .str b, v, p, e, r => by cases e; rw [r.strv]; exact .str _
  | n + 1, .tup ds, v, p, e, r => by
    unfold toPy at e
    cases q : seqO (ds.map (toPy h n)) with
    | none => rw [q] at e; cases e
    | some ps =>
      rw [q] at e; cases e
      obtain ⟨a, vs, rfl, h1, h2⟩ := r.tupl
      exact .tup h1 (toPyL_ok (toPy_ok s n) q h2)
  | n + 1, .frz ds, v, p, e, r => by
    unfold toPy at e
    cases q : seqO (ds.map (toPy h n)) with
    | none => rw [q] at e; cases e
    | some ps =>
      rw [q] at e; cases e
      obtain ⟨a, vs, rfl, h1, h2⟩ := r.frzl
      exact .lst h1.sq (toPyL_ok (toPy_ok s n) q h2)
  | n + 1, .ref k, v, p, e, r => by
    unfold toPy at e
    obtain ⟨a, ea, rfl⟩ := r.ref
    split at e
    · rename_i ds q
      obtain ⟨vs, h1, h2⟩ := s.list q ea
      cases q' : seqO (ds.map (toPy h n)) with
      | none => rw [q'] at e; cases e
      | some ps =>
        rw [q'] at e; cases e
        exact .lst (.of h1) (toPyL_ok (toPy_ok s n) q' h2)
    · cases e
end
def subD : D2
  | .int i, .int j, h => .ok (.int (i - j)) h
  | _, _, _ => .bad
def mulOk (i j : Int) : Bool := decide (i.natAbs < 2 ^ 64) || decide (j.natAbs < 2 ^ 64)
def mulD : D2
  | .int i, .int j, h => if mulOk i j then .ok (.int (i * j)) h else .bad
  | .tup ds, .int k, h => if ds ≠ [] ∧ 2 ≤ k ∧ k ≤ 1000 ∧ ds.length ≤ 1000 then .ok (.tup (List.replicate k.toNat ds).flatten) h else .bad
  | .ref n, .int k, h => match h[n]? with
    | some (.lst ds) => if k < 1000000 ∧ -1000000 < k ∧ ds.length * k.toNat ≤ big then alloc (.lst (List.replicate k.toNat ds).flatten) h else .bad
    | _ => .bad
  | _, _, _ => .bad
def modD : D2
  | .int i, .int j, h => if 0 < j then .ok (.int (i % j)) h else .bad
  | _, _, _ => .bad
def fdivD : D2
  | .int i, .int j, h => if 0 < j ∧ j < 1073741824 then .ok (.int (i / j)) h else .bad
  | _, _, _ => .bad
def powD : D2
  | .int i, .int j, h => if 0 ≤ j ∧ j ≤ 1000000 ∧ i.natAbs < 2 ^ 64 then .ok (.int (i ^ j.toNat)) h else .bad
  | _, _, _ => .bad
theorem mulOk_c {i j : Int} (h : mulOk i j = true) : CMul i j := by
  unfold mulOk at h
  rw [Bool.or_eq_true, decide_eq_true_eq, decide_eq_true_eq] at h
  have : (2 : Int) ^ 64 = ((2 ^ 64 : Nat) : Int) := by norm_cast
  rcases h with h | h
  · exact .inl ⟨by rw [this]; omega, by rw [this]; omega⟩
  · exact .inr ⟨by rw [this]; omega, by rw [this]; omega⟩
theorem RepL.repl {G : GX} {μ : List Addr} {H : Hp} {ds : List D} {vs : List V} (r : RepL G H μ ds vs) : ∀ n : Nat, RepL G H μ (List.replicate n ds).flatten (List.replicate n vs).flatten
  | 0 => by unfold RepL; rfl
  | n + 1 => by rw [List.replicate_succ, List.replicate_succ, List.flatten_cons, List.flatten_cons]; exact r.append (RepL.repl r n)
theorem RepL.nil_iff {G : GX} {μ : List Addr} {H : Hp} {ds : List D} {vs : List V} (r : RepL G H μ ds vs) : vs = [] ↔ ds = [] := by
  rw [← List.length_eq_zero_iff, ← List.length_eq_zero_iff, r.length]
section
variable {X : Cx} {W : XW}
theorem o_sub : OpR X (binaryOp .Sub) (rD (gx X) W subD) := by
  intro pins s σ H x y v u Q I rx ry ⟨μ, h, d, e, S, r1, r2, P⟩
  unfold subD at P
  split at P
  · rename_i h i j
    exact op_sub pins s σ H x y v u Q I rx ry ⟨i, j, r1.intv, r2.intv, P.now S (by unfold Rep; rfl)⟩
  · exact P.elim
theorem o_mod : OpR X (binaryOp .Mod) (rD (gx X) W modD) := by
  intro pins s σ H x y v u Q I rx ry ⟨μ, h, d, e, S, r1, r2, P⟩
  unfold modD at P
  split at P
  · rename_i h i j
    split at P
    · rename_i hj
      exact op_mod pins s σ H x y v u Q I rx ry ⟨i, j, r1.intv, r2.intv, hj, P.now S (by unfold Rep; rfl)⟩
    · exact P.elim
  · exact P.elim
theorem o_fdiv : OpR X (binaryOp .FloorDiv) (rD (gx X) W fdivD) := by
  intro pins s σ H x y v u Q I rx ry ⟨μ, h, d, e, S, r1, r2, P⟩
  unfold fdivD at P
  split at P
  · rename_i h i j
    split at P
    · rename_i hj
      exact op_fdiv pins s σ H x y v u Q I rx ry ⟨i, j, r1.intv, r2.intv, hj, P.now S (by unfold Rep; rfl)⟩
    · exact P.elim
  · exact P.elim
theorem o_pow : OpR X (binaryOp .Pow) (rD (gx X) W powD) := by
  intro pins s σ H x y v u Q I rx ry ⟨μ, h, d, e, S, r1, r2, P⟩
  unfold powD at P
  split at P
  · rename_i h i j
    split at P
    · rename_i hj
      exact op_pow pins s σ H x y v u Q I rx ry ⟨i, j, r1.intv, r2.intv, hj, P.now S (by unfold Rep; rfl)⟩
    · exact P.elim
  · exact P.elim
theorem o_mul : OpR X (binaryOp .Mult) (rD (gx X) W mulD) := by
  intro pins s σ H x y v u Q I rx ry ⟨μ, h, d, e, S, r1, r2, P⟩
  unfold mulD at P
  split at P
  · rename_i h i j
    split at P
    · rename_i hj
      exact op_mul pins s σ H x y v u Q I rx ry ⟨i, j, r1.intv, r2.intv, mulOk_c hj, P.now S (by unfold Rep; rfl)⟩
    · exact P.elim
  · rename_i h ds k
    split at P
    · rename_i hc
      obtain ⟨a, vs, rfl, q1, l1⟩ := r1.tupl
      exact op_repT pins s σ H _ y v u Q I rx ry ⟨a, k, vs, rfl, r2.intv, q1, fun z => hc.1 (l1.nil_iff.mp z), hc.2.1, hc.2.2.1, by rw [l1.length]; exact hc.2.2.2, P.tup S (l1.repl k.toNat)⟩
    · exact P.elim
  · rename_i h n k
    split at P
    · rename_i ds e
      split at P
      · rename_i hc
        obtain ⟨a, ea, rfl⟩ := r1.ref
        obtain ⟨vs, h1, l1⟩ := S.list e ea
        refine op_rep pins s σ H _ y v u Q I rx ry ⟨a, k, vs, rfl, r2.intv, h1, ?_, ?_, by rw [l1.length, big_eq]; exact hc.2.2, P.allocL S (l1.repl k.toNat)⟩
        · have := hc.2.1
          have : (2 : Int) ^ 63 = 9223372036854775808 := by decide
          omega
        · have := hc.1
          have : (2 : Int) ^ 63 = 9223372036854775808 := by decide
          omega
      · exact P.elim
    · exact P.elim
  · exact P.elim
end
def eqB0 (neg : Bool) : D2 := fun d e h => match toPy h 60 d, toPy h 60 e with
  | some p, some q => if SeqAt.shaped p = true ∧ SeqAt.shaped q = true then .ok (.bl (if neg then !PyData.eqv p q else PyData.eqv p q)) h else .bad
  | _, _ => .bad
def eqB (neg : Bool) : D2
  | .str s, .str t, h => .ok (.bl (if neg then !decide (s = t) else decide (s = t))) h
  | d, e, h => eqB0 neg d e h
theorem eqB_not {neg : Bool} {d e : D} {h : DH} (z : ¬ ∃ s t, d = .str s ∧ e = .str t) : eqB neg d e h = eqB0 neg d e h := by
  cases d <;> first | rfl | (cases e <;> first | rfl | exact absurd ⟨_, _, rfl, rfl⟩ z)
theorem sOf_eq {s t : Txt} : decide (V.str (sOf s) = V.str (sOf t)) = decide (s = t) := by
  apply decide_eq_decide.mpr
  constructor
  · intro e
    have e1 : sOf s = sOf t := V.str.inj e
    have e2 := congrArg (fun z : Str => z.cps.toList) e1
    simpa [sOf] using e2
  · intro e
    rw [e]
inductive OrdK | lt | le | gt | ge
deriving DecidableEq
def OrdK.op : OrdK → CmpOp
  | .lt => .Lt | .le => .LtE | .gt => .Gt | .ge => .GtE
def OrdK.z : OrdK → Int → Int → Bool
  | .lt, i, j => decide (i < j) | .le, i, j => decide (i ≤ j) | .gt, i, j => decide (j < i) | .ge, i, j => decide (j ≤ i)
def OrdK.p : OrdK → PyData → PyData → Bool
  | .lt, i, j => PySem.W.dataLt i j | .le, i, j => !PySem.W.dataLt j i | .gt, i, j => PySem.W.dataLt j i | .ge, i, j => !PySem.W.dataLt i j
def notNone : PyData → Bool
  | .none => false
  | _ => true
def ordD (o : OrdK) : D2
  | .int i, .int j, h => .ok (.bl (o.z i j)) h
  | d, e, h => match toPy h 60 d, toPy h 60 e with
    | some p, some q => if PySem.W.alike p q = true ∧ notNone p = true ∧ SeqAt.shaped p = true then .ok (.bl (o.p p q)) h else .bad
    | _, _ => .bad
def isNon : D → Bool
  | .non => true
  | _ => false
def isB (neg : Bool) : D2
  | d, .non, h => .ok (.bl (if neg then !isNon d else isNon d)) h
  | .bl a, .bl b, h => .ok (.bl (if neg then !decide (a = b) else decide (a = b))) h
  | _, _, _ => .bad
section
variable {X : Cx} {W : XW}
theorem o_eq (hu : X.A.units + 64 < cLine) : OpR X (compareOp .Eq) (rD (gx X) W (eqB false)) := by
  intro pins s σ H x y v u Q I rx ry ⟨μ, h, d, e, S, r1, r2, P⟩
  by_cases z : ∃ s t, d = .str s ∧ e = .str t
  · obtain ⟨a, b, rfl, rfl⟩ := z
    unfold Rep at r1 r2
    subst r1
    subst r2
    refine L2.op_eq pins s σ H _ _ v u Q I rx ry ⟨rfl, P.now S ?_⟩
    unfold Rep
    rw [sOf_eq]
    rfl
  rw [eqB_not z] at P
  unfold eqB0 at P
  split at P
  · rename_i p q e1 e2
    split at P
    · rename_i hs
      exact op_eqD hu pins s σ H x y v u Q I rx ry ⟨p, q, toPy_ok S _ _ _ _ e1 r1, toPy_ok S _ _ _ _ e2 r2, hs.1, hs.2, P.now S (by unfold Rep; rfl)⟩
    · exact P.elim
  · exact P.elim
theorem o_ne (hu : X.A.units + 64 < cLine) : OpR X (compareOp .NotEq) (rD (gx X) W (eqB true)) := by
  intro pins s σ H x y v u Q I rx ry ⟨μ, h, d, e, S, r1, r2, P⟩
  by_cases z : ∃ s t, d = .str s ∧ e = .str t
  · obtain ⟨a, b, rfl, rfl⟩ := z
    unfold Rep at r1 r2
    subst r1
    subst r2
    refine L2.op_ne pins s σ H _ _ v u Q I rx ry ⟨rfl, P.now S ?_⟩
    unfold Rep
    rw [sOf_eq]
    rfl
  rw [eqB_not z] at P
  unfold eqB0 at P
  split at P
  · rename_i p q e1 e2
    split at P
    · rename_i hs
      exact op_neD hu pins s σ H x y v u Q I rx ry ⟨p, q, toPy_ok S _ _ _ _ e1 r1, toPy_ok S _ _ _ _ e2 r2, hs.1, hs.2, P.now S (by unfold Rep; rfl)⟩
    · exact P.elim
  · exact P.elim
theorem notNone_ne {p : PyData} (h : notNone p = true) : p ≠ .none := fun e => by subst e; cases h
theorem o_ord (hu : X.A.units + 64 < cLine) (o : OrdK) : OpR X (compareOp o.op) (rD (gx X) W (ordD o)) := by
  intro pins s σ H x y v u Q I rx ry ⟨μ, h, d, e, S, r1, r2, P⟩
  unfold ordD at P
  split at P
  · rename_i h i j
    have P' := P.now S (v := .bl (o.z i j)) (by unfold Rep; rfl)
    cases o with
    | lt => exact op_lt pins s σ H x y v u Q I rx ry ⟨i, j, r1.intv, r2.intv, P'⟩
    | le => exact op_le pins s σ H x y v u Q I rx ry ⟨i, j, r1.intv, r2.intv, P'⟩
    | gt => exact op_gt pins s σ H x y v u Q I rx ry ⟨i, j, r1.intv, r2.intv, P'⟩
    | ge => exact op_ge pins s σ H x y v u Q I rx ry ⟨i, j, r1.intv, r2.intv, P'⟩
  · split at P
    · rename_i p q e1 e2
      split at P
      · rename_i hs
        obtain ⟨h1, h2, h3⟩ := hs
        have P' := P.now S (v := .bl (o.p p q)) (by unfold Rep; rfl)
        obtain ⟨as, ra⟩ := Dp.reads I p x v (toPy_ok S _ _ _ _ e1 r1) rx
        obtain ⟨bs, rb⟩ := Dp.reads I q y u (toPy_ok S _ _ _ _ e2 r2) ry
        have hu' : X.A.units + min p.depth q.depth < cLine := by
          have := SeqAt.depth_of_shaped h3
          omega
        have fin : EP X pins σ Q (.bool (o.p p q)) s := ⟨.bl (o.p p q), H, I, rfl, P'⟩
        cases o with
        | lt => exact PySem.W.lt_data ra rb h1 (notNone_ne h2) hu' fin
        | le => exact PySem.W.le_data ra rb h1 (notNone_ne h2) hu' fin
        | gt => exact PySem.W.gt_data ra rb h1 (notNone_ne h2) hu' fin
        | ge => exact PySem.W.ge_data ra rb h1 (notNone_ne h2) hu' fin
      · exact P.elim
    · exact P.elim
theorem dec_non {G : GX} {H : Hp} {μ : List Addr} {d : D} {v : V} (r : Rep G H μ d v) : decide (v = .non) = isNon d := by
  cases d with
  | non => rw [r.nonv]; rfl
  | bl b => rw [r.blv]; rfl
  | int b => rw [r.intv]; rfl
  | str b => rw [r.strv]; rfl
  | tup b => obtain ⟨a, vs, rfl, _⟩ := r.tupl; rfl
  | frz b => obtain ⟨a, vs, rfl, _⟩ := r.frzl; rfl
  | ref b => obtain ⟨a, _, rfl⟩ := r.ref; rfl
  | cdt b => unfold Rep at r; obtain ⟨a, _, _, rfl, _⟩ := r; rfl
  | fn b => unfold Rep at r; subst r; rfl
  | ty b => unfold Rep at r; subst r; rfl
theorem o_is : OpR X (compareOp .Is) (rD (gx X) W (isB false)) := by
  intro pins s σ H x y v u Q I rx ry ⟨μ, h, d, e, S, r1, r2, P⟩
  unfold isB at P
  split at P
  · refine op_isN pins s σ H x y v u Q I rx ry ⟨r2.nonv, P.now S ?_⟩
    rw [dec_non r1]
    unfold Rep
    rfl
  · rename_i h a b
    exact op_is_bl pins s σ H x y v u Q I rx ry ⟨a, b, r1.blv, r2.blv, P.now S (by unfold Rep; rfl)⟩
  · exact P.elim
theorem o_isnot : OpR X (compareOp .IsNot) (rD (gx X) W (isB true)) := by
  intro pins s σ H x y v u Q I rx ry ⟨μ, h, d, e, S, r1, r2, P⟩
  unfold isB at P
  split at P
  · refine op_notN pins s σ H x y v u Q I rx ry ⟨r2.nonv, P.now S ?_⟩
    rw [dec_non r1]
    unfold Rep
    rfl
  · rename_i h a b
    exact op_isnot_bl pins s σ H x y v u Q I rx ry ⟨a, b, r1.blv, r2.blv, P.now S (by unfold Rep; rfl)⟩
  · exact P.elim
end
end DV
namespace DV
open PySem PySem.Spec PyProof.Rows L2
def truD : D → DH → R Bool
  | .non, h => .ok false h
  | .bl b, h => .ok b h
  | .int i, h => .ok (i != 0) h
  | .str t, h => if t.length ≤ big then .ok (!t.isEmpty) h else .bad
  | .tup ds, h => .ok (!ds.isEmpty) h
  | .frz ds, h => .ok (!ds.isEmpty) h
  | .ref n, h => match h[n]? with
    | some (.lst ds) => .ok (!ds.isEmpty) h
    | _ => .bad
  | _, _ => .bad
theorem RepL.isEmpty {G : GX} {μ : List Addr} {H : Hp} {ds : List D} {vs : List V} (r : RepL G H μ ds vs) : vs.isEmpty = ds.isEmpty := by
  have := r.length
  cases ds <;> cases vs <;> simp_all
theorem tru_ok' {X : Cx} {W : XW} {μ : List Addr} {H : Hp} {h : DH} {d : D} {v : V} {Q : Bool → Hp → Prop} (S : SRep (gx X) μ h H) (r : Rep (gx X) H μ d v) (P : Post EqB (gx X) W μ H (truD d h) Q) : ∃ k, TruV X.K v H k ∧ Q k H := by
  unfold truD at P
  split at P
  · rw [r.nonv]; exact ⟨false, rfl, P.now S rfl⟩
  · rw [r.blv]; exact ⟨_, rfl, P.now S rfl⟩
  · rw [r.intv]; exact ⟨_, rfl, P.now S rfl⟩
  · split at P
    · rename_i hl
      rw [r.strv]
      refine ⟨_, ⟨by rw [sOf_len, big_eq]; exact hl, rfl⟩, P.now S ?_⟩
      show (!_) = _
      rw [sOf_len]
      rename_i t
      cases t with
      | nil => rfl
      | cons c l =>
        have : ((List.length (c :: l) : Int) != 0) = true := by
          rw [List.length_cons]
          exact bne_iff_ne.mpr (by omega)
        rw [this]; rfl
    · exact P.elim
  · obtain ⟨a, vs, rfl, q1, l1⟩ := r.tupl
    exact ⟨_, .inr (.inl ⟨vs, q1, rfl⟩), P.now S (by show (!_) = (!_); rw [l1.isEmpty])⟩
  · obtain ⟨a, vs, rfl, q1, l1⟩ := r.frzl
    exact ⟨_, .inl ⟨vs, q1.sq, rfl⟩, P.now S (by show (!_) = (!_); rw [l1.isEmpty])⟩
  · obtain ⟨a, ea, rfl⟩ := r.ref
    split at P
    · rename_i e
      obtain ⟨vs, h1, l1⟩ := S.list e ea
      exact ⟨_, .inl ⟨vs, .of h1, rfl⟩, P.now S (by show (!_) = (!_); rw [l1.isEmpty])⟩
    · exact P.elim
  · exact P.elim
def dTru (m : DE) : DEn Bool := m.bind fun d _ h => truD d h
def blD : D → DH → R Bool
  | .bl b, h => .ok b h
  | _, _ => .bad
def dBl (m : DE) : DEn Bool := m.bind fun d _ h => blD d h
section
variable {X : Cx} {W : XWS} {pos : Pos} {a b c : Expr} {ma mb mc : DE} {ta tb : DEn Bool} {g g' : D2} {rest : List Expr}
theorem t_truth (ha : PE X a (TD (gx X) W ma)) (he : ∀ whole, isTrue a X.env whole = (do let v ← whole; standAt a.pos; holding [v] (truthy v))) : PT X a (TDB (gx X) W (dTru ma)) := by
  refine (pt_truth ha he).weak fun σ H Q q => ?_
  refine TG'.imp (TG'.split (rel := Rep (gx X)) q) ?_
  rintro x H1 ⟨μ1, d, env, h1, s1, e1, r1, p1⟩
  exact tru_ok' s1 r1 p1
theorem t_cmp {op : CmpOp} (ho : ∀ W, OpR X (compareOp op) (rD (gx X) W g)) (ha : PE X a (TD (gx X) W ma)) (hb : PE X b (TD (gx X) W mb)) (hm : behindInMarks op b = false) : PT X (.Compare a [op] [b] pos) (TDB (gx X) W (dBl (d2 g ma mb))) := by
  refine PT.weakS (fun σ => pt_cmpR (ho (W σ)) ha hb hm) fun σ H Q q => ?_
  obtain ⟨μ, env, h, s, e, p⟩ := q
  refine tOp_d (ma := ma) (mb := mb) ⟨μ, env, h, s, e, Post.imp (Post.bind (rel := Rep (gx X)) p) ?_⟩
  rintro v H1 ⟨μ1, d, h1, s1, x1, r1, p1⟩
  cases d with
  | bl k => exact ⟨_, r1.blv, p1.now s1 rfl⟩
  | _ => exact p1.elim
def dAnd (ma mb : DE) : DE := ma.bind fun d env h => (truD d h).bind fun k h1 => if k = true then mb env h1 else .ok d h1
def dOr (ma mb : DE) : DE := ma.bind fun d env h => (truD d h).bind fun k h1 => if k = true then .ok d h1 else mb env h1
def tAndB (ta tb : DEn Bool) : DEn Bool := ta.bind fun k env h => if k = true then tb env h else .ok false h
def tOrB (ta tb : DEn Bool) : DEn Bool := ta.bind fun k env h => if k = true then .ok true h else tb env h
def tNotB (ta : DEn Bool) : DEn Bool := ta.bind fun k _ h => .ok (!k) h
def dNot (ma : DE) : DE := ma.bind fun d _ h => (truD d h).bind fun k h1 => .ok (.bl (!k)) h1
theorem truD_heap {d : D} {h h1 : DH} {k : Bool} (e : truD d h = .ok k h1) : h1 = h := by
  unfold truD at e
  split at e <;> try (injection e with _ e2; exact e2.symm)
  · split at e
    · injection e with _ e2; exact e2.symm
    · cases e
  · split at e
    · injection e with _ e2; exact e2.symm
    · cases e
  · cases e
/-- a value's truth ahead of what follows -/
theorem tru_then {α β : Type} {rel : Hp → List Addr → α → β → Prop} {W : XW} {μ : List Addr} {H : Hp} {h : DH} {d : D} {v : V} {k : Bool → DH → R α} {Q : β → Hp → Prop} (S : SRep (gx X) μ h H) (r : Rep (gx X) H μ d v)
    (P : Post rel (gx X) W μ H ((truD d h).bind k) Q) : ∃ b, TruV X.K v H b ∧ Post rel (gx X) W μ H (k b h) Q := by
  cases e : truD d h with
  | bad => rw [e] at P; exact P.elim
  | exc c a h' =>
    exfalso
    unfold truD at e
    repeat (first | cases e | split at e)
  | ok b h1 =>
    have eh := truD_heap e
    subst eh
    rw [e] at P
    have := tru_ok' (W := W) (Q := fun k' _ => k' = b) S r (by rw [e]; intro μ' H' v' _ _ q; exact q.symm)
    obtain ⟨k', h1, h2⟩ := this
    subst h2
    exact ⟨k', h1, P⟩
theorem d_and (ha : PE X a (TD (gx X) W ma)) (hb : PE X (.BoolOp .And (b :: rest) pos) (TD (gx X) W mb)) : PE X (.BoolOp .And (a :: b :: rest) pos) (TD (gx X) W (dAnd ma mb)) := by
  refine (pe_andT ha hb).weak fun σ H Q q => ?_
  refine TG'.imp (TG'.split (rel := Rep (gx X)) q) ?_
  rintro x H1 ⟨μ1, d, env, h1, s1, e1, r1, p1⟩
  obtain ⟨k, hk, P⟩ := tru_then s1 r1 p1
  refine ⟨k, hk, ?_⟩
  cases k with
  | true => exact ⟨μ1, env, h1, s1, e1, P⟩
  | false => exact P.now s1 r1
theorem d_or (ha : PE X a (TD (gx X) W ma)) (hb : PE X (.BoolOp .Or (b :: rest) pos) (TD (gx X) W mb)) : PE X (.BoolOp .Or (a :: b :: rest) pos) (TD (gx X) W (dOr ma mb)) := by
  refine (pe_orT ha hb).weak fun σ H Q q => ?_
  refine TG'.imp (TG'.split (rel := Rep (gx X)) q) ?_
  rintro x H1 ⟨μ1, d, env, h1, s1, e1, r1, p1⟩
  obtain ⟨k, hk, P⟩ := tru_then s1 r1 p1
  refine ⟨k, hk, ?_⟩
  cases k with
  | true => exact P.now s1 r1
  | false => exact ⟨μ1, env, h1, s1, e1, P⟩
theorem d_one {op : BoolOp} (ha : PE X a (TD (gx X) W ma)) : PE X (.BoolOp op [a] pos) (TD (gx X) W ma) := pe_one ha
theorem d_not (ha : PE X a (TD (gx X) W ma)) : PE X (.UnaryOp .Not a pos) (TD (gx X) W (dNot ma)) := by
  refine (pe_notT ha).weak fun σ H Q q => ?_
  refine TG'.imp (TG'.split (rel := Rep (gx X)) q) ?_
  rintro x H1 ⟨μ1, d, env, h1, s1, e1, r1, p1⟩
  obtain ⟨k, hk, P⟩ := tru_then s1 r1 p1
  exact ⟨k, hk, P.now s1 (by unfold Rep; rfl)⟩
theorem w_and1 (ha : PT X a (TDB (gx X) W ta)) : PW X (.BoolOp .And [a] pos) (TDB (gx X) W ta) := pw_and1 ha
theorem w_or1 (ha : PT X a (TDB (gx X) W ta)) : PW X (.BoolOp .Or [a] pos) (TDB (gx X) W ta) := pw_or1 ha
theorem _root_.L2.PW.weak {X : Cx} {e : Expr} {t t' : TT} (h : PW X e t) (w : ∀ σ H Q, t' σ H Q → t σ H Q) : PW X e t' := ⟨fun wh pins s σ H Q I q => h.run wh pins s σ H Q I (w σ H Q q)⟩
theorem w_and (ha : PT X a (TDB (gx X) W ta)) (hb : PW X (.BoolOp .And (b :: rest) pos) (TDB (gx X) W tb)) : PW X (.BoolOp .And (a :: b :: rest) pos) (TDB (gx X) W (tAndB ta tb)) := by
  refine (pw_and ha hb).weak fun σ H Q q => ?_
  refine TG'.imp (TG'.split (rel := EqB) q) ?_
  rintro x H1 ⟨μ1, d, env, h1, s1, e1, r1, p1⟩
  have r1 : d = x := r1
  subst r1
  cases d with
  | true => exact ⟨μ1, env, h1, s1, e1, p1⟩
  | false => exact p1.now s1 rfl
theorem w_or (ha : PT X a (TDB (gx X) W ta)) (hb : PW X (.BoolOp .Or (b :: rest) pos) (TDB (gx X) W tb)) : PW X (.BoolOp .Or (a :: b :: rest) pos) (TDB (gx X) W (tOrB ta tb)) := by
  refine (pw_or ha hb).weak fun σ H Q q => ?_
  refine TG'.imp (TG'.split (rel := EqB) q) ?_
  rintro x H1 ⟨μ1, d, env, h1, s1, e1, r1, p1⟩
  have r1 : d = x := r1
  subst r1
  cases d with
  | true => exact p1.now s1 rfl
  | false => exact ⟨μ1, env, h1, s1, e1, p1⟩
theorem t_not (ha : PT X a (TDB (gx X) W ta)) : PT X (.UnaryOp .Not a pos) (TDB (gx X) W (tNotB ta)) := by
  refine (pt_not ha).weak fun σ H Q q => ?_
  refine TG'.imp (TG'.split (rel := EqB) q) ?_
  rintro x H1 ⟨μ1, d, env, h1, s1, e1, r1, p1⟩
  have r1 : d = x := r1
  subst r1
  exact p1.now s1 rfl
def dIte (ta : DEn Bool) (ma mb : DE) : DE := ta.bind fun k env h => if k = true then ma env h else mb env h
theorem d_ite (hc : PT X c (TDB (gx X) W ta)) (ha : PE X a (TD (gx X) W ma)) (hb : PE X b (TD (gx X) W mb)) : PE X (.IfExp c a b pos) (TD (gx X) W (dIte ta ma mb)) := by
  refine (pe_ifExp hc ha hb).weak fun σ H Q q => ?_
  refine TG'.imp (TG'.split (rel := EqB) q) ?_
  rintro x H1 ⟨μ1, d, env, h1, s1, e1, r1, p1⟩
  have r1 : d = x := r1
  subst r1
  cases d with
  | true => exact ⟨μ1, env, h1, s1, e1, p1⟩
  | false => exact ⟨μ1, env, h1, s1, e1, p1⟩
def d3 (g g' : D2) (ma mb mc : DE) : DE := ma.bind fun d => mb.bind fun e env h => (g d e h).bind fun r h1 => (blD r h1).bind fun k h2 => if k = true then (mc env h2).bind fun f h3 => g' e f h3 else .ok (.bl false) h2
theorem chain_d {σ : L2.St} {H : Hp} {Q : VK} (q : TD (gx X) W (d3 g g' ma mb mc) σ H Q) : tChain (rD (gx X) (W σ) g) (rD (gx X) (W σ) g') (TD (gx X) W ma) (TD (gx X) W mb) (TD (gx X) W mc) σ H Q := by
  refine TG'.imp (TG'.split (rel := Rep (gx X)) q) ?_
  rintro x H1 ⟨μ1, d, env, h1, s1, e1, r1, p1⟩
  refine ⟨μ1, env, h1, s1, e1, Post.imp (Post.bind (rel := Rep (gx X)) p1) ?_⟩
  rintro y H2 ⟨μ2, e, h2, s2, x2, r2, p2⟩
  refine ⟨μ2, h2, d, e, s2, r1.ext x2, r2, Post.imp (Post.bind (rel := Rep (gx X)) p2) ?_⟩
  rintro z H3 ⟨μ3, f, h3, s3, x3, r3, p3⟩
  cases f with
  | bl k =>
    refine ⟨k, r3.blv, ?_⟩
    cases k with
    | true =>
      refine ⟨μ3, env, h3, s3, (e1.ext x2).ext x3, Post.imp (Post.bind (rel := Rep (gx X)) p3) ?_⟩
      rintro w' H4 ⟨μ4, l, h4, s4, x4, r4, p4⟩
      exact ⟨μ4, h4, e, l, s4, (r2.ext x3).ext x4, r4, p4⟩
    | false => exact p3.now s3 (by unfold Rep; rfl)
  | _ => exact p3.elim
theorem d_chain {op op' : CmpOp} (ho : ∀ W, OpR X (compareOp op) (rD (gx X) W g)) (ho' : ∀ W, OpR X (compareOp op') (rD (gx X) W g')) (ha : PE X a (TD (gx X) W ma)) (hb : PE X b (TD (gx X) W mb)) (hc : PE X c (TD (gx X) W mc))
    (hm : lastMarks [op, op'] [b, c] = false) : PE X (.Compare a [op, op'] [b, c] pos) (TD (gx X) W (d3 g g' ma mb mc)) :=
  PE.weakS (fun σ => pe_chain (ho (W σ)) (ho' (W σ)) ha hb hc hm) fun σ H Q q => chain_d q
theorem t_chain {op op' : CmpOp} (ho : ∀ W, OpR X (compareOp op) (rD (gx X) W g)) (ho' : ∀ W, OpR X (compareOp op') (rD (gx X) W g')) (ha : PE X a (TD (gx X) W ma)) (hb : PE X b (TD (gx X) W mb)) (hc : PE X c (TD (gx X) W mc))
    (hm : lastMarks [op, op'] [b, c] = false) : PT X (.Compare a [op, op'] [b, c] pos) (TDB (gx X) W (dBl (d3 g g' ma mb mc))) := by
  refine PT.weakS (fun σ => pt_chain (ho (W σ)) (ho' (W σ)) ha hb hc hm) fun σ H Q q => ?_
  obtain ⟨μ, env, h, s, e, p⟩ := q
  refine chain_d (ma := ma) (mb := mb) ⟨μ, env, h, s, e, Post.imp (Post.bind (rel := Rep (gx X)) p) ?_⟩
  rintro v H1 ⟨μ1, d, h1, s1, x1, r1, p1⟩
  cases d with
  | bl k => exact ⟨_, r1.blv, p1.now s1 rfl⟩
  | _ => exact p1.elim
def dTup (ml : DEn (List D)) : DE := ml.bind fun ds _ h => if ds.length ≤ big then .ok (.tup ds) h else .bad
def dLst (ml : DEn (List D)) : DE := ml.bind fun ds _ h => if ds.length ≤ big then alloc (.lst ds) h else .bad
def dNil : DEn (List D) := fun _ h => .ok [] h
def dCons (m : DE) (ml : DEn (List D)) : DEn (List D) := m.bind fun d => ml.bind fun ds _ h => .ok (d :: ds) h
variable {es : List Expr} {ml : DEn (List D)}
theorem a_nil : PA X [] (TDL (gx X) W dNil) := pa_nil.weak fun σ H Q ⟨μ, env, h, s, e, p⟩ => p.now s (by unfold RepL; rfl)
theorem a_cons (ha : PE X a (TD (gx X) W ma)) (hr : PA X es (TDL (gx X) W ml)) (hs : starEach (a :: es) X.env = (false, eval a X.env) :: starEach es X.env) : PA X (a :: es) (TDL (gx X) W (dCons ma ml)) := by
  refine (pa_cons ha hr hs).weak fun σ H Q q => ?_
  refine TG'.imp (TG'.split (rel := Rep (gx X)) q) ?_
  rintro x H1 ⟨μ1, d, env, h1, s1, e1, r1, p1⟩
  refine ⟨μ1, env, h1, s1, e1, Post.imp (Post.bind (rel := RepL (gx X)) p1) ?_⟩
  rintro y H2 ⟨μ2, e, h2, s2, x2, r2, p2⟩
  exact p2.now s2 (by unfold RepL; exact ⟨x, y, rfl, r1.ext x2, r2⟩)
theorem d_tup {k} (hl : PA X es (TDL (gx X) W ml)) : PE X (.Tuple es k pos) (TD (gx X) W (dTup ml)) := by
  refine (pe_tup hl).weak fun σ H Q q => ?_
  refine TG'.imp (TG'.split (rel := RepL (gx X)) q) ?_
  rintro x H1 ⟨μ1, d, env, h1, s1, e1, r1, p1⟩
  split at p1
  · rename_i hl
    exact ⟨by rw [r1.length, big_eq]; exact hl, p1.tup s1 r1⟩
  · exact p1.elim
theorem d_lst (hl : PA X es (TDL (gx X) W ml)) : PE X (.List es pos) (TD (gx X) W (dLst ml)) := by
  refine (pe_lst hl).weak fun σ H Q q => ?_
  refine TG'.imp (TG'.split (rel := RepL (gx X)) q) ?_
  rintro x H1 ⟨μ1, d, env, h1, s1, e1, r1, p1⟩
  split at p1
  · rename_i hl
    exact ⟨by rw [r1.length, big_eq]; exact hl, p1.allocL s1 r1⟩
  · exact p1.elim
end
end DV
namespace DV
open PySem PySem.Spec PyProof.Rows L2
def lookT (k : Txt) : List (Txt × D) → Option D
  | [] => none
  | (x, d) :: r => if x = k then some d else lookT k r
/-- the value at a key -/
def keq : D → D → Bool
  | .int i, .int j => decide (i = j)
  | .str s, .str t => decide (s = t)
  | _, _ => false
def lookK (k : D) : List (D × D) → Option D
  | [] => none
  | (x, d) :: r => if keq x k = true then some d else lookK k r
def putD (k d : D) : List (D × D) → List (D × D)
  | [] => [(k, d)]
  | (x, e) :: r => if keq x k = true then (x, d) :: r else (x, e) :: putD k d r
def negIf (n b : Bool) : Bool := if n then !b else b
def inSq (neg : Bool) : D2 := fun d e h => match toPy h 60 d, toPy h 60 e with
    | some p, some (.list qs) => if SeqAt.shaped p = true ∧ SeqAt.shaped (.list qs) = true then .ok (.bl (negIf neg (qs.any fun z => PyData.eqv z p))) h else .bad
    | some p, some (.tuple qs) => if SeqAt.shaped p = true ∧ SeqAt.shaped (.tuple qs) = true then .ok (.bl (negIf neg (qs.any fun z => PyData.eqv z p))) h else .bad
    | _, _ => .bad
def inRef (neg : Bool) (d : D) (n : Nat) (h : DH) : R D := match h[n]? with
  | some (.dct kvs) => .ok (.bl (negIf neg (lookK d kvs).isSome)) h
  | _ => inSq neg d (.ref n) h
def inB (neg : Bool) : D2
  | .str [c], .str t, h => .ok (.bl (negIf neg (decide (c ∈ t)))) h
  | .str k, .cdt kvs, h => .ok (.bl (negIf neg (lookT k kvs).isSome)) h
  | .str k, .ref n, h => inRef neg (.str k) n h
  | .int k, .ref n, h => inRef neg (.int k) n h
  | d, e, h => inSq neg d e h
theorem lookT_none {k : Txt} : ∀ {kvs : List (Txt × D)}, lookT k kvs = none → k ∉ kvs.map (·.1)
  | [], _ => by simp
  | (x, d) :: r, h => by
    unfold lookT at h
    by_cases e : x = k
    · rw [if_pos e] at h; cases h
    · rw [if_neg e] at h
      have := lookT_none h
      simp only [List.map_cons, List.mem_cons, not_or]
      exact ⟨fun z => e z.symm, this⟩
theorem sOf_inj {s t : Txt} (h : sOf s = sOf t) : s = t := by
  have : (sOf s).cps.toList = (sOf t).cps.toList := by rw [h]
  simpa [sOf] using this
theorem mem_sOf {k : Txt} {ks : List Txt} (h : k ∉ ks) : sOf k ∉ ks.map sOf := fun m => by
  obtain ⟨x, hx, e⟩ := List.mem_map.mp m
  exact h (sOf_inj e ▸ hx)
/-- a written dict's entry -/
theorem RepV.look {G : GX} {μ : List Addr} {H : Hp} {a : Addr} {k : Txt} {d : D} : ∀ {kvs : List (Txt × D)} {us : List Value} {vs : List V}, (∀ (i : Nat) k u, (kvs.map (·.1))[i]? = some k → us[i]? = some u → PySem.W.nsIn G.K a (sOf k) = some (some u)) →
    Vals vs us → RepV G H μ kvs vs → lookT k kvs = some d → ∃ u v, PySem.W.nsIn G.K a (sOf k) = some (some u) ∧ RelV v u ∧ Rep G H μ d v
  | [], us, vs, c, rv, r, h => by cases h
  | (x, d') :: t, us, vs, c, rv, r, h => by
    unfold RepV at r
    obtain ⟨v, r', rfl, r1, r2⟩ := r
    cases rv with
    | cons q1 q2 =>
      rename_i u us'
      unfold lookT at h
      by_cases e : x = k
      · rw [if_pos e] at h
        cases h
        exact ⟨u, v, by rw [← e]; exact c 0 x u rfl rfl, q1, r1⟩
      · rw [if_neg e] at h
        exact RepV.look (fun i k u h1 h2 => c (i + 1) k u (by simpa using h1) (by simpa using h2)) q2 r2 h
theorem Rep.cdtv {G : GX} {μ : List Addr} {H : Hp} {kvs : List (Txt × D)} {v : V} (r : Rep G H μ (.cdt kvs) v) : ∃ a us vs, v = .ref a ∧ CDict G a (kvs.map (·.1)) us ∧ Vals vs us ∧ RepV G H μ kvs vs := by unfold Rep at r; exact r
theorem CDict.isIn {G : GX} {μ : List Addr} {H : Hp} {a : Addr} {kvs : List (Txt × D)} {us : List Value} {vs : List V} (c : CDict G a (kvs.map (·.1)) us) (rv : Vals vs us) (r : RepV G H μ kvs vs) (k : Txt) :
    ∃ o, PySem.W.nsIn G.K a (sOf k) = some o ∧ o.isSome = (lookT k kvs).isSome := by
  cases e : lookT k kvs with
  | none => exact ⟨none, c.out _ (mem_sOf (lookT_none e)), rfl⟩
  | some d =>
    obtain ⟨u, v, h1, _, _⟩ := RepV.look c.at_ rv r e
    exact ⟨_, h1, rfl⟩
theorem keq_key {x k : D} {a b : Key} (ha : keyD x = some a) (hb : keyD k = some b) : keq x k = decide (a = b) := by
  cases x <;> cases k <;> cases ha <;> cases hb
  · rename_i i j
    show decide (i = j) = _
    exact decide_eq_decide.mpr ⟨fun e => by rw [e], fun e => Sum.inl.inj e⟩
  · rw [decide_eq_false fun z => nomatch z]; rfl
  · rw [decide_eq_false fun z => nomatch z]; rfl
  · rename_i i j
    show decide (i = j) = _
    exact decide_eq_decide.mpr ⟨fun e => by rw [e], fun e => sOf_inj (Sum.inr.inj e)⟩
section
variable {G : GX} {μ : List Addr} {H : Hp}
theorem RepK.look {k : D} {key : Key} (hk : keyD k = some key) : ∀ {kvs : List (D × D)} {kv : List (Key × V)}, RepK G H μ kvs kv → (match lookK k kvs with
    | some d => ∃ v, valV kv key = some v ∧ Rep G H μ d v
    | none => valV kv key = none)
  | [], kv, r => by
    have r : kv = [] := r
    subst r
    exact rfl
  | (x, d) :: t, kv, r => by
    obtain ⟨a, v, u, rfl, h1, h2, h3⟩ := r
    unfold lookK
    have h1 : keyD x = some a := h1
    rw [keq_key h1 hk]
    by_cases e : a = key
    · rw [if_pos (decide_eq_true e)]
      exact ⟨v, valV_pos e, h2⟩
    · rw [if_neg (by rw [decide_eq_true_eq]; exact e)]
      have ih := RepK.look hk h3
      cases q : lookK k t with
      | none => rw [q] at ih; exact (valV_neg e).trans ih
      | some d' =>
        rw [q] at ih
        obtain ⟨v', z1, z2⟩ := ih
        exact ⟨v', (valV_neg e).trans z1, z2⟩
theorem RepK.length : ∀ {kvs : List (D × D)} {kv : List (Key × V)}, RepK G H μ kvs kv → kv.length = kvs.length
  | [], kv, r => by
    have r : kv = [] := r
    rw [r]; rfl
  | _ :: t, kv, r => by
    obtain ⟨a, v, u, rfl, h1, h2, h3⟩ := r
    rw [List.length_cons, List.length_cons, RepK.length h3]
theorem RepK.some_ {k : D} {key : Key} {d : D} {kvs : List (D × D)} {kv : List (Key × V)} (r : RepK G H μ kvs kv) (hk : keyD k = some key) (e : lookK k kvs = some d) : ∃ v, valV kv key = some v ∧ Rep G H μ d v := by
  have := r.look hk
  rw [e] at this
  exact this
theorem RepK.isSome {k : D} {key : Key} {kvs : List (D × D)} {kv : List (Key × V)} (r : RepK G H μ kvs kv) (hk : keyD k = some key) : (valV kv key).isSome = (lookK k kvs).isSome := by
  have := r.look hk
  cases e : lookK k kvs with
  | none => rw [e] at this; rw [this]; rfl
  | some d => rw [e] at this; obtain ⟨v, z, _⟩ := this; rw [z]; rfl
theorem Rep.key {k : D} {key : Key} {v : V} (hk : keyD k = some key) (r : Rep G H μ k v) : v = kV key := by
  cases k <;> cases hk
  · exact r.intv
  · exact r.strv
end
section
variable {X : Cx} {W : XW}
theorem room_in' {p q : PyData} (hs : SeqAt.shaped p = true) (hu : X.A.units + 65 < cLine) (n : Nat) : X.A.units + 1 + min n p.depth < cLine := by
  have := SeqAt.depth_of_shaped hs
  omega
def opIn (neg : Bool) : CmpOp := if neg then .NotIn else .In
theorem o_inSq (hu : X.A.units + 65 < cLine) (neg : Bool) : OpR X (compareOp (opIn neg)) (rD (gx X) W (inSq neg)) := by
  intro pins s σ H x y v u Q I rx ry ⟨μ, h, d, e, S, r1, r2, P⟩
  unfold inSq at P
  split at P
  · rename_i p qs e1 e2
    split at P
    · rename_i hs
      cases neg with
      | false => exact op_inD hu pins s σ H x y v u Q I rx ry ⟨p, qs, toPy_ok S _ _ _ _ e1 r1, toPy_ok S _ _ _ _ e2 r2, hs.1, hs.2, P.now S (by unfold Rep; rfl)⟩
      | true => exact op_notInD hu pins s σ H x y v u Q I rx ry ⟨p, qs, toPy_ok S _ _ _ _ e1 r1, toPy_ok S _ _ _ _ e2 r2, hs.1, hs.2, P.now S (by unfold Rep; rfl)⟩
    · exact P.elim
  · rename_i p qs e1 e2
    split at P
    · rename_i hs
      obtain ⟨as, ra⟩ := Dp.reads I p x v (toPy_ok S _ _ _ _ e1 r1) rx
      obtain ⟨bs, rb⟩ := Dp.reads I (.tuple qs) y u (toPy_ok S _ _ _ _ e2 r2) ry
      cases neg with
      | false => exact SeqAt.in_tuple_reads rb ra (SeqAt.canLay_of_shaped hs.2) (SeqAt.canLay_of_shaped hs.1) (room_in' (q := p) hs.1 hu _) ⟨.bl _, H, I, rfl, P.now S (by unfold Rep; rfl)⟩
      | true => exact SeqAt.notIn_tuple_reads rb ra (SeqAt.canLay_of_shaped hs.2) (SeqAt.canLay_of_shaped hs.1) (room_in' (q := p) hs.1 hu _) ⟨.bl _, H, I, rfl, P.now S (by unfold Rep; rfl)⟩
    · exact P.elim
  · exact P.elim
theorem o_inRef (hu : X.A.units + 65 < cLine) (neg : Bool) {pins : List (Addr × Obj)} {s : Shared} {σ : L2.St} {H : Hp} {x y : V} {v u : Value} {Q : VK} (I : Inv X pins σ H s) (rx : RelV x v) (ry : RelV y u) {μ : List Addr} {h : DH} {d : D} {n : Nat} {key : Key}
    (hk : keyD d = some key) (S : SRep (gx X) μ h H) (r1 : Rep (gx X) H μ d x) (r2 : Rep (gx X) H μ (.ref n) y) (P : Post (Rep (gx X)) (gx X) W μ H (inRef neg d n h) Q) :
    wpAny (model X.prog X.w) X.A (compareOp (opIn neg) v u) (EP X pins σ Q) X.xe s := by
  unfold inRef at P
  split at P
  · rename_i kvs e
    obtain ⟨a, ea, rfl⟩ := r2.ref
    obtain ⟨kv, q1, q2⟩ := S.ob n _ a e ea
    cases ry
    have ex := r1.key hk
    subst ex
    have hy := q2.isSome hk
    cases neg with
    | false => exact d_in (by omega) I (DGet.k (k := key) q1) rx fun s' I' => ⟨.bl _, H, I', rfl, P.now S (by unfold Rep; show V.bl _ = V.bl _; rw [hy]; rfl)⟩
    | true => exact d_notIn (by omega) I (DGet.k (k := key) q1) rx fun s' I' => ⟨.bl _, H, I', rfl, P.now S (by unfold Rep; show V.bl _ = V.bl _; rw [hy]; rfl)⟩
  · exact o_inSq hu neg pins s σ H x y v u Q I rx ry ⟨μ, h, d, .ref n, S, r1, r2, P⟩
theorem o_inB (hu : X.A.units + 65 < cLine) (neg : Bool) : OpR X (compareOp (opIn neg)) (rD (gx X) W (inB neg)) := by
  intro pins s σ H x y v u Q I rx ry ⟨μ, h, d, e, S, r1, r2, P⟩
  unfold inB at P
  split at P
  · rename_i h c t
    cases neg with
    | false =>
      refine op_in_sign pins s σ H x y v u Q I rx ry ⟨c, sOf t, r1.strv, r2.strv, P.now S ?_⟩
      unfold Rep
      exact congrArg V.bl (decide_eq_decide.mpr Iff.rfl)
    | true =>
      refine op_notIn_sign pins s σ H x y v u Q I rx ry ⟨c, sOf t, r1.strv, r2.strv, P.now S ?_⟩
      unfold Rep
      exact congrArg (fun z => V.bl (!z)) (decide_eq_decide.mpr Iff.rfl)
  · rename_i h k kvs
    obtain ⟨a, us, vs, rfl, cd, rv, rr⟩ := r2.cdtv
    obtain ⟨es, n, kd⟩ := cd.kd
    obtain ⟨o, h1, h2⟩ := cd.isIn rv rr k
    cases neg with
    | false =>
      refine op_in_kd (X := X) kd pins s σ H x _ v u Q I rx ry ⟨sOf k, o, r1.strv, rfl, h1, P.now S ?_⟩
      unfold Rep
      rw [h2]; rfl
    | true =>
      refine op_notIn_kd (X := X) kd pins s σ H x _ v u Q I rx ry ⟨sOf k, o, r1.strv, rfl, h1, P.now S ?_⟩
      unfold Rep
      rw [h2]; rfl
  · exact o_inRef hu neg I rx ry rfl S r1 r2 P
  · exact o_inRef hu neg I rx ry rfl S r1 r2 P
  · exact o_inSq hu neg pins s σ H x y v u Q I rx ry ⟨μ, _, _, _, S, r1, r2, P⟩
theorem o_in (hu : X.A.units + 65 < cLine) : OpR X (compareOp .In) (rD (gx X) W (inB false)) := o_inB hu false
theorem o_notin (hu : X.A.units + 65 < cLine) : OpR X (compareOp .NotIn) (rD (gx X) W (inB true)) := o_inB hu true
end
def ixD : D2
  | .tup ds, .int i, h => match atI ds i with
    | some d => .ok d h
    | none => .bad
  | .frz ds, .int i, h => match atI ds i with
    | some d => .ok d h
    | none => .bad
  | .str t, .int i, h => if t.length ≤ big then match atI t i with
    | some c => .ok (.str [c]) h
    | none => .bad
    else .bad
  | .ref n, .int i, h => match h[n]? with
    | some (.lst ds) => match atI ds i with
      | some d => .ok d h
      | none => .bad
    | _ => .bad
  | .cdt kvs, .str k, h => match lookT k kvs with
    | some d => .ok d h
    | none => .bad
  | .ref n, .str k, h => match h[n]? with
    | some (.dct kvs) => match lookK (.str k) kvs with
      | some d => .ok d h
      | none => .bad
    | _ => .bad
  | _, _, _ => .bad
theorem RepL.atI {G : GX} {μ : List Addr} {H : Hp} {ds : List D} {vs : List V} {i : Int} {d : D} (r : RepL G H μ ds vs) (h : L2.atI ds i = some d) : ∃ v, L2.atI vs i = some v ∧ Rep G H μ d v := by
  unfold L2.atI at h ⊢
  rw [r.length]
  cases e : ixN ds.length i with
  | none => rw [e] at h; cases h
  | some j => rw [e] at h; exact r.get h
section
variable {X : Cx} {W : XW}
theorem o_ix (hu : X.A.units + 1 < cLine) : IxR X (rD (gx X) W ixD) := by
  intro value slice pins s σ H x y v u Q I rx ry ⟨μ, h, d, e, S, r1, r2, P⟩ hs
  unfold ixD at P
  split at P
  · rename_i h ds i
    split at P
    · rename_i d' hd
      obtain ⟨a, vs, rfl, q1, l1⟩ := r1.tupl
      obtain ⟨w, h1, h2⟩ := l1.atI hd
      exact ix_tup value slice pins s σ H _ y v u Q I rx ry ⟨a, vs, i, w, rfl, r2.intv, q1, h1, P.now S h2⟩ hs
    · exact P.elim
  · rename_i h ds i
    split at P
    · rename_i d' hd
      obtain ⟨a, vs, rfl, q1, l1⟩ := r1.frzl
      obtain ⟨w, h1, h2⟩ := l1.atI hd
      exact ix_list value slice pins s σ H _ y v u Q I rx ry ⟨a, vs, i, w, rfl, r2.intv, q1.sq, h1, P.now S h2⟩ hs
    · exact P.elim
  · rename_i h t i
    split at P
    · rename_i hl
      split at P
      · rename_i c hc
        exact ix_str value slice pins s σ H _ y v u Q I rx ry ⟨sOf t, i, c, r1.strv, r2.intv, by rw [sOf_len, big_eq]; exact hl, by simpa [sOf] using hc, P.now S (by unfold Rep; rfl)⟩ hs
      · exact P.elim
    · exact P.elim
  · rename_i h n i
    split at P
    · rename_i ds e'
      split at P
      · rename_i d' hd
        obtain ⟨a, ea, rfl⟩ := r1.ref
        obtain ⟨vs, q1, l1⟩ := S.list e' ea
        obtain ⟨w, h1, h2⟩ := l1.atI hd
        exact ix_list value slice pins s σ H _ y v u Q I rx ry ⟨a, vs, i, w, rfl, r2.intv, .of q1, h1, P.now S h2⟩ hs
      · exact P.elim
    · exact P.elim
  · rename_i h kvs k
    split at P
    · rename_i d' hd
      obtain ⟨a, us, vs, rfl, cd, rv, rr⟩ := r1.cdtv
      obtain ⟨es, n, kd⟩ := cd.kd
      obtain ⟨u0, v0, h1, h2, h3⟩ := RepV.look cd.at_ rv rr hd
      have rx' := rx
      cases rx
      refine tail_any (kd_type kd I) slot_dict_getitem.lookup ?_ hs
      exact op_item_kd (X := X) kd pins s σ H _ y _ u Q I rx' ry ⟨sOf k, u0, v0, rfl, r2.strv, h1, h2, P.now S h3⟩
    · exact P.elim
  · rename_i h n k
    split at P
    · rename_i kvs e'
      split at P
      · rename_i d' hd
        obtain ⟨a, ea, rfl⟩ := r1.ref
        obtain ⟨kv, q1, q2⟩ := S.ob n _ a e' ea
        obtain ⟨w, h1, h2⟩ := q2.some_ (k := .str k) (key := .inr (sOf k)) rfl hd
        cases rx
        rw [r2.strv] at ry
        refine tail_any (dict_typeIs I (DGet.k (k := Sum.inr (sOf k)) q1)) slot_dict_getitem.lookup ?_ hs
        have g := DGet.k (k := Sum.inr (sOf k)) q1
        rw [h1] at g
        exact d_getItem hu I g ry fun w' s' I' rw' => ⟨w, H, I', rw', P.now S h2⟩
      · exact P.elim
    · exact P.elim
  · exact P.elim
end
def cut {α : Type} (xs : List α) (lo hi : Option Int) : List α := (xs.drop (HT.sIx xs.length 0 lo)).take (HT.sIx xs.length xs.length hi - HT.sIx xs.length 0 lo)
def slD : D → Option Int → Option Int → DH → R D
  | .tup ds, lo, hi, h => .ok (.tup (cut ds lo hi)) h
  | .frz ds, lo, hi, h => alloc (.lst (cut ds lo hi)) h
  | .str t, lo, hi, h => if t.length ≤ big then .ok (.str (cut t lo hi)) h else .bad
  | .ref n, lo, hi, h => match h[n]? with
    | some (.lst ds) => alloc (.lst (cut ds lo hi)) h
    | _ => .bad
  | _, _, _, _ => .bad
theorem RepL.drop {G : GX} {μ : List Addr} {H : Hp} : ∀ {ds : List D} {vs : List V} (n : Nat), RepL G H μ ds vs → RepL G H μ (ds.drop n) (vs.drop n)
  | _, _, 0, r => r
  | [], vs, n + 1, r => by unfold RepL at r; subst r; unfold RepL; rfl
  | d :: ds, vs, n + 1, r => by unfold RepL at r; obtain ⟨v, t, rfl, _, r2⟩ := r; exact RepL.drop n r2
theorem RepL.take {G : GX} {μ : List Addr} {H : Hp} : ∀ {ds : List D} {vs : List V} (n : Nat), RepL G H μ ds vs → RepL G H μ (ds.take n) (vs.take n)
  | _, _, 0, r => by unfold RepL; rfl
  | [], vs, n + 1, r => by unfold RepL at r; subst r; unfold RepL; rfl
  | d :: ds, vs, n + 1, r => by
    unfold RepL at r
    obtain ⟨v, t, rfl, r1, r2⟩ := r
    show RepL G H μ (d :: ds.take n) (v :: t.take n)
    unfold RepL
    exact ⟨v, _, rfl, r1, RepL.take n r2⟩
theorem RepL.cut {G : GX} {μ : List Addr} {H : Hp} {ds : List D} {vs : List V} (r : RepL G H μ ds vs) (lo hi : Option Int) : RepL G H μ (DV.cut ds lo hi) (cutV vs lo hi) := by
  unfold DV.cut cutV
  rw [r.length]
  exact (r.drop _).take _
def rSD (G : GX) (W : XW) : V → Option Int → Option Int → Hp → VK → Prop := fun x lo hi H Q => ∃ μ h d, SRep G μ h H ∧ Rep G H μ d x ∧ Post (Rep G) G W μ H (slD d lo hi h) Q
section
variable {X : Cx} {W : XW}
theorem cut_all {α : Type} {xs : List α} {lo hi : Option Int} (h : HT.sIx xs.length 0 lo = 0 ∧ HT.sIx xs.length xs.length hi = xs.length) : cut xs lo hi = xs := by
  unfold cut; rw [h.1, h.2]; simp
theorem o_sl : SlR X (rSD (gx X) W) := by
  intro pins s σ H x v vl vu lo hi sl Q I rx hs pl pu ⟨μ, h, d, S, r1, P⟩
  unfold slD at P
  split at P
  · rename_i h ds
    obtain ⟨a, vs, rfl, q1, l1⟩ := r1.tupl
    refine sl_tupA pins s σ H _ v vl vu lo hi sl Q I rx hs pl pu ⟨a, vs, rfl, q1, fun z => ?_, fun z => P.tup S (l1.cut lo hi)⟩
    rw [l1.length] at z
    rw [cut_all z] at P
    exact P.now S (by unfold Rep; exact ⟨a, vs, rfl, q1, l1⟩)
  · rename_i h ds
    obtain ⟨a, vs, rfl, q1, l1⟩ := r1.frzl
    exact sl_list pins s σ H _ v vl vu lo hi sl Q I rx hs pl pu ⟨a, vs, rfl, q1.sq, P.allocL S (l1.cut lo hi)⟩
  · rename_i h t
    split at P
    · rename_i hl
      refine sl_str pins s σ H _ v vl vu lo hi sl Q I rx hs pl pu ⟨sOf t, r1.strv, by rw [sOf_len, big_eq]; exact hl, P.now S ?_⟩
      unfold Rep
      simp [cutS, sOf, DV.cut, Str.length]
    · exact P.elim
  · rename_i h n
    split at P
    · rename_i ds e'
      obtain ⟨a, ea, rfl⟩ := r1.ref
      obtain ⟨vs, q1, l1⟩ := S.list e' ea
      exact sl_list pins s σ H _ v vl vu lo hi sl Q I rx hs pl pu ⟨a, vs, rfl, .of q1, P.allocL S (l1.cut lo hi)⟩
    · exact P.elim
  · exact P.elim
end
section
variable {X : Cx} {W : XWS} {pos p2 : Pos} {e a : Expr} {lo hi : Option Expr} {m ml mh : DE}
/-- a part of a slice -/
abbrev EqO : Hp → List Addr → Option Int → Option Int → Prop := fun _ _ b c => b = c
def pNone : DEn (Option Int) := fun _ h => .ok none h
def pSome (m : DE) : DEn (Option Int) := m.bind fun d _ h => match d with
  | .int i => .ok (some i) h
  | _ => .bad
abbrev TDO (G : GX) (W : XWS) (m : DEn (Option Int)) : TO := TG' EqO G W m
theorem p_none : PO X none (TDO (gx X) W pNone) := by
  refine ⟨fun pins s σ H Q I q => po_none.run pins s σ H Q I ?_⟩
  obtain ⟨μ, env, h, S, e, p⟩ := q
  exact p.now S rfl
theorem p_some (ha : PE X a (TD (gx X) W m)) : PO X (some a) (TDO (gx X) W (pSome m)) := by
  refine ⟨fun pins s σ H Q I q => (po_some ha).run pins s σ H Q I ?_⟩
  refine TG'.imp (TG'.split (rel := Rep (gx X)) q) ?_
  rintro x H1 ⟨μ1, d, env, h1, s1, e1, r1, p1⟩
  cases d with
  | int i => exact ⟨i, r1.intv, p1.now s1 rfl⟩
  | _ => exact p1.elim
def dSl (m : DE) (pl ph : DEn (Option Int)) : DE := m.bind fun d => pl.bind fun lo => ph.bind fun hi _ h => slD d lo hi h
theorem d_sl {pl ph : DEn (Option Int)} (ha : PE X e (TD (gx X) W m)) (hl : PO X lo (TDO (gx X) W pl)) (hh : PO X hi (TDO (gx X) W ph)) : PE X (.Subscript e (.Slice lo hi none p2) pos) (TD (gx X) W (dSl m pl ph)) := by
  refine PE.weakS (fun σ => pe_slice (o_sl (W := W σ)) ha hl hh) fun σ H Q q => ?_
  refine TG'.imp (TG'.split (rel := Rep (gx X)) q) ?_
  rintro x H1 ⟨μ1, d, env, h1, s1, e1, r1, p1⟩
  refine ⟨μ1, env, h1, s1, e1, Post.imp (Post.bind (rel := EqO) p1) ?_⟩
  rintro l H2 ⟨μ2, l', h2, s2, x2, r2, p2⟩
  obtain rfl : l' = l := r2
  refine ⟨μ2, env, h2, s2, e1.ext x2, Post.imp (Post.bind (rel := EqO) p2) ?_⟩
  rintro u H3 ⟨μ3, u', h3, s3, x3, r3, p3⟩
  obtain rfl : u' = u := r3
  exact ⟨μ3, h3, d, s3, (r1.ext x2).ext x3, p3⟩
end
end DV
namespace DV
open PySem PySem.Spec PyProof.Rows L2
abbrev DF := List D → DH → R D
def rCD (G : GX) (W : XW) (g : DF) : List V → Hp → VK → Prop := fun vs H Q => ∃ μ h ds, SRep G μ h H ∧ RepL G H μ ds vs ∧ Post (Rep G) G W μ H (g ds h) Q
def dCall (ml : DEn (List D)) (g : DF) : DE := ml.bind fun ds _ h => g ds h
theorem tCB_d {G : GX} {W : XWS} {g : DF} {ml : DEn (List D)} {σ : L2.St} {H : Hp} {Q : VK} (q : TD G W (dCall ml g) σ H Q) : tCB (rCD G (W σ) g) (TDL G W ml) σ H Q := by
  refine TG'.imp (TG'.split (rel := RepL G) q) ?_
  rintro x H1 ⟨μ1, d, env, h1, s1, e1, r1, p1⟩
  exact ⟨μ1, h1, d, s1, r1, p1⟩
section
variable {X : Cx} {W : XWS} {g : DF} {ml : DEn (List D)} {id T : String} {x : Str} {p pos : Pos} {e : Expr} {es : List Expr}
theorem d_callB (hc : ∀ W, CallR X (.builtin id) (rCD (gx X) W g)) (hg : Gl X x) (hm : X.mg x = none) (hv : bootBuiltins x = some (.builtin id)) (ha : PA X (e :: es) (TDL (gx X) W ml)) (hn : x ≠ "__name__") (hdb : (x == ("__debug__" : Str)) = false)
    (he : starEach (e :: es) X.env = (false, eval e X.env) :: starEach es X.env) (hpl : (backTo pos (starEach es X.env)).any (·.1) = false) : PE X (.Call (.Name x p) (e :: es) [] pos) (TD (gx X) W (dCall ml g)) :=
  PE.weakS (fun σ => pe_callB (hc (W σ)) hg hm hv ha hn hdb he hpl) fun _ _ _ q => tCB_d q
theorem d_callTy (hc : ∀ W, CallR X (.type T) (rCD (gx X) W g)) (hg : Gl X x) (hm : X.mg x = none) (hv : bootBuiltins x = some (.type T)) (ha : PA X (e :: es) (TDL (gx X) W ml)) (hn : x ≠ "__name__") (hdb : (x == ("__debug__" : Str)) = false)
    (he : starEach (e :: es) X.env = (false, eval e X.env) :: starEach es X.env) (hpl : (backTo pos (starEach es X.env)).any (·.1) = false) : PE X (.Call (.Name x p) (e :: es) [] pos) (TD (gx X) W (dCall ml g)) :=
  PE.weakS (fun σ => pe_callTy (hc (W σ)) hg hm hv ha hn hdb he hpl) fun _ _ _ q => tCB_d q
end
/-- one value -/
theorem RepL.one {G : GX} {μ : List Addr} {H : Hp} {d : D} {vs : List V} (r : RepL G H μ [d] vs) : ∃ v, vs = [v] ∧ Rep G H μ d v := by
  unfold RepL at r
  obtain ⟨v, t, rfl, r1, r2⟩ := r
  unfold RepL at r2
  subst r2
  exact ⟨v, rfl, r1⟩
theorem RepL.two {G : GX} {μ : List Addr} {H : Hp} {d e : D} {vs : List V} (r : RepL G H μ [d, e] vs) : ∃ v u, vs = [v, u] ∧ Rep G H μ d v ∧ Rep G H μ e u := by
  unfold RepL at r
  obtain ⟨v, t, rfl, r1, r2⟩ := r
  obtain ⟨u, rfl, r3⟩ := r2.one
  exact ⟨v, u, rfl, r1, r3⟩
def lenF : DF
  | [.str t], h => if t.length ≤ big then .ok (.int t.length) h else .bad
  | [.tup ds], h => .ok (.int ds.length) h
  | [.frz ds], h => .ok (.int ds.length) h
  | [.ref n], h => match h[n]? with
    | some (.lst ds) => .ok (.int ds.length) h
    | _ => .bad
  | _, _ => .bad
def intF : DF
  | [.int i], h => .ok (.int i) h
  | [.bl b], h => .ok (.int (if b then 1 else 0)) h
  | [.str t], h => match PySem.intText? (sOf t) with
    | some n => if t.length ≤ 640 then .ok (.int n) h else .bad
    | none => .bad
  | _, _ => .bad
def listF : DF
  | [.tup ds], h => alloc (.lst ds) h
  | [.frz ds], h => alloc (.lst ds) h
  | [.ref n], h => match h[n]? with
    | some (.lst ds) => alloc (.lst ds) h
    | _ => .bad
  | _, _ => .bad
def tupleF : DF
  | [.tup ds], h => .ok (.tup ds) h
  | [.frz ds], h => .ok (.tup ds) h
  | [.ref n], h => match h[n]? with
    | some (.lst ds) => .ok (.tup ds) h
    | _ => .bad
  | _, _ => .bad
def strF : DF
  | [.int i], h => if i.natAbs.log2 < 1920 then .ok (.str ((toString i).toList.map (·.toNat))) h else .bad
  | _, _ => .bad
def tyN : D → DH → Option String
  | .non, _ => some "NoneType"
  | .bl _, _ => some "bool"
  | .int _, _ => some "int"
  | .str _, _ => some "str"
  | .tup _, _ => some "tuple"
  | .frz _, _ => some "list"
  | .ref n, h => match h[n]? with
    | some (.lst _) => some "list"
    | _ => none
  | _, _ => none
def isiF : DF
  | [d, .ty c], h => match tyN d h with
    | some t => match kitB t c with
      | some b => .ok (.bl b) h
      | none => .bad
    | none => .bad
  | _, _ => .bad
def bls : List D → Option (List Bool)
  | [] => some []
  | .bl b :: r => (bls r).map (b :: ·)
  | _ :: _ => none
def intsD : List D → Option (List Int)
  | [] => some []
  | .int b :: r => (intsD r).map (b :: ·)
  | _ :: _ => none
def allF : DF
  | [.ref n], h => match h[n]? with
    | some (.lst ds) => match bls ds with
      | some bs => .ok (.bl (bs.all id)) h
      | none => .bad
    | _ => .bad
  | _, _ => .bad
def anyF : DF
  | [.ref n], h => match h[n]? with
    | some (.lst ds) => match bls ds with
      | some bs => .ok (.bl (bs.any id)) h
      | none => .bad
    | _ => .bad
  | _, _ => .bad
def reprF : DF
  | [d], h => match toPy h 60 d with
    | some p => if PyData.showable p = true ∧ p.depth ≤ 60 ∧ p.shown.length ≤ big ∧ p.hasDict = false then .ok (.str p.shown.cps.toList) h else .bad
    | none => .bad
  | _, _ => .bad
def insI (i : Int) : List Int → List Int
  | [] => [i]
  | j :: r => if i ≤ j then i :: j :: r else j :: insI i r
def isort : List Int → List Int
  | [] => []
  | i :: r => insI i (isort r)
def sortedF : DF
  | [.ref n], h => match h[n]? with
    | some (.lst ds) => match intsD ds with
      | some ns => if ns.length < 64 then alloc (.lst ((isort ns).map .int)) h else .bad
      | none => .bad
    | _ => .bad
  | _, _ => .bad
def max2F : DF
  | [.int i, .int j], h => .ok (.int (if j > i then j else i)) h
  | _, _ => .bad
def min2F : DF
  | [.int i, .int j], h => .ok (.int (if j < i then j else i)) h
  | _, _ => .bad
theorem bls_ok {G : GX} {μ : List Addr} {H : Hp} : ∀ {ds : List D} {vs : List V} {bs : List Bool}, bls ds = some bs → RepL G H μ ds vs → vs = bs.map V.bl
  | [], vs, bs, e, r => by unfold RepL at r; cases e; exact r
  | .bl b :: t, vs, bs, e, r => by
    unfold RepL at r
    obtain ⟨v, r', rfl, r1, r2⟩ := r
    have e : (bls t).map (b :: ·) = some bs := e
    cases q : bls t with
    | none => rw [q] at e; cases e
    | some l =>
      rw [q] at e; cases e
      rw [r1.blv, bls_ok q r2]; rfl
  | .non :: _, _, _, e, _ => nomatch e
  | .int _ :: _, _, _, e, _ => nomatch e
  | .str _ :: _, _, _, e, _ => nomatch e
  | .tup _ :: _, _, _, e, _ => nomatch e
  | .frz _ :: _, _, _, e, _ => nomatch e
  | .ref _ :: _, _, _, e, _ => nomatch e
  | .cdt _ :: _, _, _, e, _ => nomatch e
  | .fn _ :: _, _, _, e, _ => nomatch e
  | .ty _ :: _, _, _, e, _ => nomatch e
theorem ints_ok {G : GX} {μ : List Addr} {H : Hp} : ∀ {ds : List D} {vs : List V} {bs : List Int}, intsD ds = some bs → RepL G H μ ds vs → vs = bs.map V.int
  | [], vs, bs, e, r => by unfold RepL at r; cases e; exact r
  | .int b :: t, vs, bs, e, r => by
    unfold RepL at r
    obtain ⟨v, r', rfl, r1, r2⟩ := r
    have e : (intsD t).map (b :: ·) = some bs := e
    cases q : intsD t with
    | none => rw [q] at e; cases e
    | some l =>
      rw [q] at e; cases e
      rw [r1.intv, ints_ok q r2]; rfl
  | .non :: _, _, _, e, _ => nomatch e
  | .bl _ :: _, _, _, e, _ => nomatch e
  | .str _ :: _, _, _, e, _ => nomatch e
  | .tup _ :: _, _, _, e, _ => nomatch e
  | .frz _ :: _, _, _, e, _ => nomatch e
  | .ref _ :: _, _, _, e, _ => nomatch e
  | .cdt _ :: _, _, _, e, _ => nomatch e
  | .fn _ :: _, _, _, e, _ => nomatch e
  | .ty _ :: _, _, _, e, _ => nomatch e
theorem intsRep {G : GX} {μ : List Addr} {H : Hp} : ∀ ns : List Int, RepL G H μ (ns.map .int) (ns.map V.int)
  | [] => by unfold RepL; rfl
  | n :: r => by
    rw [List.map_cons, List.map_cons]
    unfold RepL
    exact ⟨.int n, _, rfl, by unfold Rep; rfl, intsRep r⟩
theorem insI_perm (i : Int) : ∀ l, (insI i l).Perm (i :: l)
  | [] => .refl _
  | j :: r => by
    unfold insI
    split
    · exact .refl _
    · exact ((insI_perm i r).cons j).trans (.swap i j r)
theorem isort_perm : ∀ l, (isort l).Perm l
  | [] => .refl _
  | i :: r => (insI_perm i (isort r)).trans ((isort_perm r).cons i)
theorem insI_sorted (i : Int) : ∀ l : List Int, l.Pairwise (· ≤ ·) → (insI i l).Pairwise (· ≤ ·)
  | [], _ => by simp [insI]
  | j :: r, h => by
    unfold insI
    rw [List.pairwise_cons] at h
    split
    · rename_i hij
      rw [List.pairwise_cons, List.pairwise_cons]
      refine ⟨fun x hx => ?_, h⟩
      rcases List.mem_cons.mp hx with rfl | hx
      · exact hij
      · exact Int.le_trans hij (h.1 x hx)
    · rename_i hij
      rw [List.pairwise_cons]
      refine ⟨fun x hx => ?_, insI_sorted i r h.2⟩
      rcases List.mem_cons.mp ((insI_perm i r).mem_iff.mp hx) with rfl | hx
      · omega
      · exact h.1 x hx
theorem isort_sorted : ∀ l : List Int, (isort l).Pairwise (· ≤ ·)
  | [] => .nil
  | i :: r => insI_sorted i _ (isort_sorted r)
theorem sorted_uniq : ∀ {l m : List Int}, l.Perm m → l.Pairwise (· ≤ ·) → m.Pairwise (· ≤ ·) → l = m := fun {l m} p a b =>
  p.eq_of_pairwise (fun x y _ _ h1 h2 => Int.le_antisymm h1 h2) a b
section
variable {X : Cx} {W : XW}
theorem c_len : CallR X (.builtin "len") (rCD (gx X) W lenF) := by
  intro pins s σ H vs us Q I rv ⟨μ, h, ds, S, r, P⟩
  unfold lenF at P
  split at P
  · rename_i h t
    obtain ⟨v, rfl, r1⟩ := r.one
    split at P
    · rename_i hl
      exact call_len pins s σ H _ us Q I rv ⟨v, t.length, rfl, by rw [r1.strv]; exact ⟨by rw [sOf_len, big_eq]; exact hl, (sOf_len t).symm⟩, P.now S (by unfold Rep; rfl)⟩
    · exact P.elim
  · rename_i h es
    obtain ⟨v, rfl, r1⟩ := r.one
    obtain ⟨a, ws, rfl, q1, l1⟩ := r1.tupl
    exact call_len pins s σ H _ us Q I rv ⟨.ref a, es.length, rfl, .inr ⟨ws, q1, l1.length.symm⟩, P.now S (by unfold Rep; rfl)⟩
  · rename_i h es
    obtain ⟨v, rfl, r1⟩ := r.one
    obtain ⟨a, ws, rfl, q1, l1⟩ := r1.frzl
    exact call_len pins s σ H _ us Q I rv ⟨.ref a, es.length, rfl, .inl ⟨ws, q1.sq, l1.length.symm⟩, P.now S (by unfold Rep; rfl)⟩
  · rename_i h n
    obtain ⟨v, rfl, r1⟩ := r.one
    obtain ⟨a, ea, rfl⟩ := r1.ref
    split at P
    · rename_i es e
      obtain ⟨ws, q1, l1⟩ := S.list e ea
      exact call_len pins s σ H _ us Q I rv ⟨.ref a, es.length, rfl, .inl ⟨ws, .of q1, l1.length.symm⟩, P.now S (by unfold Rep; rfl)⟩
    · exact P.elim
  · exact P.elim
theorem c_int : CallR X (.type "int") (rCD (gx X) W intF) := by
  intro pins s σ H vs us Q I rv ⟨μ, h, ds, S, r, P⟩
  unfold intF at P
  split at P
  · rename_i h i
    obtain ⟨v, rfl, r1⟩ := r.one
    exact call_int1 pins s σ H _ us Q I rv (.inl ⟨i, by rw [r1.intv], P.now S (by unfold Rep; rfl)⟩)
  · rename_i h i
    obtain ⟨v, rfl, r1⟩ := r.one
    exact call_int1 pins s σ H _ us Q I rv (.inr ⟨i, by rw [r1.blv], P.now S (by unfold Rep; rfl)⟩)
  · rename_i h t
    obtain ⟨v, rfl, r1⟩ := r.one
    split at P
    · rename_i n hn
      split at P
      · rename_i hl
        exact call_int_str pins s σ H _ us Q I rv ⟨sOf t, n, by rw [r1.strv], hn, by rw [sOf_len]; exact hl, P.now S (by unfold Rep; rfl)⟩
      · exact P.elim
    · exact P.elim
  · exact P.elim
theorem c_list : CallR X (.type "list") (rCD (gx X) W listF) := by
  intro pins s σ H vs us Q I rv ⟨μ, h, ds, S, r, P⟩
  unfold listF at P
  split at P
  · rename_i h es
    obtain ⟨v, rfl, r1⟩ := r.one
    obtain ⟨a, ws, rfl, q1, l1⟩ := r1.tupl
    exact call_list_of pins s σ H _ us Q I rv ⟨a, ws, rfl, .inr q1, P.allocL S l1⟩
  · rename_i h es
    obtain ⟨v, rfl, r1⟩ := r.one
    obtain ⟨a, ws, rfl, q1, l1⟩ := r1.frzl
    exact call_list_of pins s σ H _ us Q I rv ⟨a, ws, rfl, .inl q1.sq, P.allocL S l1⟩
  · rename_i h n
    obtain ⟨v, rfl, r1⟩ := r.one
    obtain ⟨a, ea, rfl⟩ := r1.ref
    split at P
    · rename_i es e
      obtain ⟨ws, q1, l1⟩ := S.list e ea
      exact call_list_of pins s σ H _ us Q I rv ⟨a, ws, rfl, .inl (.of q1), P.allocL S l1⟩
    · exact P.elim
  · exact P.elim
theorem c_tuple : CallR X (.type "tuple") (rCD (gx X) W tupleF) := by
  intro pins s σ H vs us Q I rv ⟨μ, h, ds, S, r, P⟩
  unfold tupleF at P
  split at P
  · rename_i h es
    obtain ⟨v, rfl, r1⟩ := r.one
    have r1' := r1
    obtain ⟨a, ws, rfl, q1, l1⟩ := r1.tupl
    exact call_tuple_of pins s σ H _ us Q I rv ⟨a, ws, rfl, .inr ⟨q1, P.now S r1'⟩⟩
  · rename_i h es
    obtain ⟨v, rfl, r1⟩ := r.one
    obtain ⟨a, ws, rfl, q1, l1⟩ := r1.frzl
    exact call_tuple_of pins s σ H _ us Q I rv ⟨a, ws, rfl, .inl ⟨q1.sq, P.tup S l1⟩⟩
  · rename_i h n
    obtain ⟨v, rfl, r1⟩ := r.one
    obtain ⟨a, ea, rfl⟩ := r1.ref
    split at P
    · rename_i es e
      obtain ⟨ws, q1, l1⟩ := S.list e ea
      exact call_tuple_of pins s σ H _ us Q I rv ⟨a, ws, rfl, .inl ⟨.of q1, P.tup S l1⟩⟩
    · exact P.elim
  · exact P.elim
theorem tyN_ok {K : PySem.W.Frag} {G : GX} {μ : List Addr} {H : Hp} {h : DH} {d : D} {v : V} {t : String} (S : SRep (gx X) μ h H) (r : Rep (gx X) H μ d v) (e : tyN d h = some t) : TyX X.K H v (.type t) := by
  cases d with
  | non => cases e; rw [r.nonv]; exact .base .non
  | bl b => cases e; rw [r.blv]; exact .base (.bl b)
  | int b => cases e; rw [r.intv]; exact .base (.int b)
  | str b => cases e; rw [r.strv]; exact .base (.str _)
  | tup b =>
    cases e
    obtain ⟨a, vs, rfl, q, _⟩ := r.tupl
    rcases q with (q | ⟨o, q⟩) | ⟨o, its, n, q, c, _⟩
    · exact .base (.tup q)
    · exact .fTuple q
    · exact .kTuple q c
  | frz b =>
    cases e
    obtain ⟨a, vs, rfl, q, _⟩ := r.frzl
    rcases q with ⟨o, q⟩ | ⟨o, its, n, q, c, _⟩
    · exact .base (.frz q)
    · exact .kList q c
  | ref n =>
    obtain ⟨a, ea, rfl⟩ := r.ref
    have e : (match h[n]? with | some (.lst _) => some "list" | _ => none) = some t := e
    split at e
    · rename_i es e'
      cases e
      obtain ⟨ws, q1, l1⟩ := S.list e' ea
      exact .base (.lst q1)
    · cases e
  | cdt b => cases e
  | fn b => cases e
  | ty b => cases e
theorem c_isi : CallR X (.builtin "isinstance") (rCD (gx X) W isiF) := by
  intro pins s σ H vs us Q I rv ⟨μ, h, ds, S, r, P⟩
  unfold isiF at P
  split at P
  · rename_i h d c
    obtain ⟨v, u, rfl, r1, r2⟩ := r.two
    split at P
    · rename_i t ht
      split at P
      · rename_i b hb
        unfold Rep at r2
        subst r2
        exact call_isi pins s σ H _ us Q I rv ⟨v, .ty c, .type t, .type c, b, rfl, .ty c, tyN_ok (K := X.K) (G := gx X) S r1 ht, kit_ty hb, P.now S (by unfold Rep; rfl)⟩
      · exact P.elim
    · exact P.elim
  · exact P.elim
theorem c_all (hc : X.calm = true) : CallR X (.builtin "all") (rCD (gx X) W allF) := by
  intro pins s σ H vs us Q I rv ⟨μ, h, ds, S, r, P⟩
  unfold allF at P
  split at P
  · rename_i h n
    obtain ⟨v, rfl, r1⟩ := r.one
    obtain ⟨a, ea, rfl⟩ := r1.ref
    split at P
    · rename_i es e
      obtain ⟨ws, q1, l1⟩ := S.list e ea
      split at P
      · rename_i bs hb
        have := bls_ok hb l1
        subst this
        exact cr_all hc pins s σ H _ us Q I rv ⟨a, bs, rfl, .of q1, P.now S (by unfold Rep; rfl)⟩
      · exact P.elim
    · exact P.elim
  · exact P.elim
theorem c_any (hc : X.calm = true) : CallR X (.builtin "any") (rCD (gx X) W anyF) := by
  intro pins s σ H vs us Q I rv ⟨μ, h, ds, S, r, P⟩
  unfold anyF at P
  split at P
  · rename_i h n
    obtain ⟨v, rfl, r1⟩ := r.one
    obtain ⟨a, ea, rfl⟩ := r1.ref
    split at P
    · rename_i es e
      obtain ⟨ws, q1, l1⟩ := S.list e ea
      split at P
      · rename_i bs hb
        have := bls_ok hb l1
        subst this
        exact cr_any hc pins s σ H _ us Q I rv ⟨a, bs, rfl, .of q1, P.now S (by unfold Rep; rfl)⟩
      · exact P.elim
    · exact P.elim
  · exact P.elim
theorem c_sorted : CallR X (.builtin "sorted") (rCD (gx X) W sortedF) := by
  intro pins s σ H vs us Q I rv ⟨μ, h, ds, S, r, P⟩
  unfold sortedF at P
  split at P
  · rename_i h n
    obtain ⟨v, rfl, r1⟩ := r.one
    obtain ⟨a, ea, rfl⟩ := r1.ref
    split at P
    · rename_i es e
      obtain ⟨ws, q1, l1⟩ := S.list e ea
      split at P
      · rename_i ns hb
        split at P
        · rename_i hl
          have := ints_ok hb l1
          subst this
          refine cr_sorted pins s σ H _ us Q I rv ⟨a, ns, rfl, .of q1, hl, fun ns' p hp hs hn => ?_⟩
          have : ns' = isort ns := sorted_uniq (hp.trans (isort_perm ns).symm) hs (isort_sorted ns)
          subst this
          exact P.allocL S (intsRep _) p hn
        · exact P.elim
      · exact P.elim
    · exact P.elim
  · exact P.elim
theorem c_max2 (hc : X.calm = true) : CallR X (.builtin "max") (rCD (gx X) W max2F) := by
  intro pins s σ H vs us Q I rv ⟨μ, h, ds, S, r, P⟩
  unfold max2F at P
  split at P
  · rename_i h i j
    obtain ⟨v, u, rfl, r1, r2⟩ := r.two
    exact call_max2 hc pins s σ H _ us Q I rv ⟨i, j, by rw [r1.intv, r2.intv], P.now S (by unfold Rep; rfl)⟩
  · exact P.elim
theorem c_min2 (hc : X.calm = true) : CallR X (.builtin "min") (rCD (gx X) W min2F) := by
  intro pins s σ H vs us Q I rv ⟨μ, h, ds, S, r, P⟩
  unfold min2F at P
  split at P
  · rename_i h i j
    obtain ⟨v, u, rfl, r1, r2⟩ := r.two
    exact call_min2 hc pins s σ H _ us Q I rv ⟨i, j, by rw [r1.intv, r2.intv], P.now S (by unfold Rep; rfl)⟩
  · exact P.elim
end
end DV
namespace DV
open PySem PySem.Spec PyProof.Rows L2
inductive SR where
  | nx (env : Env) (h : DH)
  | rt (d : D) (h : DH)
  | bk (env : Env) (h : DH)
  | ct (env : Env) (h : DH)
  | exc (c : Nat) (a : List D) (env : Env) (h : DH)
  | bad
abbrev SD := Env → DH → SR
/-- what is wanted of an exception in a def's body -/
abbrev XS := List Addr → Hp → L2.St → Nat → List D → DH → Prop
def SPost (G : GX) (W : XWS) (μ : List Addr) (H : Hp) (r : SR) (E : Ends) : Prop :=
  match r with
  | .nx env' h' => ∀ μ' H' σ', SRep G μ' h' H' → Ext μ H μ' H' → ERep G H' μ' env' σ' → E.nx σ' H'
  | .rt d h' => ∀ μ' H' v, SRep G μ' h' H' → Ext μ H μ' H' → Rep G H' μ' d v → E.rt v H'
  | .bk env' h' => ∀ μ' H' σ', SRep G μ' h' H' → Ext μ H μ' H' → ERep G H' μ' env' σ' → E.bk σ' H'
  | .ct env' h' => ∀ μ' H' σ', SRep G μ' h' H' → Ext μ H μ' H' → ERep G H' μ' env' σ' → E.ct σ' H'
  | .exc c a env' h' => ∀ μ' H' σ', SRep G μ' h' H' → Ext μ H μ' H' → ERep G H' μ' env' σ' → W σ' μ' H' c a h'
  | .bad => False
theorem SPost.mono {G : GX} {W : XWS} {μ μ1 : List Addr} {H H1 : Hp} {r : SR} {E : Ends} (x : Ext μ H μ1 H1) (p : SPost G W μ H r E) : SPost G W μ1 H1 r E := by
  cases r with
  | nx env h => exact fun μ' H' σ' s y e => p μ' H' σ' s (x.trans y) e
  | rt d h => exact fun μ' H' σ' s y e => p μ' H' σ' s (x.trans y) e
  | bk env h => exact fun μ' H' σ' s y e => p μ' H' σ' s (x.trans y) e
  | ct env h => exact fun μ' H' σ' s y e => p μ' H' σ' s (x.trans y) e
  | exc c a env h => exact fun μ' H' σ' s y => p μ' H' σ' s (x.trans y)
  | bad => exact p
theorem Post.mono {α β : Type} {rel : Hp → List Addr → α → β → Prop} {G : GX} {W : XW} {μ μ1 : List Addr} {H H1 : Hp} {r : R α} {Q : β → Hp → Prop} (x : Ext μ H μ1 H1) (p : Post rel G W μ H r Q) : Post rel G W μ1 H1 r Q := by
  cases r with
  | ok d h => exact fun μ' H' σ' s y e => p μ' H' σ' s (x.trans y) e
  | exc c a h => exact fun μ' H' s y => p μ' H' s (x.trans y)
  | bad => exact p
def TDS (G : GX) (W : XWS) (m : SD) : TS := fun E σ H => ∃ μ env h, SRep G μ h H ∧ ERep G H μ env σ ∧ SPost G W μ H (m env h) E
def R.toS {α : Type} (r : R α) (env : Env) (k : α → DH → SR) : SR :=
  match r with
  | .ok a h => k a h
  | .exc c a h => .exc c a env h
  | .bad => .bad
section
variable {α β : Type} {rel : Hp → List Addr → α → β → Prop} {G : GX} {W : XWS} {μ : List Addr} {H : Hp} {σ : L2.St}
theorem SPost.bind {r : R α} {env : Env} {k : α → DH → SR} {E : Ends} (er : ERep G H μ env σ) (p : SPost G W μ H (r.toS env k) E) :
    Post rel G (W σ) μ H r fun v H1 => ∃ μ1 d h1, SRep G μ1 h1 H1 ∧ Ext μ H μ1 H1 ∧ rel H1 μ1 d v ∧ SPost G W μ1 H1 (k d h1) E := by
  cases r with
  | bad => exact p
  | exc c a h' => exact fun μ' H' s x => p μ' H' σ s x (er.ext x)
  | ok d h1 =>
    intro μ1 H1 v s x e
    exact ⟨μ1, d, h1, s, x, e, SPost.mono x p⟩
theorem TDS.split {ma : DEn α} {k : α → SD} {E : Ends} (q : TDS G W (fun env h => (ma env h).toS env fun d h1 => k d env h1) E σ H) :
    TG' rel G W ma σ H fun v H1 => ∃ μ1 d env h1, SRep G μ1 h1 H1 ∧ ERep G H1 μ1 env σ ∧ rel H1 μ1 d v ∧ SPost G W μ1 H1 (k d env h1) E := by
  obtain ⟨μ, env, h, s, e, p⟩ := q
  refine ⟨μ, env, h, s, e, Post.imp (SPost.bind (rel := rel) e p) ?_⟩
  rintro v H1 ⟨μ1, d, h1, s1, x1, r1, p1⟩
  exact ⟨μ1, d, env, h1, s1, e.ext x1, r1, p1⟩
end
def sSeq (m1 m2 : SD) : SD := fun env h => match m1 env h with
  | .nx env1 h1 => m2 env1 h1
  | r => r
def sNil : SD := fun env h => .nx env h
section
variable {X : Cx} {W : XWS} {pos : Pos} {st : Stmt} {rest a b : List Stmt} {m m1 m2 : SD} {e c : Expr} {ma : DE} {tb : DEn Bool}
theorem ss_nil : PSs X [] (TDS (gx X) W sNil) := pss_nil.weak fun E σ H ⟨μ, env, h, s, r, p⟩ => p μ H σ s .refl r
theorem seq_d {E : Ends} {σ : L2.St} {H : Hp} (q : TDS (gx X) W (sSeq m1 m2) E σ H) : TDS (gx X) W m1 { E with nx := TDS (gx X) W m2 E } σ H := by
  obtain ⟨μ, env, h, s, r, p⟩ := q
  refine ⟨μ, env, h, s, r, ?_⟩
  unfold sSeq at p
  split at p
  · rename_i env1 h1 e1
    rw [e1]
    exact fun μ' H' σ' s' x' r' => ⟨μ', env1, h1, s', r', p.mono x'⟩
  · rename_i hne
    cases q : m1 env h with
    | nx env1 h1 => exact absurd q (hne env1 h1)
    | rt d h1 => rw [q] at p; exact p
    | bk env1 h1 => rw [q] at p; exact p
    | ct env1 h1 => rw [q] at p; exact p
    | exc c a env1 h1 => rw [q] at p; exact p
    | bad => rw [q] at p; exact p
theorem ss_cons (h1 : PS X st (TDS (gx X) W m1)) (h2 : PSs X rest (TDS (gx X) W m2)) : PSs X (st :: rest) (TDS (gx X) W (sSeq m1 m2)) := (pss_cons h1 h2).weak fun _ _ _ q => seq_d q
def sPass : SD := sNil
def sBreak : SD := fun env h => .bk env h
def sCont : SD := fun env h => .ct env h
theorem s_pass : PS X (.Pass pos) (TDS (gx X) W sNil) := ps_pass.weak fun E σ H ⟨μ, env, h, s, r, p⟩ => p μ H σ s .refl r
theorem s_break : PS X (.Break pos) (TDS (gx X) W sBreak) := ps_break.weak fun E σ H ⟨μ, env, h, s, r, p⟩ => p μ H σ s .refl r
theorem s_continue : PS X (.Continue pos) (TDS (gx X) W sCont) := ps_continue.weak fun E σ H ⟨μ, env, h, s, r, p⟩ => p μ H σ s .refl r
def sExpr (ma : DE) : SD := fun env h => (ma env h).toS env fun _ h1 => .nx env h1
theorem s_expr (he : PE X e (TD (gx X) W ma)) (hs : swapsWith e none pos.line X.env = pure false) : PS X (.Expr e pos) (TDS (gx X) W (sExpr ma)) := by
  refine (ps_expr he hs).weak fun E σ H q => ?_
  refine TG'.imp (TDS.split (rel := Rep (gx X)) (k := fun _ env h1 => .nx env h1) q) ?_
  rintro v H1 ⟨μ1, d, env, h1, s1, e1, r1, p1⟩
  exact p1 μ1 H1 σ s1 .refl e1
def sRet (ma : DE) : SD := fun env h => (ma env h).toS env fun d h1 => .rt d h1
theorem s_ret (he : PE X e (TD (gx X) W ma)) : PS X (.Return (some e) pos) (TDS (gx X) W (sRet ma)) := by
  refine (ps_ret he).weak fun E σ H q => ?_
  refine TG'.imp (TDS.split (rel := Rep (gx X)) (k := fun d _ h1 => .rt d h1) q) ?_
  rintro v H1 ⟨μ1, d, env, h1, s1, e1, r1, p1⟩
  exact p1 μ1 H1 v s1 .refl r1
def sRetN : SD := fun _ h => .rt .non h
theorem s_retN : PS X (.Return none pos) (TDS (gx X) W sRetN) := ps_retN.weak fun E σ H ⟨μ, env, h, s, r, p⟩ => p μ H .non s .refl (by unfold Rep; rfl)
def sIf (tb : DEn Bool) (m1 m2 : SD) : SD := fun env h => (tb env h).toS env fun k h1 => if k = true then m1 env h1 else m2 env h1
theorem s_if (hc : PT X c (TDB (gx X) W tb)) (ha : PSs X a (TDS (gx X) W m1)) (hb : PSs X b (TDS (gx X) W m2)) : PS X (.If c a b pos) (TDS (gx X) W (sIf tb m1 m2)) := by
  refine (ps_if hc ha hb).weak fun E σ H q => ?_
  refine TG'.imp (TDS.split (rel := EqB) (k := fun k env h1 => if k = true then m1 env h1 else m2 env h1) q) ?_
  rintro v H1 ⟨μ1, d, env, h1, s1, e1, r1, p1⟩
  have r1 : d = v := r1
  subst r1
  cases d with
  | true => exact ⟨μ1, env, h1, s1, e1, p1⟩
  | false => exact ⟨μ1, env, h1, s1, e1, p1⟩
def sWhile (tb : DEn Bool) (m : SD) : Nat → SD
  | 0, _, _ => .bad
  | n + 1, env, h => (tb env h).toS env fun k h1 => if k = true then match m env h1 with
    | .nx env2 h2 => sWhile tb m n env2 h2
    | .ct env2 h2 => sWhile tb m n env2 h2
    | .bk env2 h2 => .nx env2 h2
    | r => r
    else .nx env h1
theorem s_while {n : Nat} (hp : PassesOwn (model X.prog X.w) X.A X.env X.xe) (hc : PT X c (TDB (gx X) W tb)) (hb : PSs X a (TDS (gx X) W m)) : PS X (.While c a [] pos) (TDS (gx X) W (sWhile tb m n)) := by
  refine (ps_while hp hc hb).weak fun E σ H q => ?_
  refine ⟨fun n σ H => TDS (gx X) W (sWhile tb m n) E σ H, ⟨n, q⟩, fun n σ H q => ?_⟩
  cases n with
  | zero =>
    obtain ⟨μ, env, h, s, r, p⟩ := q
    exact p.elim
  | succ n =>
    refine TG'.imp (TDS.split (rel := EqB) (k := fun k env h1 => if k = true then match m env h1 with
      | .nx env2 h2 => sWhile tb m n env2 h2
      | .ct env2 h2 => sWhile tb m n env2 h2
      | .bk env2 h2 => .nx env2 h2
      | r => r
      else .nx env h1) q) ?_
    rintro v H1 ⟨μ1, d, env, h1, s1, e1, r1, p1⟩
    have r1 : d = v := r1
    subst r1
    cases d with
    | false => exact p1 μ1 H1 σ s1 .refl e1
    | true =>
      rw [if_pos rfl] at p1 ⊢
      refine ⟨TDS (gx X) W (sWhile tb m n) E, fun σ' H' z => ⟨n, Nat.lt_succ_self n, z⟩, μ1, env, h1, s1, e1, ?_⟩
      cases q : m env h1 with
      | nx env2 h2 => rw [q] at p1; exact fun μ' H' σ' s' x' r' => ⟨μ', env2, h2, s', r', p1.mono x'⟩
      | ct env2 h2 => rw [q] at p1; exact fun μ' H' σ' s' x' r' => ⟨μ', env2, h2, s', r', p1.mono x'⟩
      | bk env2 h2 => rw [q] at p1; exact p1
      | rt d h2 => rw [q] at p1; exact p1
      | exc c a env2 h2 => rw [q] at p1; exact p1
      | bad => rw [q] at p1; exact p1
end
abbrev AG := D → Env → Option Env
/-- all slots but these stand -/
def Agree (is : List Nat) (σ σ' : L2.St) : Prop := σ'.length = σ.length ∧ ∀ j, j ∉ is → σ'[j]? = σ[j]?
theorem Agree.refl {is : List Nat} {σ : L2.St} : Agree is σ σ := ⟨rfl, fun _ _ => rfl⟩
theorem Agree.trans {is js : List Nat} {σ σ1 σ2 : L2.St} (a : Agree is σ σ1) (b : Agree js σ1 σ2) : Agree (is ++ js) σ σ2 :=
  ⟨b.1.trans a.1, fun j hj => (b.2 j fun z => hj (List.mem_append_right _ z)).trans (a.2 j fun z => hj (List.mem_append_left _ z))⟩
def TGD (G : GX) (is : List Nat) (g : AG) : TG := fun v σ H Q => ∃ μ env h d env', SRep G μ h H ∧ ERep G H μ env σ ∧ Rep G H μ d v ∧ g d env = some env' ∧ ∀ σ', ERep G H μ env' σ' → Agree is σ σ' → Q σ' H
abbrev AGs := List D → Env → Option Env
def TGDs (G : GX) (is : List Nat) (g : AGs) : TGs := fun vs σ H Q => ∃ μ env h ds env', SRep G μ h H ∧ ERep G H μ env σ ∧ RepL G H μ ds vs ∧ g ds env = some env' ∧ ∀ σ', ERep G H μ env' σ' → Agree is σ σ' → Q σ' H
theorem _root_.L2.PG.weak {X : Cx} {e : Expr} {t t' : TG} (h : PG X e t) (w : ∀ v σ H Q, t' v σ H Q → t v σ H Q) : PG X e t' := ⟨fun pins s σ H v u Q I r q => h.run pins s σ H v u Q I r (w v σ H Q q)⟩
theorem _root_.L2.PGs.weak {X : Cx} {e : List Expr} {t t' : TGs} (h : PGs X e t) (w : ∀ v σ H Q, t' v σ H Q → t v σ H Q) : PGs X e t' := ⟨fun pins s σ H v u Q I r q => h.run pins s σ H v u Q I r (w v σ H Q q)⟩
def aName (i : Nat) : AG := fun d env => some (env.set i (some d))
theorem ERep.set {G : GX} {H : Hp} {μ : List Addr} {env : Env} {σ : L2.St} {d : D} {v : V} (e : ERep G H μ env σ) (r : Rep G H μ d v) (i : Nat) : ERep G H μ (env.set i (some d)) (σ.set i (some v)) := by
  refine ⟨by simp [e.1], fun j d' h => ?_⟩
  by_cases hj : i = j
  · subst hj
    have hl : i < env.length := by
      have := (List.getElem?_eq_some_iff.mp h).1
      simpa using this
    rw [List.getElem?_set_self hl] at h
    cases h
    exact ⟨v, List.getElem?_set_self (by rw [← e.1]; exact hl), r⟩
  · rw [List.getElem?_set_ne hj] at h
    rw [List.getElem?_set_ne hj]
    exact e.2 j d' h
def aNil : AGs := fun ds env => match ds with
  | [] => some env
  | _ => none
def aCons (g : AG) (gs : AGs) : AGs := fun ds env => match ds with
  | d :: r => (g d env).bind fun env1 => gs r env1
  | [] => none
def aTup (n : Nat) (gs : AGs) : AG := fun d env => match d with
  | .tup ds => if ds.length = n then gs ds env else none
  | _ => none
section
variable {X : Cx} {pos : Pos} {is js : List Nat} {g : AG} {gs : AGs} {e : Expr} {es : List Expr}
theorem g_name {i : Nat} {x : Str} (hN : X.N.Nodup) (hi : X.N[i]? = some x) (hx : Loc X.env.scope x) (hf : X.fn x = true ∨ X.env.scope.names.lookup x = some .local) : PG X (.Name x pos) (TGD (gx X) [i] (aName i)) := by
  refine (pg_name hN hi hx hf).weak fun v σ H Q ⟨μ, env, h, d, env', s, r, rd, q, k⟩ => ?_
  cases q
  refine k _ (r.set rd i) ⟨by simp, fun j hj => List.getElem?_set_ne fun z => hj (by simp [z])⟩
theorem gs_nil : PGs X [] (TGDs (gx X) [] aNil) := by
  refine pgs_nil.weak fun v σ H Q ⟨μ, env, h, ds, env', s, r, rd, q, k⟩ => ?_
  cases ds with
  | nil =>
    cases q
    unfold RepL at rd
    exact ⟨rd, k σ r .refl⟩
  | cons _ _ => cases q
theorem gs_cons (h1 : PG X e (TGD (gx X) is g)) (h2 : PGs X es (TGDs (gx X) js gs)) (hs : (assignEach (e :: es) X.env).map (·.2) = assign e X.env :: (assignEach es X.env).map (·.2)) : PGs X (e :: es) (TGDs (gx X) (is ++ js) (aCons g gs)) := by
  refine (pgs_cons h1 h2 hs).weak fun vs σ H Q ⟨μ, env, h, ds, env', s, r, rd, q, k⟩ => ?_
  cases ds with
  | nil => cases q
  | cons d t =>
    unfold RepL at rd
    obtain ⟨v, u, rfl, r1, r2⟩ := rd
    have q : (g d env).bind (fun env1 => gs t env1) = some env' := q
    cases hg : g d env with
    | none => rw [hg] at q; cases q
    | some env1 =>
      rw [hg] at q
      exact ⟨v, u, rfl, μ, env, h, d, env1, s, r, r1, hg, fun σ1 r1' a1 => ⟨μ, env1, h, t, env', s, r1', r2, q, fun σ2 r2' a2 => k σ2 r2' (a1.trans a2)⟩⟩
theorem g_tup {k : Nat} {n : Nat} (hc : X.calm = true) (h : PGs X es (TGDs (gx X) js gs)) (hn : (assignEach es X.env).length = n) (hst : (assignEach es X.env).findIdx? (·.1) = none) : PG X (.Tuple es k pos) (TGD (gx X) js (aTup n gs)) := by
  refine (pg_tup hc h hn hst).weak fun v σ H Q ⟨μ, env, h, d, env', s, r, rd, q, k⟩ => ?_
  cases d with
  | tup ds =>
    have q : (if ds.length = n then gs ds env else none) = some env' := q
    by_cases hl : ds.length = n
    · rw [if_pos hl] at q
      obtain ⟨a, vs, rfl, q1, l1⟩ := rd.tupl
      exact ⟨a, vs, rfl, q1, l1.length.trans hl, μ, env, h, ds, env', s, r, l1, q, k⟩
    · rw [if_neg hl] at q; cases q
  | _ => cases q
end
def sAsg (ma : DE) (g : AG) : SD := fun env h => (ma env h).toS env fun d h1 => match g d env with
  | some env1 => .nx env1 h1
  | none => .bad
section
variable {X : Cx} {W : XWS} {pos : Pos} {is : List Nat} {g : AG} {e tg : Expr} {ma : DE}
theorem asg_d {E : Ends} {σ : L2.St} {H : Hp} (q : TDS (gx X) W (sAsg ma g) E σ H) : tAsg (TD (gx X) W ma) (TGD (gx X) is g) E σ H := by
  refine TG'.imp (TDS.split (rel := Rep (gx X)) (k := fun d env h1 => match g d env with
    | some env1 => .nx env1 h1
    | none => .bad) q) ?_
  rintro v H1 ⟨μ1, d, env, h1, s1, e1, r1, p1⟩
  cases hg : g d env with
  | none => rw [hg] at p1; exact p1.elim
  | some env1 => rw [hg] at p1; exact ⟨μ1, env, h1, d, env1, s1, e1, r1, hg, fun σ' r' _ => p1 μ1 H1 σ' s1 .refl r'⟩
theorem s_asg (he : PE X e (TD (gx X) W ma)) (hg : PG X tg (TGD (gx X) is g)) (hs : swapsWithSole [tg] e pos.line X.env = pure false) (hw : swappedStores [tg] e X.env = pure none)
    (h1 : (assignEach [tg] X.env).map (·.2) = [assign tg X.env]) : PS X (.Assign [tg] e pos) (TDS (gx X) W (sAsg ma g)) := (ps_asg he hg hs hw h1).weak fun _ _ _ q => asg_d q
/-- a, b = x, y -/
def setAll : List Nat → List D → Env → Env
  | i :: is, d :: ds, env => setAll is ds (env.set i (some d))
  | _, _, env => env
def sParK (is : List Nat) (ds : List D) : SD := fun env h1 => if ds.length = is.length then .nx (setAll is ds env) h1 else .bad
def sPar (is : List Nat) (ml : DEn (List D)) : SD := fun env h => (ml env h).toS env fun ds h1 => sParK is ds env h1
theorem s_par {i j : Nat} {x y : Str} {a b : Expr} {ml : DEn (List D)} {px py pt : Pos} {kt k2 pt2} (hc : X.calm = true) (hN : X.N.Nodup) (hi : X.N[i]? = some x) (hj : X.N[j]? = some y) (hij : i ≠ j)
    (hx : X.env.scope.names.lookup x = some .local) (hy : X.env.scope.names.lookup y = some .local) (ha : PA X [a, b] (TDL (gx X) W ml))
    (hw : swappedStores [.Tuple [.Name x px, .Name y py] kt pt] (.Tuple [a, b] k2 pt2) X.env = pure (some [x, y]))
    (hs : swapsWithSole [.Tuple [.Name x px, .Name y py] kt pt] (.Tuple [a, b] k2 pt2) pos.line X.env = pure false) :
    PS X (.Assign [.Tuple [.Name x px, .Name y py] kt pt] (.Tuple [a, b] k2 pt2) pos) (TDS (gx X) W (sPar [i, j] ml)) := by
  refine (ps_par hc hN hi hj hij hx hy ha hw hs).weak fun E σ H q => ?_
  refine TG'.imp (TDS.split (rel := RepL (gx X)) (k := sParK [i, j]) q) ?_
  rintro vs H1 ⟨μ1, ds, env, h1, s1, e1, r1, p1⟩
  unfold sParK at p1
  by_cases hl : ds.length = [i, j].length
  · rw [if_pos hl] at p1
    match ds, hl with
    | [d, e], _ =>
      obtain ⟨v, u, rfl, q1, q2⟩ := r1.two
      exact ⟨v, u, rfl, p1 μ1 H1 _ s1 .refl ((e1.set q1 i).set q2 j)⟩
  · rw [if_neg hl] at p1; exact p1.elim
theorem s_par3 {i j l : Nat} {x y z : Str} {a b c : Expr} {ml : DEn (List D)} {px py pz pt : Pos} {kt k2 pt2} (hc : X.calm = true) (hN : X.N.Nodup) (hi : X.N[i]? = some x) (hj : X.N[j]? = some y) (hl : X.N[l]? = some z) (hij : i ≠ j) (hil : i ≠ l) (hjl : j ≠ l)
    (hx : X.env.scope.names.lookup x = some .local) (hy : X.env.scope.names.lookup y = some .local) (hz : X.env.scope.names.lookup z = some .local) (ha : PA X [a, b, c] (TDL (gx X) W ml))
    (hw : swappedStores [.Tuple [.Name x px, .Name y py, .Name z pz] kt pt] (.Tuple [a, b, c] k2 pt2) X.env = pure (some [x, y, z]))
    (hs : swapsWithSole [.Tuple [.Name x px, .Name y py, .Name z pz] kt pt] (.Tuple [a, b, c] k2 pt2) pos.line X.env = pure false) :
    PS X (.Assign [.Tuple [.Name x px, .Name y py, .Name z pz] kt pt] (.Tuple [a, b, c] k2 pt2) pos) (TDS (gx X) W (sPar [i, j, l] ml)) := by
  refine (ps_par3 hc hN hi hj hl hij hil hjl hx hy hz ha hw hs).weak fun E σ H q => ?_
  refine TG'.imp (TDS.split (rel := RepL (gx X)) (k := sParK [i, j, l]) q) ?_
  rintro vs H1 ⟨μ1, ds, env, h1, s1, e1, r1, p1⟩
  unfold sParK at p1
  by_cases hl : ds.length = [i, j, l].length
  · rw [if_pos hl] at p1
    match ds, hl with
    | [d, e, f], _ =>
      unfold RepL at r1
      obtain ⟨v, t, rfl, q1, r2⟩ := r1
      obtain ⟨u, w, rfl, q2, q3⟩ := r2.two
      exact ⟨v, u, w, rfl, p1 μ1 H1 _ s1 .refl (((e1.set q1 i).set q2 j).set q3 l)⟩
  · rw [if_neg hl] at p1; exact p1.elim
end
end DV
namespace DV
open PySem PySem.Spec PyProof.Rows L2
inductive IS where
  | items (ds : List D)
  | lst (n : Nat)
/-- J walks ds from the state (μ0, H0) on -/
structure JItems (G : GX) (μ0 : List Addr) (H0 : Hp) (ds : List D) (J : It) : Prop where
  go : ∀ i μ H, Ext μ0 H0 μ H → i < ds.length → J.go i H
  yld : ∀ i μ h H d x H', Ext μ0 H0 μ H → SRep G μ h H → ds[i]? = some d → J.yld i H x H' → SRep G μ h H' ∧ Ext μ H μ H' ∧ Rep G H' μ d x
  stop : ∀ i μ H, Ext μ0 H0 μ H → ds.length ≤ i → J.stop i H
def JOk (G : GX) (μ0 : List Addr) (H0 : Hp) (is : IS) (J : It) : Prop :=
  match is with
  | .items ds => JItems G μ0 H0 ds J
  | .lst n => ∃ a, μ0[n]? = some a ∧ J = Itl G.K a
def PostI (G : GX) (W : XW) (μ : List Addr) (H : Hp) (r : R IS) (Q : It → Hp → Prop) : Prop := Post (fun H1 μ1 is J => JOk G μ1 H1 is J) G W μ H r Q
abbrev relI (G : GX) : Hp → List Addr → IS → It → Prop := fun H1 μ1 is J => JOk G μ1 H1 is J
abbrev TDI (G : GX) (W : XWS) (m : DEn IS) : TI := TG' (relI G) G W m
theorem _root_.L2.PI.weak {X : Cx} {tg e : Expr} {t t' : TI} (h : PI X tg e t) (w : ∀ σ H Q, t' σ H Q → t σ H Q) : PI X tg e t' := ⟨fun pins s σ H Q I q => h.run pins s σ H Q I (w σ H Q q)⟩
/-- a loop's turns over items -/
def forS (g : AG) (m : SD) : List D → SD
  | [], env, h => .nx env h
  | d :: ds, env, h => match g d env with
    | none => .bad
    | some env1 => match m env1 h with
      | .nx env2 h2 => forS g m ds env2 h2
      | .ct env2 h2 => forS g m ds env2 h2
      | .bk env2 h2 => .nx env2 h2
      | r => r
/-- over the n-th object, a list, as it stands at each turn -/
def forR (g : AG) (m : SD) (n : Nat) : Nat → Nat → SD
  | 0, _, _, _ => .bad
  | f + 1, i, env, h => match h[n]? with
    | some (.lst ds) => match ds[i]? with
      | none => .nx env h
      | some d => match g d env with
        | none => .bad
        | some env1 => match m env1 h with
          | .nx env2 h2 => forR g m n f (i + 1) env2 h2
          | .ct env2 h2 => forR g m n f (i + 1) env2 h2
          | .bk env2 h2 => .nx env2 h2
          | r => r
    | _ => .bad
def forI (g : AG) (m : SD) (f : Nat) : IS → SD
  | .items ds => forS g m ds
  | .lst n => forR g m n f 0
def sFor (f : Nat) (mi : DEn IS) (g : AG) (m : SD) : SD := fun env h => (mi env h).toS env fun is h1 => forI g m f is env h1
section
variable {X : Cx} {W : XWS} {pos : Pos} {is : List Nat} {g : AG} {tg iter : Expr} {mi : DEn IS} {m : SD} {body : List Stmt} {f : Nat}
/-- a turn's end -/
theorem turn_end {μ : List Addr} {H : Hp} {r : SR} {k : SD} {N : L2.St → Hp → Prop} {E : Ends}
    (p : SPost (gx X) W μ H (match r with
      | .nx env2 h2 => k env2 h2
      | .ct env2 h2 => k env2 h2
      | .bk env2 h2 => .nx env2 h2
      | r => r) E) (hN : ∀ μ' H' env h σ', SRep (gx X) μ' h H' → Ext μ H μ' H' → ERep (gx X) H' μ' env σ' → SPost (gx X) W μ' H' (k env h) E → N σ' H') :
    SPost (gx X) W μ H r { E with nx := N, ct := N, bk := E.nx } := by
  cases r with
  | nx env2 h2 => exact fun μ' H' σ' s x e => hN μ' H' env2 h2 σ' s x e (p.mono x)
  | ct env2 h2 => exact fun μ' H' σ' s x e => hN μ' H' env2 h2 σ' s x e (p.mono x)
  | bk env2 h2 => exact p
  | rt d h2 => exact p
  | exc c a env2 h2 => exact p
  | bad => exact p
theorem s_for (hp : PassesOwn (model X.prog X.w) X.A X.env X.xe) (hc : X.calm = true) (hi : PI X tg iter (TDI (gx X) W mi)) (hg : PG X tg (TGD (gx X) is g)) (hb : PSs X body (TDS (gx X) W m))
    (hs : ∀ x, foldedSetIterable iter X.env x = pure x) : PS X (.For tg iter body [] pos) (TDS (gx X) W (sFor f mi g m)) := by
  refine (ps_for hp hc hi hg hb hs).weak fun E σ H q => ?_
  refine TG'.imp (TDS.split (rel := relI (gx X)) (k := fun is env h1 => forI g m f is env h1) q) ?_
  rintro J H0 ⟨μ0, is, env0, h0, s0, e0, r0, p0⟩
  cases is with
  | items ds =>
    have r0 : JItems (gx X) μ0 H0 ds J := r0
    refine ⟨fun i k σ H => i + k = ds.length ∧ ∃ μ env h, Ext μ0 H0 μ H ∧ SRep (gx X) μ h H ∧ ERep (gx X) H μ env σ ∧ SPost (gx X) W μ H (forS g m (ds.drop i) env h) E, ⟨ds.length, by simp, μ0, env0, h0, .refl, s0, e0, p0⟩, ?_⟩
    rintro i k σ1 H1 ⟨hk, μ, env, h, x, s, e, p⟩
    by_cases hi' : i < ds.length
    · right
      refine ⟨r0.go i μ H1 x hi', fun σ' H' => ∃ m', m' < k ∧ i + 1 + m' = ds.length ∧ ∃ μ env h, Ext μ0 H0 μ H' ∧ SRep (gx X) μ h H' ∧ ERep (gx X) H' μ env σ' ∧ SPost (gx X) W μ H' (forS g m (ds.drop (i + 1)) env h) E,
        fun σ' H' ⟨m', q1, q2, q3⟩ => ⟨m', q1, q2, q3⟩, fun y H' hy => ?_⟩
      obtain ⟨s', x', ry⟩ := r0.yld i μ h H1 ds[i] y H' x s (List.getElem?_eq_getElem hi') hy
      rw [List.drop_eq_getElem_cons hi'] at p
      unfold forS at p
      split at p
      · exact p.elim
      · rename_i env1 hg1
        refine ⟨μ, env, h, ds[i], env1, s', e.ext x', ry, hg1, fun σ2 e2 _ => ⟨μ, env1, h, s', e2, ?_⟩⟩
        refine turn_end (k := forS g m (ds.drop (i + 1))) (p.mono x') fun μ3 H3 env3 h3 σ3 s3 x3 e3 p3 => ?_
        exact ⟨k - 1, by omega, by omega, μ3, env3, h3, (x.trans x').trans x3, s3, e3, p3⟩
    · left
      refine ⟨r0.stop i μ H1 x (by omega), ?_⟩
      rw [List.drop_eq_nil_of_le (by omega)] at p
      exact p μ H1 σ1 s .refl e
  | lst n =>
    obtain ⟨a, ea, rfl⟩ := r0
    have p0 : SPost (gx X) W μ0 H0 (forR g m n f 0 env0 h0) E := p0
    refine ⟨fun i k σ H => ∃ μ env h, Ext μ0 H0 μ H ∧ SRep (gx X) μ h H ∧ ERep (gx X) H μ env σ ∧ SPost (gx X) W μ H (forR g m n k i env h) E, ⟨f, μ0, env0, h0, .refl, s0, e0, p0⟩, ?_⟩
    rintro i k σ1 H1 ⟨μ, env, h, x, s, e, p⟩
    have ea' := pre_get x.pre ea
    cases k with
    | zero => exact p.elim
    | succ k =>
      unfold forR at p
      split at p
      · rename_i ds hd
        obtain ⟨vs, h1, l1⟩ := s.list hd ea'
        have hsq : SqL (gx X).K H1 a vs := .of h1
        split at p
        · rename_i hi'
          left
          refine ⟨⟨vs, hsq, ?_⟩, p μ H1 σ1 s .refl e⟩
          rw [l1.length]
          exact List.getElem?_eq_none_iff.mp hi'
        · rename_i d hi'
          obtain ⟨y0, hy0, ry0⟩ := l1.get hi'
          right
          refine ⟨⟨vs, y0, hsq, hy0⟩, fun σ' H' => ∃ μ env h, Ext μ0 H0 μ H' ∧ SRep (gx X) μ h H' ∧ ERep (gx X) H' μ env σ' ∧ SPost (gx X) W μ H' (forR g m n k (i + 1) env h) E, fun σ' H' z => ⟨k, Nat.lt_succ_self k, z⟩, ?_⟩
          rintro y H' ⟨rfl, hy⟩
          have := hy vs hsq
          rw [hy0] at this
          cases this
          split at p
          · exact p.elim
          · rename_i env1 hg1
            refine ⟨μ, env, h, d, env1, s, e, ry0, hg1, fun σ2 e2 _ => ⟨μ, env1, h, s, e2, ?_⟩⟩
            exact turn_end (k := forR g m n k (i + 1)) p fun μ3 H3 env3 h3 σ3 s3 x3 e3 p3 => ⟨μ3, env3, h3, x.trans x3, s3, e3, p3⟩
      · exact p.elim
end
def chars (t : Txt) : List D := t.map fun c => .str [c]
/-- the value of an expression, walked -/
def iVal (m : DE) : DEn IS := m.bind fun d _ h => match d with
  | .tup ds => .ok (.items ds) h
  | .frz ds => .ok (.items ds) h
  | .ref n => match h[n]? with
    | some (.lst _) => .ok (.lst n) h
    | _ => .bad
  | .str t => if t.length ≤ big then .ok (.items (chars t)) h else .bad
  | _ => .bad
section
variable {X : Cx} {W : XWS} {pos : Pos} {tg e : Expr} {m : DE}
/-- two readings of one walked thing -/
theorem _root_.L2.PI.or {t t' : TI} (h : PI X tg e t) (h' : PI X tg e t') : PI X tg e (fun σ H R => t σ H R ∨ t' σ H R) := ⟨fun pins s σ H R I q => q.elim (h.run pins s σ H R I) (h'.run pins s σ H R I)⟩
theorem jt {G : GX} {μ : List Addr} {H : Hp} {a : Addr} {vs : List V} {ds : List D} (q : SqT G.K H a vs) (l : RepL G H μ ds vs) : JItems G μ H ds (Itt G.K a) where
  go := fun i μ1 H1 x hi => by
    obtain ⟨v, hv, _⟩ := l.get (List.getElem?_eq_getElem hi)
    exact ⟨vs, v, DV.SqT.ext x q, hv⟩
  yld := fun i μ1 h1 H1 d y H' x s hd hy => by
    obtain ⟨rfl, hy⟩ := hy
    obtain ⟨v, hv, rv⟩ := l.get hd
    have := hy vs (DV.SqT.ext x q)
    rw [hv] at this
    cases this
    exact ⟨s, .refl, rv.ext x⟩
  stop := fun i μ1 H1 x hi => ⟨vs, DV.SqT.ext x q, by rw [l.length]; exact hi⟩
theorem jl {G : GX} {μ : List Addr} {H : Hp} {a : Addr} {vs : List V} {ds : List D} (q : SqF G.K H a vs) (l : RepL G H μ ds vs) : JItems G μ H ds (Itl G.K a) where
  go := fun i μ1 H1 x hi => by
    obtain ⟨v, hv, _⟩ := l.get (List.getElem?_eq_getElem hi)
    exact ⟨vs, v, (q.ext x).sq, hv⟩
  yld := fun i μ1 h1 H1 d y H' x s hd hy => by
    obtain ⟨rfl, hy⟩ := hy
    obtain ⟨v, hv, rv⟩ := l.get hd
    have := hy vs (q.ext x).sq
    rw [hv] at this
    cases this
    exact ⟨s, .refl, rv.ext x⟩
  stop := fun i μ1 H1 x hi => ⟨vs, (q.ext x).sq, by rw [l.length]; exact hi⟩
theorem post_ok {α β : Type} {rel : Hp → List Addr → α → β → Prop} {G : GX} {W : XW} {μ : List Addr} {H : Hp} {r : R α} {Q : β → Hp → Prop} (p : Post rel G W μ H r Q) : (∃ d h', r = .ok d h') ∨ (∃ c a h', r = .exc c a h') := by
  cases r with
  | ok d h' => exact .inl ⟨d, h', rfl⟩
  | exc c a h' => exact .inr ⟨c, a, h', rfl⟩
  | bad => exact p.elim
/-- a reading's choice by the value that comes -/
theorem PI.byVal {t1 t2 t3 : V → Hp → (It → Hp → Prop) → Prop} (h1 : PI X tg e (fun σ H R => TD (gx X) W m σ H fun x H1 => t1 x H1 R)) (h2 : PI X tg e (fun σ H R => TD (gx X) W m σ H fun x H1 => t2 x H1 R)) (h3 : PI X tg e (fun σ H R => TD (gx X) W m σ H fun x H1 => t3 x H1 R)) {mi : DEn IS}
    (hk : ∀ μ env h d h1 σ, m env h = .ok d h1 → ∀ R H, Post (relI (gx X)) (gx X) (W σ) μ H (mi env h) R →
      (∀ μ1 H1 v, SRep (gx X) μ1 h1 H1 → Ext μ H μ1 H1 → Rep (gx X) H1 μ1 d v → t1 v H1 R) ∨ (∀ μ1 H1 v, SRep (gx X) μ1 h1 H1 → Ext μ H μ1 H1 → Rep (gx X) H1 μ1 d v → t2 v H1 R) ∨ (∀ μ1 H1 v, SRep (gx X) μ1 h1 H1 → Ext μ H μ1 H1 → Rep (gx X) H1 μ1 d v → t3 v H1 R))
    (hx : ∀ env h c a h1, m env h = .exc c a h1 → mi env h = .exc c a h1) (hb : ∀ env h, m env h = .bad → mi env h = .bad) : PI X tg e (TDI (gx X) W mi) := by
  refine ((h1.or h2).or h3).weak fun σ H R ⟨μ, env, h, s, r, p⟩ => ?_
  cases q : m env h with
  | bad => rw [hb env h q] at p; exact p.elim
  | exc c a h' =>
    rw [hx env h c a h' q] at p
    exact .inl (.inl ⟨μ, env, h, s, r, by rw [q]; exact p⟩)
  | ok d h' =>
    rcases hk μ env h d h' σ q R H p with z | z | z
    · exact .inl (.inl ⟨μ, env, h, s, r, by rw [q]; exact z⟩)
    · exact .inl (.inr ⟨μ, env, h, s, r, by rw [q]; exact z⟩)
    · exact .inr ⟨μ, env, h, s, r, by rw [q]; exact z⟩
theorem js {G : GX} {μ : List Addr} {H : Hp} (t : Txt) : JItems G μ H (chars t) (Its (sOf t)) where
  go := fun i μ1 H1 x hi => by
    show i < (sOf t).cps.size
    simpa [sOf, chars] using hi
  yld := fun i μ1 h1 H1 d y H' x s hd hy => by
    obtain ⟨rfl, c, hc, rfl⟩ := hy
    refine ⟨s, .refl, ?_⟩
    have hc' : t[i]? = some c := by simpa [sOf] using hc
    unfold chars at hd
    rw [List.getElem?_map, hc'] at hd
    cases hd
    unfold Rep
    rfl
  stop := fun i μ1 H1 x hi => by
    show (sOf t).cps.size ≤ i
    simpa [sOf, chars] using hi
theorem i_val (he : PE X e (TD (gx X) W m)) : PI X tg e (TDI (gx X) W (iVal m)) := by
  refine PI.byVal (t1 := fun x H1 R => ∃ a, x = .ref a ∧ (∃ xs, SqL X.K H1 a xs) ∧ R (Itl X.K a) H1) (t2 := fun x H1 R => ∃ a, x = .ref a ∧ (∃ xs, SqT X.K H1 a xs) ∧ R (Itt X.K a) H1)
    (t3 := fun x H1 R => ∃ y, x = .str y ∧ R (Its y) H1) (pi_list he) (pi_tup he) (pi_str he) (fun μ env h d h1 σ q R H p => ?_) (fun env h c a h1 q => ?_) (fun env h q => ?_)
  · unfold iVal DEn.bind at p
    rw [q] at p
    cases d with
    | tup ds =>
      refine .inr (.inl fun μ1 H1 v s x r => ?_)
      obtain ⟨a, vs, rfl, q1, l1⟩ := r.tupl
      exact ⟨a, rfl, ⟨vs, q1⟩, p μ1 H1 _ s x (jt q1 l1)⟩
    | frz ds =>
      refine .inl fun μ1 H1 v s x r => ?_
      obtain ⟨a, vs, rfl, q1, l1⟩ := r.frzl
      exact ⟨a, rfl, ⟨vs, q1.sq⟩, p μ1 H1 _ s x (jl q1 l1)⟩
    | ref n =>
      refine .inl fun μ1 H1 v s x r => ?_
      obtain ⟨a, ea, rfl⟩ := r.ref
      have p : Post (relI (gx X)) (gx X) (W σ) μ H (match h1[n]? with
        | some (.lst _) => .ok (.lst n) h1
        | _ => .bad) R := p
      split at p
      · rename_i ds hd
        obtain ⟨vs, q1, l1⟩ := s.list hd ea
        exact ⟨a, rfl, ⟨vs, .of q1⟩, p μ1 H1 _ s x ⟨a, ea, rfl⟩⟩
      · exact p.elim
    | str t =>
      refine .inr (.inr fun μ1 H1 v s x r => ?_)
      have p : Post (relI (gx X)) (gx X) (W σ) μ H (if t.length ≤ big then .ok (.items (chars t)) h1 else .bad) R := p
      split at p
      · exact ⟨sOf t, r.strv, p μ1 H1 _ s x (js t)⟩
      · exact p.elim
    | _ => exact p.elim
  · unfold iVal DEn.bind; rw [q]; rfl
  · unfold iVal DEn.bind; rw [q]; rfl
def rngI (lo : Int) (n : Nat) : List D := (List.range n).map fun i => .int (lo + (i : Nat))
def sm62 (i : Int) : Bool := decide (-4611686018427387904 ≤ i) && decide (i < 4611686018427387904)
def iRng1 (ml : DEn (List D)) : DEn IS := ml.bind fun ds _ h => match ds with
  | [.int j] => if sm62 j = true then .ok (.items (rngI 0 j.toNat)) h else .bad
  | _ => .bad
def iRng2 (ml : DEn (List D)) : DEn IS := ml.bind fun ds _ h => match ds with
  | [.int i, .int j] => if sm62 i = true ∧ sm62 j = true then .ok (.items (rngI i (j - i).toNat)) h else .bad
  | _ => .bad
/-- i, i + c, .. -/
def rngC (i c : Int) (n : Nat) : List D := (List.range n).map fun k => .int (i + (k : Nat) * c)
def rgc (i j c : Int) : Option Nat := if c ≠ 0 ∧ c.natAbs < 1073741824 ∧ Builtin.Range.small i j c = true ∧ 0 ≤ Builtin.Range.rangeSize i j c then some (Builtin.Range.rangeSize i j c).toNat else none
def iRng3 (ml : DEn (List D)) : DEn IS := ml.bind fun ds _ h => match ds with
  | [.int i, .int j, .int c] => match rgc i j c with
    | some n => .ok (.items (rngC i c n)) h
    | none => .bad
  | _ => .bad
theorem sm62_ok {i : Int} (h : sm62 i = true) : -(2 ^ 62) ≤ i ∧ i < 2 ^ 62 := by
  unfold sm62 at h
  rw [Bool.and_eq_true, decide_eq_true_eq, decide_eq_true_eq] at h
  have : (2 : Int) ^ 62 = 4611686018427387904 := by decide
  omega
theorem jr {G : GX} {μ : List Addr} {H : Hp} (lo : Int) (n : Nat) : JItems G μ H (rngI lo n) (Itr lo n) where
  go := fun i μ1 H1 x hi => by
    show i < n
    simpa [rngI] using hi
  yld := fun i μ1 h1 H1 d y H' x s hd hy => by
    obtain ⟨rfl, rfl⟩ := hy
    refine ⟨s, .refl, ?_⟩
    unfold rngI at hd
    rw [List.getElem?_map] at hd
    cases q : (List.range n)[i]? with
    | none => rw [q] at hd; cases hd
    | some k =>
      rw [q] at hd
      cases hd
      obtain ⟨h1, h2⟩ := List.getElem?_eq_some_iff.mp q
      rw [List.getElem_range] at h2
      subst h2
      unfold Rep
      rfl
  stop := fun i μ1 H1 x hi => by
    show n ≤ i
    simpa [rngI] using hi
theorem jrc {G : GX} {μ : List Addr} {H : Hp} (lo c : Int) (n : Nat) : JItems G μ H (rngC lo c n) (Itc lo c n) where
  go := fun i μ1 H1 x hi => by
    show i < n
    simpa [rngC] using hi
  yld := fun i μ1 h1 H1 d y H' x s hd hy => by
    obtain ⟨rfl, rfl⟩ := hy
    refine ⟨s, .refl, ?_⟩
    unfold rngC at hd
    rw [List.getElem?_map] at hd
    cases q : (List.range n)[i]? with
    | none => rw [q] at hd; cases hd
    | some k =>
      rw [q] at hd
      cases hd
      obtain ⟨h1, h2⟩ := List.getElem?_eq_some_iff.mp q
      rw [List.getElem_range] at h2
      subst h2
      unfold Rep
      rfl
  stop := fun i μ1 H1 x hi => by
    show n ≤ i
    simpa [rngC] using hi
theorem rgc_ok {i j c : Int} {n : Nat} (h : rgc i j c = some n) : RgC i j c n := by
  unfold rgc at h
  split at h
  · rename_i q
    cases h
    exact ⟨q.1, q.2.1, q.2.2.1, (Int.toNat_of_nonneg q.2.2.2).symm⟩
  · cases h
variable {ml : DEn (List D)} {a b c : Expr} {p : Pos}
theorem i_rng1 (hg : Gl X "range") (hm : X.mg "range" = none) (ha : PA X [a] (TDL (gx X) W ml)) (hs : starEach [a] X.env = [(false, eval a X.env)]) : PI X tg (.Call (.Name "range" p) [a] [] pos) (TDI (gx X) W (iRng1 ml)) := by
  refine (pi_range1 hg hm ha hs).weak fun σ H R q => ?_
  refine TG'.imp (TG'.split (rel := RepL (gx X)) q) ?_
  rintro vs H1 ⟨μ1, ds, env, h1, s1, e1, r1, p1⟩
  split at p1
  · rename_i j
    split at p1
    · rename_i hj
      obtain ⟨v, rfl, q1⟩ := r1.one
      exact ⟨j, by rw [q1.intv], (sm62_ok hj).1, (sm62_ok hj).2, p1.now s1 (jr 0 _)⟩
    · exact p1.elim
  · exact p1.elim
theorem i_rng2 (hg : Gl X "range") (hm : X.mg "range" = none) (ha : PA X [a, b] (TDL (gx X) W ml)) (hs : starEach [a, b] X.env = [(false, eval a X.env), (false, eval b X.env)]) (hs2 : starEach [b] X.env = [(false, eval b X.env)]) :
    PI X tg (.Call (.Name "range" p) [a, b] [] pos) (TDI (gx X) W (iRng2 ml)) := by
  refine (pi_range2 hg hm ha hs hs2).weak fun σ H R q => ?_
  refine TG'.imp (TG'.split (rel := RepL (gx X)) q) ?_
  rintro vs H1 ⟨μ1, ds, env, h1, s1, e1, r1, p1⟩
  split at p1
  · rename_i i j
    split at p1
    · rename_i hj
      obtain ⟨v, u, rfl, q1, q2⟩ := r1.two
      exact ⟨i, j, by rw [q1.intv, q2.intv], ⟨(sm62_ok hj.1).1, (sm62_ok hj.1).2, (sm62_ok hj.2).1, (sm62_ok hj.2).2⟩, p1.now s1 (jr i _)⟩
    · exact p1.elim
  · exact p1.elim
theorem RepL.three {G : GX} {μ : List Addr} {H : Hp} {d e f : D} {vs : List V} (r : RepL G H μ [d, e, f] vs) : ∃ v u w, vs = [v, u, w] ∧ Rep G H μ d v ∧ Rep G H μ e u ∧ Rep G H μ f w := by
  unfold RepL at r
  obtain ⟨v, t, rfl, r1, r2⟩ := r
  obtain ⟨u, w, rfl, r3, r4⟩ := r2.two
  exact ⟨v, u, w, rfl, r1, r3, r4⟩
theorem i_rng3 (hg : Gl X "range") (hm : X.mg "range" = none) (ha : PA X [a, b, c] (TDL (gx X) W ml)) (hs : starEach [a, b, c] X.env = (false, eval a X.env) :: starEach [b, c] X.env) (hpl : (backTo pos (starEach [b, c] X.env)).any (·.1) = false) :
    PI X tg (.Call (.Name "range" p) [a, b, c] [] pos) (TDI (gx X) W (iRng3 ml)) := by
  refine (pi_range3 hg hm ha hs hpl).weak fun σ H R q => ?_
  refine TG'.imp (TG'.split (rel := RepL (gx X)) q) ?_
  rintro vs H1 ⟨μ1, ds, env, h1, s1, e1, r1, p1⟩
  split at p1
  · rename_i i j k
    split at p1
    · rename_i n hn
      obtain ⟨v, u, w, rfl, q1, q2, q3⟩ := r1.three
      exact ⟨i, j, k, n, by rw [q1.intv, q2.intv, q3.intv], rgc_ok hn, p1.now s1 (jrc i k n)⟩
    · exact p1.elim
  · exact p1.elim
def dLr1 (ml : DEn (List D)) : DE := ml.bind fun ds _ h => match ds with
  | [.int j] => if sm62 j = true ∧ j.toNat ≤ big then alloc (.lst (rngC 0 1 j.toNat)) h else .bad
  | _ => .bad
def dLr2 (ml : DEn (List D)) : DE := ml.bind fun ds _ h => match ds with
  | [.int i, .int j] => if sm62 i = true ∧ sm62 j = true ∧ (j - i).toNat ≤ big then alloc (.lst (rngC i 1 (j - i).toNat)) h else .bad
  | _ => .bad
def dLr3 (ml : DEn (List D)) : DE := ml.bind fun ds _ h => match ds with
  | [.int i, .int j, .int c] => match rgc i j c with
    | some n => if n ≤ big then alloc (.lst (rngC i c n)) h else .bad
    | none => .bad
  | _ => .bad
theorem rngC_rep {G : GX} {μ : List Addr} {H : Hp} (i c : Int) (n : Nat) : RepL G H μ (rngC i c n) ((List.range n).map fun k => V.int (i + (k : Nat) * c)) := by
  have := intsRep (G := G) (μ := μ) (H := H) ((List.range n).map fun k => (i + (k : Nat) * c : Int))
  rw [List.map_map, List.map_map] at this
  exact this
theorem vals_rgc {i c : Int} {n : Nat} {acc : Array Value} (h : ItemsOf (fun k v => ∃ t, v = .int (i + k * c) t) acc n) : Vals ((List.range n).map fun k => V.int (i + (k : Nat) * c)) acc.toList := by
  have e : acc.toList.length = n := by rw [Array.length_toList]; exact h.1
  rw [← e]
  refine vals_of_get acc.toList _ fun j u hj => ?_
  obtain ⟨t, rfl⟩ := h.2 j u (by rw [← hj, Array.getElem?_toList])
  exact ⟨t, rfl⟩
/-- list(r), r a range object just made -/
theorem list_rng {pins : List (Addr × Obj)} {σ : L2.St} {H : Hp} {s : Shared} {Q : VK} {r : Addr} {i j k : Int} {t u v : Tok} {n : Nat} (hc : X.calm = true) (I : Inv X pins σ H s) (hr : IsRange s.heap r i j k t u v) (hn : RgC i j k n) (hl : n ≤ big)
    (q : ∀ p, H p = none → Q (.ref p) (upd H p (.lst ((List.range n).map fun m => V.int (i + (m : Nat) * k))))) : wpAny (model X.prog X.w) X.A (call (.type "list") [.ref r]) (EP X pins σ Q) X.xe s := by
  refine call_list_range (n := n) (I.ok.hd hc) hr hn.2.2.1 hn.2.2.2 hl fun h' tk acc c' hk e' hi => ?_
  refine ⟨.ref s.heap.objs.size, _, I.laid (o := .lst ((List.range n).map fun m => V.int (i + (m : Nat) * k))) hk (Nat.le_refl _) (show ObjOk X.prog X.w _ _ _ (.lst _) from ⟨?_, acc.toList, c', vals_rgc hi, ?_⟩), rfl, q _ (I.hok.fresh (Nat.le_refl _))⟩
  · rw [List.length_map, List.length_range, sizeLine_eq]; exact hl
  · rw [Array.toArray_toList]; exact e'
theorem rgC_one {i j : Int} (h1 : sm62 i = true) (h2 : sm62 j = true) : RgC i j 1 (j - i).toNat :=
  ⟨by decide, by decide, small_one (sm62_ok h1).1 (sm62_ok h1).2 (sm62_ok h2).1 (sm62_ok h2).2, rangeSize_nat i j⟩
theorem d_lr1 {p2 pos2 : Pos} (hc : X.calm = true) (hg : Gl X "list") (hm : X.mg "list" = none) (hg2 : Gl X "range") (hm2 : X.mg "range" = none) (ha : PA X [a] (TDL (gx X) W ml)) (hs : starEach [a] X.env = (false, eval a X.env) :: starEach [] X.env)
    (na : starEach [.Call (.Name "range" p2) [a] [] pos2] X.env = (false, eval (.Call (.Name "range" p2) [a] [] pos2) X.env) :: starEach [] X.env) : PE X (.Call (.Name "list" p) [.Call (.Name "range" p2) [a] [] pos2] [] pos) (TD (gx X) W (dLr1 ml)) := by
  refine ⟨fun pins s σ H Q I q => ?_⟩
  refine Call_ (ld_blt I hg hm boot_list (PyProof.Rows.callWith_type1 (args_cons (Call_ (ld_blt I hg2 hm2 boot_range (PyProof.Rows.callWith_type1 (thn (ha.run pos2 pins s σ H _ I (TG'.split (rel := RepL (gx X)) q)) fun us s1 ⟨vs, H1, I1, rv, μ1, ds, env, h1, s1', e1, r1, p1⟩ => ?_) hs rfl))) na) na rfl))
  split at p1
  · rename_i j
    split at p1
    · rename_i hj
      obtain ⟨v, rfl, q1⟩ := r1.one
      rw [q1.intv] at rv
      obtain ⟨u, rfl, t, rfl⟩ := vals1 rv
      refine call_range_1 (args_nil ?_)
      have hn := rgC_one (i := 0) (j := j) (by decide) hj.1
      rw [Int.sub_zero] at hn
      exact list_rng hc (I1.kept fun b u e => Heap.get?_push_of_some _ e) (IsRange.new _ _ _ _ _ _ _) hn hj.2 (p1.allocL s1' (rngC_rep 0 1 _))
    · exact p1.elim
  · exact p1.elim
theorem d_lr2 {p2 pos2 : Pos} (hc : X.calm = true) (hg : Gl X "list") (hm : X.mg "list" = none) (hg2 : Gl X "range") (hm2 : X.mg "range" = none) (ha : PA X [a, b] (TDL (gx X) W ml)) (hs : starEach [a, b] X.env = (false, eval a X.env) :: starEach [b] X.env) (hpl : (backTo pos2 (starEach [b] X.env)).any (·.1) = false)
    (na : starEach [.Call (.Name "range" p2) [a, b] [] pos2] X.env = (false, eval (.Call (.Name "range" p2) [a, b] [] pos2) X.env) :: starEach [] X.env) : PE X (.Call (.Name "list" p) [.Call (.Name "range" p2) [a, b] [] pos2] [] pos) (TD (gx X) W (dLr2 ml)) := by
  refine ⟨fun pins s σ H Q I q => ?_⟩
  refine Call_ (ld_blt I hg hm boot_list (PyProof.Rows.callWith_type1 (args_cons (Call_ (ld_blt I hg2 hm2 boot_range (PyProof.Rows.callWith_type1 (thn (ha.run pos2 pins s σ H _ I (TG'.split (rel := RepL (gx X)) q)) fun us s1 ⟨vs, H1, I1, rv, μ1, ds, env, h1, s1', e1, r1, p1⟩ => ?_) hs hpl))) na) na rfl))
  split at p1
  · rename_i i j
    split at p1
    · rename_i hj
      obtain ⟨v, u, rfl, q1, q2⟩ := r1.two
      rw [q1.intv, q2.intv] at rv
      obtain ⟨u1, u2, rfl, ⟨t, rfl⟩, ⟨t2, rfl⟩⟩ := vals2 rv
      refine call_range_2 (args_nil ?_)
      exact list_rng hc (I1.kept fun b u e => Heap.get?_push_of_some _ e) (IsRange.new _ _ _ _ _ _ _) (rgC_one hj.1 hj.2.1) hj.2.2 (p1.allocL s1' (rngC_rep i 1 _))
    · exact p1.elim
  · exact p1.elim
theorem d_lr3 {p2 pos2 : Pos} (hc : X.calm = true) (hg : Gl X "list") (hm : X.mg "list" = none) (hg2 : Gl X "range") (hm2 : X.mg "range" = none) (ha : PA X [a, b, c] (TDL (gx X) W ml)) (hs : starEach [a, b, c] X.env = (false, eval a X.env) :: starEach [b, c] X.env) (hpl : (backTo pos2 (starEach [b, c] X.env)).any (·.1) = false)
    (na : starEach [.Call (.Name "range" p2) [a, b, c] [] pos2] X.env = (false, eval (.Call (.Name "range" p2) [a, b, c] [] pos2) X.env) :: starEach [] X.env) : PE X (.Call (.Name "list" p) [.Call (.Name "range" p2) [a, b, c] [] pos2] [] pos) (TD (gx X) W (dLr3 ml)) := by
  refine ⟨fun pins s σ H Q I q => ?_⟩
  refine Call_ (ld_blt I hg hm boot_list (PyProof.Rows.callWith_type1 (args_cons (Call_ (ld_blt I hg2 hm2 boot_range (PyProof.Rows.callWith_type1 (thn (ha.run pos2 pins s σ H _ I (TG'.split (rel := RepL (gx X)) q)) fun us s1 ⟨vs, H1, I1, rv, μ1, ds, env, h1, s1', e1, r1, p1⟩ => ?_) hs hpl))) na) na rfl))
  split at p1
  · rename_i i j k
    split at p1
    · rename_i n hn
      split at p1
      · rename_i hl
        obtain ⟨v, u, w, rfl, q1, q2, q3⟩ := r1.three
        rw [q1.intv, q2.intv, q3.intv] at rv
        cases rv with
        | cons a1 rv =>
          obtain ⟨u1, u2, rfl, ⟨t, rfl⟩, ⟨t2, rfl⟩⟩ := vals2 rv
          obtain ⟨t0, rfl⟩ := a1
          have hk := rgc_ok hn
          refine call_range_3 hk.1 (args_nil ?_) (.inl (PyProof.noPylong_small hk.2.1))
          exact list_rng hc (I1.kept fun b u e => Heap.get?_push_of_some _ e) (IsRange.new _ _ _ _ _ _ _) hk hl (p1.allocL s1' (rngC_rep i k _))
      · exact p1.elim
    · exact p1.elim
  · exact p1.elim
end
end DV
namespace DV
open PySem PySem.Spec PyProof.Rows L2
def R.noX {α : Type} (r : R α) : R α :=
  match r with
  | .exc _ _ _ => .bad
  | r => r
def wipeE (env : Env) : List Nat → Env
  | [] => env
  | v :: vs => (wipeE env vs).set v none
theorem wipe_get {σ : L2.St} : ∀ {vs : List Nat} {j : Nat}, (wipe σ vs)[j]? = if j ∈ vs ∧ j < σ.length then some none else σ[j]?
  | [], j => by simp [wipe]
  | v :: vs, j => by
    unfold wipe
    by_cases hj : v = j
    · subst hj
      by_cases hl : v < σ.length
      · rw [List.getElem?_set_self (by rw [wipe_length]; exact hl), if_pos ⟨List.mem_cons_self, hl⟩]
      · rw [if_neg fun z => hl z.2, List.getElem?_eq_none (by rw [List.length_set, wipe_length]; omega), List.getElem?_eq_none (by omega)]
    · rw [List.getElem?_set_ne hj, wipe_get]
      by_cases hm : j ∈ vs ∧ j < σ.length
      · rw [if_pos hm, if_pos ⟨List.mem_cons_of_mem _ hm.1, hm.2⟩]
      · rw [if_neg hm, if_neg]
        rintro ⟨h1, h2⟩
        rcases List.mem_cons.mp h1 with z | z
        · exact hj z.symm
        · exact hm ⟨z, h2⟩
theorem wipe_agree {σ σ' : L2.St} {is vs : List Nat} (a : Agree is σ σ') (hs : ∀ i ∈ is, i ∈ vs) : wipe σ' vs = wipe σ vs := by
  apply List.ext_getElem?
  intro j
  rw [wipe_get, wipe_get, a.1]
  by_cases hj : j ∈ vs ∧ j < σ.length
  · rw [if_pos hj, if_pos hj]
  · rw [if_neg hj, if_neg hj]
    by_cases hm : j ∈ vs
    · have : σ.length ≤ j := by
        rcases Nat.lt_or_ge j σ.length with z | z
        · exact absurd ⟨hm, z⟩ hj
        · exact z
      rw [List.getElem?_eq_none (by rw [a.1]; exact this), List.getElem?_eq_none this]
    · exact a.2 j fun z => hm (hs j z)
theorem wipe_wipe {σ : L2.St} {vs : List Nat} : wipe (wipe σ vs) vs = wipe σ vs :=
  wipe_agree (is := vs) ⟨wipe_length _ _, fun j hj => by rw [wipe_get, if_neg fun z => hj z.1]⟩ fun _ h => h
theorem wipeE_length (env : Env) : ∀ vs : List Nat, (wipeE env vs).length = env.length
  | [] => rfl
  | v :: vs => by unfold wipeE; rw [List.length_set, wipeE_length env vs]
theorem ERep.wipe {G : GX} {H : Hp} {μ : List Addr} {env : Env} {σ : L2.St} (e : ERep G H μ env σ) : ∀ vs : List Nat, ERep G H μ (wipeE env vs) (L2.wipe σ vs)
  | [] => e
  | v :: vs => by
    have ih := ERep.wipe e vs
    unfold wipeE L2.wipe
    refine ⟨by rw [List.length_set, List.length_set]; exact ih.1, fun j d h => ?_⟩
    by_cases hj : v = j
    · subst hj
      exfalso
      by_cases hl : v < (wipeE env vs).length
      · rw [List.getElem?_set_self hl] at h; cases h
      · rw [List.getElem?_eq_none (by rw [List.length_set]; omega)] at h; cases h
    · rw [List.getElem?_set_ne hj] at h ⊢
      exact ih.2 j d h
def lcT (tt : DEn Bool) (te : DE) (env1 : Env) (h : DH) (k : List D → DH → R (List D)) (rest : DH → R (List D)) : R (List D) :=
  (tt env1 h).noX.bind fun b h1 => if b = true then (te env1 h1).noX.bind fun y h2 => (rest h2).bind fun r h3 => .ok (y :: r) h3 else rest h1
/-- over items: env is the block's, its own names forgotten -/
def lcS (g : AG) (tt : DEn Bool) (te : DE) (env : Env) : List D → DH → R (List D)
  | [], h => .ok [] h
  | d :: ds, h => match g d env with
    | none => .bad
    | some env1 => (tt env1 h).noX.bind fun b h1 => if b = true then (te env1 h1).noX.bind fun y h2 => (lcS g tt te env ds h2).bind fun r h3 => .ok (y :: r) h3 else lcS g tt te env ds h1
def lcR (g : AG) (tt : DEn Bool) (te : DE) (env : Env) (n : Nat) : Nat → Nat → DH → R (List D)
  | 0, _, _ => .bad
  | f + 1, i, h => match h[n]? with
    | some (.lst ds) => match ds[i]? with
      | none => .ok [] h
      | some d => match g d env with
        | none => .bad
        | some env1 => (tt env1 h).noX.bind fun b h1 => if b = true then (te env1 h1).noX.bind fun y h2 => (lcR g tt te env n f (i + 1) h2).bind fun r h3 => .ok (y :: r) h3 else lcR g tt te env n f (i + 1) h1
    | _ => .bad
def lcI (g : AG) (tt : DEn Bool) (te : DE) (f : Nat) (env : Env) : IS → DH → R (List D)
  | .items ds, h => lcS g tt te env ds h
  | .lst n, h => lcR g tt te env n f 0 h
def lcEnd (acc : List D) (rest : List D) (h : DH) : R D := if (acc ++ rest).length ≤ big then alloc (.lst (acc ++ rest)) h else .bad
def dLc (f : Nat) (mi : DEn IS) (g : AG) (tt : DEn Bool) (te : DE) (vs : List Nat) : DE := fun env h => (mi env h).bind fun is h1 => (lcI g tt te f (wipeE env vs) is h1).bind fun r h2 => lcEnd [] r h2
section
variable {G : GX} {μ μ' : List Addr} {H H' : Hp} {h : DH} {A : Addr} {o : HO}
theorem Ex0.out (hA : ∀ u, H A = some u → Mut (some u)) : Ex0 μ H μ (upd H A o) where
  pre := ⟨[], by simp⟩
  tup := fun b xs e => by
    rw [upd_ne]; exact e
    rintro rfl
    exact hA _ e
  frz := fun b ob u e => by
    rw [upd_ne]; exact e
    rintro rfl
    exact hA _ e
theorem SRep.out (s : SRep G μ h H) (hA : ∀ u, H A = some u → Mut (some u)) (hm : A ∉ μ) : SRep G μ h (upd H A o) :=
  ⟨s.len, s.nd, fun n u a e1 e2 => (s.ob n u a e1 e2).ext0 (Ex0.out hA) (upd_ne fun z => hm (z ▸ List.mem_of_getElem? e2))⟩
theorem Ext.out (x : Ext μ H μ' H') (hA : H A = none) : Ext μ H μ' (upd H' A o) where
  pre := x.pre
  keep := fun b u e n => by rw [upd_ne (ne_of_none e hA)]; exact x.keep b u e n
  fresh := x.fresh
  tup := fun b u e => by rw [upd_ne (ne_of_none e hA)]; exact x.tup b u e
  frz := fun b ob u e => by rw [upd_ne (ne_of_none e hA)]; exact x.frz b ob u e
/-- .. becomes one of them -/
theorem SRep.adopt {do_ : DO} (s : SRep G μ h H) (hm : A ∉ μ) (r : ORep G H μ do_ A) : SRep G (μ ++ [A]) (h ++ [do_]) H := by
  have x : Ex0 μ H (μ ++ [A]) H := ⟨⟨[A], rfl⟩, fun _ _ q => q, fun _ _ _ q => q⟩
  refine ⟨by simp [s.len], ?_, fun n o' a e1 e2 => ?_⟩
  · rw [List.nodup_append]
    refine ⟨s.nd, by simp, fun a ha b hb => ?_⟩
    rw [List.mem_singleton.mp hb]
    exact fun z => hm (z ▸ ha)
  · by_cases hn : n < h.length
    · rw [List.getElem?_append_left hn] at e1
      rw [List.getElem?_append_left (by rw [s.len]; exact hn)] at e2
      exact (s.ob n o' a e1 e2).ext0 x rfl
    · have hn' : n = h.length := by
        have := (List.getElem?_eq_some_iff.mp e1).1
        simp at this; omega
      subst hn'
      rw [List.getElem?_append_right (Nat.le_refl _)] at e1
      rw [List.getElem?_append_right (by rw [s.len]; exact Nat.le_refl _)] at e2
      simp [s.len] at e1 e2
      subst e1 e2
      exact r.ext0 x rfl
theorem Ext.adopt (x : Ext μ H μ' H') (hA : H A = none) : Ext μ H (μ' ++ [A]) H' where
  pre := x.pre.trans ⟨[A], rfl⟩
  keep := x.keep
  fresh := fun b m => by
    rcases List.mem_append.mp m with q | q
    · exact x.fresh b q
    · rw [List.mem_singleton.mp q]; exact .inr hA
  tup := x.tup
  frz := x.frz
end
section
variable {X : Cx} {W : XW}
abbrev W0 : XWS := fun _ _ _ _ _ _ => False
/-- a turn's test and element: from the outcome that is not bad -/
theorem lc_turn {G : GX} {μ0 : List Addr} {H0 : Hp} {Q : VK} {tt : DEn Bool} {te : DE} {env1 : Env} {h : DH} {acc : List D} {rest : DH → R (List D)} {μ : List Addr} {H : Hp} {σ : L2.St} {tT : TT} {tE : TE}
    (p : Post (Rep G) G W μ0 H0 (((tt env1 h).noX.bind fun b h1 => if b = true then (te env1 h1).noX.bind fun y h2 => (rest h2).bind fun r h3 => .ok (y :: r) h3 else rest h1).bind fun r h2 => lcEnd acc r h2) Q)
    (s : SRep G μ h H) (e : ERep G H μ env1 σ) {Z : Bool → Hp → Prop}
    (h1 : ∀ h1 μ1 H1, SRep G μ1 h1 H1 → Ext μ H μ1 H1 → Post (Rep G) G W μ0 H0 ((rest h1).bind fun r h2 => lcEnd acc r h2) Q → Z false H1)
    (h2 : ∀ h1 μ1 H1, SRep G μ1 h1 H1 → Ext μ H μ1 H1 → ∀ y h2, te env1 h1 = .ok y h2 → Post (Rep G) G W μ0 H0 ((rest h2).bind fun r h3 => lcEnd (acc ++ [y]) r h3) Q → Z true H1) : TDB G W0 tt σ H Z := by
  refine ⟨μ, env1, h, s, e, ?_⟩
  cases q : tt env1 h with
  | bad => rw [q] at p; exact p.elim
  | exc c a h' => rw [q] at p; exact p.elim
  | ok b hb =>
    rw [q] at p
    rintro μ1 H1 b' s1 x1 rfl
    cases b with
    | false => exact h1 hb μ1 H1 s1 x1 p
    | true =>
      have p : Post (Rep G) G W μ0 H0 (((te env1 hb).noX.bind fun y h2 => (rest h2).bind fun r h3 => .ok (y :: r) h3).bind fun r h2 => lcEnd acc r h2) Q := p
      cases q2 : te env1 hb with
      | bad => rw [q2] at p; exact p.elim
      | exc c a h' => rw [q2] at p; exact p.elim
      | ok y hy =>
        rw [q2] at p
        refine h2 hb μ1 H1 s1 x1 y hy q2 ?_
        have p : Post (Rep G) G W μ0 H0 (((rest hy).bind fun r h3 => .ok (y :: r) h3).bind fun r h2 => lcEnd acc r h2) Q := p
        cases q3 : rest hy with
        | bad => rw [q3] at p; exact p
        | exc c a h' => rw [q3] at p; exact p
        | ok r h3 =>
          rw [q3] at p
          have p : Post (Rep G) G W μ0 H0 (lcEnd acc (y :: r) h3) Q := p
          show Post (Rep G) G W μ0 H0 (lcEnd (acc ++ [y]) r h3) Q
          have ee : acc ++ [y] ++ r = acc ++ y :: r := by simp
          unfold lcEnd at p ⊢
          rw [ee]; exact p
theorem lcEnd_len {G : GX} {μ0 : List Addr} {H0 : Hp} {Q : VK} {acc : List D} {r : R (List D)} (p : Post (Rep G) G W μ0 H0 (r.bind fun r h2 => lcEnd acc r h2) Q) (hx : ∀ c a h', r ≠ .exc c a h') : acc.length ≤ big := by
  cases r with
  | bad => exact p.elim
  | exc c a h' => exact absurd rfl (hx c a h')
  | ok r h' =>
    have p : Post (Rep G) G W μ0 H0 (lcEnd acc r h') Q := p
    unfold lcEnd at p
    split at p
    · rename_i h
      rw [List.length_append] at h
      omega
    · exact p.elim
theorem lcS_noX {g : AG} {tt : DEn Bool} {te : DE} {env : Env} : ∀ (ds : List D) (h : DH) c a h', lcS g tt te env ds h ≠ .exc c a h'
  | [], h, c, a, h' => fun z => by cases z
  | d :: ds, h, c, a, h' => fun z => by
    unfold lcS at z
    split at z
    · cases z
    · rename_i env1 _
      cases q : tt env1 h with
      | bad => rw [q] at z; cases z
      | exc c a h' => rw [q] at z; cases z
      | ok b hb =>
        rw [q] at z
        cases b with
        | false => exact lcS_noX ds hb c a h' z
        | true =>
          have z : ((te env1 hb).noX.bind fun y h2 => (lcS g tt te env ds h2).bind fun r h3 => .ok (y :: r) h3) = .exc c a h' := z
          cases q2 : te env1 hb with
          | bad => rw [q2] at z; cases z
          | exc c a h' => rw [q2] at z; cases z
          | ok y hy =>
            rw [q2] at z
            have z : ((lcS g tt te env ds hy).bind fun r h3 => .ok (y :: r) h3) = .exc c a h' := z
            cases q3 : lcS g tt te env ds hy with
            | bad => rw [q3] at z; cases z
            | exc c a h' => exact lcS_noX ds hy _ _ _ q3
            | ok r h3 => rw [q3] at z; cases z
theorem lcR_noX {g : AG} {tt : DEn Bool} {te : DE} {env : Env} {n : Nat} : ∀ (f i : Nat) (h : DH) c a h', lcR g tt te env n f i h ≠ .exc c a h'
  | 0, i, h, c, a, h' => fun z => by cases z
  | f + 1, i, h, c, a, h' => fun z => by
    unfold lcR at z
    split at z
    · split at z
      · cases z
      · split at z
        · cases z
        · rename_i env1 _
          cases q : tt env1 h with
          | bad => rw [q] at z; cases z
          | exc c a h' => rw [q] at z; cases z
          | ok b hb =>
            rw [q] at z
            cases b with
            | false => exact lcR_noX f (i + 1) hb c a h' z
            | true =>
              have z : ((te env1 hb).noX.bind fun y h2 => (lcR g tt te env n f (i + 1) h2).bind fun r h3 => .ok (y :: r) h3) = .exc c a h' := z
              cases q2 : te env1 hb with
              | bad => rw [q2] at z; cases z
              | exc c a h' => rw [q2] at z; cases z
              | ok y hy =>
                rw [q2] at z
                have z : ((lcR g tt te env n f (i + 1) hy).bind fun r h3 => .ok (y :: r) h3) = .exc c a h' := z
                cases q3 : lcR g tt te env n f (i + 1) hy with
                | bad => rw [q3] at z; cases z
                | exc c a h' => exact lcR_noX f (i + 1) hy _ _ _ q3
                | ok r h3 => rw [q3] at z; cases z
    · cases z
/-- the reading of a comprehension -/
theorem lc_d {W : XWS} {f : Nat} {mi : DEn IS} {g : AG} {tt : DEn Bool} {te : DE} {vs is : List Nat} {σ : L2.St} {H : Hp} {Q : VK} (hs : ∀ i ∈ is, i ∈ vs) (q : TD (gx X) W (dLc f mi g tt te vs) σ H Q) :
    tLc (TDI (gx X) W mi) (TGD (gx X) is g) (TDB (gx X) W0 tt) (TD (gx X) W0 te) vs σ H Q := by
  refine TG'.imp (TG'.split (rel := relI (gx X)) (k := fun is env h1 => (lcI g tt te f (wipeE env vs) is h1).bind fun r h2 => lcEnd [] r h2) q) ?_
  rintro J H0 ⟨μ0, iss, env, h0, s0, e0, r0, p0⟩
  intro A hA
  have lstA : ∀ {H : Hp} {ys : List V}, H A = some (.lst ys) → ∀ u, H A = some u → Mut (some u) := fun e u z => by rw [e] at z; cases z; trivial
  have nA : ∀ {μ : List Addr} {H : Hp}, Ext μ0 H0 μ H → SRep (gx X) μ0 h0 H0 → True := fun _ _ => trivial
  have ew := e0.wipe vs
  -- the state between two turns
  let St := fun (acc : List D) (μ : List Addr) (h : DH) (H : Hp) => Ext μ0 H0 μ H ∧ A ∉ μ ∧ SRep (gx X) μ h H ∧ ∃ ws, H A = some (.lst ws) ∧ RepL (gx X) H μ acc ws
  have start : St [] μ0 h0 (upd H0 A (.lst [])) := by
    refine ⟨Ext.out .refl hA, s0.not_mem hA, s0.out (fun u z => by rw [hA] at z; cases z) (s0.not_mem hA), [], upd_same, by unfold RepL; rfl⟩
  -- the state moves on
  have move : ∀ {acc μ h H μ1 h1 H1}, St acc μ h H → SRep (gx X) μ1 h1 H1 → Ext μ H μ1 H1 → St acc μ1 h1 H1 := by
    rintro acc μ h H μ1 h1 H1 ⟨a1, a2, a3, ws, a4, a5⟩ s1 x1
    refine ⟨a1.trans x1, fun m => ?_, s1, ws, x1.keep A _ a4 a2, a5.ext x1⟩
    rcases x1.fresh A m with z | z
    · exact a2 z
    · rw [a4] at z; cases z
  have push : ∀ {acc μ h H y v}, St acc μ h H → Rep (gx X) H μ y v → ∃ ws, H A = some (.lst ws) ∧ St (acc ++ [y]) μ h (upd H A (.lst (ws ++ [v]))) ∧ ws.length = acc.length := by
    rintro acc μ h H y v ⟨a1, a2, a3, ws, a4, a5⟩ ry
    refine ⟨ws, a4, ⟨Ext.out a1 hA, a2, a3.out (lstA a4) a2, ws ++ [v], upd_same, ?_⟩, a5.length⟩
    refine (a5.append (?_ : RepL (gx X) H μ [y] [v])).ext0 (Ex0.out (lstA a4))
    unfold RepL
    exact ⟨v, [], rfl, ry, by unfold RepL; rfl⟩
  have fin : ∀ {acc μ h H}, St acc μ h H → Post (Rep (gx X)) (gx X) (W σ) μ0 H0 (lcEnd acc [] h) Q → Q (.ref A) H := by
    rintro acc μ h H ⟨a1, a2, a3, ws, a4, a5⟩ p
    unfold lcEnd at p
    rw [List.append_nil] at p
    split at p
    · refine p (μ ++ [A]) H (.ref A) (a3.adopt a2 (show ORep (gx X) H μ (.lst acc) A from ⟨ws, a4, a5⟩)) (Ext.adopt a1 hA) ?_
      unfold Rep
      exact ⟨A, by rw [List.getElem?_append_right (by rw [a3.len]; exact Nat.le_refl _)]; simp [a3.len], rfl⟩
    · exact p.elim
  have envw : ∀ {μ H}, Ext μ0 H0 μ H → ERep (gx X) H μ (wipeE env vs) (wipe σ vs) := fun x => ew.ext x
  cases iss with
  | items ds =>
    have r0 : JItems (gx X) μ0 H0 ds J := r0
    have p0 : Post (Rep (gx X)) (gx X) (W σ) μ0 H0 ((lcS g tt te (wipeE env vs) ds h0).bind fun r h2 => lcEnd [] r h2) Q := p0
    let Wp := fun (i k : Nat) (H : Hp) => i + k = ds.length ∧ ∃ acc μ h, St acc μ h H ∧ Post (Rep (gx X)) (gx X) (W σ) μ0 H0 ((lcS g tt te (wipeE env vs) (ds.drop i) h).bind fun r h2 => lcEnd acc r h2) Q
    refine ⟨Wp, ⟨ds.length, by simp, [], μ0, h0, start, p0⟩, ?_⟩
    rintro i k H1 ⟨hk, acc, μ, h, hS, p⟩
    by_cases hi : i < ds.length
    · right
      refine ⟨r0.go i μ H1 hS.1 hi, fun H' => Wp (i + 1) (k - 1) H', fun H' z => ⟨k - 1, by omega, z⟩, fun x H' hy => ?_⟩
      obtain ⟨s', x', ry⟩ := r0.yld i μ h H1 ds[i] x H' hS.1 hS.2.2.1 (List.getElem?_eq_getElem hi) hy
      have hS' := move hS s' x'
      rw [List.drop_eq_getElem_cons hi] at p
      unfold lcS at p
      split at p
      · exact p.elim
      · rename_i env1 hg1
        refine ⟨μ, wipeE env vs, h, ds[i], env1, s', envw hS'.1, ry, hg1, fun σ2 e2 ag => ⟨(wipe_agree ag hs).trans wipe_wipe, ?_⟩⟩
        refine lc_turn (rest := fun h => lcS g tt te (wipeE env vs) (ds.drop (i + 1)) h) (tT := fun _ _ _ => True) (tE := fun _ _ _ => True) p s' e2 (fun h1 μ1 H3 s1 x1 p1 => ?_) (fun h1 μ1 H3 s1 x1 y h2 qy p1 => ?_)
        · rw [if_neg (by decide)]
          exact ⟨by omega, acc, μ1, h1, move hS' s1 x1, p1⟩
        · rw [if_pos rfl]
          refine ⟨μ1, env1, h1, s1, e2.ext x1, ?_⟩
          rw [qy]
          intro μ2 H4 v s2 x2 r2
          obtain ⟨ws, w1, w2, w3⟩ := push (move (move hS' s1 x1) s2 x2) r2
          refine ⟨ws, w1, ?_, by omega, acc ++ [y], μ2, h2, w2, p1⟩
          have := lcEnd_len p1 (lcS_noX _ _)
          rw [List.length_append] at this
          rw [big_eq, w3]
          simp at this
          omega
    · left
      refine ⟨r0.stop i μ H1 hS.1 (by omega), fin hS ?_⟩
      rw [List.drop_eq_nil_of_le (by omega)] at p
      exact p
  | lst n =>
    obtain ⟨a, ea, rfl⟩ := r0
    have p0 : Post (Rep (gx X)) (gx X) (W σ) μ0 H0 ((lcR g tt te (wipeE env vs) n f 0 h0).bind fun r h2 => lcEnd [] r h2) Q := p0
    let Wp := fun (i k : Nat) (H : Hp) => ∃ acc μ h, St acc μ h H ∧ Post (Rep (gx X)) (gx X) (W σ) μ0 H0 ((lcR g tt te (wipeE env vs) n k i h).bind fun r h2 => lcEnd acc r h2) Q
    refine ⟨Wp, ⟨f, [], μ0, h0, start, p0⟩, ?_⟩
    rintro i k H1 ⟨acc, μ, h, hS, p⟩
    have ea' := pre_get hS.1.pre ea
    cases k with
    | zero => exact p.elim
    | succ k =>
      unfold lcR at p
      split at p
      · rename_i ds hd
        obtain ⟨vs', h1, l1⟩ := hS.2.2.1.list hd ea'
        have hsq : SqL (gx X).K H1 a vs' := .of h1
        split at p
        · rename_i hi
          left
          refine ⟨⟨vs', hsq, ?_⟩, fin hS p⟩
          rw [l1.length]
          exact List.getElem?_eq_none_iff.mp hi
        · rename_i d hi
          obtain ⟨y0, hy0, ry0⟩ := l1.get hi
          right
          refine ⟨⟨vs', y0, hsq, hy0⟩, fun H' => Wp (i + 1) k H', fun H' z => ⟨k, Nat.lt_succ_self k, z⟩, ?_⟩
          rintro y H' ⟨rfl, hy⟩
          have := hy vs' hsq
          rw [hy0] at this
          cases this
          split at p
          · exact p.elim
          · rename_i env1 hg1
            refine ⟨μ, wipeE env vs, h, d, env1, hS.2.2.1, envw hS.1, ry0, hg1, fun σ2 e2 ag => ⟨(wipe_agree ag hs).trans wipe_wipe, ?_⟩⟩
            refine lc_turn (rest := fun h => lcR g tt te (wipeE env vs) n k (i + 1) h) (tT := fun _ _ _ => True) (tE := fun _ _ _ => True) p hS.2.2.1 e2 (fun h1 μ1 H3 s1 x1 p1 => ?_) (fun h1 μ1 H3 s1 x1 y h2 qy p1 => ?_)
            · rw [if_neg (by decide)]
              exact ⟨acc, μ1, h1, move hS s1 x1, p1⟩
            · rw [if_pos rfl]
              refine ⟨μ1, env1, h1, s1, e2.ext x1, ?_⟩
              rw [qy]
              intro μ2 H4 v s2 x2 r2
              obtain ⟨ws, w1, w2, w3⟩ := push (move (move hS s1 x1) s2 x2) r2
              refine ⟨ws, w1, ?_, acc ++ [y], μ2, h2, w2, p1⟩
              have := lcEnd_len p1 (lcR_noX _ _ _)
              rw [List.length_append] at this
              rw [big_eq, w3]
              simp at this
              omega
      · exact p.elim
end
end DV
namespace DV
open PySem PySem.Spec PyProof.Rows L2
structure FnG (P : Program) (w : World) (K : PySem.W.Frag) (mg : Str → Option Value) (base : Heap) (CX : CXT) (k : Nat) (f : Addr) (fd : FuncData) (ps : List Str) (sp : Sp) : Prop where
  len : ∀ vs H Q E, sp vs H Q E → vs.length = ps.length
  run : ∀ (A : Around) (outer : List PySem.Env) (s : Shared) (H : Hp) (args : Args) (us : List Value) (vs : List V) (Q : VK) (E : XK), A.guards = some [] → Room k A → Env0 P w K mg base A outer s H →
    BindsTo s fd args (ps.zip us) → Vals vs us → sp vs H Q E → codeAny (model P w) A (.call (.ref f) args) (CR CX outer P w H s Q E) s
/-- the tables: classes of errors -/
structure Tabs where
  ename : Nat → Txt
  eflds : Nat → List Txt
/-- an exception by its data, as the wish E has it -/
def WE (T : Tabs) (G : GX) (E : XK) : XW := fun μ H c a h => ∀ dx vs, H dx = none → RepL G H μ a vs → E (.ref (He.ga G.K (sOf (T.ename c)))) (some dx) (upd H dx (.xd (((T.eflds c).map sOf).zip vs)))
/-- a def's promise by its data function -/
def spF (T : Tabs) (G : GX) (n : Nat) (φ : DF) : Sp := fun vs H Q E => vs.length = n ∧ ∃ μ h ds, SRep G μ h H ∧ RepL G H μ ds vs ∧ Post (Rep G) G (WE T G E) μ H (φ ds h) Q
theorem Post.wimp {α β : Type} {rel : Hp → List Addr → α → β → Prop} {G : GX} {W W' : XW} {μ : List Addr} {H : Hp} {r : R α} {Q : β → Hp → Prop} (p : Post rel G W μ H r Q) (hw : ∀ μ' H' c a h', SRep G μ' h' H' → W μ' H' c a h' → W' μ' H' c a h') : Post rel G W' μ H r Q := by
  cases r with
  | ok d h => exact p
  | exc c a h => exact fun μ' H' s x => hw μ' H' c a h s (p μ' H' s x)
  | bad => exact p.elim
/-- the wish W of data exceptions says the wish WX of exceptions -/
def Links (T : Tabs) (G : GX) (W : XWS) (w : WX) : Prop := ∀ σ μ H c a h, SRep G μ h H → W σ μ H c a h → WE T G (fun cls d H => w cls d σ H) μ H c a h
section
variable {X : Cx} {k : Nat} {f : Addr} {fd : FuncData} {ps : List Str} {sp : Sp} {dvs : List V} {ds : List Value} {E : XK} {x : Str} {p pos : Pos} {e : Expr} {es : List Expr}
theorem run_fnG {CX : CXT} {pins : List (Addr × Obj)} {σ : L2.St} {H : Hp} {s : Shared} {Q : VK} {us : List Value} {vs : List V} (F : FnG X.prog X.w X.K X.mg X.base CX k f fd ps sp) (hr : Room k X.A) (hgd : X.A.guards = some []) (hb : Binds X.K fd ps ds) (hd : Vals dvs ds)
    (I : Inv X pins σ H s) (hx : ∀ e s', CX X.stack H s E e s' → X.xe e s') (r : Vals vs us) (h : sp (vs ++ dvs) H Q E) : wpAny (model X.prog X.w) X.A (call (.ref f) us) (EP X pins σ Q) X.xe s := by
  have r2 : Vals (vs ++ dvs) (us ++ ds) := r.append hd
  have hl : (us ++ ds).length = ps.length := by
    rw [← r2.length]
    exact F.len _ _ _ _ h
  refine wpAny_call (codeAny_mono (F.run X.A X.stack s H ⟨us, []⟩ (us ++ ds) (vs ++ dvs) Q E hgd hr I.env0 (hb s us I.kIn hl) r2 h) ?_)
  intro r s' hq
  cases r with
  | error e => exact hx e s' hq
  | ok fl =>
    cases fl with
    | ret u => exact I.after hq
    | next => exact hq.elim
    | brk => exact hq.elim
    | cont => exact hq.elim
variable {T : Tabs} {W : XWS} {w : WX} {n : Nat} {φ : DF} {ml : DEn (List D)} {dd : List D}
/-- the promise at a call -/
theorem spF_at {σ : L2.St} {H : Hp} {vs : List V} {Q : VK} {μ : List Addr} {h : DH} {as : List D} (lw : Links T (gx X) W w) (s : SRep (gx X) μ h H) (r : RepL (gx X) H μ as vs) (hl : vs.length = n) (P : Post (Rep (gx X)) (gx X) (W σ) μ H (φ as h) Q) :
    spF T (gx X) n φ vs H Q (fun cls d H => w cls d σ H) := ⟨hl, μ, h, as, s, r, P.wimp fun μ' H' c a h' s' z => lw σ μ' H' c a h' s' z⟩
def dCallF (ml : DEn (List D)) (dd : List D) (n : Nat) (φ : DF) : DE := ml.bind fun ds _ h => if (ds ++ dd).length = n then φ (ds ++ dd) h else .bad
/-- the defaults are data, whatever the heap -/
def IsD (G : GX) (dd : List D) (dvs : List V) : Prop := ∀ μ H, RepL G H μ dd dvs
theorem call_d {pins : List (Addr × Obj)} {σ : L2.St} {H1 : Hp} {s1 : Shared} {Q : VK} {us : List Value} {vs : List V} (F : FnG X.prog X.w X.K X.mg X.base (CX X.prog X.w) k f fd ps (spF T (gx X) n φ)) (hr : Room k X.A) (hgd : X.A.guards = some []) (hb : Binds X.K fd ps ds) (hd : Vals dvs ds) (hdd : IsD (gx X) dd dvs)
    (tk : Takes X w) (lw : Links T (gx X) W w) (I1 : Inv X pins σ H1 s1) (r : Vals vs us)
    (q : ∃ μ1 as env h1, SRep (gx X) μ1 h1 H1 ∧ ERep (gx X) H1 μ1 env σ ∧ RepL (gx X) H1 μ1 as vs ∧ Post (Rep (gx X)) (gx X) (W σ) μ1 H1 (if (as ++ dd).length = n then φ (as ++ dd) h1 else .bad) Q) :
    wpAny (model X.prog X.w) X.A (call (.ref f) us) (EP X pins σ Q) X.xe s1 := by
  obtain ⟨μ1, as, env, h1, s1', e1, r1, p1⟩ := q
  split at p1
  · rename_i hn
    have rr := r1.append (hdd μ1 H1)
    exact run_fnG F hr hgd hb hd I1 (E := fun cls d H => w cls d σ H) (fun e s' z => tk e s' (XE.of_call I1 (fun cls d H' z => z) z)) r (spF_at lw s1' rr (by rw [rr.length]; exact hn) p1)
  · exact p1.elim
theorem d_call (F : FnG X.prog X.w X.K X.mg X.base (CX X.prog X.w) k f fd ps (spF T (gx X) n φ)) (hr : Room k X.A) (hgd : X.A.guards = some []) (hg : Gl X x) (hm : X.mg x = some (.ref f)) (hk : PySem.W.keepIn X.K (.ref f) = true) (hb : Binds X.K fd ps ds) (hd : Vals dvs ds) (hdd : IsD (gx X) dd dvs)
    (tk : Takes X w) (lw : Links T (gx X) W w) (ha : PA X (e :: es) (TDL (gx X) W ml)) (hdb : (x == ("__debug__" : Str)) = false) (he : starEach (e :: es) X.env = (false, eval e X.env) :: starEach es X.env) (hpl : (backTo pos (starEach es X.env)).any (·.1) = false) :
    PE X (.Call (.Name x p) (e :: es) [] pos) (TD (gx X) W (dCallF ml dd n φ)) := by
  refine ⟨fun pins s σ H Q I q => ?_⟩
  refine wpAny_Call_Name_kw (ld_glob I hg hm ?_ hdb)
  refine PySem.W.callWith_K (h₀ := X.base) I.ok.mod.kin hk (thn (ha.run pos pins s σ H _ I (TG'.split (rel := RepL (gx X)) q)) ?_) he hpl
  rintro us s1 ⟨vs, H1, I1, r, q1⟩
  exact ⟨I1.kIn, call_d F hr hgd hb hd hdd tk lw I1 r q1⟩
theorem d_call0 (F : FnG X.prog X.w X.K X.mg X.base (CX X.prog X.w) k f fd ps (spF T (gx X) n φ)) (hr : Room k X.A) (hgd : X.A.guards = some []) (hg : Gl X x) (hm : X.mg x = some (.ref f)) (hk : PySem.W.keepIn X.K (.ref f) = true) (hb : Binds X.K fd ps ds) (hd : Vals dvs ds) (hdd : IsD (gx X) dd dvs)
    (tk : Takes X w) (lw : Links T (gx X) W w) (hdb : (x == ("__debug__" : Str)) = false) : PE X (.Call (.Name x p) [] [] pos) (TD (gx X) W (dCallF dNil dd n φ)) := by
  refine ⟨fun pins s σ H Q I q => ?_⟩
  refine wpAny_Call_Name_kw (ld_glob I hg hm ?_ hdb)
  refine PySem.W.callWith_K0 I.kIn hk (call_d (us := []) (vs := []) F hr hgd hb hd hdd tk lw I .nil ?_)
  obtain ⟨μ, env, h, S, e, P⟩ := q
  exact ⟨μ, [], env, h, S, e, by unfold RepL; rfl, P⟩
end
/-- a def by its body -/
theorem fnG_of {CX : CXT} {P : Program} {w : World} {K : PySem.W.Frag} {mg : Str → Option Value} {base : Heap} {k : Nat} {f : Addr} {name qual : Str} {params : Arguments} {body : List Stmt} {scope : Scope} {dV kV doc pm cdv ct oc : Value} {an od : Option Addr}
    {osl : Array (Option Value)} {N ps : List Str} {sp : Sp} (lk : K.lookup f = some ⟨oc, od, .func (PySem.W.fnOf name qual params body scope dV kV doc pm an cdv ct), osl⟩) (hcd : PySem.W.codeIn K cdv qual = true) (S : FnScope N ps scope)
    (len : ∀ vs H Q E, sp vs H Q E → vs.length = ps.length)
    (hbody : ∀ (A : Around) (outer : List PySem.Env) (s : Shared) (H : Hp) (vs : List V) (Q : VK) (E : XK), A.guards = some [] → Room k (A.deeper (envOfC qual scope s.heap.objs.size f cdv)) → sp vs H Q E →
      ∃ t, PSs (cxOf CX P w K mg base N qual scope f cdv A outer s H E) body t ∧ t { nx := fun _ H' => Q .non H', rt := Q } (start N vs) H) :
    FnG P w K mg base CX (k + 1) f (PySem.W.fnOf name qual params body scope dV kV doc pm an cdv ct) ps sp := by
  refine ⟨len, ?_⟩
  intro A outer s H args us vs Q E hgd hr e0 hb r hsp
  have hl := len _ _ _ _ hsp
  have stays : ∀ b o, base.get? b = some o → s.heap.get? b = some o := fun b o e => (e0.bs b o e).1
  have KX : K.In s.heap := e0.mod.kin.keeps stays
  have lim : s.heap.NoLimit := e0.mod.nolimit.keeps stays
  have hkind : ∀ y ∈ ps.zip us, scope.names.lookup y.1 = some .local ∨ (scope.names.lookup y.1 = some .cell ∧ ((cellsFrom (s.heap.objs.size + 1) scope.names []).lookup y.1).isSome = true) := by
    intro y hy
    rcases S.par y.1 (List.of_mem_zip (a := y.1) (b := y.2) hy).1 with q | q
    · exact .inl q
    · exact .inr ⟨q, PySem.W.cellsFrom_some _ _ _ (.inl q)⟩
  refine codeAny_call_function hr.depth (KX _ _ lk) rfl S.co S.gen rfl (PySem.W.codeRec_of KX hcd) (hb _ _ _ _ (wpAny_newFunctionEnv_cells S.kind hkind ?_))
  intro env he s1 x
  subst he
  refine ⟨lim.keeps x.toInCall.keep, codeAny_func ?_⟩
  obtain ⟨t, ht, hq⟩ := hbody A outer s H vs Q E hgd (hr.deeper _) hsp
  have I := inv_start (CX := CX) (P := P) (w := w) (E := E) S hr.hd e0 hl r x
  refine wpAny_mono (ht.run [] s1 (start N vs) H _ I hq) ?_ fun e s' hs => hs
  intro fl s' hs
  cases fl with
  | ret u =>
    obtain ⟨v, σ', H', J, rv, q⟩ := hs
    exact ⟨v, H', J.os, J.bare, J.base, J.hok, rv, q⟩
  | next =>
    obtain ⟨σ', H', J, q⟩ := hs
    exact ⟨V.non, H', J.os, J.bare, J.base, J.hok, rfl, q⟩
  | brk =>
    obtain ⟨_, _, _, q⟩ := hs
    exact q.elim
  | cont =>
    obtain ⟨_, _, _, q⟩ := hs
    exact q.elim
end DV
namespace DV
open PySem PySem.Spec PyProof.Rows L2
section
variable {P : Program} {w : World} {K : PySem.W.Frag} {mg mb : Str → Option Value} {CXx : CXT} {k : Nat} {fa a : Addr} {fd : FuncData} {x : Str} {sp : Sp} {s₁ : Shared} {vs : List Value} {ns : List Int}
/-- from an abstract heap that knows the script at most -/
theorem law_core {H : Hp} (KX : K.In s₁.heap) (hns : s₁.heap.Ns mainGlobals mg) (hb : s₁.heap.Ns builtinsNs mb) (hbb : ∀ x : Str, x ≠ "__name__" → mb x = bootBuiltins x) (hlim : s₁.heap.NoLimit) (hg : s₁.gens = #[])
    (ha : s₁.heap.get? a = some { cls := .type "list", data := .seq vs.toArray }) (hr : Room k callerA)
    (F : ∀ base : Heap, K.In base → base.Ns mainGlobals mg → FnG P w K mg base CXx k fa fd [x] sp) (hbind : ∀ (s : Shared) (u : Value), BindsTo s fd ⟨[u], []⟩ [(x, u)])
    (hsp : sp [.ref a] H (fun v _ => v = .bl true) fun _ _ _ => False) (hCX : ∀ e s', CXx [] H s₁ (fun _ _ _ => False) e s' → False)
    (hO : Only H) (hok : HOk P w H s₁.heap) (hA : ∀ b, H b ≠ none → b = a) (hK : H a ≠ none → K.lookup a = none) :
    codeAny (model P w) callerA (.call (.ref fa) ⟨[.ref a], []⟩) (fun r s' => r = .ok (.ret (.bool true)) ∧ OldK s₁.heap s'.heap ∧ s'.os = s₁.os ∧ AllBare s'.gens) s₁ := by
  have isA : ∀ {b : Addr} {u : HO}, H b = some u → b = a := fun {b u} e => hA b (by rw [e]; exact fun z => nomatch z)
  have notDict : ∀ {b : Addr} {o : Obj} {es : Array DictEntry} {ep : Nat}, s₁.heap.get? b = some o → o.data = .dict es ep → H b = none := by
    intro b o es ep e d
    cases q : H b with
    | none => rfl
    | some u =>
      rw [isA q, ha] at e
      cases e
      cases (show Data.seq vs.toArray _ = Data.dict es ep from d)
  have nsK : ∀ {b : Addr} {m : Str → Option Value}, s₁.heap.Ns b m → (hidT s₁.heap H).Ns b m := by
    rintro b m ⟨o, es, ep, e, d, r⟩
    exact ⟨o, es, ep, hidT_get e (notDict e d), d, r⟩
  have hKb : K.In (hidT s₁.heap H) := by
    intro b o e
    refine hidT_get (KX b o e) ?_
    cases q : H b with
    | none => rfl
    | some u =>
      have eb := isA q
      subst eb
      rw [hK (by rw [q]; exact fun z => nomatch z)] at e
      cases e
  obtain ⟨mc, m1, m2⟩ := hlim
  have hM : Mod K mg (hidT s₁.heap H) := ⟨hKb, nsK hns, ⟨mb, nsK hb, hbb⟩, ⟨mc, nsK m1, m2⟩⟩
  have e0 : Env0 P w K mg (hidT s₁.heap H) callerA [] s₁ H := ⟨rfl, hM, fun b o e => of_hidT e, Nat.le_of_eq (hidT_size _ _), trivial, fun b z => absurd (show b ∈ ([] : List Addr) from z) (by simp), hok, .of_eq hg⟩
  refine codeAny_mono ((F _ hKb (nsK hns)).run callerA [] s₁ H ⟨[.ref a], []⟩ [.ref a] [.ref a] _ _ rfl hr e0 (hbind s₁ (.ref a)) (.cons rfl .nil) hsp) ?_
  intro r s' h
  cases r with
  | error e => exact (hCX e s' h).elim
  | ok fl =>
    cases fl with
    | next => exact h.elim
    | brk => exact h.elim
    | cont => exact h.elim
    | ret u =>
      obtain ⟨v, H', os, bare, un, hok', r', q⟩ := h
      have q' : v = .bl true := q
      subst q'
      have r' : u = Value.bool true := r'
      subst r'
      refine ⟨rfl, OldK.of_keep fun b o e => ?_, os, bare⟩
      cases q : H b with
      | none => exact un.keep b o e q (fun z => absurd (show b ∈ ([] : List Addr) from z) (by simp)) (by simp)
      | some u =>
        rcases hO b with z | ⟨ob, xs, z⟩
        · rw [q] at z; cases z
        · obtain ⟨e1, _⟩ := hok b _ z
          obtain ⟨e2, _⟩ := hok' b _ (un.frzs b ob _ z)
          rw [e] at e1
          cases e1
          exact e2
theorem law_end (KX : K.In s₁.heap) (hns : s₁.heap.Ns mainGlobals mg) (hb : s₁.heap.Ns builtinsNs mb) (hbb : ∀ x : Str, x ≠ "__name__" → mb x = bootBuiltins x) (hlim : s₁.heap.NoLimit) (hg : s₁.gens = #[])
    (ha : s₁.heap.get? a = some { cls := .type "list", data := .seq vs.toArray }) (hi : IntsAre vs ns) (hl : ns.length ≤ sizeLine) (hr : Room k callerA)
    (F : ∀ base : Heap, K.In base → base.Ns mainGlobals mg → FnG P w K mg base CXx k fa fd [x] sp) (hbind : ∀ (s : Shared) (u : Value), BindsTo s fd ⟨[u], []⟩ [(x, u)])
    (hsp : ∀ H : Hp, Only H → SqF K H a (ns.map V.int) → sp [.ref a] H (fun v _ => v = .bl true) fun _ _ _ => False) (hCX : ∀ H e s', CXx [] H s₁ (fun _ _ _ => False) e s' → False) :
    codeAny (model P w) callerA (.call (.ref fa) ⟨[.ref a], []⟩) (fun r s' => r = .ok (.ret (.bool true)) ∧ OldK s₁.heap s'.heap ∧ s'.os = s₁.os ∧ AllBare s'.gens) s₁ := by
  have rv := vals_ints hi
  cases hk : K.lookup a with
  | some o =>
    have e := KX a o hk
    rw [ha] at e
    cases e
    have hO : Only (fun _ => none) := fun _ => .inl rfl
    have hS : SqF K (fun _ => none) a (ns.map V.int) := .inr ⟨_, vs.toArray, _, hk, rfl, rfl, rfl, by rw [List.size_toArray, hi.length]; exact hl, by simpa using rv⟩
    exact law_core KX hns hb hbb hlim hg ha hr F hbind (hsp _ hO hS) (hCX _) hO (fun b u z => nomatch (show (none : Option HO) = some u from z)) (fun b z => absurd rfl z) fun z => absurd rfl z
  | none =>
    let H : Hp := upd (fun _ => none) a (.frz { cls := .type "list", data := .seq vs.toArray } (.lst (ns.map V.int)))
    have at_ : ∀ b u, H b = some u → b = a ∧ u = .frz { cls := .type "list", data := .seq vs.toArray } (.lst (ns.map V.int)) := by
      intro b u z
      by_cases hb : b = a
      · subst hb
        rw [show H b = some _ from upd_same] at z
        exact ⟨rfl, (Option.some.inj z).symm⟩
      · rw [show H b = none from upd_ne hb] at z
        cases z
    have hO : Only H := by
      intro b
      cases q : H b with
      | none => exact .inl rfl
      | some u => exact .inr ⟨_, _, by rw [(at_ b u q).2]⟩
    have hok : HOk P w H s₁.heap := by
      intro b u z
      obtain ⟨rfl, rfl⟩ := at_ b u z
      exact ⟨ha, by rw [List.length_map]; exact hl, vs, _, rv, ha⟩
    refine law_core KX hns hb hbb hlim hg ha hr F hbind (hsp H hO (.inl ⟨_, upd_same⟩)) (hCX _) hO hok (fun b z => ?_) fun _ => hk
    cases q : H b with
    | none => exact absurd q z
    | some u => exact (at_ b u q).1
end
/-- a law's end over a head by facts -/
theorem walk_G {l : PySem.W.OpenLaw} {n k : Nat} {q : Program} {loose : List Str} {XP : (Str → Option Value) → Heap → Prop} {YP : World → Heap → Prop} {d : DefRec} {CXx : CXT} {x : Str}
    (hn : l.most = some n) (hn2 : n ≤ sizeLine) (hdf : d.params.defaults = []) (hr : Room k callerA)
    (F : ∀ (w : World) (mg : Str → Option Value) (fa : Addr) (h : Heap), YP w h → h.Ns mainGlobals mg → mg d.name = some (.ref fa) →
      ∃ (K : PySem.W.Frag) (fd : FuncData) (sp : Sp) (CXx : CXT), K.In h ∧ (∀ (s : Shared) (u : Value), BindsTo s fd ⟨[u], []⟩ [(x, u)]) ∧
        (∀ (H : Hp) (a : Addr) (ns : List Int), ns.length ≤ n → Only H → SqF K H a (ns.map V.int) → sp [.ref a] H (fun v _ => v = .bl true) fun _ _ _ => False) ∧
        (∀ base : Heap, K.In base → base.Ns mainGlobals mg → FnG l.prog w K mg base CXx k fa fd [x] sp) ∧ ∀ (H : Hp) (s : Shared) (e : Value) (s' : Shared), CXx [] H s (fun _ _ _ => False) e s' → False) :
    PySem.W.WalkO q loose XP YP l.row.toRowW d [] (fun f vs => PySem.call f vs) := by
  refine Att.attach_call hn hdf ?_
  intro w s₀ s₁ mg mb fa o pm cd doc a vs ns G Y ho hd hcd hmg hobj hints hlen hg
  obtain ⟨K, fd, sp, CXx, KX, hb, hsp, hF, hCX⟩ := F w mg fa _ Y G.T.g hmg
  exact law_end KX G.T.g G.T.b G.T.builtins G.T.nolimit hg hobj hints (Nat.le_trans hlen hn2) hr hF hb (fun H hO hS => hsp H a ns hlen hO hS) fun H e s' => hCX H s₁ e s'
end DV
namespace DV
open PySem PySem.Spec PyProof.Rows L2
def negD : D → DH → R D
  | .int i, h => .ok (.int (-i)) h
  | _, _ => .bad
def dNeg (m : DE) : DE := m.bind fun d _ h => negD d h
section
variable {X : Cx} {W : XWS} {pos : Pos} {a : Expr} {ma : DE}
theorem d_neg (ha : PE X a (TD (gx X) W ma)) : PE X (.UnaryOp .USub a pos) (TD (gx X) W (dNeg ma)) := by
  refine (pe_un un_neg ha).weak fun σ H Q q => ?_
  refine TG'.imp (TG'.split (rel := Rep (gx X)) q) ?_
  rintro x H1 ⟨μ1, d, env, h1, s1, e1, r1, p1⟩
  cases d with
  | int i => exact ⟨i, r1.intv, p1.now s1 (by unfold Rep; rfl)⟩
  | _ => exact p1.elim
end
/-- list(x), x a list, a tuple, a text -/
def listF2 : DF
  | [.str t], h => if t.length ≤ big then alloc (.lst (chars t)) h else .bad
  | ds, h => listF ds h
theorem charsRep {G : GX} {μ : List Addr} {H : Hp} : ∀ t : Txt, RepL G H μ (chars t) (t.map fun c => V.str ⟨#[c]⟩)
  | [] => by unfold chars RepL; rfl
  | c :: t => by
    show RepL G H μ (D.str [c] :: chars t) _
    unfold RepL
    exact ⟨_, _, rfl, by unfold Rep; rfl, charsRep t⟩
section
variable {X : Cx} {W : XW}
theorem c_list2 (hc : X.calm = true) : CallR X (.type "list") (rCD (gx X) W listF2) := by
  intro pins s σ H vs us Q I rv ⟨μ, h, ds, S, r, P⟩
  unfold listF2 at P
  split at P
  · rename_i h t
    obtain ⟨v, rfl, r1⟩ := r.one
    rw [r1.strv] at rv
    obtain ⟨u, rfl, tk, rfl⟩ := vals1 rv
    split at P
    · rename_i hl
      have hz : (sOf t).cps.size ≤ sizeLine := by rw [big_eq]; simpa [sOf] using hl
      refine call_list_str (I.ok.hd hc) (sOf t) tk (fun h' tk' acc' c' hk e' hi => ?_) hz
      have hsz : acc'.toList.length = t.length := by rw [Array.length_toList, hi.1]; simp [sOf]
      have hv : Vals (t.map fun c => V.str ⟨#[c]⟩) acc'.toList := by
        refine vals_of_at (by rw [List.length_map]; exact hsz.symm) fun j x u h1 h2 => ?_
        obtain ⟨c, tk2, hc', hu⟩ := hi.2 j u (by rw [← h2, Array.getElem?_toList])
        have hc'' : t[j]? = some c := by simpa [sOf] using hc'
        rw [List.getElem?_map, hc''] at h1
        cases h1
        exact ⟨tk2, hu⟩
      refine ⟨.ref s.heap.objs.size, _, I.laid (o := .lst (t.map fun c => V.str ⟨#[c]⟩)) hk (Nat.le_refl _) (show ObjOk X.prog X.w _ _ _ (.lst _) from ⟨?_, acc'.toList, c', hv, ?_⟩), rfl, P.allocL S (charsRep t) _ (I.hok.fresh (Nat.le_refl _))⟩
      · rw [List.length_map, big_eq]; exact hl
      · rw [Array.toArray_toList]; exact e'
    · exact P.elim
  · exact c_list pins s σ H vs us Q I rv ⟨μ, h, _, S, r, P⟩
theorem c_str : CallR X (.type "str") (rCD (gx X) W strF) := by
  intro pins s σ H vs us Q I rv ⟨μ, h, ds, S, r, P⟩
  unfold strF at P
  split at P
  · rename_i h i
    obtain ⟨v, rfl, r1⟩ := r.one
    split at P
    · rename_i hl
      refine call_str_int pins s σ H _ us Q I rv ⟨i, by rw [r1.intv], hl, P.now S ?_⟩
      unfold Rep
      show V.str (Str.ofString (toString i)) = _
      refine congrArg V.str ?_
      rw [Str.ofString_eq_toList]
      rfl
    · exact P.elim
  · exact P.elim
/-- repr(x), where nothing is being shown -/
theorem c_repr (hu : X.A.units + 70 < cLine) (hgd : X.A.guards = some []) : CallR X (.builtin "repr") (rCD (gx X) W reprF) := by
  intro pins s σ H vs us Q I rv ⟨μ, h, ds, S, r, PP⟩
  unfold reprF at PP
  split at PP
  · rename_i h d
    obtain ⟨v, rfl, r1⟩ := r.one
    obtain ⟨u, rfl, ru⟩ := vals1 rv
    split at PP
    · rename_i p hp
      split at PP
      · rename_i hs
        obtain ⟨h1, h2, h3, h4⟩ := hs
        have dp := toPy_ok S _ _ _ _ hp r1
        obtain ⟨as, rd⟩ := Dp.reads I p v u dp ru
        have fin : ∀ s', Inv X pins σ H s' → ∀ t, EP X pins σ Q (.str p.shown t) s' := fun s' I' t => ⟨.str p.shown, H, I', ⟨t, rfl⟩, PP.now S (by unfold Rep; simp [sOf])⟩
        have hsz : p.shown.length ≤ sizeLine := by rw [big_eq]; exact h3
        cases dp with
        | non =>
          cases ru
          exact PySem.P.repr_of_none (fin _ (I.tok _) _)
        | bl b => cases ru; exact PySem.P.repr_of_bool (fin _ (I.tok _) _)
        | int i => obtain ⟨t, rfl⟩ := ru; exact PySem.P.repr_of_int (by simpa [PyData.showable] using h1) (fin _ (I.tok _) _)
        | str x => obtain ⟨t, rfl⟩ := ru; exact PySem.P.repr_of_str (fin _ (I.tok _) _) hsz
        | lst _ _ =>
          cases ru
          exact repr_of_reads' rd h1 (fun z => by rw [h4] at z; cases z) hgd (by omega) (fun _ _ e => e) (fun h' t tk hk => fin _ (I.kept hk) t) hsz
        | tup _ _ =>
          cases ru
          exact repr_of_reads' rd h1 (fun z => by rw [h4] at z; cases z) hgd (by omega) (fun _ _ e => e) (fun h' t tk hk => fin _ (I.kept hk) t) hsz
      · exact PP.elim
    · exact PP.elim
  · exact PP.elim
end
end DV
namespace DV
open PySem PySem.Spec PyProof.Rows L2
section
variable {G : GX} {μ : List Addr} {H : Hp}
theorem RepK.put {k d : D} {key : Key} {v : V} (hk : keyD k = some key) (rd : Rep G H μ d v) : ∀ {kvs : List (D × D)} {kv : List (Key × V)}, RepK G H μ kvs kv → (kv.map (·.1)).Nodup → RepK G H μ (putD k d kvs) (putK kv key v)
  | [], kv, r, _ => by
    have r : kv = [] := r
    subst r
    exact ⟨key, v, [], rfl, hk, rd, rfl⟩
  | (x, e) :: t, kv, r, nd => by
    obtain ⟨a, w, u, rfl, h1, h2, h3⟩ := r
    have h1 : keyD x = some a := h1
    rw [List.map_cons, List.nodup_cons] at nd
    unfold putD
    rw [keq_key h1 hk]
    by_cases e' : a = key
    · subst e'
      rw [if_pos (decide_eq_true rfl)]
      have hin : putK ((a, w) :: u) a v = (a, v) :: u := by
        unfold putK
        rw [if_pos (by simp)]
        rw [List.map_cons, if_pos rfl]
        congr 1
        conv => rhs; rw [← List.map_id u]
        refine List.map_congr_left fun p hp => ?_
        rw [if_neg]
        · rfl
        · intro z
          exact nd.1 (List.mem_map.mpr ⟨p, hp, z⟩)
      rw [hin]
      exact ⟨a, v, u, rfl, h1, rd, h3⟩
    · rw [if_neg (by rw [decide_eq_true_eq]; exact e')]
      have hin : putK ((a, w) :: u) key v = (a, w) :: putK u key v := by
        unfold putK
        rw [List.any_cons, decide_eq_false e', Bool.false_or]
        split
        · rw [List.map_cons, if_neg e']
        · rfl
      rw [hin]
      exact ⟨a, w, _, rfl, h1, h2, RepK.put hk rd h3 nd.2⟩
end
theorem putK_keys {kv : List (Key × V)} {k : Key} {v : V} (nd : (kv.map (·.1)).Nodup) : ((putK kv k v).map (·.1)).Nodup := by
  cases e : valV kv k with
  | none => exact nd_putK v nd e
  | some w =>
    have hany : (kv.any fun p => decide (p.1 = k)) = true := by rw [valV_any, e]; rfl
    unfold putK
    rw [if_pos hany, List.map_map]
    have : (fun p : Key × V => p.1) ∘ (fun p => if p.1 = k then (p.1, v) else p) = fun p => p.1 := by
      funext p
      show (if p.1 = k then (p.1, v) else p).1 = p.1
      split <;> rfl
    rw [this]
    exact nd
def mergeD (kvs : List (D × D)) (more : List (D × D)) : List (D × D) := more.foldl (fun acc p => putD p.1 p.2 acc) kvs
theorem RepK.merge {G : GX} {μ : List Addr} {H : Hp} : ∀ {more kvs : List (D × D)} {mv kv : List (Key × V)}, RepK G H μ kvs kv → (kv.map (·.1)).Nodup → RepK G H μ more mv → RepK G H μ (mergeD kvs more) (mergeK kv mv)
  | [], kvs, mv, kv, r, nd, m => by
    have m : mv = [] := m
    subst m
    exact r
  | (k, d) :: t, kvs, mv, kv, r, nd, m => by
    obtain ⟨a, w, u, rfl, h1, h2, h3⟩ := m
    show RepK G H μ (mergeD (putD k d kvs) t) (mergeK (putK kv a w) u)
    exact RepK.merge (RepK.put h1 h2 r nd) (putK_keys nd) h3
/-- pairs of a display, one after another -/
def dPairs : List (DE × DE) → DEn (List (D × D))
  | [] => fun _ h => .ok [] h
  | (mk, mv) :: r => mk.bind fun k => mv.bind fun v => (dPairs r).bind fun ps _ h => .ok ((k, v) :: ps) h
def RepP (G : GX) (H : Hp) (μ : List Addr) : List (D × D) → List (V × V) → Prop
  | [], vs => vs = []
  | p :: r, vs => ∃ x y t, vs = (x, y) :: t ∧ Rep G H μ p.1 x ∧ Rep G H μ p.2 y ∧ RepP G H μ r t
theorem RepP.ext {G : GX} {μ μ' : List Addr} {H H' : Hp} (x : Ext μ H μ' H') : ∀ {ps : List (D × D)} {vs : List (V × V)}, RepP G H μ ps vs → RepP G H' μ' ps vs
  | [], _, e => e
  | p :: r, _, ⟨a, b, t, e1, e2, e3, e4⟩ => ⟨a, b, t, e1, e2.ext x, e3.ext x, RepP.ext x e4⟩
theorem pairs_d {G : GX} {W : XWS} : ∀ {trs : List (DE × DE)} {σ : L2.St} {H : Hp} {Q : List (V × V) → Hp → Prop}, TG' (fun H μ => RepP G H μ) G W (dPairs trs) σ H Q → tPairs (trs.map fun p => (TD G W p.1, TD G W p.2)) σ H Q
  | [], σ, H, Q, ⟨μ, env, h, s, e, p⟩ => p.now s (show RepP G H μ [] [] from rfl)
  | (mk, mv) :: r, σ, H, Q, q => by
    refine TG'.imp (TG'.split (rel := Rep G) (k := fun k => mv.bind fun v => (dPairs r).bind fun ps _ h => .ok ((k, v) :: ps) h) q) ?_
    rintro x H1 ⟨μ1, d, env, h1, s1, e1, r1, p1⟩
    refine ⟨μ1, env, h1, s1, e1, Post.imp (Post.bind (rel := Rep G) p1) ?_⟩
    rintro y H2 ⟨μ2, d2, h2, s2, x2, r2, p2⟩
    refine pairs_d ⟨μ2, env, h2, s2, e1.ext x2, Post.imp (Post.bind (rel := fun H μ => RepP G H μ) p2) ?_⟩
    rintro ps H3 ⟨μ3, d3, h3, s3, x3, r3, p3⟩
    exact p3.now s3 (show RepP G H3 μ3 ((d, d2) :: d3) ((x, y) :: ps) from ⟨x, y, ps, rfl, (r1.ext x2).ext x3, r2.ext x3, r3⟩)
def keysOk (ps : List (D × D)) : Bool := ps.all fun p => (keyD p.1).isSome
def dDic (trs : List (DE × DE)) : DE := (dPairs trs).bind fun ps _ h => if keysOk ps = true ∧ ps.length ≤ 15 then alloc (.dct (mergeD [] ps)) h else .bad
theorem RepP.keys {G : GX} {μ : List Addr} {H : Hp} : ∀ {ps : List (D × D)} {vs : List (V × V)}, RepP G H μ ps vs → keysOk ps = true → ∃ kv : List (Key × V), vs = kv.map (fun p => (kV p.1, p.2)) ∧ RepK G H μ ps kv ∧ kv.length = ps.length
  | [], vs, r, _ => ⟨[], r, rfl, rfl⟩
  | (k, d) :: t, vs, r, hk => by
    obtain ⟨x, y, u, rfl, h1, h2, h3⟩ := r
    unfold keysOk at hk
    rw [List.all_cons, Bool.and_eq_true] at hk
    obtain ⟨kv, e1, e2, e3⟩ := RepP.keys h3 hk.2
    cases q : keyD k with
    | none => rw [q] at hk; cases hk.1
    | some key =>
      refine ⟨(key, y) :: kv, ?_, ⟨key, y, kv, rfl, q, h2, e2⟩, by rw [List.length_cons, List.length_cons, e3]⟩
      rw [List.map_cons, e1, Rep.key q h1]
section
variable {X : Cx} {W : XWS} {pos : Pos}
theorem d_dic {keys : List (Option Expr)} {values : List Expr} {trs : List (DE × DE)} (hp : PPs X pos keys values (trs.map fun p => (TD (gx X) W p.1, TD (gx X) W p.2))) (hall : keys.all (·.isSome) = true) (hl : keys.length = values.length) (h0 : keys ≠ [])
    (h15 : keys.length ≤ 15) : PE X (.Dict keys values pos) (TD (gx X) W (dDic trs)) := by
  refine (pe_disp hp hall hl h0 h15).weak fun σ H Q q => ?_
  obtain ⟨μ0, env, h0', s0, e0, P⟩ := q
  intro A hA
  have x0 : Ex0 μ0 H μ0 (upd H A (.dK [])) := Ex0.out fun u z => by rw [hA] at z; cases z
  have xE : Ext μ0 H μ0 (upd H A (.dK [])) := Ext.out .refl hA
  have s1 : SRep (gx X) μ0 h0' (upd H A (.dK [])) := s0.out (fun u z => by rw [hA] at z; cases z) (s0.not_mem hA)
  refine pairs_d ⟨μ0, env, h0', s1, e0.ext0 x0, ?_⟩
  unfold dDic DEn.bind at P
  cases q : dPairs trs env h0' with
  | bad => rw [q] at P; exact P.elim
  | exc c a h' =>
    rw [q] at P
    exact fun μ' H' s' x' => P μ' H' s' (xE.trans x')
  | ok ps h' =>
    rw [q] at P
    intro μ' H' vs s' x' rp
    have P : Post (Rep (gx X)) (gx X) (W σ) μ0 H (if keysOk ps = true ∧ ps.length ≤ 15 then alloc (.dct (mergeD [] ps)) h' else .bad) Q := P
    split at P
    · rename_i hk
      have hm : A ∉ μ0 := s0.not_mem hA
      have eA : H' A = some (.dK []) := x'.keep A _ upd_same hm
      have nA : A ∉ μ' := fun m => by
        rcases x'.fresh A m with z | z
        · exact hm z
        · rw [upd_same] at z; cases z
      obtain ⟨kv, e1, e2, e3⟩ := RepP.keys rp hk.1
      refine ⟨eA, kv, e1, by rw [e3]; exact hk.2, ?_⟩
      have mA : ∀ u, H' A = some u → Mut (some u) := fun u z => by rw [eA] at z; cases z; trivial
      have s2 : SRep (gx X) μ' h' (upd H' A (.dK (mergeK [] kv))) := s'.out mA nA
      have r2 : RepK (gx X) (upd H' A (.dK (mergeK [] kv))) μ' (mergeD [] ps) (mergeK [] kv) := (RepK.merge (show RepK (gx X) H' μ' [] [] from rfl) List.nodup_nil e2).ext0 (Ex0.out mA)
      have xf : Ext μ0 H μ' (upd H' A (.dK (mergeK [] kv))) := Ext.out (xE.trans x') hA
      refine P (μ' ++ [A]) _ (.ref A) (s2.adopt nA (show ORep (gx X) _ μ' (.dct (mergeD [] ps)) A from ⟨_, upd_same, r2⟩)) (xf.adopt hA) ?_
      unfold Rep
      exact ⟨A, by rw [List.getElem?_append_right (by rw [s2.len]; exact Nat.le_refl _)]; simp [s2.len], rfl⟩
    · exact P.elim
def dDic0 : DE := fun _ h => alloc (.dct []) h
theorem d_dic0 : PE X (.Dict [] [] pos) (TD (gx X) W dDic0) := by
  refine pe_dnewK.weak fun σ H Q ⟨μ, env, h, s, e, P⟩ => ?_
  intro A hA
  exact P.allo s hA ⟨[], upd_same, rfl⟩
/-- o[i] = v -/
def setD : D → D → D → DH → R Unit
  | .ref n, .int i, v, h => match h[n]? with
    | some (.lst ds) => match ixN ds.length i with
      | some j => .ok () (h.set n (.lst (ds.set j v)))
      | none => .bad
    | some (.dct kvs) => if kvs.length < big then .ok () (h.set n (.dct (putD (.int i) v kvs))) else .bad
    | _ => .bad
  | .ref n, .str k, v, h => match h[n]? with
    | some (.dct kvs) => if kvs.length < big then .ok () (h.set n (.dct (putD (.str k) v kvs))) else .bad
    | _ => .bad
  | _, _, _, _ => .bad
def sSet (mo mi mv : DE) : SD := fun env h => (mv env h).toS env fun v h1 => (mo env h1).toS env fun o h2 => (mi env h2).toS env fun i h3 => (setD o i v h3).toS env fun _ h4 => .nx env h4
theorem RepL.setAt {G : GX} {μ : List Addr} {H : Hp} {d : D} {v : V} (rd : Rep G H μ d v) : ∀ {ds : List D} {vs : List V} (j : Nat), RepL G H μ ds vs → RepL G H μ (ds.set j d) (vs.set j v)
  | [], vs, j, r => by unfold RepL at r; subst r; cases j <;> (show RepL G H μ [] []; unfold RepL; rfl)
  | e :: t, vs, 0, r => by
    unfold RepL at r
    obtain ⟨w, u, rfl, r1, r2⟩ := r
    show RepL G H μ (d :: t) (v :: u)
    unfold RepL
    exact ⟨v, u, rfl, rd, r2⟩
  | e :: t, vs, j + 1, r => by
    unfold RepL at r
    obtain ⟨w, u, rfl, r1, r2⟩ := r
    show RepL G H μ (e :: t.set j d) (w :: u.set j v)
    unfold RepL
    exact ⟨w, _, rfl, r1, RepL.setAt rd j r2⟩
theorem KV.keys {κ : Type} {kv : List (κ × V)} {vs : List (κ × Value)} (r : KV kv vs) : kv.map (·.1) = vs.map (·.1) := by
  unfold KV at r
  induction r with
  | nil => rfl
  | cons h t ih => rw [List.map_cons, List.map_cons, h.1, ih]
theorem set_key {pins : List (Addr × Obj)} {s : Shared} {σ : L2.St} {H : Hp} {x y z : V} {ov iv u : Value} {Q : Hp → Prop} (hu : X.A.units + 1 < cLine) (I : Inv X pins σ H s) (rx : RelV x ov) (ry : RelV y iv) (rz : RelV z u) {μ : List Addr} {h : DH} {n : Nat} {i v : D} {key : Key} {kvs : List (D × D)}
    (hk : keyD i = some key) (S : SRep (gx X) μ h H) (r1 : Rep (gx X) H μ (.ref n) x) (r2 : Rep (gx X) H μ i y) (r3 : Rep (gx X) H μ v z) (e : h[n]? = some (.dct kvs)) (hl : kvs.length < big)
    (q : ∀ H', SRep (gx X) μ (h.set n (.dct (putD i v kvs))) H' → Ext μ H μ H' → Q H') : wpAny (model X.prog X.w) X.A (setItem ov iv u) (fun _ s' => ∃ H', Inv X pins σ H' s' ∧ Q H') X.xe s := by
  obtain ⟨a, ea, rfl⟩ := r1.ref
  obtain ⟨kv, q1, q2⟩ := S.ob n _ a e ea
  cases rx
  have ey := r2.key hk
  subst ey
  obtain ⟨z0, _, vs0, r0, o, es, ep, _, _, _, hes, hnd⟩ := (show ObjOk X.prog X.w H s.heap a (.dK kv) from I.hok a _ q1)
  have hn2 : (kv.map (·.1)).Nodup := by
    rw [KV.keys r0]
    exact hnd.2
  refine d_setItem hu I (DPut.k (k := key) q1 (by rw [q2.length, big_eq]; exact hl)) ry rz fun s' I' => ?_
  refine ⟨_, I', q _ (S.write ea (o := .dct (putD i v kvs)) ⟨_, upd_same, ?_⟩) (Ext.write S (List.mem_of_getElem? ea))⟩
  exact (RepK.put hk r3 q2 hn2).ext0 (Ext.write S (List.mem_of_getElem? ea)).x0
theorem set_d {pins : List (Addr × Obj)} {s : Shared} {σ : L2.St} {H : Hp} {x y z : V} {ov iv u : Value} {Q : Hp → Prop} (hu : X.A.units + 1 < cLine) (I : Inv X pins σ H s) (rx : RelV x ov) (ry : RelV y iv) (rz : RelV z u) {μ : List Addr} {h h' : DH} {o i v : D}
    (S : SRep (gx X) μ h H) (r1 : Rep (gx X) H μ o x) (r2 : Rep (gx X) H μ i y) (r3 : Rep (gx X) H μ v z) (e : setD o i v h = .ok () h')
    (q : ∀ H', SRep (gx X) μ h' H' → Ext μ H μ H' → Q H') : wpAny (model X.prog X.w) X.A (setItem ov iv u) (fun _ s' => ∃ H', Inv X pins σ H' s' ∧ Q H') X.xe s := by
  unfold setD at e
  split at e
  · rename_i n k
    split at e
    · rename_i ds hd
      split at e
      · rename_i j hj
        cases e
        obtain ⟨a, ea, rfl⟩ := r1.ref
        obtain ⟨vs, q1, l1⟩ := S.list hd ea
        refine set_list pins s σ H _ _ _ ov iv u Q I rx ry rz ⟨a, vs, k, j, rfl, r2.intv, q1, by rw [l1.length]; exact hj, ?_⟩
        refine q _ (S.write ea (o := .lst (ds.set j _)) ⟨_, upd_same, ?_⟩) (Ext.write S (List.mem_of_getElem? ea))
        exact (l1.setAt r3 j).ext (Ext.write S (List.mem_of_getElem? ea))
      · cases e
    · rename_i kvs hd
      split at e
      · rename_i hl
        cases e
        exact set_key hu I rx ry rz rfl S r1 r2 r3 hd hl q
      · cases e
    · cases e
  · rename_i n k
    split at e
    · rename_i kvs hd
      split at e
      · rename_i hl
        cases e
        exact set_key hu I rx ry rz rfl S r1 r2 r3 hd hl q
      · cases e
    · cases e
  · cases e
theorem s_set {o i e : Expr} {mo mi mv : DE} {pos' : Pos} (hu : X.A.units + 1 < cLine) (ho : PE X o (TD (gx X) W mo)) (hi : PE X i (TD (gx X) W mi)) (he : PE X e (TD (gx X) W mv)) (hs : swapsWith e (some (.Subscript o i pos')) pos.line X.env = pure false) :
    PS X (.Assign [.Subscript o i pos'] e pos) (TDS (gx X) W (sSet mo mi mv)) := by
  refine ⟨fun pins s σ H E I q => ?_⟩
  refine wpAny_Assign_Subscript (thn (he.run pins s σ H _ I (TDS.split (rel := Rep (gx X)) (k := fun v env h1 => (mo env h1).toS env fun o h2 => (mi env h2).toS env fun i h3 => (setD o i v h3).toS env fun _ h4 => .nx env h4) q)) ?_) hs
  rintro u s1 ⟨z, H1, I1, rz, μ1, v, env, h1, S1, E1, R1, P1⟩
  refine thn (ho.run pins s1 σ H1 _ I1 ⟨μ1, env, h1, S1, E1, SPost.bind (rel := Rep (gx X)) E1 P1⟩) ?_
  rintro ov s2 ⟨x, H2, I2, rx, μ2, o, h2, S2, X2, R2, P2⟩
  refine thn (hi.run pins s2 σ H2 _ I2 ⟨μ2, env, h2, S2, E1.ext X2, SPost.bind (rel := Rep (gx X)) (E1.ext X2) P2⟩) ?_
  rintro iv s3 ⟨y, H3, I3, ry, μ3, i, h3, S3, X3, R3, P3⟩
  cases hq : setD o i v h3 with
  | bad => rw [hq] at P3; exact P3.elim
  | exc c a h' =>
    exfalso
    unfold setD at hq
    repeat (first | cases hq | split at hq)
  | ok w h' =>
    rw [hq] at P3
    exact thn (set_d hu I3 rx ry rz S3 (R2.ext X3) R3 ((R1.ext X2).ext X3) hq fun H' S' X' => P3 μ3 H' σ S' X' (((E1.ext X2).ext X3).ext X')) fun _ s4 ⟨H', I', q'⟩ => ⟨σ, H', I', q'⟩
end
end DV
namespace DV
open PySem PySem.Spec PyProof.Rows L2
namespace Ve
abbrev vb : Value := .builtin "ValueError.__init__"
/-- the slot bound to x -/
abbrev bnd (x : Addr) : Obj := ⟨.type "method-wrapper", none, .fields #[vb, .ref x], #[]⟩
abbrev sob (D x C : Addr) : Obj := ⟨.type "super", none, .fields #[.ref D, .ref x, .ref C], #[]⟩
theorem ty_vb : typeOf vb = pure (.type "wrapper_descriptor") := by
  show builtinType _ = _
  rw [builtinType_eq_fast]
  kernel_rfl
theorem nc_vb : (kfb_private% "nameAndClass") vb = (pure (("__init__" : Str), Value.type "ValueError") : Sem (Str × Value)) := by kernel_rfl
theorem along_ve (K : PySem.W.Frag) : PySem.W.alongIn K "__init__" HandSPX.veTail = some (some vb) := by kernel_rfl
theorem along_refs (K : PySem.W.Frag) : ∀ l : List Value, HandSPX.refsVE l = true → (∀ c ∈ l, ∀ a, c = .ref a → PySem.W.ownIn K "__init__" c = some none) → PySem.W.alongIn K "__init__" l = some (some vb) := by
  intro l
  induction l with
  | nil => intro e; exact absurd e (by decide)
  | cons a r ih =>
    intro e ho
    rcases HandSPX.refsVE_cases (a :: r) e with ⟨c, r', q, h⟩ | q
    · obtain ⟨rfl, rfl⟩ := List.cons.inj q
      unfold PySem.W.alongIn
      rw [ho (.ref c) List.mem_cons_self c rfl]
      exact ih h fun c' hc a ha => ho c' (List.mem_cons_of_mem _ hc) a ha
    · rw [q]; exact along_ve K
section
variable {prog : Program} {w : World} {M : Model} {A : Around} {E : Value → Shared → Prop} {h : Heap} {g : Array GenState} {d : Drawn} {t : Nat} {os : OsState}
theorem wd {x C : Addr} {P : Fin → Shared → Prop} (hin : PySem.W.Looks M h (isInstance (.ref x) (.type "ValueError")) true) (hq : P (.done (.ret (.ref h.objs.size))) ⟨h.push (bnd x), g, d, t, os⟩) : wpAny M A (Builtin.«wrapper_descriptor.__get__» ⟨[vb, .ref x, .ref C], []⟩) P E ⟨h, g, d, t, os⟩ := by
  unfold Builtin.«wrapper_descriptor.__get__»
  apply wpAny_bind
  apply wpAny_of_eq (a := (vb, some (.ref x), some (.ref C))) (by kernel_rfl)
  show wpAny M A ((kfb_private% "checkInstance") vb (.ref x) >>= fun _ => newFields "method-wrapper" [vb, .ref x] >>= fun r => ret r) P E _
  apply wpAny_bind
  show wpAny M A ((kfb_private% "nameAndClass") vb >>= _) _ E _
  apply wpAny_bind
  apply wpAny_of_eq nc_vb
  show wpAny M A (isInstance (.ref x) (.type "ValueError") >>= _) _ E _
  apply wpAny_bind
  apply hin.at
  apply PySem.W.KFB.if_not rfl
  exact wpAny_pure (wpAny_bind (wpAny_newObj_type (wpAny_pure hq)))
theorem ga {so D x C : Addr} {l₀ l : List Value} {K : PySem.W.Frag} {name : Str} {tk : Tok} {Q : Fin → Shared → Prop} (hso : h.get? so = some (sob D x C)) (hno : PySem.W.Looks (model prog w) h (opaqueClassAbove (.ref C)) none) (hC : PySem.W.Looks (model prog w) h (mroOf (.ref C)) l₀) (hl : (l₀.dropWhile (· != .ref D)).drop 1 = l)
    (X : K.In h) (hf : PySem.W.alongIn K name l = some (some vb)) (hxC : x ≠ C) (hn : (name == ("__class__" : Str)) = false) (hin : PySem.W.Looks (model prog w) h (isInstance (.ref x) (.type "ValueError")) true) (hq : Q (.done (.ret (.ref h.objs.size))) ⟨h.push (bnd x), g, d, t, os⟩) :
    wpAny (model prog w) A (Builtin.«super.__getattribute__» ⟨[.ref so, .str name tk], []⟩) Q E ⟨h, g, d, t, os⟩ := by
  have s1 := ESX.slot_wd.lookup
  have ne : (Value.ref x == Value.ref C) = false := by simp [hxC]
  have ti : Shared.TypeIs ⟨h, g, d, t, os⟩ vb "wrapper_descriptor" := ty_vb
  have dt : (sob D x C).data = .fields #[.ref D, .ref x, .ref C] := rfl
  have a0 : (#[.ref D, .ref x, .ref C] : Array Value)[0]? = some (.ref D) := rfl
  have a1 : (#[.ref D, .ref x, .ref C] : Array Value)[1]? = some (.ref x) := rfl
  have a2 : (#[.ref D, .ref x, .ref C] : Array Value)[2]? = some (.ref C) := rfl
  unfold Builtin.«super.__getattribute__»
  repeat (first | (with_reducible refine wpAny_field hso dt a0 ?_) | (with_reducible refine wpAny_field hso dt a1 ?_) | (with_reducible refine wpAny_field hso dt a2 ?_) | (with_reducible refine ks_wpAny_notOpaque hno ?_) | (with_reducible refine PySem.W.Looks.at hC ?_; rw [hl]) | (refine ks_forIn_along X (fun _ _ => rfl) rfl ?_ hf) |
    (with_reducible refine wpAny_call_entry ESX.slot_wd ti ESX.entry_wd ?_ (ESX.args_wd _ _ _)) | (with_reducible refine wd hin ?_) | (with_reducible refine ⟨_, rfl, ?_⟩) | (simp only [hn, ne, Bool.or_false, Bool.false_eq_true, if_false]) | wp_step | dsimp only)
  all_goals exact hq
theorem gm {so D x C : Addr} {l₀ l : List Value} {K : PySem.W.Frag} {name : Str} {pl : Sem Bool} {Q : Value × List Value → Shared → Prop} (hso : h.get? so = some (sob D x C)) (hno : PySem.W.Looks (model prog w) h (opaqueClassAbove (.ref C)) none) (hC : PySem.W.Looks (model prog w) h (mroOf (.ref C)) l₀) (hl : (l₀.dropWhile (· != .ref D)).drop 1 = l)
    (X : K.In h) (hf : PySem.W.alongIn K name l = some (some vb)) (hxC : x ≠ C) (hn : (name == ("__class__" : Str)) = false) (hin : PySem.W.Looks (model prog w) h (isInstance (.ref x) (.type "ValueError")) true) (hq : Q (.ref h.objs.size, []) ⟨h.push (bnd x), g, d, t + 1, os⟩) :
    wpAny (model prog w) A (getMethod (.ref so) name pl) Q E ⟨h, g, d, t, os⟩ := by
  have lk := F.ks_slot_super_ga.lookup
  have tt : ∀ t', (⟨h, g, d, t', os⟩ : Shared).TypeIs (.ref so) "super" := fun _ => ⟨_, hso, rfl⟩
  unfold getMethod
  apply wpAny_bind
  apply wpAny_specialOf (tt _) lk
  show wpAny _ _ (if (Manifest.canonical "super.__getattribute__" != "object.__getattribute__") = true then _ else _) _ _ _
  rw [if_pos F.ks_canon_super_ga]
  unfold getAttr getAttrBy
  refine wpAny_bind (wpAny_bind (wpAny_mkText (wpAny_holding (wpAny_bind (wpAny_typeOf (tt _) (wpAny_bind (wpAny_of_eq lk ?_)))))))
  show wpAny _ _ (getAttrByItsOwn (.ref so) (.str name t) (.type "super") (.builtin "super.__getattribute__") true false) _ _ _
  unfold getAttrByItsOwn hookBefore callGetattribute boundAndCalled
  apply wpAny_bind
  apply wpAny_of_eq (show (if onTheHeap (.type "super") then typeLookup (.type "super") "__getattr__" else pure none) = pure none from rfl)
  apply wpAny_bind
  apply wpAny_attempt
  apply wpAny_holding
  show wpAny _ _ (bindSpecial (.builtin "super.__getattribute__") (.ref so) >>= _) _ _ _
  apply wpAny_bind
  apply wpAny_of_eq (F.ks_slot_super_ga.bind _)
  refine wpAny_mono (Q := fun v s' => v = .ref h.objs.size ∧ s' = ⟨h.push (bnd x), g, d, t + 1, os⟩) (E := fun _ _ => False) (wpAny_call_entry F.ks_slot_super_ga (tt _) F.ks_entry_super_ga (ga hso hno hC hl X hf hxC hn hin ⟨_, rfl, rfl, rfl⟩) (F.ks_gaArgs_super _ _)) ?_ fun _ _ z => z.elim
  rintro v s' ⟨rfl, rfl⟩
  exact wpAny_pure (wpAny_pure hq)
end
section
variable {M : Model} {A : Around} {E : Value → Shared → Prop} {s : Shared} {pos : Pos} {u x : Addr} {first : List Value} {env : PySem.Env} {e : Expr} {rest : List Expr} {Q : Value → Shared → Prop}
theorem cw {args : List (Bool × Sem Value)} (hpl : args.any (·.1) = false) (h : wpAny M A (evalArgs (.ref u) true args []) (fun a s₁ => s₁.heap.get? u = some (bnd x) ∧ wpAny M A (call (.ref u) (first ++ a.pos) a.kw) Q E s₁) E s) : wpAny M A (callWith pos (.ref u) first args []) Q E s := by
  unfold callWith
  refine wpAny_bind (wpAny_holding (wpAny_mono h ?_ fun _ _ z => z))
  rintro a s₁ ⟨ho, hc⟩
  refine wpAny_bind (wpAny_standAt ?_)
  simp only [hpl, List.any_nil, Bool.or_false]
  refine wpAny_bind (m := keeperOf (.ref u)) ?_
  unfold keeperOf
  refine wpAny_bind (wpAny_load ho ?_)
  simp only [bnd, show (Value.type "method-wrapper" != Value.type "method") = true by decide, show (Value.type "method-wrapper" == Value.type "builtin_function_or_method" || Value.type "method-wrapper" == Value.type "method-wrapper") = true by decide, if_true]
  exact wpAny_pure (wpAny_bind (wpAny_mono hc (fun r s₂ hr => wpAny_bind (wpAny_holding (wpAny_point (wpAny_pure hr)))) fun _ _ z => z))
theorem cwe (h : wpAny M A (spliced (backTo pos (starEach (e :: rest) env))) (fun vs s₁ => s₁.heap.get? u = some (bnd x) ∧ wpAny M A (call (.ref u) (first ++ vs)) Q E s₁) E s)
    (he : starEach (e :: rest) env = (false, eval e env) :: starEach rest env) (hpl : (backTo pos (starEach rest env)).any (·.1) = false) : wpAny M A (callWith pos (.ref u) first (backTo pos (starEach (e :: rest) env)) []) Q E s := by
  rw [he] at h ⊢
  refine cw (x := x) (by show (false || (backTo pos (starEach rest env)).any (·.1)) = false; rw [hpl]; rfl) ?_
  exact PySem.Calls.evalArgs_plain h
end
section
variable {prog : Program} {w : World} {A : Around} {E : Value → Shared → Prop} {h : Heap} {g : Array GenState} {d : Drawn} {t : Nat} {os : OsState} {nm q : Str} {C N : Addr} {bs bm : List Value} {hd : Bool} {sn : List Str} {sub : List Value} {ab : Bool} {col : Option Bool} {dd : Option Addr} {k0 k1 k2 k3 k5 : Option Value}
theorem cbnd {u e t0 : Addr} {rest : List Value} {Q : Value → Shared → Prop} (hbm : HandSPX.refsVE bm = true) (hC : h.get? C = some (excClassObj nm q C N bs bm hd sn sub ab col dd k0 k1 k2 k3 k5 "ValueError.__new__")) (he : h.get? e = some (HandSPX.excO C t0)) (hu : h.get? u = some (bnd e)) (hr : rest.length ≤ sizeLine)
    (hq : ∀ h' t1, (∀ b o, b ≠ e → h.get? b = some o → h'.get? b = some o) → h'.get? e = some (HandSPX.excO C t1) → Q .none ⟨h', g, d, t, os⟩) : wpAny (model prog w) A (call (.ref u) rest) Q E ⟨h, g, d, t, os⟩ := by
  refine wpAny_call (codeAny_of_tree ?_)
  show wpAny _ A.in1 (callAny (.ref u) ⟨rest, []⟩) _ _ _
  simp only [callAny]
  refine wpAny_bind (wpAny_load hu ?_)
  simp only [bnd, show (Value.type "method-wrapper" == Value.type "method" || Value.type "method-wrapper" == Value.type "builtin_function_or_method" || Value.type "method-wrapper" == Value.type "method-wrapper") = true by decide, if_true]
  refine PySem.W.KFB.if_so (by decide) ?_
  have FF := F.excBase_ValueError
  have hst := FF.noStar
  have chk : ∀ {Q : Unit → Shared → Prop} {E : Value → Shared → Prop}, Q () ⟨h, g, d, t, os⟩ → wpAny (model prog w) A.in1 (checkBoundCall "ValueError.__init__" ⟨.ref e :: rest, []⟩) Q E ⟨h, g, d, t, os⟩ := fun {Q E} hq => by
    simp only [checkBoundCall, FF.initKind, FF.initRow]
    repeat (first | (with_reducible refine wpAny_loadPart_at he ?_) | with_reducible refine wpAny_loadPart_at hC ?_ | wp_step)
    refine wpAny_onRaise ?_
    rw [show ∀ (a b : String) (n : Nat), Bind.check ⟨.positional, "*", "ValueError", .self, [⟨"args", .varPos, false⟩]⟩ a b n (List.map (fun x => x.fst) ({ pos := Value.ref e :: rest } : Args).kw) = pure () from fun a b n => check_star_args _ _ _ _ _ _]
    exact wpAny_pure hq
  refine wpAny_bind (chk ?_)
  refine wpAny_bind (wpAny_pure (wpAny_pure ⟨Code.quiet_builtin _ (by decide +kernel), codeAny_builtin FF.initEntry ?_⟩))
  rw [Around.under_plainId FF.init.plain _]
  wp_walk
  refine hq _ h.objs.size (fun b o hb ho => ?_) ?_
  · rw [Heap.get?_update_other _ _ (Ne.symm hb)]
    exact Heap.get?_push_of_some _ ho
  · rw [Heap.get?_update_self _ (Heap.get?_push_of_some _ he) rfl] <;> rfl
end
def sup (q0 q1 q2 q3 q4 : Pos) (args : List Expr) : Stmt := .Expr (.Call (.Attribute (.Call (.Name "super" q0) [] [] q1) "__init__" q2) args [] q3) q4
def sto (f : Str) (r0 r1 r2 r3 : Pos) : Stmt := .Assign [.Attribute (.Name "self" r0) f r1] (.Name f r2) r3
/-- what the written part says of the class at C and of its __init__ at fI, whose fields are fs -/
structure Ini (P : Program) (K : PySem.W.Frag) (C fI : Addr) (fs : List Str) (body : List Stmt) : Prop where
  oex : OexC K C
  xf : XfC K C
  iC : PySem.W.findIn K (.ref C) "__init__" = some (some (.ref fI))
  tI : PySem.W.typeIn K (.ref fI) = some (.type "function")
  al : ∀ cd, PySem.W.clsIn K C = some cd → PySem.W.alongIn K "__init__" ((cd.mro.dropWhile (· != .ref C)).drop 1) = some (some vb)
  sb : PySem.W.mroIn K C (.ref C) = some true
  sv : PySem.W.mroIn K C (.type "ValueError") = some true
  third : PySem.W.nsIn K cStatics "thirdparty.any" = some none
  no : ∀ f ∈ fs, PySem.W.findIn K (.ref C) f = some none
  top : (P.main.scope.names.lookup ("super" : Str)).isSome = false
  ex : ∃ (o : Obj) (fd : FuncData) (cc cda : Addr) (oc occ : Obj) (vs : Array Value) (file : Str) (tf : Tok) (ar : Arg), K.lookup fI = some o ∧ o.data = .func fd ∧ fd.body = .stmts body ∧ fd.closure = [(("__class__" : Str), cc)] ∧ fd.globals = mainGlobals ∧ fd.builtins = builtinsNs ∧ fd.code = .ref cda ∧ PySem.W.codeIn K fd.code fd.qualname = true ∧
    K.lookup cda = some oc ∧ oc.data = .fields vs ∧ vs[2]? = some (.str file tf) ∧ ((P.main.file : Str) == file) = true ∧ K.lookup cc = some occ ∧ occ.data = .cell (some (.ref C)) ∧ (fd.params.posonlyargs ++ fd.params.args).head? = some ar ∧ ar.arg = ("self" : Str) ∧
    fd.scope.kind = .function ∧ fd.scope.isCoroutine = false ∧ fd.scope.isGenerator = false ∧ (∀ x ∈ fd.scope.names, x.2 ≠ .cell) ∧ (∀ f ∈ ("self" : Str) :: fs, fd.scope.names.lookup f = some .local) ∧ fd.scope.names.lookup ("super" : Str) = some .globalImplicit ∧ fd.scope.names.lookup ("__class__" : Str) = some .free ∧
    ∀ us : List Value, us.length = fs.length + 1 → bindArgs fd ⟨us, []⟩ = pure ((("self" : Str) :: fs).zip us)
section
variable {prog : Program} {w : World} {A : Around} {E : Value → Shared → Prop} {h : Heap} {g : Array GenState} {d : Drawn} {t : Nat} {os : OsState} {K : PySem.W.Frag} {C a dx L : Addr} {env : PySem.Env} {m mA : Str → Option Value} {f : Str} {u : Value} {r0 r1 r2 r3 : Pos} {Q : Flow → Shared → Prop}
theorem cls_of (T : OexC K C) : ∃ cd, PySem.W.clsIn K C = some cd ∧ HandSPX.refsVE cd.mro = true ∧ cd.hasDict = true := by
  obtain ⟨nm, q, N, bs, bm, sn, sub, ab, col, dd, k0, k1, k2, k3, k5, hC, hbm⟩ := T.cls
  exact ⟨{ name := nm, bases := bs, mro := .ref C :: bm, ns := N, qualname := q, hasDict := true, slotNames := sn, subclasses := sub, abstract := ab, collection := col, hasDel := false }, by unfold PySem.W.clsIn; rw [hC] <;> rfl, hbm, rfl⟩
/-- env's local names lie at L -/
structure At (env : PySem.Env) (L : Addr) (h : Heap) (m : Str → Option Value) : Prop where
  k : env.scope.kind = .function
  l : env.locals = L
  n : h.Ns L m
theorem At.ld {x : Str} {p : Pos} {v : Value} {Q : Value → Shared → Prop} {M : Model} {s : Shared} (T : At env L s.heap m) (hl : env.kindOf x = some .local) (hm : m x = some v) (hd : (x == ("__debug__" : Str)) = false) (q : Q v s) : wpAny M A (eval (.Name x p) env) Q E s :=
  wpAny_Name (wpAny_loadName_local T.k hl (by rw [T.l]; exact T.n) hm q) hd
theorem ex_new (T : OexC K C) (X : K.In h) (F : At env L h m) (hs : env.kindOf "self" = some .local) (hf : env.kindOf f = some .local) (ms : m "self" = some (.ref a)) (mf : m f = some u) (hd : (f == ("__debug__" : Str)) = false) (hno : PySem.W.findIn K (.ref C) f = some none) {t0 : Addr} (ha : h.get? a = some (HandSPX.excO C t0)) (hL : L ≠ a)
    (q : ∀ h' t' dx, (∀ b o, b ≠ a → h.get? b = some o → h'.get? b = some o) → h.objs.size ≤ dx → dx ≠ a → h'.get? a = some { cls := .ref C, dict := some dx, data := .fields #[.ref t0, .none, .none, .none, .bool false, .none] } → h'.Ns1 dx (fun y => if y = f then some u else none) → Q .next ⟨h', g, d, t', os⟩) :
    wpAny (model prog w) A (exec (sto f r0 r1 r2 r3) env) Q E ⟨h, g, d, t, os⟩ := by
  obtain ⟨cd, hcl, hm, hh⟩ := cls_of T
  unfold sto
  refine plainObj_wpAny_Assign_Attribute (F.ld (s := ⟨h, g, d, t, os⟩) hf mf hd (F.ld (s := ⟨h, g, d, t, os⟩) hs ms (by decide) ?_))
  refine PySem.W.set_plain X (ox := HandSPX.excO C t0) (od := none) ⟨ha, rfl, rfl, trivial⟩ T.sa ?_
  exact HandSPX.exc_osa X ha hcl hm hh hno fun h' tk' dx k dn dne hx hn => q h' tk' dx k dn dne hx hn
theorem ex_old (T : OexC K C) (X : K.In h) (F : At env L h m) (hs : env.kindOf "self" = some .local) (hf : env.kindOf f = some .local) (ms : m "self" = some (.ref a)) (mf : m f = some u) (hd : (f == ("__debug__" : Str)) = false) (hno : PySem.W.findIn K (.ref C) f = some none) {fv : Array Value} (ha : h.get? a = some { cls := .ref C, dict := some dx, data := .fields fv })
    {nl : List Str} (hns : h.Ns1 dx mA) (hw : Within mA nl) (hz : nl.length ≤ 1000) (q : ∀ h' t', (∀ b o, b ≠ dx → h.get? b = some o → h'.get? b = some o) → h'.Ns1 dx (fun y => if y = f then some u else mA y) → Q .next ⟨h', g, d, t', os⟩) :
    wpAny (model prog w) A (exec (sto f r0 r1 r2 r3) env) Q E ⟨h, g, d, t, os⟩ := by
  obtain ⟨cd, hcl, hm, hh⟩ := cls_of T
  obtain ⟨oD, _, _, hoD, _, _⟩ := hns.count hw
  unfold sto
  refine plainObj_wpAny_Assign_Attribute (F.ld (s := ⟨h, g, d, t, os⟩) hf mf hd (F.ld (s := ⟨h, g, d, t, os⟩) hs ms (by decide) ?_))
  refine PySem.W.set_plain X (ox := { cls := .ref C, dict := some dx, data := .fields fv }) (od := some oD) ⟨ha, rfl, rfl, hoD⟩ T.sa ?_
  exact OEX.osa_old X ha hns hw hz hcl hm hh hno fun h' tk' k hn => q h' tk' k hn
end
section
variable {prog : Program} {w : World} {A : Around} {E : Value → Shared → Prop} {h : Heap} {g : Array GenState} {d : Drawn} {t : Nat} {os : OsState} {K : PySem.W.Frag} {C a L fI : Addr} {env : PySem.Env} {m mg mb : Str → Option Value} {q0 q1 q2 q3 q4 : Pos} {Q : Flow → Shared → Prop} {fs : List Str} {body bd : List Stmt} {fd : FuncData}
/-- super().__init__(x, ..): the exception's own args alone change -/
theorem ex_sup (Y : Ini prog K C fI fs body) (X : K.In h) (G : h.Ns mainGlobals mg) (hmg : mg "super" = none) (B : h.Ns builtinsNs mb) (hmb : mb "super" = some (.type "super")) (oF : ∃ o, K.lookup fI = some o ∧ o.data = .func fd) (F : At (callEnv fd L fI) L h m) (ms : m "self" = some (.ref a)) {t0 : Addr} (ha : h.get? a = some (HandSPX.excO C t0)) (haL : a ≠ L) {e : Expr} {es : List Expr} {us : List Value}
    (hargs : ∀ (h1 : Heap) (t1 : Nat) (pos : Pos) (Q1 : List Value → Shared → Prop), h1.Ns L m → Q1 us ⟨h1, g, d, t1, os⟩ → wpAny (model prog w) A (spliced (backTo pos (starEach (e :: es) (callEnv fd L fI)))) Q1 E ⟨h1, g, d, t1, os⟩) (hus : us.length ≤ sizeLine)
    {pl : Sem Bool} (hev : ∀ env : PySem.Env, eval (.Call (.Attribute (.Call (.Name "super" q0) [] [] q1) "__init__" q2) (e :: es) [] q3) env = (do
      let ov ← attributeBase (.Call (.Name "super" q0) [] [] q1) "__init__" env (eval (.Call (.Name "super" q0) [] [] q1) env)
      standAt q2.atName
      let (f, first) ← holding [ov] (getMethod ov "__init__" pl)
      callWith q3 f first (backTo q3 (starEach (e :: es) env)) []))
    (he : starEach (e :: es) (callEnv fd L fI) = (false, eval e (callEnv fd L fI)) :: starEach es (callEnv fd L fI)) (hpl : ∀ pos, (backTo pos (starEach es (callEnv fd L fI))).any (·.1) = false)
    (q : ∀ h' t' t1, (∀ b o, b ≠ a → h.get? b = some o → h'.get? b = some o) → h'.get? a = some (HandSPX.excO C t1) → Q .next ⟨h', g, d, t', os⟩) :
    _root_.PySem.wpAt (model prog w) A (.func bd (callEnv fd L fI)) (exec (sup q0 q1 q2 q3 q4 (e :: es)) (callEnv fd L fI)) Q E ⟨h, g, d, t, os⟩ := by
  obtain ⟨o, fd', cc, cda, oc, occ, vs, file, tf, ar, hlk, hdt, hbd, hcl, hgl, hbl, hcode, hci, hoc, hocd, hvs, hfile, hocc, hoccd, hhead, har, hk, hco, hgen, hnc, hloc, hsup, hcls, hb⟩ := Y.ex
  obtain ⟨o', hlk', hdt'⟩ := oF
  rw [hlk] at hlk'
  cases hlk'
  rw [hdt] at hdt'
  cases hdt'
  obtain ⟨cd, hcd, hm, hh⟩ := cls_of Y.oex
  obtain ⟨nm, qn, N, bs, bm, sn, sub, ab, col, dd, k0, k1, k2, k3, k5, hC, hbm⟩ := Y.oex.cls
  have hCh := X _ _ hC
  unfold sup
  refine ks_wpAt_Expr_any ?_ (by show (fd.scope.kind == .module && _) = false; rw [hk]; rfl) (by rfl)
  refine ks_wpAt_MethodCall (pl := pl) ?_ (hev _)
  refine ks_wpAt_super_base (env := callEnv fd L fI) (f := fI) (cc := cda) (fd := fd) (ar := ar) hsup hcls rfl rfl (X _ _ hlk) hdt hhead hcode (X _ _ hoc) hocd hvs hfile Y.top ?_
  refine PySem.W.ks_loadName_global hk hsup (PySem.Calls.loadGlobal_builtin (by show h.Ns fd.globals _; rw [hgl]; exact G) hmg (by show h.Ns fd.builtins _; rw [hbl]; exact B) hmb ⟨rfl, ?_⟩)
  refine wpAny_loadName_free (env := callEnv fd L fI) hk hcls (by show fd.closure.lookup _ = _; rw [hcl]; rfl) ⟨_, X _ _ hocc, hoccd⟩ ?_
  rw [har]
  refine wpAny_loadName_local (env := callEnv fd L fI) hk (hloc _ List.mem_cons_self) (by rw [F.l]; exact F.n) ms ?_
  refine ks_wpAny_isType_cls hCh rfl ⟨rfl, ?_⟩
  refine ks_wpAny_call_super hCh rfl ha rfl (fun c z => by cases z) (PySem.W.looks_mroIn X Y.sb) fun h1 e1 k1 => ?_
  have hin : PySem.W.Looks (model prog w) h1 (isInstance (.ref a) (.type "ValueError")) true := by
    have I : PySem.W.InstAt h1 a (HandSPX.excO C t0) C none := ⟨k1 _ _ ha, rfl, rfl, trivial⟩
    exact I.type.andThen (PySem.W.looks_mroIn (X.keeps k1) Y.sv)
  have haC : a ≠ C := fun z => by
    rw [z, hCh] at ha
    cases ha
  have hmro : PySem.W.Looks (model prog w) h1 (mroOf (.ref C)) cd.mro := (PySem.W.looks_clsIn (X.keeps k1) hcd).andThen .now
  refine gm e1 (PySem.W.looks_opaque (X.keeps k1) Y.third) hmro rfl (X.keeps k1) (Y.al cd hcd) haC rfl hin ?_
  have k2 : ∀ b o, h1.get? b = some o → (h1.push (bnd a)).get? b = some o := fun b o e => Heap.get?_push_of_some _ e
  refine cwe (x := a) ?_ he (hpl _)
  refine hargs _ _ _ _ ((F.n.keeps k1).keeps k2) ⟨Heap.get?_push_at rfl rfl, ?_⟩
  refine cbnd hbm (k2 _ _ (k1 _ _ hCh)) (k2 _ _ (k1 _ _ ha)) (Heap.get?_push_at rfl rfl) (by simpa using hus) fun h' t1 k3 e3 => ?_
  exact q h' _ t1 (fun b o hb e => k3 b o hb (k2 _ _ (k1 _ _ e))) e3
end
/-- the call's evaluation, whatever the frame -/
def Form (q0 q1 q2 q3 : Pos) (es : List Expr) : Prop := ∃ pl : Sem Bool, ∀ env : PySem.Env, eval (.Call (.Attribute (.Call (.Name "super" q0) [] [] q1) "__init__" q2) es [] q3) env = (do
      let ov ← attributeBase (.Call (.Name "super" q0) [] [] q1) "__init__" env (eval (.Call (.Name "super" q0) [] [] q1) env)
      standAt q2.atName
      let (f, first) ← holding [ov] (getMethod ov "__init__" pl)
      callWith q3 f first (backTo q3 (starEach es env)) [])
section
variable {prog : Program} {w : World} {A : Around} {h : Heap} {g : Array GenState} {d : Drawn} {t : Nat} {os : OsState} {K : PySem.W.Frag} {C a fI : Addr} {mg mb : Str → Option Value} {q0 q1 q2 q3 q4 n1 n2 r0 r1 r2 r3 s0 s1 s2 s3 : Pos} {R : Result → Shared → Prop} {f1 f2 : Str} {u1 u2 : Value}
abbrev xob (C dx t1 : Addr) : Obj := { cls := .ref C, dict := some dx, data := .fields #[.ref t1, .none, .none, .none, .bool false, .none] }
theorem gone {h h2 : Heap} {a dx : Addr} (k : ∀ b o, b ≠ a → h.get? b = some o → h2.get? b = some o) (hs : h2.objs.size ≤ dx) (n : dx ≠ a) : h.get? dx = none := by
  cases e : h.get? dx with
  | none => rfl
  | some o => exact absurd (Heap.lt_size (k dx o n e)) (Nat.not_lt.mpr hs)
theorem init1 (Y : Ini prog K C fI [f1] [sup q0 q1 q2 q3 q4 [.Name f1 n1], sto f1 r0 r1 r2 r3]) (hev : Form q0 q1 q2 q3 [.Name f1 n1]) (hs1 : f1 ≠ "self") (hd1 : (f1 == ("__debug__" : Str)) = false) (hroom : A.depth < recursionLimit)
    (X : K.In h) (G : h.Ns mainGlobals mg) (hmg : mg "super" = none) (B : h.Ns builtinsNs mb) (hmb : mb "super" = some (.type "super")) (hlim : h.NoLimit) {t0 : Addr} (ha : h.get? a = some (HandSPX.excO C t0)) (hKa : K.lookup a = none)
    (q : ∀ h' t' dx t1, (∀ b o, b ≠ a → h.get? b = some o → h'.get? b = some o) → h.get? dx = none → dx ≠ a → h'.get? a = some (xob C dx t1) → h'.Ns1 dx (fun y => if y = f1 then some u1 else none) → R (.ok (.ret .none)) ⟨h', g, d, t', os⟩) :
    codeAny (model prog w) A (.call (.ref fI) ⟨[.ref a, u1], []⟩) R ⟨h, g, d, t, os⟩ := by
  obtain ⟨o, fd, cc, cda, oc, occ, vs, file, tf, ar, hlk, hdt, hbd, hcl, hgl, hbl, hcode, hci, hoc, hocd, hvs, hfile, hocc, hoccd, hhead, har, hk, hco, hgen, hnc, hloc, hsup, hcls, hb⟩ := id Y.ex
  obtain ⟨pl, hev⟩ := hev
  have l0 := hloc _ List.mem_cons_self
  have l1 : fd.scope.names.lookup f1 = some .local := hloc _ (by simp)
  refine ks_codeAny_call_defAt hroom (X _ _ hlk) hdt hlim (PySem.W.codeRec_of X hci) hbd (BindsTo.of_eq (hb [.ref a, u1] rfl)) hnc ?_ (fun h0 hn k0 => ?_) hco hgen hk
  · intro x hx
    have hx : x ∈ [(("self" : Str), Value.ref a), (f1, u1)] := hx
    simp only [List.mem_cons, List.mem_nil_iff, or_false] at hx
    rcases hx with rfl | rfl
    · exact l0
    · exact l1
  · have ms : (fun x => (List.zip (("self" : Str) :: [f1]) [Value.ref a, u1]).reverse.lookup x) "self" = some (.ref a) := by
      show List.lookup ("self" : Str) [(f1, u1), (("self" : Str), Value.ref a)] = _
      have e : (("self" : Str) == f1) = false := by simpa using fun z => hs1 z.symm
      simp [List.lookup, e]
    have m1 : (fun x => (List.zip (("self" : Str) :: [f1]) [Value.ref a, u1]).reverse.lookup x) f1 = some u1 := by
      show List.lookup f1 [(f1, u1), (("self" : Str), Value.ref a)] = _
      simp [List.lookup]
    have haL : a ≠ h.objs.size := Nat.ne_of_lt (Heap.lt_size ha)
    have aF : ∀ {h2 : Heap}, h2.Ns h.objs.size (fun x => (List.zip (("self" : Str) :: [f1]) [Value.ref a, u1]).reverse.lookup x) → At (callEnv fd h.objs.size fI) h.objs.size h2 _ := fun {h2} hn => ⟨hk, rfl, hn⟩
    refine ks_wpAt_execs_cons ?_
    refine ex_sup (us := [u1]) Y (X.keeps k0) (G.keeps k0) hmg (B.keeps k0) hmb ⟨o, hlk, hdt⟩ (aF hn) ms (k0 _ _ ha) haL (fun h1 t1 pos Q1 hn1 hq => ?_) (by simp [sizeLine_eq]) hev (by rfl) (fun _ => by rfl) fun h2 t2 t1 k2 e2 => ?_
    · refine PySem.Calls.spliced_cons ?_
      exact (aF hn1).ld (s := ⟨h1, g, d, t1, os⟩) l1 m1 hd1 (PySem.Calls.spliced_nil hq)
    · have F2 := hn.at fun o e => k2 _ o haL.symm e
      have X2 : K.In h2 := fun b o e => k2 b o (fun z => by rw [z, hKa] at e; cases e) (k0 _ _ (X _ _ e))
      refine _root_.PySem.wpAt_of_wpAny (wpAny_execs_cons ?_)
      refine ex_new Y.oex X2 (aF F2) l0 l1 ms m1 hd1 (Y.no _ (by simp)) e2 haL.symm fun h3 t3 dx k3 hdx dxa e3 n3 => wpAny_execs_nil ?_
      exact q h3 t3 dx t1 (fun b o hb e => k3 b o hb (k2 b o hb (k0 b o e))) (gone (fun b o hb e => k2 b o hb (k0 b o e)) hdx dxa) dxa e3 n3
theorem init2 (Y : Ini prog K C fI [f1, f2] [sup q0 q1 q2 q3 q4 [.Name f1 n1, .Name f2 n2], sto f1 r0 r1 r2 r3, sto f2 s0 s1 s2 s3]) (hev : Form q0 q1 q2 q3 [.Name f1 n1, .Name f2 n2]) (hs1 : f1 ≠ "self") (hs2 : f2 ≠ "self") (h12 : f1 ≠ f2) (hd1 : (f1 == ("__debug__" : Str)) = false) (hd2 : (f2 == ("__debug__" : Str)) = false) (hroom : A.depth < recursionLimit)
    (X : K.In h) (G : h.Ns mainGlobals mg) (hmg : mg "super" = none) (B : h.Ns builtinsNs mb) (hmb : mb "super" = some (.type "super")) (hlim : h.NoLimit) {t0 : Addr} (ha : h.get? a = some (HandSPX.excO C t0)) (hKa : K.lookup a = none)
    (q : ∀ h' t' dx t1, (∀ b o, b ≠ a → h.get? b = some o → h'.get? b = some o) → h.get? dx = none → dx ≠ a → h'.get? a = some (xob C dx t1) → h'.Ns1 dx (fun y => if y = f2 then some u2 else if y = f1 then some u1 else none) → R (.ok (.ret .none)) ⟨h', g, d, t', os⟩) :
    codeAny (model prog w) A (.call (.ref fI) ⟨[.ref a, u1, u2], []⟩) R ⟨h, g, d, t, os⟩ := by
  obtain ⟨o, fd, cc, cda, oc, occ, vs, file, tf, ar, hlk, hdt, hbd, hcl, hgl, hbl, hcode, hci, hoc, hocd, hvs, hfile, hocc, hoccd, hhead, har, hk, hco, hgen, hnc, hloc, hsup, hcls, hb⟩ := id Y.ex
  obtain ⟨pl, hev⟩ := hev
  have l0 := hloc _ List.mem_cons_self
  have l1 : fd.scope.names.lookup f1 = some .local := hloc _ (by simp)
  have l2 : fd.scope.names.lookup f2 = some .local := hloc _ (by simp)
  refine ks_codeAny_call_defAt hroom (X _ _ hlk) hdt hlim (PySem.W.codeRec_of X hci) hbd (BindsTo.of_eq (hb [.ref a, u1, u2] rfl)) hnc ?_ (fun h0 hn k0 => ?_) hco hgen hk
  · intro x hx
    have hx : x ∈ [(("self" : Str), Value.ref a), (f1, u1), (f2, u2)] := hx
    simp only [List.mem_cons, List.mem_nil_iff, or_false] at hx
    rcases hx with rfl | rfl | rfl
    · exact l0
    · exact l1
    · exact l2
  · have e1 : (("self" : Str) == f1) = false := by simpa using fun z => hs1 z.symm
    have e2 : (("self" : Str) == f2) = false := by simpa using fun z => hs2 z.symm
    have e3 : (f1 == f2) = false := by simpa using h12
    have ms : (fun x => (List.zip (("self" : Str) :: [f1, f2]) [Value.ref a, u1, u2]).reverse.lookup x) "self" = some (.ref a) := by
      show List.lookup ("self" : Str) [(f2, u2), (f1, u1), (("self" : Str), Value.ref a)] = _
      simp [List.lookup, e1, e2]
    have m1 : (fun x => (List.zip (("self" : Str) :: [f1, f2]) [Value.ref a, u1, u2]).reverse.lookup x) f1 = some u1 := by
      show List.lookup f1 [(f2, u2), (f1, u1), (("self" : Str), Value.ref a)] = _
      simp [List.lookup, e3]
    have m2 : (fun x => (List.zip (("self" : Str) :: [f1, f2]) [Value.ref a, u1, u2]).reverse.lookup x) f2 = some u2 := by
      show List.lookup f2 [(f2, u2), (f1, u1), (("self" : Str), Value.ref a)] = _
      simp [List.lookup]
    have haL : a ≠ h.objs.size := Nat.ne_of_lt (Heap.lt_size ha)
    have aF : ∀ {h2 : Heap}, h2.Ns h.objs.size (fun x => (List.zip (("self" : Str) :: [f1, f2]) [Value.ref a, u1, u2]).reverse.lookup x) → At (callEnv fd h.objs.size fI) h.objs.size h2 _ := fun {h2} hn => ⟨hk, rfl, hn⟩
    refine ks_wpAt_execs_cons ?_
    refine ex_sup (us := [u1, u2]) Y (X.keeps k0) (G.keeps k0) hmg (B.keeps k0) hmb ⟨o, hlk, hdt⟩ (aF hn) ms (k0 _ _ ha) haL (fun h1 t1 pos Q1 hn1 hq => ?_) (by simp [sizeLine_eq]) hev (by rfl) (fun _ => by rfl) fun h2 t2 t1 k2 e2 => ?_
    · refine PySem.Calls.spliced_cons ?_
      refine (aF hn1).ld (s := ⟨h1, g, d, t1, os⟩) l1 m1 hd1 (PySem.Calls.spliced_cons ?_)
      exact (aF hn1).ld (s := ⟨h1, g, d, t1, os⟩) l2 m2 hd2 (PySem.Calls.spliced_nil hq)
    · have F2 := hn.at fun o e => k2 _ o haL.symm e
      have X2 : K.In h2 := fun b o e => k2 b o (fun z => by rw [z, hKa] at e; cases e) (k0 _ _ (X _ _ e))
      have hL2 : ∃ oL, h2.get? h.objs.size = some oL := by
        obtain ⟨oL, _, _, z, _⟩ := F2
        exact ⟨oL, z⟩
      refine _root_.PySem.wpAt_of_wpAny (wpAny_execs_cons ?_)
      refine ex_new Y.oex X2 (aF F2) l0 l1 ms m1 hd1 (Y.no _ (by simp)) e2 haL.symm fun h3 t3 dx k3 hdx dxa e3 n3 => wpAny_execs_cons ?_
      have dx2 : ∀ b o, h2.get? b = some o → b ≠ dx := fun b o e z => absurd (Heap.lt_size e) (by rw [z]; exact Nat.not_lt.mpr hdx)
      have F3 := F2.at fun o e => k3 _ o haL.symm e
      have X3 : K.In h3 := fun b o e => k3 b o (fun z => by rw [z, hKa] at e; cases e) (X2 _ _ e)
      have hw : Within (fun y => if y = f1 then some u1 else none) [f1] := fun y hy => by
        by_cases z : y = f1
        · rw [z]; exact List.mem_cons_self
        · exact absurd (if_neg z) hy
      refine ex_old Y.oex X3 (aF F3) l0 l2 ms m2 hd2 (Y.no _ (by simp)) e3 n3 hw (by simp) fun h4 t4 k4 n4 => wpAny_execs_nil ?_
      exact q h4 t4 dx t1 (fun b o hb e => k4 b o (dx2 b o (k2 b o hb (k0 b o e))) (k3 b o hb (k2 b o hb (k0 b o e)))) (gone (fun b o hb e => k2 b o hb (k0 b o e)) hdx dxa) dxa (k4 _ _ (fun z => dxa z.symm) e3) n4
end
end Ve
end DV
namespace DV
open PySem PySem.Spec PyProof.Rows L2
/-- C's __init__ with the fields fs, called on a new exception -/
def InitOk (P : Program) (w : World) (K : PySem.W.Frag) (C fI : Addr) (fs : List Str) : Prop :=
  ∀ (A : Around) (h : Heap) (g : Array GenState) (d : Drawn) (t : Nat) (os : OsState) (mg mb : Str → Option Value) (a t0 : Addr) (us : List Value) (R : Result → Shared → Prop), us.length = fs.length → A.depth < recursionLimit → K.In h → h.Ns mainGlobals mg → mg "super" = none → h.Ns builtinsNs mb → mb "super" = some (.type "super") → h.NoLimit → h.get? a = some (HandSPX.excO C t0) → K.lookup a = none →
    (∀ h' t' dx t1 mA, (∀ b o, b ≠ a → h.get? b = some o → h'.get? b = some o) → h.get? dx = none → dx ≠ a → h'.get? a = some (Ve.xob C dx t1) → h'.Ns1 dx mA → (∀ y, mA y = (fs.zip us).lookup y) → R (.ok (.ret .none)) ⟨h', g, d, t', os⟩) → codeAny (model P w) A (.call (.ref fI) ⟨.ref a :: us, []⟩) R ⟨h, g, d, t, os⟩
/-- what a class of errors has -/
structure ErrOk (P : Program) (w : World) (K : PySem.W.Frag) (C fI : Addr) (fs : List Str) : Prop where
  oex : OexC K C
  xf : XfC K C
  iC : PySem.W.findIn K (.ref C) "__init__" = some (some (.ref fI))
  tI : PySem.W.typeIn K (.ref fI) = some (.type "function")
  no : ∀ f ∈ fs, PySem.W.findIn K (.ref C) f = some none
  run : InitOk P w K C fI fs
section
variable {P : Program} {w : World} {K : PySem.W.Frag} {C fI : Addr} {f1 f2 : Str} {q0 q1 q2 q3 q4 n1 n2 r0 r1 r2 r3 s0 s1 s2 s3 : Pos}
theorem err1 (Y : Ve.Ini P K C fI [f1] [Ve.sup q0 q1 q2 q3 q4 [.Name f1 n1], Ve.sto f1 r0 r1 r2 r3]) (hev : Ve.Form q0 q1 q2 q3 [.Name f1 n1]) (hs1 : f1 ≠ "self") (hd1 : (f1 == ("__debug__" : Str)) = false) : ErrOk P w K C fI [f1] := by
  refine ⟨Y.oex, Y.xf, Y.iC, Y.tI, Y.no, fun A h g d t os mg mb a t0 us R hl hr X G hmg B hmb hlim ha hKa q => ?_⟩
  obtain ⟨u1, rfl⟩ := List.length_eq_one_iff.mp hl
  refine Ve.init1 Y hev hs1 hd1 hr X G hmg B hmb hlim ha hKa fun h' t' dx t1 k n na e ns => q h' t' dx t1 _ k n na e ns fun y => ?_
  show _ = List.lookup y [(f1, u1)]
  by_cases z : y = f1
  · subst z; simp [List.lookup]
  · have z' : (y == f1) = false := by simpa using z
    simp [List.lookup, z, z']
theorem err2 (Y : Ve.Ini P K C fI [f1, f2] [Ve.sup q0 q1 q2 q3 q4 [.Name f1 n1, .Name f2 n2], Ve.sto f1 r0 r1 r2 r3, Ve.sto f2 s0 s1 s2 s3]) (hev : Ve.Form q0 q1 q2 q3 [.Name f1 n1, .Name f2 n2]) (hs1 : f1 ≠ "self") (hs2 : f2 ≠ "self") (h12 : f1 ≠ f2) (hd1 : (f1 == ("__debug__" : Str)) = false) (hd2 : (f2 == ("__debug__" : Str)) = false) : ErrOk P w K C fI [f1, f2] := by
  refine ⟨Y.oex, Y.xf, Y.iC, Y.tI, Y.no, fun A h g d t os mg mb a t0 us R hl hr X G hmg B hmb hlim ha hKa q => ?_⟩
  obtain ⟨u1, us, rfl⟩ : ∃ u1 r, us = u1 :: r := by cases us with
    | nil => cases hl
    | cons u r => exact ⟨u, r, rfl⟩
  obtain ⟨u2, rfl⟩ := List.length_eq_one_iff.mp (show us.length = 1 by simpa using hl)
  refine Ve.init2 Y hev hs1 hs2 h12 hd1 hd2 hr X G hmg B hmb hlim ha hKa fun h' t' dx t1 k n na e ns => q h' t' dx t1 _ k n na e ns fun y => ?_
  show _ = List.lookup y [(f1, u1), (f2, u2)]
  by_cases z : y = f1
  · subst z
    have z' : ¬ y = f2 := h12
    simp [List.lookup, z']
  · have z' : (y == f1) = false := by simpa using z
    by_cases y2 : y = f2
    · subst y2; simp [List.lookup, z']
    · have y3 : (y == f2) = false := by simpa using y2
      simp [List.lookup, z, z', y2, y3]
end
theorem relO_zip {fs : List Str} : ∀ {vs : List V} {us : List Value}, Vals vs us → ∀ y, RelO ((fs.zip vs).lookup y) ((fs.zip us).lookup y) := by
  induction fs with
  | nil => intro vs us r y; exact True.intro
  | cons f fs ih =>
    intro vs us r y
    cases r with
    | nil => exact True.intro
    | @cons v u vs us rv rr =>
      show RelO (((f, v) :: fs.zip vs).lookup y) (((f, u) :: fs.zip us).lookup y)
      cases z : (y == f) with
      | true =>
        simp only [List.lookup, z]
        exact rv
      | false =>
        simp only [List.lookup, z]
        exact ih rr y
def sRaise (c n : Nat) (ml : DEn (List D)) : SD := fun env h => (ml env h).toS env fun ds h1 => if ds.length = n then .exc c ds env h1 else .bad
section
variable {X : Cx} {T : Tabs} {W : XWS} {wx : WX} {k : Nat} {c n : Nat} {C fI : Addr} {x : Str} {p pos pos' : Pos} {e : Expr} {es : List Expr} {ml : DEn (List D)}
/-- C(e, ..) made, to be raised -/
theorem pmk_err {fs : List Str} {ta : TA} (O : ErrOk X.prog X.w X.K C fI fs) (hr : Room k X.A) (hg : Gl X x) (hm : X.mg x = some (.ref C)) (hsup : X.mg "super" = none) (ha : PA X (e :: es) ta) (hdb : (x == ("__debug__" : Str)) = false) (he : starEach (e :: es) X.env = (false, eval e X.env) :: starEach es X.env) (hpl : (backTo pos (starEach es X.env)).any (·.1) = false) :
    PMk X (.Call (.Name x p) (e :: es) [] pos) (fun σ H Q => ta σ H fun vs H1 => vs.length = fs.length ∧ vs.length ≤ 1000 ∧ ∀ dx, H1 dx = none → Q (.ref C) (some dx) (upd H1 dx (.xd (fs.zip vs)))) := by
  intro pins s σ H Q I h
  have T := O.oex
  obtain ⟨nm, q, N, bs, bm, sn, sub, ab, col, dd, k0, k1, k2, k3, k5, hC, hbm⟩ := T.cls
  refine wpAny_Call_Name_kw (ld_glob I hg hm ?_ hdb)
  refine PySem.W.callWith_K (h₀ := X.base) I.ok.mod.kin T.kC (thn (ha.run pos pins s σ H _ I h) fun us s1 ⟨vs, H1, I1, r1, hlen, hz, q1⟩ => ⟨I1.kIn, ?_⟩) he hpl
  show wpAny _ _ (call (.ref C) us) _ _ _
  obtain ⟨hp, g, dr, tk, os⟩ := s1
  have hus : us.length = vs.length := (Paired.length r1).symm
  have kk : ∀ b o, hp.get? b = some o → ((hp.push (PySem.W.kdv_tup us)).push (HandSPX.excO C hp.objs.size)).get? b = some o := fun b o e => Heap.get?_push_of_some _ (Heap.get?_push_of_some _ e)
  have hget : ((hp.push (PySem.W.kdv_tup us)).push (HandSPX.excO C hp.objs.size)).get? (hp.objs.size + 1) = some (HandSPX.excO C hp.objs.size) := by heap_get
  have hn : hp.get? (hp.objs.size + 1) = none := by
    cases z : hp.get? (hp.objs.size + 1) with
    | none => rfl
    | some o => exact absurd (Heap.lt_size z) (Nat.not_lt.mpr (Nat.le_succ _))
  have hKa : X.K.lookup (hp.objs.size + 1) = none := by
    cases z : X.K.lookup (hp.objs.size + 1) with
    | none => rfl
    | some o =>
      have z2 := I1.kIn _ _ z
      rw [hn] at z2
      cases z2
  have st : ∀ b o, X.base.get? b = some o → ((hp.push (PySem.W.kdv_tup us)).push (HandSPX.excO C hp.objs.size)).get? b = some o := fun b o e => kk b o (I1.bs b o e).1
  obtain ⟨mb, hmb, hbb⟩ := I1.ok.mod.blt
  have hbs : mb "super" = some (.type "super") := (hbb _ (by decide)).trans (by rfl)
  refine wpAny_call (HandSPX.call_own F.excBase_ValueError (fun Y => HandSPX.refsVE_contains Y bm hbm) (I1.kIn _ _ hC) (PySem.W.looks_findIn I1.kIn O.iC) (fun self => PySem.W.bind_fn I1.kIn self O.tI) (by rw [hus]; exact Nat.le_trans hz (by rw [sizeLine_eq]; decide)) ?_)
  refine O.run _ _ g dr tk os X.mg mb (hp.objs.size + 1) hp.objs.size us _ (hus.trans hlen) (by rw [make_depth]; have := hr.dp; omega) (I1.kIn.keeps kk) (I1.ok.mod.glob.keeps st) hsup (hmb.keeps st) hbs (I1.ok.mod.nolimit.keeps st) hget hKa fun h' t' dx t1 mA k2 n2 na e2 ns rel => ⟨rfl, ?_⟩
  have hdx : hp.get? dx = none := by
    cases z : hp.get? dx with
    | none => rfl
    | some o =>
      have z2 := kk _ _ z
      rw [n2] at z2
      cases z2
  have hH : H1 dx = none := I1.hok.gone hdx
  obtain ⟨G, g1, g2⟩ := restrict h' fun b => decide (b ≠ hp.objs.size + 1)
  have gk : ∀ b, b ≠ hp.objs.size + 1 → G.get? b = h'.get? b := fun b hb => g1 b (decide_eq_true hb)
  have ge : G.get? (hp.objs.size + 1) = none := g2 _ (by simp)
  have kG : ∀ b o, hp.get? b = some o → G.get? b = some o := fun b o e => by
    have hb : b ≠ hp.objs.size + 1 := fun z => by rw [z, hn] at e; cases e
    rw [gk b hb]
    exact k2 b o hb (kk b o e)
  have J : Inv X pins σ (upd H1 dx (.xd (fs.zip vs))) ⟨G, g, dr, t', os⟩ := L2.Inv.laidN (t' := t') (h' := G) I1 kG hdx hH ⟨mA, ns.at fun o y => (gk dx na).trans y, fun y => by rw [rel y]; exact relO_zip r1 y⟩
  refine ⟨hp.objs.size + 1, _, _, ⟨G, g, dr, t', os⟩, _, .ref C, some dx, rfl, J, fun b o z => ?_, ge, e2, ⟨rfl, rfl⟩, rfl, rfl, ?_, rfl, I1.bare, raises_own T.exC T.tyC, q1 dx hH⟩
  · by_cases hb : b = hp.objs.size + 1
    · rw [hb, ge] at z; cases z
    · exact (gk b hb).symm.trans z
  · rw [upd_ne (Ne.symm na)]
    exact I1.hok.gone hn
theorem s_raise {fs : List Txt} (hcalm : X.calm = true) (tk : Takes X wx) (lw : Links T (gx X) W wx) (O : ErrOk X.prog X.w X.K C fI (fs.map sOf)) (hC : C = He.ga X.K (sOf (T.ename c))) (hf : T.eflds c = fs) (hn : fs.length = n) (h1000 : n ≤ 1000) (hr : Room k X.A) (hg : Gl X x) (hm : X.mg x = some (.ref C)) (hsup : X.mg "super" = none)
    (ha : PA X (e :: es) (TDL (gx X) W ml)) (hdb : (x == ("__debug__" : Str)) = false) (he : starEach (e :: es) X.env = (false, eval e X.env) :: starEach es X.env) (hpl : (backTo pos (starEach es X.env)).any (·.1) = false) :
    PS X (.Raise (some (.Call (.Name x p) (e :: es) [] pos)) none pos') (TDS (gx X) W (sRaise c n ml)) := by
  refine (ps_raise hcalm tk (pmk_err O hr hg hm hsup ha hdb he hpl)).weak fun E σ H q => ?_
  have q2 := TDS.split (rel := RepL (gx X)) (k := fun ds env h1 => if ds.length = n then .exc c ds env h1 else .bad) q
  obtain ⟨μ, env, h, S, er, P⟩ := q2
  refine ⟨μ, env, h, S, er, P.imp ?_⟩
  rintro vs H1 ⟨μ1, ds, env1, h1, S1, er1, r1, p1⟩
  split at p1
  · rename_i hl
    have hlv : vs.length = n := by rw [r1.length]; exact hl
    refine ⟨by rw [List.length_map, hn]; exact hlv, by omega, fun dx hdx => ?_⟩
    have p2 : W σ μ1 H1 c ds h1 := p1 μ1 H1 σ S1 .refl er1
    have p3 := lw σ μ1 H1 c ds h1 S1 p2 dx vs hdx r1
    rw [hf] at p3
    rw [hC]
    exact p3
  · exact p1.elim
end
/-- an element of the tuple: a constant, the caught exception's j-th field -/
inductive SufE where
  | con (d : D)
  | fld (j : Nat)
def SufE.d (as : List D) : SufE → Option D
  | .con d => some d
  | .fld j => as[j]?
def sufD (as : List D) (els : List SufE) : Option (List D) := els.mapM (SufE.d as)
/-- a constant as value -/
def cstV : D → Option V
  | .non => some .non
  | .bl b => some (.bl b)
  | .int i => some (.int i)
  | .str t => some (.str (sOf t))
  | _ => none
theorem cstV_rep {G : GX} {H : Hp} {μ : List Addr} : ∀ {d : D} {v : V}, cstV d = some v → Rep G H μ d v := by
  intro d v e
  cases d <;> first | (cases e; unfold Rep; rfl) | cases e
def SufE.v (vs : List V) : SufE → Option V
  | .con d => cstV d
  | .fld j => vs[j]?
def sufV (vs : List V) : List SufE → Option (List V)
  | [] => some []
  | e :: r => match e.v vs, sufV vs r with
    | some v, some l => some (v :: l)
    | _, _ => none
/-- all constants are constants -/
def SufE.ok : SufE → Bool
  | .con d => (cstV d).isSome
  | .fld _ => true
def sufOk (els : List SufE) : Bool := els.all SufE.ok
theorem suf_rep {G : GX} {H : Hp} {μ : List Addr} {as : List D} {vs : List V} (r : RepL G H μ as vs) : ∀ {els : List SufE} {ds : List D}, sufOk els = true → sufD as els = some ds → ∃ ws, sufV vs els = some ws ∧ RepL G H μ ds ws
  | [], ds, _, e => by
    cases e
    exact ⟨[], rfl, by unfold RepL; rfl⟩
  | x :: t, ds, ok, e => by
    obtain ⟨o1, o2⟩ := Bool.and_eq_true_iff.mp (show (x.ok && sufOk t) = true from ok)
    unfold sufD at e
    rw [List.mapM_cons] at e
    cases h1 : x.d as with
    | none => rw [h1] at e; cases e
    | some d =>
      rw [h1] at e
      cases h2 : t.mapM (SufE.d as) with
      | none => rw [h2] at e; cases e
      | some l =>
        rw [h2] at e
        cases e
        obtain ⟨ws, q1, q2⟩ := suf_rep r o2 h2
        have hv : ∃ v, x.v vs = some v ∧ Rep G H μ d v := by
          cases x with
          | con d' =>
            cases h1
            obtain ⟨v, hv⟩ := Option.isSome_iff_exists.mp o1
            exact ⟨v, hv, cstV_rep hv⟩
          | fld j => exact r.get h1
        obtain ⟨v, q3, q4⟩ := hv
        refine ⟨v :: ws, ?_, by unfold RepL; exact ⟨v, ws, rfl, q4, q2⟩⟩
        unfold sufV
        rw [q3, q1]
section
variable {X : Cx} {a C : Addr} {oe : Obj} {cls : Value} {d : Option Addr} {pn : List (Addr × Obj)} {i : Nat} {fs : List Str} {e : Expr} {es : List Expr} {el : SufE} {els : List SufE} {pos p : Pos} {n f : Str} {c : V} {dd : D} {j : Nat}
/-- the slots and the heap as the suite has them: the exception a of the class at C, its fields' values -/
def SufH (C a : Addr) (cls : Value) (d : Option Addr) (i : Nat) (fs : List Str) (vs : List V) (σ : L2.St) (H : Hp) : Prop := σ[i]? = some (some (.ref a)) ∧ cls = .ref C ∧ ∃ dx, d = some dx ∧ H dx = some (.xd (fs.zip vs)) ∧ vs.length = fs.length
def tSufE (C a : Addr) (cls : Value) (d : Option Addr) (i : Nat) (fs : List Str) (el : SufE) : TE := fun σ H Q => ∃ vs v, SufH C a cls d i fs vs σ H ∧ el.v vs = some v ∧ Q v H
def tSufL (C a : Addr) (cls : Value) (d : Option Addr) (i : Nat) (fs : List Str) (els : List SufE) : TA := fun σ H Q => ∃ vs ws, SufH C a cls d i fs vs σ H ∧ sufV vs els = some ws ∧ Q ws H
theorem suf_con {v : V} (he : PE (X.suite a ((a, oe) :: pn)) e (tC v)) (hv : cstV dd = some v) : PE (X.suite a ((a, oe) :: pn)) e (tSufE C a cls d i fs (.con dd)) := he.weak fun σ H Q ⟨vs, v', _, e, q⟩ => by
  have e' : cstV dd = some v' := e
  rw [hv] at e'
  cases e'
  exact q
theorem lookup_zip_get : ∀ {fs : List Str} {vs : List V} {j : Nat} {f : Str} {v : V}, fs.Nodup → fs[j]? = some f → vs[j]? = some v → (fs.zip vs).lookup f = some v
  | [], _, _, _, _, _, h, _ => by simp at h
  | g :: fs, [], _, _, _, _, _, h => by simp at h
  | g :: fs, w :: vs, 0, f, v, _, h1, h2 => by
    simp at h1 h2
    subst h1 h2
    simp [List.lookup]
  | g :: fs, w :: vs, j + 1, f, v, nd, h1, h2 => by
    rw [List.nodup_cons] at nd
    have ne : (f == g) = false := by
      have : f ≠ g := fun z => nd.1 (z ▸ List.mem_of_getElem? h1)
      simpa using this
    show List.lookup f ((g, w) :: fs.zip vs) = some v
    simp only [List.lookup, ne]
    exact lookup_zip_get nd.2 (by simpa using h1) (by simpa using h2)
theorem suf_fld (T : XfC X.K C) (hno : PySem.W.findIn X.K (.ref C) f = some none) (hz : Zc cls d oe) (hf : ∃ vs, oe.data = .fields vs) (hnd : fs.Nodup) (hj : fs[j]? = some f) (he : PE (X.suite a ((a, oe) :: pn)) e (tVar i)) (hb : attributeBase e f X.env (eval e X.env) = eval e X.env) :
    PE (X.suite a ((a, oe) :: pn)) (.Attribute e f pos) (tSufE C a cls d i fs (.fld j)) := by
  refine (pe_xf T hno hz hf he hb).weak fun σ H Q ⟨vs, v, ⟨h1, h2, dx, h3, h4, h5⟩, e, q⟩ => ?_
  exact ⟨_, h1, rfl, h2, dx, _, v, h3, h4, lookup_zip_get hnd hj e, q⟩
theorem suf_nil : PA (X.suite a ((a, oe) :: pn)) [] (tSufL C a cls d i fs []) := pa_nil.weak fun σ H Q ⟨vs, ws, _, e, q⟩ => by
  cases e
  exact q
theorem suf_cons (he : PE (X.suite a ((a, oe) :: pn)) e (tSufE C a cls d i fs el)) (hr : PA (X.suite a ((a, oe) :: pn)) es (tSufL C a cls d i fs els)) (hs : starEach (e :: es) X.env = (false, eval e X.env) :: starEach es X.env) : PA (X.suite a ((a, oe) :: pn)) (e :: es) (tSufL C a cls d i fs (el :: els)) := by
  refine (pa_cons he hr hs).weak fun σ H Q ⟨vs, ws, hh, e, q⟩ => ?_
  unfold sufV at e
  split at e
  · rename_i v l e1 e2
    cases e
    exact ⟨vs, v, hh, e1, vs, l, hh, e2, q⟩
  · cases e
/-- the suite's return -/
def tSufR (C a : Addr) (cls : Value) (d : Option Addr) (i : Nat) (fs : List Str) (els : List SufE) : TS := fun E σ H => ∃ vs ws, SufH C a cls d i fs vs σ H ∧ sufV vs els = some ws ∧ ws.length ≤ sizeLine ∧ ∀ b, H b = none → E.rt (.ref b) (upd H b (.tup ws))
def tSufT (C a : Addr) (cls : Value) (d : Option Addr) (i : Nat) (fs : List Str) (els : List SufE) : TE := fun σ H Q => ∃ vs ws, SufH C a cls d i fs vs σ H ∧ sufV vs els = some ws ∧ ws.length ≤ sizeLine ∧ ∀ b, H b = none → Q (.ref b) (upd H b (.tup ws))
theorem suf_tup {k} (hl : PA (X.suite a ((a, oe) :: pn)) es (tSufL C a cls d i fs els)) : PE (X.suite a ((a, oe) :: pn)) (.Tuple es k pos) (tSufT C a cls d i fs els) :=
  (pe_tup hl).weak fun σ H Q ⟨vs, ws, h1, h2, h3, h4⟩ => ⟨vs, ws, h1, h2, h3, h4⟩
theorem suf_ret (he : PE (X.suite a ((a, oe) :: pn)) e (tSufT C a cls d i fs els)) : PSs (X.suite a ((a, oe) :: pn)) [.Return (some e) pos] (tSufR C a cls d i fs els) :=
  (pss_one (ps_ret he)).weak fun E σ H ⟨vs, ws, h1, h2, h3, h4⟩ => ⟨vs, ws, h1, h2, h3, h4⟩
end
/-- what an exception of class c0 becomes -/
def sTry (mb : SD) (N c0 n i : Nat) (els : List SufE) : SD := fun env h => match mb env h with
  | .exc c a env1 h1 => if c < N then (if c = c0 then (match sufD a els with
    | some ds => if ds.length < big ∧ a.length = n ∧ i < env1.length then .rt (.tup ds) h1 else .bad
    | none => .bad) else .exc c a env1 h1) else .bad
  | r => r
section
variable {X : Cx} {T : Tabs} {W : XWS} {wx : WX} {N c0 i : Nat} {C : Addr} {x n : Str} {np pos pos' : Pos} {body : List Stmt} {es : List Expr} {e : Expr} {els : List SufE} {mb : SD} {fs : List Txt} {b₀ : Stmt}
theorem s_try (hs : X.stack = X.env :: X.outer) (hf : X.env.frame = some X.env.locals) (hN : X.N.Nodup) (hi : X.N[i]? = some n) (hln : X.env.kindOf n = some .local) (hc : Names X x (.ref C)) (tk : Takes X wx) (lw : Links T (gx X) W wx) (hC : C = He.ga X.K (sOf (T.ename c0))) (hfs : T.eflds c0 = fs) (hok : sufOk els = true)
    (hx : ∀ c, c < N → PySem.W.exmOne X.K (.ref (He.ga X.K (sOf (T.ename c)))) (.ref C) = some (decide (c = c0)))
    (hb : ∀ (W' : XWS) (w' : WX) (pn : List (Addr × Obj)) (xe : Value → Shared → Prop), Takes (X.tr pn xe) w' → Links T (gx X) W' w' → PassesOwn (model X.prog X.w) X.A X.env xe → PSs (X.tr pn xe) body (TDS (gx X) W' mb))
    (hsu : ∀ (a : Addr) (oe : Obj) (cls : Value) (d : Option Addr) (pn : List (Addr × Obj)), Zc cls d oe → (∃ vs, oe.data = .fields vs) → PSs (X.suite a ((a, oe) :: pn)) [b₀] (tSufR C a cls d i (fs.map sOf) els)) :
    PS X (.Try body [.ExceptHandler (some (.Name x np)) (some n) [b₀] pos'] [] [] pos) (TDS (gx X) W (sTry mb N c0 fs.length i els)) := by
  refine (ps_try_as (tb := fun w' E σ H => ∃ W', Links T (gx X) W' w' ∧ TDS (gx X) W' mb E σ H) (ts := fun a cls d => tSufR C a cls d i (fs.map sOf) els) (Wout := wx) hs hf hN hi hln hc tk (fun w' pn xe tk' pas => ?_) hsu).weak fun E σ H q => ?_
  · exact ⟨fun pins s σ H E I ⟨W', l', q⟩ => (hb W' w' pn xe tk' l' pas).run pins s σ H E I q⟩
  · obtain ⟨μ, env, h, S, er, P⟩ := q
    let W' : XWS := fun σ' μ' H' c a h' => c < N ∧ if c = c0 then (a.length = fs.length ∧ i < σ'.length) ∧ ∃ ds, sufD a els = some ds ∧ ds.length < big ∧ SPost (gx X) W μ' H' (.rt (.tup ds) h') E else W σ' μ' H' c a h'
    refine ⟨W', fun σ' μ' H' c a h' S' w' dx vs hdx rl => ?_, μ, env, h, S, er, ?_⟩
    · obtain ⟨hcN, w'⟩ := w'
      refine ⟨_, hx c hcN, fun ht ax hax => ?_, fun hf => ?_⟩
      · have ec : c = c0 := of_decide_eq_true ht
        subst ec
        rw [if_pos rfl] at w'
        obtain ⟨⟨hla, hil⟩, ds, e1, e2, p⟩ := w'
        obtain ⟨ws, v1, v2⟩ := suf_rep rl hok e1
        have x1 : Ext μ' H' μ' (upd H' dx (.xd (((T.eflds c).map sOf).zip vs))) := Ext.tupled S' hdx
        have S1 : SRep (gx X) μ' h' (upd H' dx (.xd (((T.eflds c).map sOf).zip vs))) := S'.tupled hdx
        refine ⟨vs, ws, ⟨List.getElem?_set_self hil, by rw [hC] <;> rfl, dx, rfl, by rw [upd_same, hfs], by rw [rl.length, List.length_map]; exact hla⟩, v1, by rw [v2.length, big_eq]; exact Nat.le_of_lt e2, fun b hb => ?_⟩
        exact p μ' _ (.ref b) (S1.tupled hb) (x1.trans (Ext.tupled S1 hb)) (by unfold Rep; exact ⟨b, ws, rfl, .inl (.inl upd_same), (v2.ext x1).ext (Ext.tupled S1 hb)⟩)
      · have ec : ¬ c = c0 := of_decide_eq_false hf
        rw [if_neg ec] at w'
        exact lw σ' μ' H' c a h' S' w' dx vs hdx rl
    · unfold sTry at P
      split at P
      · rename_i c a env1 h1 e1
        rw [e1]
        intro μ' H' σ' S' x' er'
        split at P
        · rename_i hcN
          refine ⟨hcN, ?_⟩
          split at P
          · rename_i ec
            rw [if_pos ec]
            split at P
            · rename_i ds e2
              split at P
              · rename_i e3
                exact ⟨⟨e3.2.1, by rw [← er'.1]; exact e3.2.2⟩, ds, e2, e3.1, SPost.mono x' P⟩
              · exact P.elim
            · exact P.elim
          · rename_i ec
            rw [if_neg ec]
            exact P μ' H' σ' S' x' er'
        · exact P.elim
      · rename_i r hr
        cases e1 : mb env h with
        | nx env' h' => rw [e1] at P; exact P
        | rt v h' => rw [e1] at P; exact P
        | bk env' h' => rw [e1] at P; exact P
        | ct env' h' => rw [e1] at P; exact P
        | bad => rw [e1] at P; exact P
        | exc c a env' h' => exact absurd e1 (hr c a env' h')
end
end DV
namespace DV
open PySem PySem.Spec PyProof.Rows L2
namespace Ve
section
open PySem.W PySem.Calls
variable {prog : Program} {w : World} {A : Around} {E : Value → Shared → Prop} {s : Shared} {K : Frag} {x D : Addr} {ox : Obj} {od : Option Obj}
/-- x.__class__, the dict never asked -/
theorem kcl {Q : Option Value → Shared → Prop} (C : ExcC K D) (X : K.In s.heap) (I : InstAt s.heap x ox D od) (h : Q (some (.ref D)) { s with toks := s.toks + 1 }) : wpAny (model prog w) A (getAttr? (.ref x) "__class__") Q E s := by
  have hcs : (clsIn K D).isSome = true := by
    obtain ⟨cd, hc, _⟩ := any_some C.hd
    rw [hc] <;> rfl
  have hf : findObj K D od "__class__" = some (.bind (.builtin "getset_descriptor.__get__") (.builtin "object.__class__")) := findObj_dataE hcs C.ha C.hn C.ht
  obtain ⟨hp, g, d, t, os⟩ := s
  have T0 := I.type (M := model prog w)
  have T1 := looks_findIn (M := model prog w) X C.hg
  have T2 := looks_findIn (M := model prog w) X C.hk
  have T3 := looks_find (M := model prog w) X I hf
  have sub : Looks (model prog w) hp (isInstance (.ref x) (.type "BaseException")) true := T0.andThen (looks_subIn X C.hs)
  have no2 : (Value.builtin "BaseException.__getattribute__" == Value.builtin "object.__getattribute__") = false := by decide +kernel
  have no1 : (onTheHeap (Value.ref D) && Value.builtin "BaseException.__getattribute__" == Value.builtin "object.__getattribute__") = false := by rw [no2]; rfl
  unfold getAttr? getAttrBy? getAttrBy
  refine wpAny_bind (wpAny_mkText (wpAny_bind (wpAny_attempt (wpAny_holding (wpAny_bind (T0.at (wpAny_bind (T1.at ?_))))))))
  show wpAny _ _ (if (onTheHeap (Value.ref D) && Value.builtin "BaseException.__getattribute__" == Value.builtin "object.__getattribute__") = true then _ else _) _ _ _
  rw [no1, if_neg Bool.false_ne_true]
  unfold getAttrByItsOwn hookBefore
  refine wpAny_bind ?_
  rw [if_pos (show onTheHeap (Value.ref D) = true from rfl)]
  refine T2.at (wpAny_bind (wpAny_attempt (wpAny_holding ?_)))
  unfold callGetattribute
  rw [show (false && onTheHeap (Value.builtin "BaseException.__getattribute__")) = false from rfl, if_neg Bool.false_ne_true]
  unfold boundAndCalled
  rw [PySem.F.excAttr_ValueError.ga.bind (.ref x)]
  refine wpAny_bind (wpAny_pure ?_)
  show wpAny _ _ (call (.builtin "BaseException.__getattribute__") [.ref x, .str "__class__" t]) _ _ _
  refine wpAny_call (codeAny_call_builtin PySem.F.excAttr_ValueError.ga.plain PySem.F.entry_bexc_ga ?_)
  refine @check_slot (model prog w) _ _ ⟨hp, g, d, t + 1, os⟩ "BaseException.__getattribute__" "BaseException" "__getattribute__" (.ref x) [.str "__class__" t] [] _ (by decide +kernel) (by decide +kernel) sub (PySem.F.args_bexc_ga (.ref x) (.str "__class__" t)) ?_
  unfold Builtin.«object.__getattribute__»
  refine wpAny_bind (wpAny_of_eq (a := ((Value.ref x : Value), [Value.str "__class__" t])) (by first | rfl | (simp only [slotArgs]; rfl)) ?_)
  refine wpAny_bind (wpAny_pure (wpAny_bind (T0.at (wpAny_bind (T3.at ?_)))))
  show wpAny _ _ (holding [Value.builtin "object.__class__"] (call (.builtin "getset_descriptor.__get__") [.builtin "object.__class__", .ref x, .ref D]) >>= ret) _ _ _
  refine wpAny_bind (wpAny_holding (wpAny_call (class_get (s := ⟨hp, g, d, t + 1, os⟩) (ox := ox) (od := od) X I C.hm ?_)))
  refine wpAny_pure ?_
  show wpAny _ _ (handedOut (.ref D)) _ _ _
  rw [handedOut_of (v := .ref D) rfl]
  first | exact wpAny_pure (wpAny_pure h) | exact wpAny_pure h | exact wpAny_pure (wpAny_bind (wpAny_pure (wpAny_pure h)))
theorem kitE (C : ExcC K D) : KitX K (.ref x) (.ref D) (fun h => ∃ ox od, InstAt h x ox D od) where
  ty := fun _ _ _ ⟨_, _, I⟩ => I.type
  it := fun M h X I => by
    obtain ⟨cdD, hcD, _⟩ := any_some C.hd
    unfold clsIn at hcD
    split at hcD
    · rename_i ho
      intro A' Q' E' s' k q
      unfold isType loadHead
      exact wpAny_bind (wpAny_loadPart (k _ _ (X _ _ ho)) (wpAny_pure q))
    · cases hcD
  ne := fun h tp dd its n sl X htp => by
    obtain ⟨cdD, hcD, _⟩ := any_some C.hd
    cases q : (Value.ref D == Value.ref tp) with
    | false => rfl
    | true =>
      have e : D = tp := Value.ref.inj (beq_iff_eq.mp q)
      subst e
      unfold clsIn at hcD
      split at hcD
      · rename_i ho
        have z := (X _ _ ho).symm.trans htp
        cases z
      · cases hcD
  ca := fun X ⟨_, _, I⟩ k => kcl C X I k
end
end Ve
section
variable {X : Cx} {a C Pc : Addr} {oe : Obj} {cls : Value} {d : Option Addr} {pn : List (Addr × Obj)} {i : Nat} {fs : List Str} {e e1 e2 : Expr} {els : List SufE} {pos p p1 p2 : Pos} {x : Str}
/-- in the suite: isinstance(error, P) is true -/
theorem suf_is (Y : ExcC X.K C) (hk : PySem.W.kitOne X.K (.ref C) (.ref Pc) = some true) (hz : Zc cls d oe) (hf : ∃ vs, oe.data = .fields vs) (hg : Gl X "isinstance") (hm : X.mg "isinstance" = none) (hgx : Gl X x) (hmx : X.mg x = some (.ref Pc)) (hdx : (x == ("__debug__" : Str)) = false)
    (he : PE (X.suite a ((a, oe) :: pn)) e (tVar i)) (h1 : PE (X.suite a ((a, oe) :: pn)) e1 (tSufT C a cls d i fs els)) (h2 : PE (X.suite a ((a, oe) :: pn)) e2 tt)
    (hs : starEach [e, .Name x p1] X.env = (false, eval e X.env) :: starEach [.Name x p1] X.env) (hpl : (backTo p2 (starEach [.Name x p1] X.env)).any (·.1) = false) (hs2 : starEach [.Name x p1] X.env = (false, eval (.Name x p1) X.env) :: starEach [] X.env)
    (htr : ∀ whole, isTrue (.Call (.Name "isinstance" p) [e, .Name x p1] [] p2) X.env whole = (do let v ← whole; standAt (Expr.Call (.Name "isinstance" p) [e, .Name x p1] [] p2).pos; holding [v] (truthy v))) :
    PE (X.suite a ((a, oe) :: pn)) (.IfExp (.Call (.Name "isinstance" p) [e, .Name x p1] [] p2) e1 e2 pos) (tSufT C a cls d i fs els) := by
  have hcall : CallR (X.suite a ((a, oe) :: pn)) (.builtin "isinstance") (fun xs H Q => xs = [.ref a, .ref Pc] ∧ cls = .ref C ∧ (∃ dx fs', d = some dx ∧ H dx = some (.xd fs')) ∧ Q (.bl true) H) := by
    intro pins s σ H xs us Q I r h
    obtain ⟨rfl, ec, ⟨dx, fs', ed, eH⟩, q⟩ := h
    cases r with
    | cons rx rr => cases rr with
      | cons rt rr =>
        cases rr
        cases rx
        cases rt
        obtain ⟨hget, _⟩ := I.pin (a, oe) (List.mem_append.mpr (.inl List.mem_cons_self))
        obtain ⟨vs, hv⟩ := hf
        obtain ⟨mA, hns, _⟩ := (show ObjOk X.prog X.w H s.heap dx (.xd fs') from I.hok dx _ eH)
        obtain ⟨od, ho, _⟩ := lookIn_ns hns
        have J : PySem.W.InstAt s.heap a oe C (some od) := ⟨hget, hz.1.trans ec, by unfold PySem.W.notCls; rw [hv] <;> rfl, by rw [hz.2, ed]; exact ho⟩
        exact PySem.W.kia_one (Ve.kitE Y) I.kIn ⟨_, _, J⟩ hk (fun z => nomatch z) fun tk => ⟨.bl true, H, I.kept (t' := tk) fun _ _ z => z, rfl, q⟩
  have pt := pt_truth (pe_callB (X := X.suite a ((a, oe) :: pn)) (x := "isinstance") hcall hg hm (by rfl) (pa_cons he (pa_cons (pe_glob (X := X.suite a ((a, oe) :: pn)) hgx hmx (v := .ref Pc) rfl hdx) pa_nil hs2) hs) (by decide) (by decide) hs hpl) htr
  refine (pe_ifExp pt h1 h2).weak fun σ H Q q => ?_
  obtain ⟨vs, ws, ⟨g1, g2, dx, g3, g4, g5⟩, k1, k2, k3⟩ := q
  exact ⟨_, g1, rfl, g2, ⟨dx, _, g3, g4⟩, true, rfl, vs, ws, ⟨g1, g2, dx, g3, g4, g5⟩, k1, k2, k3⟩
end
end DV
namespace DV
open PySem PySem.Spec PyProof.Rows L2
/-- keys met, each once -/
def addKey (l : List Key) (k : Key) : List Key := if l.any (· == k) then l else l ++ [k]
def metKeys (ks : List Key) : List Key := ks.foldl addKey []
theorem addKey_any (l : List Key) (k j : Key) : (addKey l k).any (· == j) = (l.any (· == j) || decide (j = k)) := by
  unfold addKey
  by_cases h : l.any (· == k) = true
  · rw [if_pos h]
    by_cases e : j = k
    · subst e; rw [h]; simp
    · simp [e]
  · rw [if_neg h, List.any_append]
    by_cases e : j = k
    · subst e; simp
    · have e2 : (k == j) = false := by simpa using fun z : k = j => e z.symm
      simp [e2, e]
theorem addKey_length (l : List Key) (k : Key) : (addKey l k).length = if l.any (· == k) then l.length else l.length + 1 := by
  unfold addKey
  split <;> simp
theorem foldKey_le : ∀ (ks l : List Key), (ks.foldl addKey l).length ≤ l.length + ks.length
  | [], l => by simp
  | k :: ks, l => by
    rw [List.foldl_cons]
    refine Nat.le_trans (foldKey_le ks _) ?_
    rw [addKey_length, List.length_cons]
    split <;> omega
theorem metTake (ks : List Key) {i : Nat} {k : Key} (h : ks[i]? = some k) : metKeys (ks.take (i + 1)) = addKey (metKeys (ks.take i)) k := by
  unfold metKeys
  rw [List.take_succ, h, Option.toList_some, List.foldl_append]
  rfl
section
variable {P : Program} {w : World} {A : Around} {R : Result → Shared → Prop} {E : Value → Shared → Prop} {I : Addr} {fp wr : List Addr} {G : Array GenState → Array GenState → Prop} {n : Nat} {Pv : Nat → Value → Prop} {St : Nat → Shared → Prop}
theorem setCongr {h : Heap} {a : Addr} {S S' : Key → Bool} {n n' : Nat} (r : h.SetOf (mixKind P w) a S n) (e : ∀ k, S k = S' k) (en : n = n') : h.SetOf (mixKind P w) a S' n' := by
  cases funext e
  cases en
  exact r
theorem setAt {h h' : Heap} {a : Addr} {S : Key → Bool} {n : Nat} (r : h.SetOf (mixKind P w) a S n) (k : ∀ o, h.get? a = some o → h'.get? a = some o) : h'.SetOf (mixKind P w) a S n := by
  obtain ⟨o, es, ep, t, ho, q⟩ := r
  exact ⟨o, es, ep, t, k o ho, q⟩
/-- the update's loop over n items that are the keys ks -/
theorem upLoop (W : WalksS P w A.in1 I fp wr G n Pv St) (S : Addr) (hS : S ∉ fp) (ks : List Key) (hn : ks.length = n) (hv : ∀ i v k, Pv i v → ks[i]? = some k → RelV (kV k) v) (hb : n + 1 < scanBound) :
    ∀ (m i : Nat) (s : Shared), n - i = m → i ≤ n → St i s → s.heap.SetOf (mixKind P w) S (fun k => (metKeys (ks.take i)).any (· == k)) (metKeys (ks.take i)).length →
      (∀ s', Moved (S :: wr) G s s' → s'.heap.SetOf (mixKind P w) S (fun k => (metKeys ks).any (· == k)) (metKeys ks).length → R (.ok (.ret .none)) s') → codeAny (model P w) A (.builtin "set.update.loop" ⟨[.ref S, .ref I], []⟩) R s := by
  have nw : S ∉ wr := fun h => hS (W.sub _ h)
  have sb : ∀ b ∈ wr, b ∈ S :: wr := fun b h => List.mem_cons_of_mem _ h
  intro m
  induction m with
  | zero =>
    intro i s hk hi st hs hR
    obtain rfl : i = n := by omega
    refine codeAny_builtin F.entry_set_update_loop ?_
    rw [Around.under_plainId F.plain_set_update_loop _]
    show wpAny _ A.in1 (pyNext (.ref I) >>= _) _ _ s
    refine wpAny_bind (W.done s _ _ st fun s' hm => ?_)
    show wpAny _ A.in1 (ret Value.none) _ _ s'
    refine wpAny_pure (hR s' (hm.mono sb) ?_)
    have e : ks.take i = ks := by rw [← hn, List.take_length]
    rw [e] at hs
    exact setAt hs fun o => hm.heap S _ nw
  | succ m ih =>
    intro i s hk hi st hs hR
    have lt : i < n := by omega
    refine codeAny_builtin F.entry_set_update_loop ?_
    rw [Around.under_plainId F.plain_set_update_loop _]
    show wpAny _ A.in1 (pyNext (.ref I) >>= _) _ _ s
    refine wpAny_bind (W.item i s _ _ lt st fun v s' hP st' hm => ?_)
    have hk' : ks[i]? = some ks[i] := List.getElem?_eq_getElem (by omega)
    have rv := hv i v _ hP hk'
    have hs' := setAt hs fun o => hm.heap S o nw
    show wpAny _ A.in1 (holding [v] (setAdd S v) >>= _) _ _ s'
    refine wpAny_bind (wpAny_holding ?_)
    unfold setAdd
    refine wpAny_holding (wpAny_bind ((mixKind P w).pyHash (k := ks[i]) (kV_is rv) ?_))
    have room : (metKeys (ks.take i)).length + 1 < scanBound := by
      have h1 := foldKey_le (ks.take i) []
      have h2 : (ks.take i).length ≤ n := by rw [List.length_take]; omega
      unfold metKeys
      simp at h1
      omega
    refine wpAny_setAddHashed_of (knd := mixKind P w) (s := { s' with toks := s'.toks + 1 }) (kV_is rv) (key_scan rv) hs' room fun h' sb2 h2 => ?_
    have h3 := setCongr (S' := fun k => (metKeys (ks.take (i + 1))).any (· == k)) (n' := (metKeys (ks.take (i + 1))).length) h2 (fun k => by rw [metTake ks hk', addKey_any]) (by rw [metTake ks hk', addKey_length])
    refine wpAny_pure ⟨plainId_quiet F.plain_set_update_loop _, ih (i + 1) _ (by omega) lt (W.frame _ s' _ _ st' (Nat.le_succ _) fun b hb o e => ?_) h3 fun s'' hm' hs'' => ?_⟩
    · rw [sb2.2 b fun h : b = S => hS (h ▸ hb)]
      exact e
    · refine hR s'' (Moved.trans W.gtrans ((hm.mono sb).then_heap (Nat.le_succ _) fun b o hb e => ?_) hm') hs''
      rw [sb2.2 b fun h : b = S => hb (h ▸ List.mem_cons_self)]
      exact e
/-- set(xs), xs a list of keys -/
theorem callSet {s : Shared} {l : Addr} {items : Array Value} {ks : List Key} {Q : Value → Shared → Prop} (hh : A.handled = none) (hl : s.heap.IsList l items) (hi : Vals (ks.map kV) items.toList) (hb : items.size + 1 < scanBound)
    (h : ∀ (h' : Heap) (tk : Nat), h'.SetOf (mixKind P w) s.heap.objs.size (fun k => (metKeys ks).any (· == k)) (metKeys ks).length → (∀ b o, b < s.heap.objs.size → s.heap.get? b = some o → h'.get? b = some o) → Q (.ref s.heap.objs.size) { s with heap := h', toks := tk }) :
    wpAny (model P w) A (call (.type "set") [.ref l]) Q E s := by
  obtain ⟨c, tl, mro⟩ := F.called_set.mro
  have made := F.called_set.made
  have sub := F.called_set.sub
  have hlen : ks.length = items.size := by
    have z := hi.length
    rw [List.length_map, Array.length_toList] at z
    exact z
  let so : Bool → Obj := fun led => { cls := .type "set", dict := none, data := .set #[] 0 (.fresh 0 0 led) }
  refine wpAny_call (codeAny_of_tree ?_)
  show wpAny _ _ (callAny (.type "set") _) _ _ _
  refine wpAny_pure ⟨Code.quiet_builtin _ (by decide +kernel), codeAny_builtin F.entry_type_call ?_⟩
  rw [Around.under_plain (weight_type_call_type "set" [.ref l] []) rfl]
  have g1 := F.called_set.notType
  have g2 := F.called_set.canCreate
  have g3 := F.typeCall_set_1 (.ref l)
  repeat (any_goals (first | assumption | wp_step))
  refine codeAny_mono (code_set_new_1 (.ref l) (E := E) (Q₁ := fun obj s₁ => ∃ led : Bool, obj = .ref s.heap.objs.size ∧ s₁ = { s with heap := s.heap.push (so led) }) fun led => ⟨led, rfl, rfl⟩) fun r s₁ hr => ?_
  cases r with
  | error e => exact hr
  | ok fl => cases fl with
    | ret obj =>
      obtain ⟨led, rfl, rfl⟩ := hr
      have at1 : (s.heap.push (so led)).get? s.heap.objs.size = some (so led) := Heap.get?_push_size _ rfl
      have ty1 : Shared.TypeIs { s with heap := s.heap.push (so led) } (.ref s.heap.objs.size) "set" := ⟨_, at1, rfl⟩
      have li := F.called_set.init.lookup
      have bi := F.called_set.init.bind (.ref s.heap.objs.size)
      repeat (any_goals (first | assumption | wp_step))
      refine codeAny_mono (codeAny_call_builtin (R := wants (fun r s₂ => r = .none ∧ ∃ h' tk, s₂ = { s with heap := h', toks := tk } ∧ h'.SetOf (mixKind P w) s.heap.objs.size (fun k => (metKeys ks).any (· == k)) (metKeys ks).length ∧ (∀ b o, b < s.heap.objs.size → s.heap.get? b = some o → h'.get? b = some o)) E)
        F.called_set.init.plain F.entry_set_init (check_set_init_1 ty1 ?_)) fun r₂ s₂ hr₂ => ?_
      · obtain ⟨ol, hol, hcl, nl, hdl⟩ := hl
        obtain ⟨ocls, odict, odata, oslots⟩ := ol
        simp only at hcl hdl
        subst hcl hdl
        have hol' : (s.heap.push (so led)).get? l = some { cls := .type "list", dict := odict, data := .seq items nl, slots := oslots } := Heap.get?_push_of_some _ hol
        have n1 := F.sub_list_set
        have n2 := F.sub_list_frozenset
        have n3 : (Value.type "list" == Value.type "dict") = false := by decide
        have l1 : (s.heap.push (so led)).IsList l items := ⟨_, hol', rfl, nl, rfl⟩
        have ls : l < s.heap.objs.size := Heap.lt_size hol
        unfold Builtin.«set.__init__» noKeywords Builtin.Frozenset.updateFrom
        generalize hPI : pyIter = PI
        wp_walk
        subst hPI
        refine wpAny_pyIter_list l1 ?_
        refine wpAny_bind (wpAny_runValue ?_)
        have h3 : A.in1.in1.in1.handled = none := by simp [hh]
        have ne : l ≠ (s.heap.push (so led)).objs.size := by
          rw [Heap.size_push]
          exact Nat.ne_of_lt (Nat.lt_succ_of_lt ls)
        have nf : s.heap.objs.size ∉ [(s.heap.push (so led)).objs.size, l] := by
          rw [Heap.size_push]
          simp only [List.mem_cons, List.not_mem_nil, or_false, not_or]
          exact ⟨Nat.ne_of_lt (Nat.lt_succ_self _), Nat.ne_of_gt ls⟩
        refine upLoop ((Walks.list h3 _ l ne items).toS) s.heap.objs.size nf ks hlen (fun i v k hv hk => ?_) hb (items.size - 0) 0 _ (by omega) (Nat.zero_le _) ⟨⟨_, Heap.get?_push_size _ rfl, rfl, rfl⟩, l1.push _⟩ ?c0 ?c1
        · have z : items.toList[i]? = some v := by rw [Array.getElem?_toList]; exact hv
          have z2 : (ks.map kV)[i]? = some (kV k) := by rw [List.getElem?_map, hk]; rfl
          obtain ⟨u, e1, e2⟩ := hi.get z2
          rw [z] at e1
          cases e1
          exact e2
        case c0 =>
          have hg : ((s.heap.push (so led)).push { cls := .type "list_iterator", data := .fields #[.ref l, .int 0 0] }).get? s.heap.objs.size = some (so led) := Heap.get?_push_of_some _ at1
          exact setCongr ((PyProof.Rows.setObjOf_fresh (knd := mixKind P w) led).setOf hg (by unfold scanBound; omega)) (fun _ => rfl) rfl
        case c1 =>
          intro s' hm hs'
          obtain ⟨h', g', d', tk', os'⟩ := s'
          cases (show g' = s.gens from hm.gens)
          cases (show d' = s.drawn from hm.drawn)
          cases (show os' = s.os from hm.os)
          show wpAny _ _ _ _ _ _
          refine wpAny_pure ?_
          show wpAny _ _ (ret Value.none) _ _ _
          refine wpAny_pure ⟨rfl, h', tk', rfl, hs', fun b o b_lt e => ?_⟩
          refine hm.heap b o ?_ (Heap.get?_push_of_some _ (Heap.get?_push_of_some _ e))
          rw [Heap.size_push]
          simp only [List.mem_cons, List.not_mem_nil, or_false, not_or]
          exact ⟨Nat.ne_of_lt b_lt, Nat.ne_of_lt (Nat.lt_succ_of_lt b_lt)⟩
      · cases r₂ with
        | error e => exact hr₂
        | ok fl₂ => cases fl₂ with
          | ret r =>
            obtain ⟨rfl, h', tk, rfl, hs', hk'⟩ := hr₂
            repeat (any_goals (first | assumption | wp_step))
            exact h _ _ hs' hk'
          | _ => exact hr₂.elim
    | _ => exact hr.elim
end
def addKd (l : List D) (d : D) : List D := if (l.map keyD).any (· == keyD d) then l else l ++ [d]
def dedupD (ds : List D) : List D := ds.foldl addKd []
def isKey (d : D) : Bool := (keyD d).isSome
theorem keys_of {ds : List D} (h : ds.all isKey = true) : ∃ kk : List Key, ds.map keyD = kk.map some := by
  induction ds with
  | nil => exact ⟨[], rfl⟩
  | cons d ds ih =>
    obtain ⟨h1, h2⟩ := Bool.and_eq_true_iff.mp (show (isKey d && ds.all isKey) = true from h)
    obtain ⟨k, hk⟩ := Option.isSome_iff_exists.mp h1
    obtain ⟨kk, e⟩ := ih h2
    exact ⟨k :: kk, by rw [List.map_cons, List.map_cons, hk, e]⟩
theorem any_some (kk : List Key) (k : Key) : (kk.map some).any (· == some k) = kk.any (· == k) := by
  rw [List.any_map]
  congr 1
theorem addKd_key {l : List D} {lk : List Key} {d : D} {k : Key} (e : l.map keyD = lk.map some) (hd : keyD d = some k) : (addKd l d).map keyD = (addKey lk k).map some := by
  unfold addKd addKey
  rw [e, hd, any_some]
  by_cases h : lk.any (· == k) = true
  · rw [if_pos h, if_pos h, e]
  · rw [if_neg h, if_neg h, List.map_append, List.map_append, e]
    simp [hd]
theorem dedup_go : ∀ (ds : List D) (kk : List Key) (l : List D) (lk : List Key), ds.map keyD = kk.map some → l.map keyD = lk.map some → (ds.foldl addKd l).map keyD = (kk.foldl addKey lk).map some
  | [], [], l, lk, _, e => e
  | [], _ :: _, _, _, h, _ => by cases h
  | _ :: _, [], _, _, h, _ => by cases h
  | d :: ds, k :: kk, l, lk, h, e => by
    rw [List.map_cons, List.map_cons] at h
    injection h with h1 h2
    exact dedup_go ds kk _ _ h2 (addKd_key e h1)
def setF : DF
  | [.ref n], h => match h[n]? with
    | some (.lst ds) => if ds.all isKey ∧ ds.length < 4095 then alloc (.set (dedupD ds)) h else .bad
    | _ => .bad
  | _, _ => .bad
theorem key_vals {G : GX} {H : Hp} {μ : List Addr} : ∀ {ds : List D} {kk : List Key} {vs : List V}, ds.map keyD = kk.map some → RepL G H μ ds vs → vs = kk.map kV
  | [], [], vs, _, r => by unfold RepL at r; exact r
  | [], _ :: _, _, h, _ => by cases h
  | _ :: _, [], _, h, _ => by cases h
  | d :: ds, k :: kk, vs, h, r => by
    rw [List.map_cons, List.map_cons] at h
    injection h with h1 h2
    unfold RepL at r
    obtain ⟨v, r', rfl, r1, r2⟩ := r
    rw [List.map_cons, key_vals h2 r2, r1.key h1]
section
variable {X : Cx} {W : XW}
theorem c_set (hc : X.calm = true) : CallR X (.type "set") (rCD (gx X) W setF) := by
  intro pins s σ H vs us Q I rv ⟨μ, h, ds, S, r, P⟩
  unfold setF at P
  split at P
  · rename_i h n
    obtain ⟨v, rfl, r1⟩ := r.one
    obtain ⟨a, ea, rfl⟩ := r1.ref
    split at P
    · rename_i es e
      split at P
      · rename_i hk
        obtain ⟨ws, q1, l1⟩ := S.list e ea
        obtain ⟨u, rfl, ru⟩ := vals1 rv
        cases ru
        obtain ⟨kk, hkk⟩ := keys_of hk.1
        have hw := key_vals hkk l1
        subst hw
        obtain ⟨z, its, m, rr, hl, hat⟩ := I.lstM q1
        have hsz : es.length = its.length := by
          rw [← l1.length]
          exact hl
        have hb : its.toArray.size + 1 < scanBound := by
          rw [List.size_toArray, ← hsz]
          have := hk.2
          unfold scanBound
          omega
        refine callSet (I.ok.hd hc) (items := its.toArray) ⟨_, hat, rfl, m, rfl⟩ (by simpa using rr) hb fun h' tk hs' k => ?_
        have k' : ∀ b u, s.heap.get? b = some u → h'.get? b = some u := fun b u q => k b u (Heap.lt_size q) q
        refine ⟨.ref s.heap.objs.size, upd H s.heap.objs.size (SetK X.prog X.w s.heap.objs.size (fun j => (metKeys kk).any (· == j)) (metKeys kk).length), I.laid k' (Nat.le_refl _) (setK_new hs'), rfl, ?_⟩
        exact P.allo S (I.hok.fresh (Nat.le_refl _)) ⟨metKeys kk, upd_same, dedup_go es kk [] [] hkk rfl⟩
      · exact P.elim
    · exact P.elim
  · exact P.elim
end
/-- len, of a set and a dict too -/
def lenF2 : DF
  | [.ref n], h => match h[n]? with
    | some (.set ks) => if ks.length < big then .ok (.int ks.length) h else .bad
    | _ => lenF [.ref n] h
  | ds, h => lenF ds h
section
variable {X : Cx} {W : XW}
theorem c_len2 : CallR X (.builtin "len") (rCD (gx X) W lenF2) := by
  intro pins s σ H vs us Q I rv ⟨μ, h, ds, S, r, P⟩
  unfold lenF2 at P
  split at P
  · rename_i h n
    split at P
    · rename_i ks e
      split at P
      · rename_i hl
        obtain ⟨v, rfl, r1⟩ := r.one
        obtain ⟨a, ea, rfl⟩ := r1.ref
        obtain ⟨u, rfl, ru⟩ := vals1 rv
        cases ru
        obtain ⟨kk, q1, q2⟩ := S.ob n _ a e ea
        have hlen : ks.length = kk.length := by
          have z := congrArg List.length q2
          simpa using z
        obtain ⟨o, es, ep, t, ho, hex, hd, _, _, _, hf, hn⟩ := setK_get I q1
        refine call_len_set ho hex hd hf (by rw [hn, ← hlen]; unfold big at hl; omega) ?_
        rw [hn, ← hlen]
        exact ⟨.int ks.length, H, I.tok _, ⟨_, rfl⟩, P.now S (by unfold Rep; rfl)⟩
      · exact P.elim
    · exact c_len pins s σ H vs us Q I rv ⟨μ, _, _, S, r, P⟩
  · exact c_len pins s σ H vs us Q I rv ⟨μ, _, _, S, r, P⟩
end
end DV
namespace DV
open PySem PySem.Spec PyProof.Rows L2
abbrev DM := D → List D → DH → R D
def rMD (G : GX) (W : XW) (g : DM) : V → List V → Hp → VK → Prop := fun x xs H Q => ∃ μ h d ds, SRep G μ h H ∧ Rep G H μ d x ∧ RepL G H μ ds xs ∧ Post (Rep G) G W μ H (g d ds h) Q
/-- the receiver is of that type -/
def tyD (T : String) : D → DH → Bool
  | .str _, _ => decide (T = "str")
  | .frz _, _ => decide (T = "list")
  | .ref n, h => match h[n]? with
    | some (.lst _) => decide (T = "list")
    | some (.dct _) => decide (T = "dict")
    | _ => false
  | _, _ => false
theorem tyD_ok {G : GX} {μ : List Addr} {h : DH} {H : Hp} {T : String} {d : D} {x : V} (S : SRep G μ h H) (r : Rep G H μ d x) (e : tyD T d h = true) : tyV G.K T x H := by
  unfold tyD at e
  split at e
  · rename_i t
    rw [r.strv]
    have e' : T = "str" := of_decide_eq_true e
    exact e'
  · rename_i ds
    obtain ⟨a, vs, rfl, q, _⟩ := r.frzl
    exact .inl ⟨of_decide_eq_true e, vs, q.sq⟩
  · rename_i n
    obtain ⟨a, ea, rfl⟩ := r.ref
    split at e
    · rename_i ds e2
      obtain ⟨vs, q, _⟩ := S.list e2 ea
      exact .inl ⟨of_decide_eq_true e, vs, .of q⟩
    · rename_i kvs e2
      obtain ⟨kv, q, _⟩ := S.ob n _ a e2 ea
      exact .inr (.inr (.inl ⟨of_decide_eq_true e, .inl ⟨kv, q⟩⟩))
    · cases e
  · cases e
def dMeth (T : String) (mo : DE) (ml : DEn (List D)) (g : DM) : DE := mo.bind fun d env h => if tyD T d h then (ml env h).bind fun ds h2 => g d ds h2 else .bad
section
variable {X : Cx} {W : XWS} {o e : Expr} {es : List Expr} {name : Str} {apos cpos : Pos} {T id : String} {g : DM} {mo : DE} {ml : DEn (List D)}
theorem d_meth (pa : PlainAttrs T) (slot : Slot T name id) (hty : typeOf (.builtin id) = pure (.type "method_descriptor")) (hm : ∀ W, MtR X id (rMD (gx X) W g)) (ho : PE X o (TD (gx X) W mo)) (ha : PA X (e :: es) (TDL (gx X) W ml))
    (hbase : attributeBase o name X.env (eval o X.env) = eval o X.env)
    (hfew : ((backTo cpos (starEach (e :: es) X.env)).all (fun x => !x.1) && (backToKw cpos (keywordEach [] X.env)).all (fun x => x.1.isSome) && decide ((e :: es).length + ([] : List Keyword).length + (if ([] : List Keyword).isEmpty then 0 else 1) < 30)) = true)
    (hline : (apos.endLine == cpos.line) = true) (hs : starEach (e :: es) X.env = (false, eval e X.env) :: starEach es X.env) (hplain : (backTo cpos (starEach es X.env)).any (·.1) = false) :
    PE X (.Call (.Attribute o name apos) (e :: es) [] cpos) (TD (gx X) W (dMeth T mo ml g)) := by
  refine PE.weakS (fun σ => pe_bm pa slot hty (hm (W σ)) ho ha hbase hfew hline hs hplain) fun σ H Q q => ?_
  refine TG'.imp (TG'.split (rel := Rep (gx X)) q) ?_
  rintro x H1 ⟨μ1, d, env, h1, s1, e1, r1, p1⟩
  split at p1
  · rename_i ht
    refine ⟨tyD_ok s1 r1 ht, μ1, env, h1, s1, e1, (Post.bind (rel := RepL (gx X)) p1).imp ?_⟩
    rintro xs H2 ⟨μ2, ds, h2, s2, x2, r2, p2⟩
    exact ⟨μ2, h2, d, ds, s2, r1.ext x2, r2, p2⟩
  · exact p1.elim
theorem d_meth0 (pa : PlainAttrs T) (slot : Slot T name id) (hty : typeOf (.builtin id) = pure (.type "method_descriptor")) (hm : ∀ W, MtR X id (rMD (gx X) W g)) (ho : PE X o (TD (gx X) W mo)) (hbase : attributeBase o name X.env (eval o X.env) = eval o X.env) (hline : (apos.endLine == cpos.line) = true) :
    PE X (.Call (.Attribute o name apos) [] [] cpos) (TD (gx X) W (dMeth T mo dNil g)) := by
  refine PE.weakS (fun σ => pe_bm0 pa slot hty (hm (W σ)) ho hbase hline) fun σ H Q q => ?_
  refine TG'.imp (TG'.split (rel := Rep (gx X)) q) ?_
  rintro x H1 ⟨μ1, d, env, h1, s1, e1, r1, p1⟩
  split at p1
  · rename_i ht
    exact ⟨tyD_ok s1 r1 ht, μ1, h1, d, [], s1, r1, by unfold RepL; rfl, p1⟩
  · exact p1.elim
end
def appendM : DM
  | .ref n, [d], h => match h[n]? with
    | some (.lst ds) => if ds.length < big then .ok .non (h.set n (.lst (ds ++ [d]))) else .bad
    | _ => .bad
  | _, _, _ => .bad
section
variable {X : Cx} {W : XW}
theorem m_append : MtR X "list.append" (rMD (gx X) W appendM) := by
  intro pins s σ H x xs v us Q I rx rxs ⟨μ, h, d, ds, S, r, rl, P⟩
  unfold appendM at P
  split at P
  · rename_i h n y
    obtain ⟨a, ea, rfl⟩ := r.ref
    obtain ⟨yv, rfl, ry⟩ := rl.one
    split at P
    · rename_i es e
      split at P
      · rename_i hl
        obtain ⟨vs, q1, l1⟩ := S.list e ea
        refine mt_append pins s σ H _ _ v us Q I rx rxs ⟨a, vs, yv, rfl, rfl, q1, by rw [l1.length, big_eq]; exact hl, ?_⟩
        have m := List.mem_of_getElem? ea
        refine P μ _ .non (S.write ea (o := .lst (es ++ [y])) ⟨_, upd_same, ?_⟩) (Ext.write S m) (by unfold Rep; rfl)
        exact (l1.ext (Ext.write S m)).append (by unfold RepL; exact ⟨yv, [], rfl, ry.ext (Ext.write S m), by unfold RepL; rfl⟩)
      · exact P.elim
    · exact P.elim
  · exact P.elim
end
theorem sOf_cps (s : Str) : sOf s.cps.toList = s := by
  cases s
  simp [sOf]
def upperT (t : Txt) : Txt := (PySem.Txt.upper (sOf t)).cps.toList
theorem sOf_upper (t : Txt) : sOf (upperT t) = PySem.Txt.upper (sOf t) := sOf_cps _
def upperM : DM
  | .str t, [], h => if t.length ≤ 5592405 then .ok (.str (upperT t)) h else .bad
  | _, _, _ => .bad
/-- all texts -/
def txtsD : List D → Option (List Txt)
  | [] => some []
  | .str t :: r => match txtsD r with
    | some l => some (t :: l)
    | none => none
  | _ => none
def joinT (sep : Txt) (ts : List Txt) : Txt := (PySem.Txt.join (sOf sep) (ts.map sOf)).cps.toList
theorem sOf_join (sep : Txt) (ts : List Txt) : sOf (joinT sep ts) = PySem.Txt.join (sOf sep) (ts.map sOf) := sOf_cps _
def joinF (t : Txt) (ds : List D) (h : DH) : R D := match txtsD ds with
  | some ts => if (ts.map List.length).sum + ts.length * t.length ≤ 16777216 then .ok (.str (joinT t ts)) h else .bad
  | none => .bad
def joinM : DM
  | .str t, [.tup ds], h => joinF t ds h
  | .str t, [.frz ds], h => joinF t ds h
  | .str t, [.ref n], h => match h[n]? with
    | some (.lst ds) => joinF t ds h
    | _ => .bad
  | _, _, _ => .bad
theorem txts_vals {G : GX} {H : Hp} {μ : List Addr} : ∀ {ds : List D} {ts : List Txt} {vs : List V}, txtsD ds = some ts → RepL G H μ ds vs → vs = (ts.map sOf).map V.str
  | [], ts, vs, e, r => by
    cases e
    unfold RepL at r
    exact r
  | .str t :: ds, ts, vs, e, r => by
    unfold txtsD at e
    split at e
    · rename_i l el
      cases e
      unfold RepL at r
      obtain ⟨v, r', rfl, r1, r2⟩ := r
      rw [List.map_cons, List.map_cons, ← txts_vals el r2, r1.strv]
    · cases e
  | .non :: ds, ts, vs, e, r => by cases e
  | .bl _ :: ds, ts, vs, e, r => by cases e
  | .int _ :: ds, ts, vs, e, r => by cases e
  | .tup _ :: ds, ts, vs, e, r => by cases e
  | .frz _ :: ds, ts, vs, e, r => by cases e
  | .ref _ :: ds, ts, vs, e, r => by cases e
  | .cdt _ :: ds, ts, vs, e, r => by cases e
  | .fn _ :: ds, ts, vs, e, r => by cases e
  | .ty _ :: ds, ts, vs, e, r => by cases e
section
variable {X : Cx} {W : XW}
theorem m_upper : MtR X "str.upper" (rMD (gx X) W upperM) := by
  intro pins s σ H x xs v us Q I rx rxs ⟨μ, h, d, ds, S, r, rl, P⟩
  unfold upperM at P
  split at P
  · rename_i h t
    split at P
    · rename_i hl
      have e := r.strv
      subst e
      have e2 : xs = [] := by unfold RepL at rl; exact rl
      subst e2
      exact mt_upper pins s σ H _ _ v us Q I rx rxs ⟨sOf t, rfl, rfl, by rw [sOf_len]; exact hl, P.now S (by unfold Rep; rw [sOf_upper])⟩
    · exact P.elim
  · exact P.elim
theorem join_ok {pins : List (Addr × Obj)} {s : Shared} {σ : L2.St} {H : Hp} {v : Value} {us : List Value} {Q : VK} {μ : List Addr} {h : DH} {t : Txt} {ds : List D} {a : Addr} {vs : List V} (I : Inv X pins σ H s) (rx : RelV (.str (sOf t)) v) (rxs : Vals [.ref a] us) (S : SRep (gx X) μ h H)
    (hq : SqL X.K H a vs ∨ SqT X.K H a vs) (r : RepL (gx X) H μ ds vs) (P : Post (Rep (gx X)) (gx X) W μ H (joinF t ds h) Q) : wpAny (model X.prog X.w) X.A (call (.builtin "str.join") (v :: us)) (EP X pins σ Q) X.xe s := by
  unfold joinF at P
  split at P
  · rename_i ts e
    split at P
    · rename_i hl
      have ev := txts_vals e r
      subst ev
      refine mt_join pins s σ H _ _ v us Q I rx rxs ⟨sOf t, a, ts.map sOf, rfl, rfl, hq, ?_, P.now S (by unfold Rep; rw [sOf_join])⟩
      have e1 : ((ts.map sOf).map fun x => x.length) = ts.map List.length := by
        rw [List.map_map]
        exact List.map_congr_left fun x _ => sOf_len x
      rw [e1, List.length_map, sOf_len]
      exact hl
    · exact P.elim
  · exact P.elim
theorem m_join : MtR X "str.join" (rMD (gx X) W joinM) := by
  intro pins s σ H x xs v us Q I rx rxs ⟨μ, h, d, ds, S, r, rl, P⟩
  unfold joinM at P
  split at P
  · rename_i h t es
    have e := r.strv
    subst e
    obtain ⟨yv, rfl, ry⟩ := rl.one
    obtain ⟨a, vs, rfl, q, l⟩ := ry.tupl
    exact join_ok I rx rxs S (.inr q) l P
  · rename_i h t es
    have e := r.strv
    subst e
    obtain ⟨yv, rfl, ry⟩ := rl.one
    obtain ⟨a, vs, rfl, q, l⟩ := ry.frzl
    exact join_ok I rx rxs S (.inl q.sq) l P
  · rename_i h t n
    have e := r.strv
    subst e
    obtain ⟨yv, rfl, ry⟩ := rl.one
    obtain ⟨a, ea, rfl⟩ := ry.ref
    split at P
    · rename_i es e2
      obtain ⟨vs, q, l⟩ := S.list e2 ea
      exact join_ok I rx rxs S (.inl (.of q)) l P
    · exact P.elim
  · exact P.elim
end
/-- tuple(x), of a text too -/
def tupleF2 : DF
  | [.str t], h => if t.length ≤ big then .ok (.tup (chars t)) h else .bad
  | ds, h => tupleF ds h
section
variable {X : Cx} {W : XW}
theorem c_tuple2 (hc : X.calm = true) : CallR X (.type "tuple") (rCD (gx X) W tupleF2) := by
  intro pins s σ H vs us Q I rv ⟨μ, h, ds, S, r, P⟩
  unfold tupleF2 at P
  split at P
  · rename_i h t
    obtain ⟨v, rfl, r1⟩ := r.one
    rw [r1.strv] at rv
    obtain ⟨u, rfl, tk, rfl⟩ := vals1 rv
    split at P
    · rename_i hl
      have hz : (sOf t).cps.size ≤ sizeLine := by rw [big_eq]; simpa [sOf] using hl
      refine call_tuple_str (I.ok.hd hc) (sOf t) tk (fun h' tk' acc hk hi => ?_) hz
      have hsz : acc.toList.length = t.length := by rw [Array.length_toList, hi.1]; simp [sOf]
      have hv : Vals (t.map fun c => V.str ⟨#[c]⟩) acc.toList := by
        refine vals_of_at (by rw [List.length_map]; exact hsz.symm) fun j x u h1 h2 => ?_
        obtain ⟨c, tk2, hc', hu⟩ := hi.2 j u (by rw [← h2, Array.getElem?_toList])
        have hc'' : t[j]? = some c := by simpa [sOf] using hc'
        rw [List.getElem?_map, hc''] at h1
        cases h1
        exact ⟨tk2, hu⟩
      have I1 : Inv X pins σ H { s with heap := h', toks := tk' } := I.kept (t' := tk') hk
      have I2 : Inv X pins σ (upd H h'.objs.size (.tup (t.map fun c => V.str ⟨#[c]⟩))) { s with heap := h'.push { cls := .type "tuple", data := .seq acc }, toks := tk' } :=
        I1.laid (t' := tk') (fun b o e => Heap.get?_push_of_some _ e) (Nat.le_refl _) (show ObjOk X.prog X.w _ _ _ (.tup _) from ⟨by rw [List.length_map, big_eq]; exact hl, acc.toList, hv, by simpa using IsTup.new _ acc⟩)
      exact ⟨.ref h'.objs.size, _, I2, rfl, P.tup S (charsRep t) _ (I1.hok.fresh (Nat.le_refl _))⟩
    · exact P.elim
  · exact c_tuple pins s σ H vs us Q I rv ⟨μ, _, _, S, r, P⟩
end
end DV
namespace DV
open PySem PySem.Spec PyProof.Rows L2
def tYesD : DEn Bool := fun _ h => .ok true h
section
variable {X : Cx} {W : XWS} {elt tg iter c : Expr} {ifs : List Expr} {scope : Scope} {own : List (Str × Nat)} {pos : Pos} {f : Nat} {mi : DEn IS} {is : List Nat} {g : AG} {tt : DEn Bool} {te : DE}
theorem ts_nil : PTs X [] (TDB (gx X) W tYesD) := ⟨fun pins s σ H Q I h => pts_nil.run pins s σ H Q I (by
  obtain ⟨μ, env, h, S, e, P⟩ := h
  exact P μ H true S .refl rfl)⟩
theorem ts_one (h : PT X c (TDB (gx X) W tt)) : PTs X [c] (TDB (gx X) W tt) := pts_one h
theorem d_lc (hc : X.calm = true) (hN : X.N.Nodup) (hi : PI X tg iter (TDI (gx X) W mi)) (ok : BlkOk X.N X.env.scope scope own) (his : ∀ i ∈ is, i ∈ own.map (·.2))
    (hg : ∀ (s : Shared) (H : Hp) (C : Addr) (cl : List (Str × Addr)) (fp : List Addr), PG (X.blk s H scope (compEnvC scope cl C X.env) fp) tg (TGD (gx X) is g)) (ht : ∀ (s : Shared) (H : Hp) (C : Addr) (cl : List (Str × Addr)) (fp : List Addr), PTs (X.blk s H scope (compEnvC scope cl C X.env) fp) ifs (TDB (gx X) W0 tt))
    (he : ∀ (s : Shared) (H : Hp) (C : Addr) (cl : List (Str × Addr)) (fp : List Addr), PE (X.blk s H scope (compEnvC scope cl C X.env) fp) elt (TD (gx X) W0 te)) (hs : ∀ x, foldedSetIterable iter X.env x = pure x) :
    PE X (.ListComp elt [⟨tg, iter, ifs, 0⟩] scope pos) (TD (gx X) W (dLc f mi g tt te (own.map (·.2)))) :=
  (pe_lc hc hN hi ok hg ht he hs).weak fun σ H Q q => lc_d his q
theorem s_setLc {i : Nat} {y : Str} {py spos : Pos} (hc : X.calm = true) (hN : X.N.Nodup) (hy : X.N[i]? = some y) (hyl : X.env.scope.names.lookup y = some .local) (hsw : swapsWith (.ListComp elt [⟨tg, iter, ifs, 0⟩] scope pos) (some (.Name y py)) spos.line X.env = pure true)
    (hi : PI X tg iter (TDI (gx X) W mi)) (ok : BlkOk X.N X.env.scope scope own) (his : ∀ i ∈ is, i ∈ own.map (·.2))
    (hg : ∀ (s : Shared) (H : Hp) (C : Addr) (cl : List (Str × Addr)) (fp : List Addr), PG (X.blk s H scope (compEnvC scope cl C X.env) fp) tg (TGD (gx X) is g)) (ht : ∀ (s : Shared) (H : Hp) (C : Addr) (cl : List (Str × Addr)) (fp : List Addr), PTs (X.blk s H scope (compEnvC scope cl C X.env) fp) ifs (TDB (gx X) W0 tt))
    (he : ∀ (s : Shared) (H : Hp) (C : Addr) (cl : List (Str × Addr)) (fp : List Addr), PE (X.blk s H scope (compEnvC scope cl C X.env) fp) elt (TD (gx X) W0 te)) (hs : ∀ x, foldedSetIterable iter X.env x = pure x) :
    PS X (.Assign [.Name y py] (.ListComp elt [⟨tg, iter, ifs, 0⟩] scope pos) spos) (TDS (gx X) W (sAsg (dLc f mi g tt te (own.map (·.2))) (aName i))) := by
  refine (ps_setLc hc hN hy hyl hsw hi ok hg ht he hs).weak fun E σ H q => ?_
  have q2 := TDS.split (rel := Rep (gx X)) (k := fun d env h1 => match aName i d env with | some env1 => .nx env1 h1 | none => .bad) q
  refine lc_d (Q := fun x H1 => gName i x σ H1 E.nx) his (TG'.imp q2 ?_)
  rintro v H1 ⟨μ1, d, env, h1, S1, e1, r1, P1⟩
  exact P1 μ1 H1 _ S1 .refl (e1.set r1 i)
end
end DV
namespace DV
open PySem PySem.Spec PyProof.Rows L2
/-- enumerate(v), one argument -/
theorem en_new {v : Value} {o : Obj} {H : Heap → Prop} (B : Begins v o H) :
    Meets (Builtin.«enumerate.__new__» ⟨[.type "enumerate", v], []⟩) (fun _ R s => H s.heap ∧ R (.ok (.ret (.ref (s.heap.push o).objs.size))) { s with heap := (s.heap.push o).push { cls := .type "enumerate", data := .fields #[.none, .bool false, .ref s.heap.objs.size, rawInt 0, .none, .none] } }) :=
  .of_wp fun prog w A R s h => by
    obtain ⟨hp, g, d, tk, os⟩ := s
    obtain ⟨h1, h⟩ := h
    have hsub := sub_enumerate
    have q1 : ∀ {A' : Around} {E : Value → Shared → Prop} {Q : Value → Shared → Prop}, Q (.ref hp.objs.size) ⟨hp.push o, g, d, tk, os⟩ → wpAny (model prog w) A' (pyIter v) Q E ⟨hp, g, d, tk, os⟩ := fun q => B.iter prog w _ _ ⟨hp, g, d, tk, os⟩ _ h1 q
    wp_walk using q1
    refine wpAny_stack_any fun st => wpAny_pure ?_
    split
    · rename_i c _ _ _ _ _
      cases (c == Value.type "enumerate") <;> (wp_walk using q1; exact ⟨_, rfl, h⟩)
    · wp_walk using q1
      exact ⟨_, rfl, h⟩
theorem en_call {prog : Program} {w : World} {A : Around} {E : Value → Shared → Prop} {s : Shared} {v : Value} {o : Obj} {H : Heap → Prop} {Q : Value → Shared → Prop} (B : Begins v o H) (h1 : H s.heap)
    (h : ∀ h', IsEnum h' (s.heap.objs.size + 1) s.heap.objs.size 0 .none → h'.get? s.heap.objs.size = some o → h'.objs.size = s.heap.objs.size + 2 → (∀ b o, s.heap.get? b = some o → h'.get? b = some o) → Q (.ref (s.heap.objs.size + 1)) { s with heap := h' }) :
    wpAny (model prog w) A (call (.type "enumerate") [v]) Q E s := by
  refine callType_new F.called_enumerate (by decide) (F.typeCall_enumerate_1 _) (F.newCall_enumerate_1 _) (fun obj => F.args_object_init_2 obj _) F.entry_enumerate_new (en_new B) ⟨h1, ?_⟩
  have hz : (s.heap.push o).objs.size = s.heap.objs.size + 1 := Heap.size_push ..
  show _ ∧ _
  rw [hz]
  have he : IsEnum ((s.heap.push o).push { cls := .type "enumerate", data := .fields #[.none, .bool false, .ref s.heap.objs.size, rawInt 0, .none, .none] }) (s.heap.objs.size + 1) s.heap.objs.size 0 .none := by
    have z := Heap.get?_push_size (s.heap.push o) (o := { cls := .type "enumerate", data := .fields #[.none, .bool false, .ref s.heap.objs.size, rawInt 0, .none, .none] }) rfl
    rw [hz] at z
    exact z
  exact ⟨⟨_, he, rfl⟩, h _ he (Heap.get?_push_of_some _ (Heap.get?_push_size _ B.free)) (by rw [Heap.size_push, hz]) fun b o x => Heap.get?_push_of_some _ (Heap.get?_push_of_some _ x)⟩
/-- the tuple at a, each item in a new pair -/
def ItE (K : PySem.W.Frag) (a : Addr) : It :=
  ⟨fun i H => ∃ (xs : List V) (x : V), SqT K H a xs ∧ xs[i]? = some x, fun i H v H' => ∃ T x, v = .ref T ∧ H T = none ∧ H' = upd H T (.tup [.int (i : Nat), x]) ∧ ∀ xs, SqT K H a xs → xs[i]? = some x, fun i H => ∃ xs : List V, SqT K H a xs ∧ xs.length ≤ i⟩
theorem tup_inj {X : Cx} {pins : List (Addr × Obj)} {σ : L2.St} {H : Hp} {s : Shared} {a : Addr} {xs ys : List V} (I : Inv X pins σ H s) (h1 : SqT X.K H a xs) (h2 : SqT X.K H a ys) : xs = ys := I.tuple_inj h1 h2
theorem turn_en {P : Program} {w : World} {K : PySem.W.Frag} {elts : List Expr} {kk : Nat} {tpos : Pos} (a e it : Addr) (hat : a ≠ it) (hae : a ≠ e) :
    Turn P w K (.Tuple elts kk tpos) (ItE K a) [e, it] e (fun i h => (∃ old, IsEnum h e it ((i : Nat) : Int) old) ∧ h.IsTupleIter it a i ∧ e ≠ it) where
  mem := by simp
  obj := fun i h st b hb => by
    obtain ⟨⟨old, he⟩, ⟨o, ho, hc, hd⟩, _⟩ := st
    have e' : b = e ∨ b = it := by simpa using hb
    rcases e' with z | z
    · rw [z]; exact ⟨_, he, fun v q => nomatch q⟩
    · rw [z]; exact ⟨o, ho, fun v q => by rw [hd] at q; cases q⟩
  keep := fun i h h' st k => let ⟨⟨old, he⟩, hi, hne⟩ := st; ⟨⟨old, k e (by simp) _ he⟩, hi.at fun o q => k it (by simp) o q, hne⟩
  item := by
    intro X hP hw hK hc i pins s σ H E I hf st hg
    subst hP hw hK
    obtain ⟨⟨old, he⟩, hit, hne⟩ := st
    obtain ⟨xs, x, hq, hx⟩ := hg
    obtain ⟨its, rv, p, hz⟩ := I.tuple hq
    obtain ⟨u, hu, ru⟩ := rv.get hx
    have hlt : i < its.length := (List.getElem?_eq_some_iff.mp hu).1
    have hel : e < s.heap.objs.size := Heap.lt_size he
    have hil : it < s.heap.objs.size := by obtain ⟨_, q, _⟩ := hit; exact Heap.lt_size q
    refine wpAny_pyNext_enum_itemC (Draws.tuple (A := X.A.in1) (I.ok.hd hc) it a hat its.toArray) he ⟨hit, p⟩ (by simpa using hlt) hne (by simp [hne, Ne.symm hae]) fun y h' tk hy ho hst' hT hsz hk => ?_
    have ey : y = u := by
      have z : its.toArray[i]? = some y := hy
      rw [List.getElem?_toArray, hu] at z
      exact (Option.some.inj z).symm
    subst ey
    refine ⟨_, rfl, wpAny_letOwnedTupleGo_enum (s := { s with heap := h', toks := tk + 1 }) ho fun h'' he' sb => ?_⟩
    have hT2 : h''.get? s.heap.objs.size = some { cls := .type "tuple", data := .seq #[.int i tk, y] } := (sb.2 _ (Nat.ne_of_gt hel)).trans hT
    have new : ObjOk X.prog X.w (upd H s.heap.objs.size (.tup [.int (i : Nat), x])) h'' s.heap.objs.size (.tup [.int (i : Nat), x]) := ⟨by show 2 ≤ sizeLine; decide, [.int i tk, y], .cons ⟨_, rfl⟩ (.cons ru .nil), ⟨_, hT2, rfl, _, rfl⟩⟩
    have I1 : Inv X pins σ (upd H s.heap.objs.size (.tup [.int (i : Nat), x])) { s with heap := h'', toks := tk + 1 } :=
      I.turnedNew (ch := [e, it]) (fun b ob hb q => (sb.2 b (fun z => hb (by simp [z]))).trans (hk b ob (fun z => hb (by simp [z])) (fun z => hb (by simp [z])) q)) hf (Nat.le_refl _) new
    refine ⟨.ref s.heap.objs.size, _, I1, rfl, ⟨_, x, rfl, I.hok.fresh (Nat.le_refl _), rfl, fun ys hy => by rw [tup_inj I hy hq]; exact hx⟩, ⟨⟨y, ?_⟩, hst'.1.at fun o q => (sb.2 it (Ne.symm hne)).trans q, hne⟩, fun b hb => ?_⟩
    · have e1 : ((i + 1 : Nat) : Int) = (i : Int) + 1 := by omega
      rw [e1]
      exact he'
    · have hb' : b < s.heap.objs.size := by
        have e' : b = e ∨ b = it := by simpa using hb
        rcases e' with z | z
        · rw [z]; exact hel
        · rw [z]; exact hil
      rw [upd_ne (Nat.ne_of_lt hb')]
      exact (hf b hb).1
  done := by
    intro X hP hw hK hc i pins s σ H E I hf st hg
    subst hP hw hK
    obtain ⟨⟨old, he⟩, hit, hne⟩ := st
    obtain ⟨xs, hq, hx⟩ := hg
    obtain ⟨its, rv, p, hz⟩ := I.tuple hq
    obtain ⟨f0, f1, f2, f3, f4, f5⟩ := hf it (by simp)
    have hl := rv.length
    have hT : s.TypeIs (.ref e) "enumerate" := ⟨_, he, rfl⟩
    unfold pyNext
    refine wpAny_bind (wpAny_attempt (wpAny_callSpecial?_slot (name := Str.ofString "__next__") hT F.slot_enumerate_next (wpAny_call_entry F.slot_enumerate_next hT F.entry_enumerate_next ?_ (F.args_enumerate_next_1 _))))
    show wpAny _ _ (field (.ref e) 2 >>= _) _ _ _
    refine wpAny_bind (wpAny_field he rfl (x := .ref it) rfl ?_)
    refine wpAny_bind (wpAny_nextOf_tuple_end (A := X.A.in1) (I.ok.hd hc) hit p (by rw [List.getElem?_toArray]; exact List.getElem?_eq_none (by omega)) fun h' x hx1 hx2 => ?_)
    obtain ⟨o, ho, hcl⟩ := hx2
    refine wpAny_bind (wpAny_isInstance (T := "StopIteration") (b := true) ⟨o, ho, hcl⟩ isSubtype_stop ?_)
    exact wpAny_pure ⟨rfl, I.turned (t' := s.toks) (fun b o hb q => hx1 b o hb q) f0 f1 f3 f4 f5⟩
  self := fun A i s Q E st h => let ⟨⟨_, he⟩, _⟩ := st; wpAny_pyIter_enum he h
def enumD (ds : List D) : List D := (List.range ds.length).map fun i => .tup [.int (i : Nat), (ds.getD i .non)]
def enK : D → DH → R IS
  | .tup ds, h => .ok (.items (enumD ds)) h
  | _, _ => .bad
def iEn (m : DE) : DEn IS := m.bind fun d _ h => enK d h
theorem jE {G : GX} {μ : List Addr} {H : Hp} {a : Addr} {vs : List V} {ds : List D} (q : SqT G.K H a vs) (l : RepL G H μ ds vs) : JItems G μ H (enumD ds) (ItE G.K a) where
  go := fun i μ1 H1 x hi => by
    have hi' : i < ds.length := by simpa [enumD] using hi
    obtain ⟨v, hv, _⟩ := l.get (List.getElem?_eq_getElem hi')
    exact ⟨vs, v, DV.SqT.ext x q, hv⟩
  yld := fun i μ1 h1 H1 d y H' x s hd hy => by
    obtain ⟨T, u, rfl, hT, rfl, hy⟩ := hy
    have hi' : i < ds.length := by
      have := (List.getElem?_eq_some_iff.mp hd).1
      simpa [enumD] using this
    obtain ⟨v, hv, rv⟩ := l.get (List.getElem?_eq_getElem hi')
    have e1 := hy vs (DV.SqT.ext x q)
    rw [hv] at e1
    cases e1
    have ed : d = .tup [.int (i : Nat), ds[i]] := by
      unfold enumD at hd
      rw [List.getElem?_map, List.getElem?_range hi'] at hd
      simp [List.getD, hi'] at hd
      exact hd.symm
    subst ed
    have x2 : Ext μ1 H1 μ1 (upd H1 T (.tup [.int (i : Nat), u])) := Ext.tupled s hT
    refine ⟨s.tupled hT, x2, ?_⟩
    unfold Rep
    refine ⟨T, _, rfl, .inl (.inl upd_same), ?_⟩
    unfold RepL
    refine ⟨_, _, rfl, by unfold Rep; rfl, ?_⟩
    unfold RepL
    exact ⟨_, _, rfl, (rv.ext x).ext x2, by unfold RepL; rfl⟩
  stop := fun i μ1 H1 x hi => ⟨vs, DV.SqT.ext x q, by rw [l.length]; simpa [enumD] using hi⟩
section
variable {X : Cx} {W : XWS} {e : Expr} {m : DE} {p pos tpos : Pos} {elts : List Expr} {kk : Nat}
theorem i_en (hg : Gl X "enumerate") (hm : X.mg "enumerate" = none) (he : PE X e (TD (gx X) W m)) (hs : starEach [e] X.env = [(false, eval e X.env)]) : PI X (.Tuple elts kk tpos) (.Call (.Name "enumerate" p) [e] [] pos) (TDI (gx X) W (iEn m)) := by
  refine ⟨fun pins s σ H R I h => ?_⟩
  have q := TG'.split (rel := Rep (gx X)) (k := fun d _ h => enK d h) h
  refine Call_ (ld_blt I hg hm boot_enumerate (PyProof.Rows.callWith_type1 (thn ((pa_cons he pa_nil (by rw [hs]; rfl)).run pos pins s σ H (fun vs H1 => ∃ v, vs = [v] ∧ ∃ μ1 d env h1, SRep (gx X) μ1 h1 H1 ∧ ERep (gx X) H1 μ1 env σ ∧ Rep (gx X) H1 μ1 d v ∧ Post (relI (gx X)) (gx X) (W σ) μ1 H1 (enK d h1) R) I (TG'.imp q fun v H1 z => ⟨v, rfl, z⟩)) fun us s1 ⟨vs, H1, I1, r1, q1⟩ => ?_) hs rfl))
  obtain ⟨x, rfl, μ1, d, env, h1, S1, e1, rd, P1⟩ := q1
  cases d with
  | tup ds =>
    obtain ⟨a, ws, rfl, hq, l⟩ := rd.tupl
    cases r1 with
    | cons r rr =>
      cases rr
      cases r
      obtain ⟨its, rv, p', hz⟩ := I1.tuple hq
      have ha : a < s1.heap.objs.size := by obtain ⟨_, z, _⟩ := p'; exact Heap.lt_size z
      refine en_call (begins_tuple a its.toArray) p' fun h' he' hit hsz hk => wpAny_pyIter_enum he' ?_
      have I2 : Inv X pins σ H1 { s1 with heap := h' } := I1.kept (t' := s1.toks) hk
      refine ⟨s1.heap.objs.size + 1, [s1.heap.objs.size + 1, s1.heap.objs.size], _, _, H1, rfl, I2, turn_en a (s1.heap.objs.size + 1) s1.heap.objs.size (Nat.ne_of_lt ha) (Nat.ne_of_lt (Nat.lt_succ_of_lt ha)), ⟨⟨.none, he'⟩, ⟨_, hit, rfl, rfl⟩, Nat.succ_ne_self _⟩, fun b hb => ?_, ?_⟩
      · have e' : b = s1.heap.objs.size + 1 ∨ b = s1.heap.objs.size := by simpa using hb
        have hle : s1.heap.objs.size ≤ b := by
          rcases e' with z | z
          · rw [z]; exact Nat.le_add_right _ _
          · rw [z]; exact Nat.le_refl _
        exact I1.fpOk hle (I1.hok.fresh hle)
      · exact P1 μ1 H1 _ S1 .refl (jE hq l)
  | _ => exact P1.elim
end
end DV
namespace DV
open PySem PySem.Spec PyProof.Rows L2
/-- n positional values and the keywords ks fill the parameters by g -/
structure KBd (K : PySem.W.Frag) (fd : FuncData) (ps : List Str) (n : Nat) (ks : List Str) (ds : List Value) (g : {α : Type} → List α → List α → List α → List α) : Prop where
  to : ∀ (s : Shared) (us ws : List Value), K.In s.heap → us.length = n → ws.length = ks.length → BindsTo s fd ⟨us, ks.zip ws⟩ (ps.zip (g us ds ws))
  rel : ∀ {vs dvs zs : List V} {us ws : List Value}, Vals vs us → Vals dvs ds → Vals zs ws → Vals (g vs dvs zs) (g us ds ws)
  rep : ∀ {G : GX} {H : Hp} {μ : List Addr} {as dd zs : List D} {vs dvs ws : List V}, RepL G H μ as vs → RepL G H μ dd dvs → RepL G H μ zs ws → RepL G H μ (g as dd zs) (g vs dvs ws)
def dCallK (ml mk : DEn (List D)) (dd : List D) (n k : Nat) (m : Nat) (g : {α : Type} → List α → List α → List α → List α) (φ : DF) : DE := ml.bind fun as env h => (mk env h).bind fun zs h2 => if as.length = n ∧ zs.length = k ∧ (g as dd zs).length = m then φ (g as dd zs) h2 else .bad
section
variable {X : Cx} {k n m : Nat} {f : Addr} {fd : FuncData} {ps ks : List Str} {dvs : List V} {ds : List Value} {x : Str} {p pos : Pos} {e : Expr} {es : List Expr} {kws : List Keyword} {T : Tabs} {W : XWS} {w : WX} {φ : DF} {ml mk : DEn (List D)} {dd : List D} {g : {α : Type} → List α → List α → List α → List α}
theorem runK {pins : List (Addr × Obj)} {σ : L2.St} {H2 : Hp} {s : Shared} {Q : VK} {us ws : List Value} {vs zs : List V} (F : FnG X.prog X.w X.K X.mg X.base (CX X.prog X.w) k f fd ps (spF T (gx X) m φ)) (hr : Room k X.A) (hgd : X.A.guards = some []) (hb : KBd X.K fd ps n ks ds g) (hd : Vals dvs ds) (hdd : IsD (gx X) dd dvs) (tk : Takes X w) (lw : Links T (gx X) W w)
    (I : Inv X pins σ H2 s) (r : Vals vs us) (rz : Vals zs ws) {μ : List Addr} {h : DH} {as bs : List D} (S : SRep (gx X) μ h H2) (ra : RepL (gx X) H2 μ as vs) (rb : RepL (gx X) H2 μ bs zs)
    (P : Post (Rep (gx X)) (gx X) (W σ) μ H2 (if as.length = n ∧ bs.length = ks.length ∧ (g as dd bs).length = m then φ (g as dd bs) h else .bad) Q) : wpAny (model X.prog X.w) X.A (call (.ref f) us (ks.zip ws)) (EP X pins σ Q) X.xe s := by
  split at P
  · rename_i hl
    have rg := hb.rep ra (hdd μ H2) rb
    refine wpAny_call (codeAny_mono (F.run X.A X.stack s H2 ⟨us, ks.zip ws⟩ (g us ds ws) (g vs dvs zs) Q (fun cls d H => w cls d σ H) hgd hr I.env0 (hb.to s us ws I.kIn (by rw [← r.length, ra.length]; exact hl.1) (by rw [← rz.length, rb.length]; exact hl.2.1)) (hb.rel r hd rz) (spF_at lw S rg (by rw [rg.length]; exact hl.2.2) P)) ?_)
    intro r s' hq
    cases r with
    | error e => exact tk e s' (XE.of_call I (fun cls d H' z => z) hq)
    | ok fl => cases fl with
      | ret u => exact I.after hq
      | next => exact hq.elim
      | brk => exact hq.elim
      | cont => exact hq.elim
  · exact P.elim
theorem pk_d {X : Cx} {W : XWS} {mk : DEn (List D)} {kws : List Keyword} {t : TA} (h : PK X kws t) (w : ∀ σ H Q, TDL (gx X) W mk σ H Q → t σ H Q) : PK X kws (TDL (gx X) W mk) := ⟨fun pos pins s σ H Q I q => h.run pos pins s σ H Q I (w σ H Q q)⟩
theorem k_nil : PK X [] (TDL (gx X) W dNil) := pk_d pk_nil fun σ H Q ⟨μ, env, h, S, e, P⟩ => P μ H [] S .refl (by unfold RepL; rfl)
theorem k_cons {nm : Option Str} {kpos : Pos} {ma : DE} (ha : PE X e (TD (gx X) W ma)) (hr : PK X kws (TDL (gx X) W mk)) : PK X (⟨nm, e, kpos⟩ :: kws) (TDL (gx X) W (dCons ma mk)) := by
  refine pk_d (pk_cons ha hr) fun σ H Q q => ?_
  refine TG'.imp (TG'.split (rel := Rep (gx X)) q) ?_
  rintro x H1 ⟨μ1, d, env, h1, s1, e1, r1, p1⟩
  refine ⟨μ1, env, h1, s1, e1, (Post.bind (rel := RepL (gx X)) p1).imp ?_⟩
  rintro xs H2 ⟨μ2, ds, h2, s2, x2, r2, p2⟩
  exact p2 μ2 H2 _ s2 .refl (by unfold RepL; exact ⟨_, _, rfl, r1.ext x2, r2⟩)
/-- f(k = v, ..) -/
theorem d_callK0 (F : FnG X.prog X.w X.K X.mg X.base (CX X.prog X.w) k f fd ps (spF T (gx X) m φ)) (hr : Room k X.A) (hgd : X.A.guards = some []) (hg : Gl X x) (hm : X.mg x = some (.ref f)) (hk : PySem.W.keepIn X.K (.ref f) = true) (hb : KBd X.K fd ps 0 ks ds g) (hd : Vals dvs ds) (hdd : IsD (gx X) dd dvs) (tk : Takes X w) (lw : Links T (gx X) W w)
    (hkw : PK X kws (TDL (gx X) W mk)) (hall : (backToKw pos (keywordEach kws X.env)).all (·.1.isSome) = true) (hks : (backToKw pos (keywordEach kws X.env)).filterMap (·.1) = ks) (hdb : (x == ("__debug__" : Str)) = false)
    (hpl : ((backTo pos (starEach [] X.env)).any (·.1) || (backToKw pos (keywordEach kws X.env)).any (·.1.isNone)) = false) :
    PE X (.Call (.Name x p) [] kws pos) (TD (gx X) W (dCallK dNil mk dd 0 ks.length m g φ)) := by
  refine ⟨fun pins s σ H Q I q => ?_⟩
  obtain ⟨μ, env, h, S, er, P⟩ := q
  refine wpAny_Call_Name_kw (ld_glob I hg hm ?_ hdb)
  refine PySem.W.callWith_KW0 (h₀ := X.base) I.ok.mod.kin hk hall ?_ hpl
  refine thn (hkw.run pos pins s σ H _ I ⟨μ, env, h, S, er, Post.bind (rel := RepL (gx X)) P⟩) ?_
  rintro ws s2 ⟨zs, H2, I2, rz, μ2, bs, h2, S2, x2, rb, P2⟩
  refine ⟨I2.kIn, ?_⟩
  rw [hks]
  exact runK (us := []) (vs := []) (as := []) F hr hgd hb hd hdd tk lw I2 .nil rz S2 (by unfold RepL; rfl) rb P2
theorem d_callKN (F : FnG X.prog X.w X.K X.mg X.base (CX X.prog X.w) k f fd ps (spF T (gx X) m φ)) (hr : Room k X.A) (hgd : X.A.guards = some []) (hg : Gl X x) (hm : X.mg x = some (.ref f)) (hk : PySem.W.keepIn X.K (.ref f) = true) (hb : KBd X.K fd ps n ks ds g) (hd : Vals dvs ds) (hdd : IsD (gx X) dd dvs) (tk : Takes X w) (lw : Links T (gx X) W w)
    (ha : PA X (e :: es) (TDL (gx X) W ml)) (hkw : PK X kws (TDL (gx X) W mk)) (hall : (backToKw pos (keywordEach kws X.env)).all (·.1.isSome) = true) (hks : (backToKw pos (keywordEach kws X.env)).filterMap (·.1) = ks) (hdb : (x == ("__debug__" : Str)) = false)
    (he : starEach (e :: es) X.env = (false, eval e X.env) :: starEach es X.env) (hpl : ((backTo pos (starEach (e :: es) X.env)).any (·.1) || (backToKw pos (keywordEach kws X.env)).any (·.1.isNone)) = false) :
    PE X (.Call (.Name x p) (e :: es) kws pos) (TD (gx X) W (dCallK ml mk dd n ks.length m g φ)) := by
  refine ⟨fun pins s σ H Q I q => ?_⟩
  refine wpAny_Call_Name_kw (ld_glob I hg hm ?_ hdb)
  refine PySem.W.callWith_KW (h₀ := X.base) I.ok.mod.kin hk hall (thn (ha.run pos pins s σ H _ I (TG'.split (rel := RepL (gx X)) q)) ?_) hpl he
  rintro us s1 ⟨vs, H1, I1, r, μ1, as, env, h1, S1, e1, ra, P1⟩
  refine thn (hkw.run pos pins s1 σ H1 _ I1 ⟨μ1, env, h1, S1, e1, Post.bind (rel := RepL (gx X)) P1⟩) ?_
  rintro ws s2 ⟨zs, H2, I2, rz, μ2, bs, h2, S2, x2, rb, P2⟩
  refine ⟨I2.kIn, ?_⟩
  rw [hks]
  exact runK F hr hgd hb hd hdd tk lw I2 r rz S2 (ra.ext x2) rb P2
end
end DV
namespace DV
open PySem PySem.Spec PyProof.Rows L2
section
variable {prog : Program} {w : World} {A : Around} {E : Value → Shared → Prop} {s : Shared}
theorem fm_congr {α β : Type} {f g : α → Option β} : ∀ {l : List α}, (∀ a ∈ l, f a = g a) → l.filterMap f = l.filterMap g
  | [], _ => rfl
  | a :: l, h => by
    rw [List.filterMap_cons, List.filterMap_cons, h a List.mem_cons_self, fm_congr fun b hb => h b (List.mem_cons_of_mem _ hb)]
theorem pick_rev (xs : Array Value) : ((List.range xs.size).filterMap fun (m : Nat) => xs[(((xs.size : Int) - 1) + (m : Int) * (-1)).toNat]?).toArray = xs.toList.reverse.toArray := by
  congr 1
  have e : ∀ m ∈ List.range xs.size, xs[(((xs.size : Int) - 1) + (m : Int) * (-1)).toNat]? = some (xs.toList.reverse.getD m .none) := by
    intro m hm
    have hm : m < xs.size := List.mem_range.mp hm
    have h1 : (((xs.size : Int) - 1) + (m : Int) * (-1)).toNat = xs.size - 1 - m := by omega
    have h2 : xs.size - 1 - m < xs.size := by omega
    rw [h1, Array.getElem?_eq_getElem h2, List.getD_eq_getElem?_getD, List.getElem?_reverse (by simpa using hm)]
    have h3 : xs.toList.length - 1 - m = xs.size - 1 - m := by simp
    rw [h3, Array.getElem?_toList, Array.getElem?_eq_getElem h2]
    rfl
  have e2 : (List.range xs.size).filterMap (fun (m : Nat) => xs[(((xs.size : Int) - 1) + (m : Int) * (-1)).toNat]?) = (List.range xs.size).filterMap (fun m => some (xs.toList.reverse.getD m .none)) := fm_congr e
  rw [e2, List.filterMap_eq_map']
  apply List.ext_getElem
  · simp
  · intro i h1 h2
    have h1' : i < xs.size := by simpa using h1
    simp [List.getD_eq_getElem?_getD, h1']
theorem getItem_tuple_rev {t sl : Addr} {items : Array Value} {vs : Value} {Q : Value → Shared → Prop} (ht : IsTup s.heap t items) (hs : s.heap.IsSliceOf sl .none .none vs) (ps : IsPart vs (some (-1)))
    (h : Q (.ref s.heap.objs.size) { s with heap := s.heap.push { cls := .type "tuple", data := .seq items.toList.reverse.toArray } }) (hsz : items.size ≤ sizeLine) : wpAny (model prog w) A (getItem (.ref t) (.ref sl)) Q E s := by
  have hso : sizeOk (.seq items.toList.reverse.toArray) := by
    show items.toList.reverse.toArray.size ≤ sizeLine
    simpa using hsz
  obtain ⟨os, hos, hcs, hds⟩ := id hs
  have hTs : s.TypeIs (.ref sl) "slice" := ⟨os, hos, hcs⟩
  unfold getItem
  try with_reducible refine wpAny_holding ?_
  first | refine wpAny_bind (wpAny_pure ?_) | skip
  refine wpAny_bind (wpAny_sequenceKey ht.typeIs (by decide) ?_)
  refine wpAny_bind (wpAny_callSpecial?_slot (name := Str.ofString "__getitem__") ht.typeIs PyProof.Rows.slot_tuple_getitem (wpAny_call_entry PyProof.Rows.slot_tuple_getitem ht.typeIs entry_tuple_getitem ?_ (args_tuple_getitem _ _)))
  show wpAny _ _ (Builtin.Tuple.tupleItemsOf (.ref t) >>= _) _ _ s
  refine wpAny_bind (tupleItemsOf_ ht ?_)
  refine wpAny_bind (wpAny_typeOf hTs ?_)
  rw [if_pos (by decide)]
  have ap : ∀ {Q' : Int × Int × Nat → Shared → Prop} {E' : Value → Shared → Prop} {A' : Around}, Q' ((items.size : Int) - 1, -1, items.size) s → wpAny (model prog w) A' (Builtin.Slice.sliceApplied (.ref sl) (pure (items.size : Int))) Q' E' s := fun {Q' E' A'} q => by
    unfold Builtin.Slice.sliceApplied Builtin.Slice.sliceFields
    refine wpAny_bind (wpAny_bind (wpAny_field hos hds (x := .none) rfl (wpAny_bind (wpAny_field hos hds (x := .none) rfl (wpAny_bind (wpAny_field hos hds (x := vs) rfl (wpAny_pure ?_)))))))
    refine wpAny_bind (HT.slicePart_ ps ?_)
    show wpAny _ _ (if ((-1 : Int) == 0) = true then _ else _) _ _ s
    rw [if_neg (by decide)]
    refine wpAny_bind (HT.slicePart_ .none (wpAny_bind (HT.slicePart_ .none (wpAny_bind (wpAny_pure ?_)))))
    show wpAny _ _ (match Builtin.Slice.sliceAdjust none none (-1) (items.size : Int) with | (lo, hi) => pure (lo, (-1 : Int), Builtin.Slice.slicePlaces lo hi (-1))) _ _ s
    have e1 : Builtin.Slice.sliceAdjust none none (-1) (items.size : Int) = ((items.size : Int) - 1, -1) := by
      unfold Builtin.Slice.sliceAdjust
      simp
    have e2 : Builtin.Slice.slicePlaces ((items.size : Int) - 1) (-1) (-1) = items.size := by
      unfold Builtin.Slice.slicePlaces
      have h1 : ¬ ((-1 : Int) > 0) := by omega
      simp only [h1, if_false]
      have h2 : (items.size : Int) - 1 - -1 - 1 = (items.size : Int) - 1 := by omega
      have h3 : (- -1 : Int) = 1 := by decide
      split
      · first | (rw [h2, h3, Int.ediv_one]; omega) | (simp; omega) | omega
      · omega
    rw [e1]
    show wpAny _ _ (pure ((items.size : Int) - 1, (-1 : Int), Builtin.Slice.slicePlaces ((items.size : Int) - 1) (-1) (-1))) _ _ s
    rw [e2]
    exact wpAny_pure q
  refine wpAny_bind (ap ?_)
  have hno : ¬ ((((items.size : Int) - 1) == 0 && (-1 : Int) == 1 && items.size == items.size) = true) := by simp
  show wpAny _ _ (if (((items.size : Int) - 1) == 0 && (-1 : Int) == 1 && items.size == items.size) = true then _ else _) _ _ s
  rw [if_neg hno, pick_rev]
  first
    | exact wpAny_bind (m := Builtin.Tuple.tupleExact _) (wpAny_newObj_type (wpAny_pure ⟨_, rfl, wpAny_pure h⟩) hso)
    | exact wpAny_bind (m := Builtin.Tuple.tupleExact _) (wpAny_newObj_type (wpAny_bind (wpAny_pure (wpAny_pure ⟨_, rfl, wpAny_pure h⟩))) hso)
    | exact wpAny_bind (wpAny_bind (m := Builtin.Tuple.tupleExact _) (wpAny_newObj_type (wpAny_pure (wpAny_pure ⟨_, rfl, wpAny_pure h⟩)) hso))
    | exact wpAny_bind (wpAny_bind (m := Builtin.Tuple.tupleExact _) (wpAny_newObj_type (wpAny_pure ⟨_, rfl, wpAny_pure h⟩) hso))
end
def tRevA (K : PySem.W.Frag) (te : TE) : TE := fun σ H Q => te σ H fun x H1 => ∃ a xs, x = .ref a ∧ ((SqL K H1 a xs ∧ ∀ p, H1 p = none → Q (.ref p) (upd H1 p (.lst xs.reverse))) ∨ (SqT K H1 a xs ∧ ∀ p, H1 p = none → Q (.ref p) (upd H1 p (.tup xs.reverse))))
theorem pe_revA {X : Cx} {e : Expr} {te : TE} {k : Nat} {p1 p2 p3 pos : Pos} (he : PE X e te) : PE X (.Subscript e (.Slice none none (some (.UnaryOp .USub (.Constant (.int 1) k p1) p2)) p3) pos) (tRevA X.K te) := by
  refine ⟨fun pins s σ H Q I h => ?_⟩
  refine Subscript_ (thn (he.run pins s σ H _ I h) fun v s1 ⟨x, H1, I1, r1, q1⟩ => ?_)
  obtain ⟨a, xs, ex, hx⟩ := q1
  subst ex
  cases r1
  have hst : PO X (some (.UnaryOp .USub (.Constant (.int 1) k p1) p2)) (tPart (tUn (rU fun i => .int (-i)) (tC (.int 1)))) := po_some (pe_un un_neg pe_int)
  refine wpAny_Slice (thn (po_none.run pins s1 σ H1 (fun o H2 => o = none ∧ H2 = H1) I1 ⟨rfl, rfl⟩) fun vl s2 ⟨l, H2, I2, pl, el, e2⟩ => ?_)
  subst el e2
  refine thn (po_none.run pins s2 σ H2 (fun o H3 => o = none ∧ H3 = H2) I2 ⟨rfl, rfl⟩) fun vu s3 ⟨u, H3, I3, pu, eu, e3⟩ => ?_
  subst eu e3
  refine thn (hst.run pins s3 σ H3 (fun o H4 => o = some (-1) ∧ H4 = H3) I3 ⟨1, rfl, -1, rfl, rfl, rfl⟩) fun vs s4 ⟨o, H4, I4, ps, eo, e4⟩ => ?_
  subst eo e4
  have I5 : Inv X pins σ H4 { s4 with heap := s4.heap.push { cls := .type "slice", data := .fields #[vl, vu, vs] } } := I4.kept (t' := s4.toks) fun b ob q => Heap.get?_push_of_some _ q
  show wpAny (model X.prog X.w) X.A (subscriptTail e (.Slice none none (some (.UnaryOp .USub (.Constant (.int 1) k p1) p2)) p3) (.ref a) (.ref s4.heap.objs.size)) (EP X pins σ Q) X.xe { s4 with heap := s4.heap.push { cls := .type "slice", data := .fields #[vl, vu, vs] } }
  rcases hx with ⟨hx, q⟩ | ⟨hx, q⟩
  · obtain ⟨its, r, ht, hz⟩ := I5.list hx
    have hlen := r.length
    refine tail_any (ops := [.ref a, .ref s4.heap.objs.size]) ht.isList.typeIs (PySem.slot_list_getitem.lookup) ?_ (by with_unfolding_all rfl)
    refine wpAny_getItem_list_slice ht.isList (Heap.IsSliceOf.new _ vl vu vs) pl pu ps (by decide) ?_ (by rw [List.size_toArray]; omega)
    rw [PySem.W.krv_pick]
    refine ⟨.ref _, _, I5.laid (t' := s4.toks) (o := .lst xs.reverse) (fun b ob q => Heap.get?_push_of_some _ q) (Nat.le_refl _) ?_, rfl, q _ (I5.hok.fresh (Nat.le_refl _))⟩
    exact ⟨by rw [List.length_reverse]; exact hz, _, 0, r.reverse, Heap.get?_push_size _ rfl⟩
  · obtain ⟨its, r, ht, hz⟩ := I5.tuple hx
    have hlen := r.length
    refine tail_any (ops := [.ref a, .ref s4.heap.objs.size]) ht.typeIs (PyProof.Rows.slot_tuple_getitem.lookup) ?_ (by with_unfolding_all rfl)
    cases pl
    cases pu
    refine getItem_tuple_rev ht (Heap.IsSliceOf.new _ .none .none vs) ps ?_ (by rw [List.size_toArray]; omega)
    refine ⟨.ref _, _, I5.laid (t' := s4.toks) (o := .tup xs.reverse) (fun b ob q => Heap.get?_push_of_some _ q) (Nat.le_refl _) ?_, rfl, q _ (I5.hok.fresh (Nat.le_refl _))⟩
    refine ⟨by rw [List.length_reverse]; exact hz, its.reverse, r.reverse, ?_⟩
    have e : its.toArray.toList.reverse = its.reverse := by simp
    rw [e]
    exact IsTup.new _ its.reverse.toArray
theorem RepL.rev {G : GX} {H : Hp} {μ : List Addr} : ∀ {ds : List D} {vs : List V}, RepL G H μ ds vs → RepL G H μ ds.reverse vs.reverse
  | [], vs, r => by
    unfold RepL at r
    subst r
    show RepL G H μ [] []
    unfold RepL; rfl
  | d :: ds, vs, r => by
    unfold RepL at r
    obtain ⟨v, t, rfl, r1, r2⟩ := r
    rw [List.reverse_cons, List.reverse_cons]
    exact (RepL.rev r2).append (by unfold RepL; exact ⟨v, [], rfl, r1, by unfold RepL; rfl⟩)
def revD : D → DH → R D
  | .tup ds, h => .ok (.tup ds.reverse) h
  | .frz ds, h => alloc (.lst ds.reverse) h
  | .ref n, h => match h[n]? with
    | some (.lst ds) => alloc (.lst ds.reverse) h
    | _ => .bad
  | _, _ => .bad
def dRev (m : DE) : DE := m.bind fun d _ h => revD d h
section
variable {X : Cx} {W : XWS} {e : Expr} {m : DE} {k : Nat} {p1 p2 p3 pos : Pos}
theorem d_rev (he : PE X e (TD (gx X) W m)) : PE X (.Subscript e (.Slice none none (some (.UnaryOp .USub (.Constant (.int 1) k p1) p2)) p3) pos) (TD (gx X) W (dRev m)) := by
  refine (pe_revA he).weak fun σ H Q q => ?_
  refine TG'.imp (TG'.split (rel := Rep (gx X)) (k := fun d _ h => revD d h) q) ?_
  rintro x H1 ⟨μ1, d, env, h1, s1, e1, r1, p⟩
  unfold revD at p
  split at p
  · obtain ⟨a, vs, rfl, q1, l1⟩ := r1.tupl
    exact ⟨a, vs, rfl, .inr ⟨q1, p.tup s1 l1.rev⟩⟩
  · obtain ⟨a, vs, rfl, q1, l1⟩ := r1.frzl
    exact ⟨a, vs, rfl, .inl ⟨q1.sq, p.allocL s1 l1.rev⟩⟩
  · obtain ⟨a, ea, rfl⟩ := r1.ref
    split at p
    · rename_i ds hd
      obtain ⟨vs, q1, l1⟩ := s1.list hd ea
      exact ⟨a, vs, rfl, .inl ⟨.of q1, p.allocL s1 l1.rev⟩⟩
    · exact p.elim
  · exact p.elim
/-- a name of the module that stands for plain data -/
theorem d_glob {x : Str} {u : Value} {d : D} (hg : Gl X x) (hm : X.mg x = some u) (r : ∃ v, RelV v u ∧ ∀ H μ, Rep (gx X) H μ d v) (hd : (x == ("__debug__" : Str)) = false) : PE X (.Name x pos) (TD (gx X) W (dCst d)) := by
  obtain ⟨v, rv, r⟩ := r
  exact (pe_glob hg hm rv hd).weak fun σ H Q ⟨μ, env, h, s, e, p⟩ => p.now s (r H μ)
/-- a built-in type's name -/
theorem d_tyN {x : Str} {n : String} (hg : Gl X x) (hm : X.mg x = none) (hv : bootBuiltins x = some (.type n)) (hn : x ≠ "__name__") (hd : (x == ("__debug__" : Str)) = false) : PE X (.Name x pos) (TD (gx X) W (dCst (.ty n))) :=
  (pe_bltn (v := .ty n) hg hm hv rfl hn hd).weak fun σ H Q ⟨μ, env, h, s, e, p⟩ => p.now s (by unfold Rep; rfl)
end
end DV
namespace DV
open PySem PySem.Spec PyProof.Rows L2
def runB (n N : Nat) (m : SD) : DF := fun as h => if as.length = n then (match m (as.map some ++ List.replicate (N - n) none) h with
  | .rt d h' => .ok d h'
  | .nx _ h' => .ok .non h'
  | .exc c a _ h' => .exc c a h'
  | _ => .bad) else .bad
/-- what a body's proof is given -/
structure Bd (T : Tabs) (k : Nat) (X : Cx) (W : XWS) (wx : WX) : Prop where
  gd : X.A.guards = some []
  rm : Room k X.A
  tk : Takes X wx
  lw : Links T (gx X) W wx
  po : PassesOwn (model X.prog X.w) X.A X.env X.xe
theorem Bd.hu64 {T : Tabs} {k : Nat} {X : Cx} {W : XWS} {wx : WX} (b : Bd T k X W wx) : X.A.units + 64 < cLine := by
  have := b.rm.un
  omega
theorem Bd.hu65 {T : Tabs} {k : Nat} {X : Cx} {W : XWS} {wx : WX} (b : Bd T k X W wx) : X.A.units + 65 < cLine := by
  have := b.rm.un
  omega
theorem Bd.hu70 {T : Tabs} {k : Nat} {X : Cx} {W : XWS} {wx : WX} (b : Bd T k X W wx) : X.A.units + 70 < cLine := by
  have := b.rm.un
  omega
theorem Bd.hu1 {T : Tabs} {k : Nat} {X : Cx} {W : XWS} {wx : WX} (b : Bd T k X W wx) : X.A.units + 1 < cLine := by
  have := b.rm.un
  omega
theorem links0 {T : Tabs} {G : GX} : Links T G W0 (fun _ _ _ _ => False) := fun _ _ _ _ _ _ _ z => z.elim
/-- .. in a comprehension's block -/
theorem Bd.blk {T : Tabs} {k : Nat} {X : Cx} {W : XWS} {wx : WX} (b : Bd T k X W wx) (s : Shared) (H : Hp) (scope : Scope) (cenv : PySem.Env) (fp : List Addr) : Bd T k (X.blk s H scope cenv fp) W0 (fun _ _ _ _ => False) :=
  ⟨b.gd, b.rm, takes_none5, links0, PassesOwn.never⟩
/-- .. in a try's body -/
theorem Bd.tr {T : Tabs} {k : Nat} {X : Cx} {W W' : XWS} {wx wx' : WX} (b : Bd T k X W wx) {pn : List (Addr × Obj)} {xe : Value → Shared → Prop} (tk : Takes (X.tr pn xe) wx') (lw : Links T (gx X) W' wx') (po : PassesOwn (model X.prog X.w) X.A X.env xe) : Bd T k (X.tr pn xe) W' wx' :=
  ⟨b.gd, b.rm, tk, lw, po⟩
section
variable {T : Tabs} {P : Program} {w : World} {K : PySem.W.Frag} {mg : Str → Option Value} {base : Heap} {x q : Str} {params : Arguments} {body : List Stmt} {scope : Scope} {dvs : List V} {kws : List (Str × V)} {f : Addr} {fd : FuncData} {N ps : List Str} {k : Nat} {m : SD}
theorem fn_d (F : FunD K x q params body scope dvs kws f fd) (S : FnScope N ps scope)
    (hb : ∀ (cdv : Value) (A : Around) (outer : List PySem.Env) (s : Shared) (H : Hp) (E : XK) (W : XWS) (wx : WX), Bd T k (cxOf (CX P w) P w K mg base N q scope f cdv A outer s H E) W wx → PSs (cxOf (CX P w) P w K mg base N q scope f cdv A outer s H E) body (TDS ⟨K, w, P⟩ W m)) :
    FnG P w K mg base (CX P w) (k + 1) f fd ps (spF T ⟨K, w, P⟩ ps.length (runB ps.length N.length m)) := by
  obtain ⟨oc, od, dV, kV, doc, pm, an, cdv, ct, osl, rfl, lk, hcd, _, _⟩ := F.ex
  refine fnG_of lk hcd S (fun vs H Q E h => h.1) fun A outer s H vs Q E hgd hr hsp => ?_
  obtain ⟨hl, μ, h, ds, SR, rl, Pq⟩ := hsp
  let X := cxOf (CX P w) P w K mg base N q scope f cdv A outer s H E
  let W : XWS := fun σ μ' H' c a h' => WE T ⟨K, w, P⟩ E μ' H' c a h'
  let wx : WX := fun cls d σ H' => E cls d H'
  have bd : Bd T k X W wx := ⟨hgd, hr, takes_of rfl rfl rfl rfl, fun σ μ' H' c a h' S' z => z, passes_of rfl⟩
  refine ⟨TDS ⟨K, w, P⟩ W m, hb cdv A outer s H E W wx bd, ?_⟩
  have hdl : ds.length = ps.length := by rw [← rl.length]; exact hl
  have hNp : ps.length ≤ N.length := by
    have z := congrArg List.length S.pre
    rw [List.length_take] at z
    omega
  refine ⟨μ, ds.map some ++ List.replicate (N.length - ps.length) none, h, SR, ⟨?_, fun i d hi => ?_⟩, ?_⟩
  · unfold L2.start
    simp [hdl, hl]
  · unfold L2.start
    have hi' : i < ds.length := by
      by_cases z : i < ds.length
      · exact z
      · rw [List.getElem?_append_right (by simpa using z), List.getElem?_replicate] at hi
        split at hi <;> cases hi
    rw [List.getElem?_append_left (by simpa using hi'), List.getElem?_map] at hi
    cases e : ds[i]? with
    | none => rw [e] at hi; cases hi
    | some d' =>
      rw [e] at hi
      cases hi
      obtain ⟨v, hv, rv⟩ := rl.get e
      refine ⟨v, ?_, rv⟩
      rw [List.getElem?_append_left (by rw [List.length_map, rl.length]; exact hi'), List.getElem?_map, hv]
      rfl
  · unfold runB at Pq
    rw [if_pos hdl] at Pq
    cases e : m (ds.map some ++ List.replicate (N.length - ps.length) none) h with
    | rt d h' => rw [e] at Pq; exact fun μ' H' v s' x' r' => Pq μ' H' v s' x' r'
    | nx env' h' => rw [e] at Pq; exact fun μ' H' σ' s' x' r' => Pq μ' H' .non s' x' (by unfold Rep; rfl)
    | exc c a env' h' => rw [e] at Pq; exact fun μ' H' σ' s' x' r' => Pq μ' H' s' x'
    | bk env' h' => rw [e] at Pq; exact Pq.elim
    | ct env' h' => rw [e] at Pq; exact Pq.elim
    | bad => rw [e] at Pq; exact Pq.elim
/-- at no depth -/
theorem fn_0 : FnG P w K mg base (CX P w) 0 f fd ps (spF T ⟨K, w, P⟩ ps.length (fun _ _ => .bad)) := ⟨fun vs H Q E h => h.1, fun A outer s H args us vs Q E _ _ _ _ _ h => by
  obtain ⟨_, _, _, _, _, _, z⟩ := h
  exact z.elim⟩
end
/-- a def of the module, without defaults, as it may be called -/
def Cal (T : Tabs) (P : Program) (w : World) (K : PySem.W.Frag) (mg : Str → Option Value) (base : Heap) (k : Nat) (x : Str) (ps : List Str) (φ : DF) : Prop :=
  ∃ f fd, FnG P w K mg base (CX P w) k f fd ps (spF T ⟨K, w, P⟩ ps.length φ) ∧ mg x = some (.ref f) ∧ PySem.W.keepIn K (.ref f) = true ∧ (∀ us : List Value, us.length = ps.length → bindArgs fd ⟨us, []⟩ = pure (ps.zip us)) ∧ (∀ ws : List Value, ws.length = ps.length → bindArgs fd ⟨[], ps.zip ws⟩ = pure (ps.zip ws))
theorem isD_nil {G : GX} : IsD G [] [] := fun _ _ => by unfold RepL; rfl
section
variable {T : Tabs} {k : Nat} {X : Cx} {W : XWS} {wx : WX} {x : Str} {ps : List Str} {φ : DF} {ml mk : DEn (List D)} {p pos : Pos} {e : Expr} {es : List Expr} {kws : List Keyword}
theorem d_cal (c : Cal T X.prog X.w X.K X.mg X.base k x ps φ) (b : Bd T k X W wx) (hg : Gl X x) (hdb : (x == ("__debug__" : Str)) = false) (ha : PA X (e :: es) (TDL (gx X) W ml)) (he : starEach (e :: es) X.env = (false, eval e X.env) :: starEach es X.env) (hpl : (backTo pos (starEach es X.env)).any (·.1) = false) :
    PE X (.Call (.Name x p) (e :: es) [] pos) (TD (gx X) W (dCallF ml [] ps.length φ)) := by
  obtain ⟨f, fd, F, hm, hk, hb, _⟩ := c
  exact d_call F b.rm b.gd hg hm hk (.all hb) .nil isD_nil b.tk b.lw ha hdb he hpl
theorem d_cal0 (c : Cal T X.prog X.w X.K X.mg X.base k x ps φ) (b : Bd T k X W wx) (hg : Gl X x) (hdb : (x == ("__debug__" : Str)) = false) : PE X (.Call (.Name x p) [] [] pos) (TD (gx X) W (dCallF dNil [] ps.length φ)) := by
  obtain ⟨f, fd, F, hm, hk, hb, _⟩ := c
  exact d_call0 F b.rm b.gd hg hm hk (.all hb) .nil isD_nil b.tk b.lw hdb
def dCalK (mk : DEn (List D)) (n : Nat) (φ : DF) : DE := dCallF mk [] n φ
/-- all parameters by their names, in their order -/
theorem d_calK (c : Cal T X.prog X.w X.K X.mg X.base k x ps φ) (b : Bd T k X W wx) (hg : Gl X x) (hdb : (x == ("__debug__" : Str)) = false) (hkw : PK X kws (TDL (gx X) W mk)) (hall : (backToKw pos (keywordEach kws X.env)).all (·.1.isSome) = true) (hks : (backToKw pos (keywordEach kws X.env)).filterMap (·.1) = ps)
    (hpl : ((backTo pos (starEach [] X.env)).any (·.1) || (backToKw pos (keywordEach kws X.env)).any (·.1.isNone)) = false) : PE X (.Call (.Name x p) [] kws pos) (TD (gx X) W (dCallF mk [] ps.length φ)) := by
  obtain ⟨f, fd, F, hm, hk, _, hb⟩ := c
  have kb : KBd X.K fd ps 0 ps [] (fun {α} us ds ws => ws) := ⟨fun s us ws _ h0 hw => by
    cases List.length_eq_zero_iff.mp h0
    exact .of_eq (hb ws hw), fun _ _ r => r, fun _ _ r => r⟩
  refine (d_callK0 F b.rm b.gd hg hm hk kb .nil isD_nil b.tk b.lw hkw hall hks hdb hpl).weak fun σ H Q q => ?_
  obtain ⟨μ, env, h, S, e, P⟩ := q
  refine ⟨μ, env, h, S, e, ?_⟩
  unfold dCallF DEn.bind at P
  unfold dCallK dNil DEn.bind
  show Post _ _ _ _ _ ((mk env h).bind fun zs h2 => _) _
  cases e2 : mk env h with
  | bad => rw [e2] at P; exact P
  | exc c a h' => rw [e2] at P; exact P
  | ok ds h' =>
    rw [e2] at P
    have P : Post (Rep (gx X)) (gx X) (W σ) μ H (if (ds ++ []).length = ps.length then φ (ds ++ []) h' else .bad) Q := P
    show Post (Rep (gx X)) (gx X) (W σ) μ H (if ([] : List D).length = 0 ∧ ds.length = ps.length ∧ ds.length = ps.length then φ ds h' else .bad) Q
    rw [List.append_nil] at P
    by_cases hl : ds.length = ps.length
    · rw [if_pos hl] at P
      rw [if_pos ⟨rfl, hl, hl⟩]
      exact P
    · rw [if_neg hl] at P
      exact P.elim
end
def tx (s : String) : Txt := (Str.ofString s).cps.toList
theorem sOf_tx (s : String) : sOf (tx s) = Str.ofString s := sOf_cps _
theorem d_strS {X : Cx} {W : XWS} {s : String} {j} {pos : Pos} : PE X (.Constant (.str (Str.ofString s)) j pos) (TD (gx X) W (dCst (.str (tx s)))) := d_str (sOf_tx s).symm
theorem d_globE {X : Cx} {W : XWS} {x : Str} {d : D} {pos : Pos} (hg : Gl X x) (h : ∃ u, X.mg x = some u ∧ ∃ v, RelV v u ∧ ∀ H μ, Rep (gx X) H μ d v) (hd : (x == ("__debug__" : Str)) = false) : PE X (.Name x pos) (TD (gx X) W (dCst d)) := by
  obtain ⟨u, hm, r⟩ := h
  exact d_glob hg hm r hd
def blkB (N : List Str) (sc scope : Scope) (own : List (Str × Nat)) : Bool :=
  decide (scope.kind = .function) && (scope.names.all fun y => decide (scope.names.lookup y.1 = some y.2)) && (own.all fun p => decide (N[p.2]? = some p.1)) && (scope.names.all fun y => !decide (y.2 = .free) || (decide (sc.names.lookup y.1 = some .cell) || decide (sc.names.lookup y.1 = some .free))) &&
    (scope.names.all fun y => !(decide (y.2 = .local) || decide (y.2 = .cell)) || (decide (y.1 ∈ own.map (·.1)) || decide (y.1 ∉ N)))
theorem blkB_ok {N : List Str} {sc scope : Scope} {own : List (Str × Nat)} (h : blkB N sc scope own = true) : BlkOk N sc scope own := by
  unfold blkB at h
  simp only [Bool.and_eq_true, List.all_eq_true, decide_eq_true_eq, Bool.or_eq_true, Bool.not_eq_true', decide_eq_false_iff_not] at h
  obtain ⟨⟨⟨⟨h1, h2⟩, h3⟩, h4⟩, h5⟩ := h
  refine ⟨h1, h2, h3, fun y hy e => ?_, fun y hy e => ?_⟩
  · rcases h4 y hy with z | z
    · exact absurd e z
    · exact z
  · rcases h5 y hy with z | z
    · rw [Bool.or_eq_false_iff, decide_eq_false_iff_not, decide_eq_false_iff_not] at z
      exact (e.elim z.1 z.2).elim
    · exact z
end DV
namespace DV
open PySem PySem.Spec PyProof.Rows L2
theorem ba2 {a b : Bool} (h : (a && b) = true) : a = true ∧ b = true := Bool.and_eq_true_iff.mp h
def oexB (K : PySem.W.Frag) (C : Addr) : Bool := match K.lookup C with
  | some ⟨.type t, _, .cls cd, sl⟩ => (match cd.mro, sl.toList with
    | .ref C' :: bm, [_, _, _, _, some (.builtin n), _] => decide (t = "type") && (decide (C' = C) && (decide (n = "ValueError.__new__") && (!cd.hasDel && (cd.hasDict && HandSPX.refsVE bm))))
    | _, _ => false)
  | _ => false
theorem oexB_ok {K : PySem.W.Frag} {C : Addr} (q : oexB K C = true) : ∃ nm qn N bs bm sn sub ab col dd k0 k1 k2 k3 k5, K.lookup C = some (excClassObj nm qn C N bs bm true sn sub ab col dd k0 k1 k2 k3 k5 "ValueError.__new__") ∧ HandSPX.refsVE bm = true := by
  unfold oexB at q
  split at q
  · rename_i t dd cd sl ho
    split at q
    · rename_i C' bm k0 k1 k2 k3 n k5 hm hs
      obtain ⟨h1, q⟩ := ba2 q
      obtain ⟨h2, q⟩ := ba2 q
      obtain ⟨h3, q⟩ := ba2 q
      obtain ⟨h4, q⟩ := ba2 q
      obtain ⟨h5, h6⟩ := ba2 q
      have e1 : t = "type" := of_decide_eq_true h1
      have e2 : C' = C := of_decide_eq_true h2
      have e3 : n = "ValueError.__new__" := of_decide_eq_true h3
      subst e1 e2 e3
      obtain ⟨nm, bs, mro, ns, qn, hd, sn, sub, ab, col, del⟩ := cd
      dsimp only at hm h4 h5
      have e4 : del = false := by simpa using h4
      subst hm e4 h5
      have hsl : sl = #[k0, k1, k2, k3, some (.builtin "ValueError.__new__"), k5] := by
        obtain ⟨l⟩ := sl
        simp only at hs
        rw [hs]
      subst hsl
      exact ⟨nm, qn, ns, bs, bm, sn, sub, ab, col, dd, k0, k1, k2, k3, k5, ho, h6⟩
    · cases q
  · cases q
/-- where the __init__ of the module's class x stands -/
abbrev iAd (K : PySem.W.Frag) (x : Str) : Addr := He.fAd K (x, some "__init__")
/-- the code object, the cell of __class__ -/
def iniB (K : PySem.W.Frag) (C fI : Addr) (file : Str) : Bool := match K.lookup fI with
  | some ⟨_, _, .func fd, _⟩ => PySem.W.codeIn K fd.code fd.qualname && (decide (fd.defaults = .none) && ((match fd.code with
    | .ref cda => (match K.lookup cda with
      | some ⟨_, _, .fields vs, _⟩ => (match vs[2]? with
        | some (Value.str f _) => decide (f = file)
        | _ => false)
      | _ => false)
    | _ => false) && (match fd.closure with
    | [(_, cc)] => (match K.lookup cc with
      | some ⟨_, _, .cell (some (.ref D)), _⟩ => decide (D = C)
      | _ => false)
    | _ => false)))
  | _ => false
def errB (K : PySem.W.Frag) (file x : Str) (fs : List Str) : Bool :=
  oexB K (He.ga K x) && (decide (PySem.W.findIn K (.ref (He.ga K x)) "__setattr__" = some (some (.builtin "object.__setattr__"))) && (decide (PySem.W.subIn K (.ref (He.ga K x)) (.type "BaseException") = some true) && (decide (PySem.W.typeIn K (.ref (He.ga K x)) = some (.type "type")) &&
    (PySem.W.keepIn K (.ref (He.ga K x)) && (xfB K (He.ga K x) && (decide (PySem.W.findIn K (.ref (He.ga K x)) "__init__" = some (some (.ref (iAd K x)))) && (decide (PySem.W.typeIn K (.ref (iAd K x)) = some (.type "function")) &&
      ((match PySem.W.clsIn K (He.ga K x) with
        | some cd => decide (PySem.W.alongIn K "__init__" ((cd.mro.dropWhile (· != .ref (He.ga K x))).drop 1) = some (some Ve.vb))
        | none => false) && (decide (PySem.W.mroIn K (He.ga K x) (.ref (He.ga K x)) = some true) && (decide (PySem.W.mroIn K (He.ga K x) (.type "ValueError") = some true) && (decide (PySem.W.nsIn K cStatics "thirdparty.any" = some none) &&
          ((fs.all fun f => decide (PySem.W.findIn K (.ref (He.ga K x)) f = some none)) && iniB K (He.ga K x) (iAd K x) file))))))))))))
abbrev IniW : Type := Option (Arguments × FuncBody × Scope × List Str × Addr × Addr)
def iniW (K : PySem.W.Frag) (x : Str) : IniW := match K.lookup (iAd K x) with
  | some ⟨_, _, .func fd, _⟩ => some (fd.params, fd.body, fd.scope, fd.closure.map (·.1), fd.globals, fd.builtins)
  | _ => none
/-- what the text says of the __init__: its parameters, its names -/
structure IniT (params : Arguments) (scope : Scope) (fs : List Str) : Prop where
  head : ∃ ar : Arg, (params.posonlyargs ++ params.args).head? = some ar ∧ ar.arg = ("self" : Str)
  kind : scope.kind = .function
  co : scope.isCoroutine = false
  gen : scope.isGenerator = false
  nc : ∀ x ∈ scope.names, x.2 ≠ .cell
  loc : ∀ f ∈ ("self" : Str) :: fs, scope.names.lookup f = some .local
  sup : scope.names.lookup ("super" : Str) = some .globalImplicit
  cls : scope.names.lookup ("__class__" : Str) = some .free
  bind : ∀ (n1 n2 : Str) (bd : FuncBody) (sc : Scope) (g : Addr) (cl : List (Str × Addr)) (kd doc pm : Value) (an : Option Addr) (cd ct : Value) (bi : Addr) (us : List Value), us.length = fs.length + 1 → bindArgs ⟨n1, n2, params, bd, sc, g, cl, .none, kd, doc, pm, an, cd, ct, bi⟩ ⟨us, []⟩ = pure ((("self" : Str) :: fs).zip us)
theorem ini_of {P : Program} {K : PySem.W.Frag} {x : Str} {fs : List Str} {body : List Stmt} {params : Arguments} {scope : Scope} (hB : errB K P.main.file x fs = true) (hW : iniW K x = some (params, FuncBody.stmts body, scope, ([("__class__" : Str)] : List Str), mainGlobals, builtinsNs)) (t : IniT params scope fs) (htop : (P.main.scope.names.lookup ("super" : Str)).isSome = false) :
    Ve.Ini P K (He.ga K x) (iAd K x) fs body := by
  unfold errB at hB
  obtain ⟨b1, hB⟩ := ba2 hB
  obtain ⟨b2, hB⟩ := ba2 hB
  obtain ⟨b3, hB⟩ := ba2 hB
  obtain ⟨b4, hB⟩ := ba2 hB
  obtain ⟨b5, hB⟩ := ba2 hB
  obtain ⟨b6, hB⟩ := ba2 hB
  obtain ⟨b7, hB⟩ := ba2 hB
  obtain ⟨b8, hB⟩ := ba2 hB
  obtain ⟨b9, hB⟩ := ba2 hB
  obtain ⟨b10, hB⟩ := ba2 hB
  obtain ⟨b11, hB⟩ := ba2 hB
  obtain ⟨b12, hB⟩ := ba2 hB
  obtain ⟨b13, b14⟩ := ba2 hB
  refine ⟨⟨oexB_ok b1, of_decide_eq_true b2, of_decide_eq_true b3, of_decide_eq_true b4, b5⟩, xfB_ok b6, of_decide_eq_true b7, of_decide_eq_true b8, fun cd hcd => ?_, of_decide_eq_true b10, of_decide_eq_true b11, of_decide_eq_true b12, fun f hf => of_decide_eq_true (List.all_eq_true.mp b13 f hf), htop, ?_⟩
  · rw [hcd] at b9
    exact of_decide_eq_true b9
  · unfold iniB at b14
    unfold iniW at hW
    cases e : K.lookup (iAd K x) with
    | none => rw [e] at hW; cases hW
    | some o =>
      obtain ⟨oc, od, dt, osl⟩ := o
      rw [e] at hW b14
      cases dt with
      | func fd =>
        obtain ⟨n1, n2, pa, bd, sc, g, cl, dV, kV, doc, pm, an, cdv, ct, bi⟩ := fd
        have hW : (some (pa, bd, sc, cl.map (·.1), g, bi) : IniW) = some (params, FuncBody.stmts body, scope, ([("__class__" : Str)] : List Str), mainGlobals, builtinsNs) := hW
        simp only [Option.some.injEq, Prod.mk.injEq] at hW
        obtain ⟨rfl, rfl, rfl, w4, rfl, rfl⟩ := hW
        obtain ⟨c1, b14⟩ := ba2 b14
        obtain ⟨c2, b14⟩ := ba2 b14
        obtain ⟨c3, c4⟩ := ba2 b14
        have e2 : dV = .none := of_decide_eq_true c2
        subst e2
        split at c4
        · rename_i nm cc hcl
          have hcl : cl = [(nm, cc)] := hcl
          subst hcl
          have enm : nm = "__class__" := by simpa using w4
          subst enm
          split at c4
          · rename_i occ1 occ2 D occ3 hcc
            have eD : D = He.ga K x := of_decide_eq_true c4
            subst eD
            split at c3
            · rename_i cda hcda
              have hcda : cdv = .ref cda := hcda
              split at c3
              · rename_i o1 o2 vs o3 hco
                split at c3
                · rename_i f tf hvs
                  have ef : f = P.main.file := of_decide_eq_true c3
                  obtain ⟨ar, a1, a2⟩ := t.head
                  refine ⟨_, _, cc, cda, _, _, vs, f, tf, ar, rfl, rfl, rfl, rfl, rfl, rfl, hcda, c1, hco, rfl, hvs, by rw [ef]; exact beq_self_eq_true _, hcc, rfl, a1, a2, t.kind, t.co, t.gen, t.nc, t.loc, t.sup, t.cls, fun us hl => t.bind _ _ _ _ _ _ _ _ _ _ _ _ _ us hl⟩
                · cases c3
              · cases c3
            · cases c3
          · cases c4
        · cases c4
      | _ => cases hW
/-- isinstance's facts of a class of errors -/
def excB (K : PySem.W.Frag) (D : Addr) : Bool := xfB K D && (decide (PySem.W.findIn K (.ref D) "__class__" = some (some (.builtin "object.__class__"))) && (decide (PySem.W.specialIn K (.builtin "object.__class__") "__get__" = some (some (.builtin "getset_descriptor.__get__"))) && (decide (PySem.W.takesIn K (.builtin "object.__class__") = some true) && decide (PySem.W.mroIn K D (.type "object") = some true))))
theorem excB_ok {K : PySem.W.Frag} {D : Addr} (h : excB K D = true) : ExcC K D := by
  obtain ⟨h1, h⟩ := ba2 h
  obtain ⟨h2, h⟩ := ba2 h
  obtain ⟨h3, h⟩ := ba2 h
  obtain ⟨h4, h5⟩ := ba2 h
  have x := xfB_ok h1
  exact ⟨x.ga, x.gg, x.exC, x.hdC, of_decide_eq_true h2, of_decide_eq_true h3, of_decide_eq_true h4, of_decide_eq_true h5⟩
theorem keyOf_isStr {e : DictEntry} {x : Str} {i : Int} (h : He.keyOf e = some (x, i)) (y : Str) : e.key.isStr y = decide (x = y) := by
  unfold He.keyOf at h
  split at h
  · rename_i z t hz
    have h2 := Option.some.inj h
    obtain ⟨h3, _⟩ := Prod.mk.inj h2
    subst h3
    rw [hz]
    show (z == y) = decide (z = y)
    by_cases q : z = y
    · subst q; simp
    · have : (z == y) = false := by simpa using q
      simp [this, q]
  · cases h
theorem keyOf_ref {e : DictEntry} {q : Str × Int} (h : He.keyOf e = some q) : e.refKey = false := by
  unfold He.keyOf at h
  unfold DictEntry.refKey
  cases hk : e.key with
  | str x t => rfl
  | _ => (rw [hk] at h; first | done | cases h)
theorem find_none {P : Params} {x : Str} : ∀ {l : List DictEntry} {ks : List Str}, l.map He.keyOf = He.keysIn P ks → x ∉ ks → l.find? (·.key.isStr x) = none ∧ l.any (·.refKey) = false
  | [], [], _, _ => ⟨rfl, rfl⟩
  | [], _ :: _, h, _ => by cases h
  | _ :: _, [], h, _ => by cases h
  | e :: r, k :: ks, h, hx => by
    have h1 : He.keyOf e :: r.map He.keyOf = some (k, PyData.keyHash P k) :: He.keysIn P ks := h
    injection h1 with h2 h3
    obtain ⟨a, b⟩ := find_none h3 fun z => hx (List.mem_cons_of_mem _ z)
    have ne : e.key.isStr x = false := by
      rw [keyOf_isStr h2]
      exact decide_eq_false fun z => hx (z ▸ List.mem_cons_self)
    refine ⟨?_, ?_⟩
    · rw [List.find?_cons, ne]
      exact a
    · rw [List.any_cons, keyOf_ref h2, b]
      rfl
theorem cdict_of {w : World} {P : Program} {K : PySem.W.Frag} {a : Addr} {kvs : List (Txt × D)} {dvs : List He.Dv} (h : He.dicW K a = some (He.keysIn w.params (kvs.map fun q => sOf q.1))) (hv : He.valsB K a ((kvs.map fun q => sOf q.1).zip dvs) = true) (hl : dvs.length = kvs.length) (hr : ∀ (i : Nat) (d : He.Dv) (q : Txt × D), dvs[i]? = some d → kvs[i]? = some q → ∀ H μ, Rep ⟨K, w, P⟩ H μ q.2 (d.v K)) :
    ∀ H μ, Rep ⟨K, w, P⟩ H μ (.cdt kvs) (.ref a) := by
  obtain ⟨es, n, kd⟩ := He.dicW_ok h
  have hw : es.toList.map He.keyOf = He.keysIn w.params (kvs.map fun q => sOf q.1) := by
    have z := h
    unfold He.dicW at z
    rw [kd.at_] at z
    have z : (match decide ("dict" = "dict") && ((#[] : Array (Option Value)).isEmpty && !(a == sysModules)) with | true => some (es.toList.map He.keyOf) | false => none) = some (He.keysIn w.params (kvs.map fun q => sOf q.1)) := z
    rw [kd.low] at z
    exact Option.some.inj z
  have us : ∃ us : List Value, us.length = kvs.length ∧ Vals (dvs.map (He.Dv.v K)) us ∧ ∀ (i : Nat) (q : Txt × D) u, kvs[i]? = some q → us[i]? = some u → PySem.W.nsIn K a (sOf q.1) = some (some u) := by
    clear h hr hw
    induction kvs generalizing dvs with
    | nil => cases dvs with
      | nil => exact ⟨[], rfl, .nil, fun i q u z => by simp at z⟩
      | cons d ds => cases hl
    | cons q kvs ih => cases dvs with
      | nil => cases hl
      | cons d ds =>
        obtain ⟨v1, v2⟩ := Bool.and_eq_true_iff.mp (show ((match PySem.W.nsIn K a (sOf q.1) with | some (some u) => He.relB (d.v K) u | _ => false) && He.valsB K a ((kvs.map fun q => sOf q.1).zip ds)) = true from hv)
        obtain ⟨us, u1, u2, u3⟩ := ih v2 (by simpa using hl)
        split at v1
        · rename_i u hu
          refine ⟨u :: us, by simp [u1], .cons (He.relB_ok v1) u2, fun i p w' z1 z2 => ?_⟩
          cases i with
          | zero =>
            simp at z1 z2
            subst z1 z2
            exact hu
          | succ i => exact u3 i p w' (by simpa using z1) (by simpa using z2)
        · cases v1
  obtain ⟨us, u1, u2, u3⟩ := us
  intro H μ
  unfold Rep
  refine ⟨a, us, dvs.map (He.Dv.v K), rfl, ⟨⟨es, n, kd⟩, fun i k u z1 z2 => ?_, fun x hx => ?_, by rw [u1, List.length_map]⟩, u2, ?_⟩
  · rw [List.getElem?_map] at z1
    cases e : kvs[i]? with
    | none => rw [e] at z1; cases z1
    | some q =>
      rw [e] at z1
      cases z1
      exact u3 i q u e z2
  · unfold PySem.W.nsIn
    show (match K.lookup a with | some ⟨_, _, .dict es _, _⟩ => (match es.toList.find? (·.key.isStr x) with | some e => some (some e.val) | none => if es.toList.any (·.refKey) then none else some none) | _ => none) = some none
    rw [kd.at_]
    have hx' : x ∉ kvs.map fun q => sOf q.1 := by
      rw [List.map_map] at hx
      exact hx
    obtain ⟨z1, z2⟩ := find_none hw hx'
    show (match es.toList.find? (·.key.isStr x) with | some e => some (some e.val) | none => if es.toList.any (·.refKey) then none else some none) = some none
    rw [z1]
    show (if es.toList.any (·.refKey) then none else some none) = some none
    rw [z2]
    rfl
  · clear h hv hw u1 u2 u3 us kd
    induction kvs generalizing dvs with
    | nil => cases dvs with
      | nil => unfold RepV; rfl
      | cons d ds => cases hl
    | cons q kvs ih => cases dvs with
      | nil => cases hl
      | cons d ds =>
        unfold RepV
        exact ⟨_, _, rfl, hr 0 d q rfl rfl H μ, ih (by simpa using hl) fun i d' q' z1 z2 => hr (i + 1) d' q' (by simpa using z1) (by simpa using z2)⟩
end DV
namespace DV
open PySem PySem.Spec PyProof.Rows L2
abbrev AlV : Type := He.AlD × List (Option (List (Option (Str × Int)))) × List IniW × Bool
def frV (n : Nat) (g : Addr → Option Obj) : PySem.W.Frag := He.frG g (cStatics :: He.asD g n)
def obV (fa : List He.Fa) (fn : List He.DefD) (ts : List He.Tab) (ini : List (Str × IniW)) (ex : PySem.W.Frag → Bool) (K : PySem.W.Frag) : AlV := (He.obsD fa fn K, ts.map (fun t => He.dicW K (t.1 K)), ini.map (fun p => iniW K p.1), ex K)
def vaV (fn : List He.DefD) (ts : List He.Tab) (ini : List (Str × IniW)) (w : World) : AlV := (He.valD fn, ts.map (fun t => some (He.keysIn w.params t.2)), ini.map (·.2), true)
def SaysV (fa : List He.Fa) (fn : List He.DefD) (ts : List He.Tab) (ini : List (Str × IniW)) (ex : PySem.W.Frag → Bool) (w : World) (K : PySem.W.Frag) : Prop := obV fa fn ts ini ex K = vaV fn ts ini w
def hookV (n : Nat) (fa : List He.Fa) (fn : List He.DefD) (ts : List He.Tab) (ini : List (Str × IniW)) (ex : PySem.W.Frag → Bool) : PySem.W.Hook where
  α := AlV
  obs := fun s => obV fa fn ts ini ex (frV n s.heap.get?)
  val := fun w => vaV fn ts ini w
  says := fun w h => ∃ K : PySem.W.Frag, K.In h ∧ SaysV fa fn ts ini ex w K
  of := fun _ _ e => ⟨_, He.frG_in, e⟩
  keeps := fun _ _ _ ⟨K, hK, c⟩ k => ⟨K, PySem.W.Frag.In.keeps hK k, c⟩
theorem obV_eq {n : Nat} {fa : List He.Fa} {fn : List He.DefD} {ts : List He.Tab} {ini : List (Str × IniW)} {ex : PySem.W.Frag → Bool} {g : Addr → Option Obj} {s : Shared} (h : ∀ a, g a = s.heap.get? a) : obV fa fn ts ini ex (frV n g) = (hookV n fa fn ts ini ex).obs s := by
  have e : g = s.heap.get? := funext h
  rw [e] <;> rfl
section
variable {fa : List He.Fa} {fn : List He.DefD} {ts : List He.Tab} {ini : List (Str × IniW)} {ex : PySem.W.Frag → Bool} {w : World} {K : PySem.W.Frag}
theorem SaysV.d (c : SaysV fa fn ts ini ex w K) : He.SaysD fa fn K := congrArg (fun z : AlV => z.1) c
theorem SaysV.ex_ (c : SaysV fa fn ts ini ex w K) : ex K = true := congrArg (fun z : AlV => z.2.2.2) c
theorem SaysV.tab (c : SaysV fa fn ts ini ex w K) (i : Nat) {t : He.Tab} (h : ts[i]? = some t) : He.dicW K (t.1 K) = some (He.keysIn w.params t.2) := by
  have e : ts.map (fun t => He.dicW K (t.1 K)) = ts.map (fun t => some (He.keysIn w.params t.2)) := congrArg (fun z : AlV => z.2.1) c
  have e2 : (ts.map fun t => He.dicW K (t.1 K))[i]? = (ts.map fun t => some (He.keysIn w.params t.2))[i]? := by rw [e]
  rw [List.getElem?_map, List.getElem?_map, h] at e2
  exact Option.some.inj e2
theorem SaysV.ini_ (c : SaysV fa fn ts ini ex w K) (i : Nat) {p : Str × IniW} (h : ini[i]? = some p) : iniW K p.1 = p.2 := by
  have e : ini.map (fun p => iniW K p.1) = ini.map (·.2) := congrArg (fun z : AlV => z.2.2.1) c
  have e2 : (ini.map fun p => iniW K p.1)[i]? = (ini.map (·.2))[i]? := by rw [e]
  rw [List.getElem?_map, List.getElem?_map, h] at e2
  exact Option.some.inj e2
end
section
variable {K : PySem.W.Frag} {x qual : Str} {params : Arguments} {body : List Stmt} {scope : Scope} {kws : List (Str × V)} {f : Addr} {fd : FuncData} {ps : List Str}
theorem bindEq (F : FunD K x qual params body scope [] kws f fd) (h : ∀ (kV doc pm : Value) (an : Option Addr) (cdv ct : Value) (us : List Value), us.length = ps.length → bindArgs (PySem.W.fnOf x qual params body scope .none kV doc pm an cdv ct) ⟨us, []⟩ = pure (ps.zip us)) :
    ∀ us : List Value, us.length = ps.length → bindArgs fd ⟨us, []⟩ = pure (ps.zip us) := by
  obtain ⟨oc, od, dV, kV, doc, pm, an, cdv, ct, osl, rfl, lk, hcd, hD, hK⟩ := F.ex
  rcases hD with ⟨_, rfl⟩ | ⟨e, _⟩
  · exact h kV doc pm an cdv ct
  · exact absurd rfl e
theorem bindKw (F : FunD K x qual params body scope [] kws f fd) (h : ∀ (kV doc pm : Value) (an : Option Addr) (cdv ct : Value) (us : List Value), us.length = ps.length → bindArgs (PySem.W.fnOf x qual params body scope .none kV doc pm an cdv ct) ⟨[], ps.zip us⟩ = pure (ps.zip us)) :
    ∀ us : List Value, us.length = ps.length → bindArgs fd ⟨[], ps.zip us⟩ = pure (ps.zip us) := by
  obtain ⟨oc, od, dV, kV, doc, pm, an, cdv, ct, osl, rfl, lk, hcd, hD, hK⟩ := F.ex
  rcases hD with ⟨_, rfl⟩ | ⟨e, _⟩
  · exact h kV doc pm an cdv ct
  · exact absurd rfl e
theorem bindA (F : FunD K x qual params body scope [] kws f fd) (p : Str) (h : ∀ (kV doc pm : Value) (an : Option Addr) (cdv ct : Value) (us : List Value), us.length = 1 → bindArgs (PySem.W.fnOf x qual params body scope .none kV doc pm an cdv ct) ⟨us, []⟩ = pure ([p].zip us)) (s : Shared) (u : Value) : BindsTo s fd ⟨[u], []⟩ [(p, u)] := by
  have z := FunD.bindsA (ps := [p]) F (fun kV doc pm an cdv ct us hl => h kV doc pm an cdv ct us (by simpa using hl)) s [u] rfl
  exact z
end
/-- a text of the module's own -/
theorem k_str {P : Program} {w : World} {K : PySem.W.Frag} {h : Heap} {mg : Str → Option Value} (X : K.In h) (G : h.Ns mainGlobals mg) {x : Str} {s : String} (c : (He.Fa.str x (Str.ofString s)).ok K = true) : ∃ u, mg x = some u ∧ ∃ v, RelV v u ∧ ∀ H μ, Rep ⟨K, w, P⟩ H μ (.str (tx s)) v := by
  obtain ⟨t, e⟩ := He.str_ok X G c
  exact ⟨_, e, .str (Str.ofString s), ⟨t, rfl⟩, fun H μ => by unfold Rep; rw [sOf_tx]⟩
theorem ints_rep {G : GX} {H : Hp} : ∀ {ns : List Int}, RepL G H [] (ns.map D.int) (ns.map V.int)
  | [] => by
    show RepL G H [] [] []
    unfold RepL; rfl
  | n :: ns => by
    show RepL G H [] (D.int n :: ns.map D.int) _
    unfold RepL
    exact ⟨_, _, rfl, by unfold Rep; rfl, ints_rep⟩
/-- the law's own promise -/
theorem sp_law {T : Tabs} {G : GX} {φ : DF} {H : Hp} {a : Addr} {ns : List Int} (hS : SqF G.K H a (ns.map V.int)) {h' : DH} (e : φ [.frz (ns.map D.int)] [] = .ok (.bl true) h') : spF T G 1 φ [.ref a] H (fun v _ => v = .bl true) fun _ _ _ => False := by
  refine ⟨rfl, [], [], [.frz (ns.map D.int)], ⟨rfl, by simp, fun n o a z => by simp at z⟩, ?_, ?_⟩
  · unfold RepL
    refine ⟨_, _, rfl, ?_, by unfold RepL; rfl⟩
    unfold Rep
    exact ⟨a, _, rfl, hS, ints_rep⟩
  · rw [e]
    intro μ' H' v _ _ r
    exact r.blv

def clsB : Stmt → List Stmt
  | .ClassDef _ _ _ b _ _ _ _ _ _ _ => b
  | _ => []
def inB_ (s : Stmt) (i : Nat) : Stmt := (clsB s).getD i (.Pass ⟨0, 0, 0, 0⟩)

theorem cx_no {P : Program} {w : World} : ∀ (H : Hp) (s : Shared) (e : Value) (s' : Shared), CX P w [] H s (fun _ _ _ => False) e s' → False := fun _ _ _ _ ⟨_, _, _, _, _, _, _, _, _, _, _, _, z⟩ => z
end DV
namespace DV
open PySem L2
section
variable {α β : Type} {env : Env} {h h1 : DH}
theorem R.bind_ok {a : α} {k : α → DH → R β} : (R.ok a h).bind k = k a h := (rfl)
theorem R.bind_exc {c : Nat} {a : List D} {k : α → DH → R β} : (R.exc c a h : R α).bind k = .exc c a h := (rfl)
theorem R.toS_ok {a : α} {k : α → DH → SR} : (R.ok a h).toS env k = k a h := (rfl)
theorem R.toS_exc {c : Nat} {a : List D} {k : α → DH → SR} : (R.exc c a h : R α).toS env k = .exc c a env h := (rfl)
theorem DEn.bind_run {m : DEn α} {k : α → DEn β} : DEn.bind m k env h = (m env h).bind fun d h1 => k d env h1 := (rfl)
theorem sSeq_run {m1 m2 : SD} : sSeq m1 m2 env h = (match m1 env h with | .nx env1 h1 => m2 env1 h1 | r => r) := (rfl)
theorem sNil_run : sNil env h = .nx env h := (rfl)
theorem sRet_run {m : DE} : sRet m env h = (m env h).toS env fun d h1 => .rt d h1 := (rfl)
theorem sExpr_run {m : DE} : sExpr m env h = (m env h).toS env fun _ h1 => .nx env h1 := (rfl)
theorem sIf_run {tb : DEn Bool} {m1 m2 : SD} : sIf tb m1 m2 env h = (tb env h).toS env fun k h1 => if k = true then m1 env h1 else m2 env h1 := (rfl)
theorem dCst_run {d : D} : dCst d env h = .ok d h := (rfl)
theorem dNil_run : dNil env h = .ok [] h := (rfl)
theorem truD_bl {b : Bool} : truD (.bl b) h = .ok b h := (rfl)
theorem truD_non : truD .non h = .ok false h := (rfl)
theorem truD_int {i : Int} : truD (.int i) h = .ok (i != 0) h := (rfl)
theorem truD_tup {ds : List D} : truD (.tup ds) h = .ok (!ds.isEmpty) h := (rfl)
/-- isinstance(d, T), heap-free -/
def isTy (d : D) (c : String) : Bool := match d with
  | .non => false
  | .bl _ => c == "bool" || c == "int"
  | .int _ => c == "int"
  | .str _ => c == "str"
  | .tup _ => c == "tuple"
  | .frz _ => c == "list"
  | .ref _ => c == "list"
  | _ => false
theorem isiF_run {d : D} {c t : String} (ht : tyN d h = some t) (hc : c = "int" ∨ c = "bool" ∨ c = "str" ∨ c = "tuple" ∨ c = "list") : isiF [d, .ty c] h = .ok (.bl (isTy d c)) h := by
  have key : ∀ t c : String, (t = "NoneType" ∨ t = "bool" ∨ t = "int" ∨ t = "str" ∨ t = "tuple" ∨ t = "list") → (c = "int" ∨ c = "bool" ∨ c = "str" ∨ c = "tuple" ∨ c = "list") → kitB t c = some (c == t || (c == "int" && t == "bool")) := by
    intro t c h1 h2
    rcases h1 with rfl | rfl | rfl | rfl | rfl | rfl <;> rcases h2 with rfl | rfl | rfl | rfl | rfl <;> decide +kernel
  have tt : (t = "NoneType" ∨ t = "bool" ∨ t = "int" ∨ t = "str" ∨ t = "tuple" ∨ t = "list") ∧ (c == t || (c == "int" && t == "bool")) = isTy d c := by
    cases d <;> simp only [tyN, Option.some.injEq] at ht
    case ref n =>
      split at ht
      · cases ht
        refine ⟨by simp, ?_⟩
        rcases hc with rfl | rfl | rfl | rfl | rfl <;> simp [isTy]
      · cases ht
    all_goals first | (cases ht; refine ⟨by simp, ?_⟩; rcases hc with rfl | rfl | rfl | rfl | rfl <;> simp [isTy]) | cases ht
  unfold isiF
  simp only [ht, key t c tt.1 hc, tt.2]
end
theorem eqB_int {neg : Bool} {i j : Int} {h : DH} : eqB neg (.int i) (.int j) h = .ok (.bl (if neg then !decide (i = j) else decide (i = j))) h := by
  have e : PyData.eqv (.int i) (.int j) = decide (i = j) := by
    show (i == j) = _
    by_cases z : i = j <;> simp [z]
  simp [eqB, eqB0, toPy, e, SeqAt.shaped, PyData.canLay0, PyData.depth]
theorem sOf_iff {s t : Txt} : sOf s = sOf t ↔ s = t := by
  constructor
  · intro e
    have e2 := congrArg (fun z : Str => z.cps.toList) e
    simpa [sOf] using e2
  · intro e
    rw [e]
theorem eqB_str {neg : Bool} {s t : Txt} {h : DH} : eqB neg (.str s) (.str t) h = .ok (.bl (if neg then !decide (s = t) else decide (s = t))) h := (rfl)
section
variable {env env1 : Env} {h h1 : DH} {m1 m2 : SD} {d : D}
theorem blD_bl {b : Bool} : blD (.bl b) h = .ok b h := (rfl)
theorem seq_nx (e : m1 env h = .nx env1 h1) : sSeq m1 m2 env h = m2 env1 h1 := by rw [sSeq_run, e]
theorem seq_rt (e : m1 env h = .rt d h1) : sSeq m1 m2 env h = .rt d h1 := by rw [sSeq_run, e]
theorem seq_exc {c : Nat} {a : List D} (e : m1 env h = .exc c a env1 h1) : sSeq m1 m2 env h = .exc c a env1 h1 := by rw [sSeq_run, e]
theorem if_t {tb : DEn Bool} (e : tb env h = .ok true h1) : sIf tb m1 m2 env h = m1 env h1 := by rw [sIf_run, e, R.toS_ok, if_pos rfl]
theorem if_f {tb : DEn Bool} (e : tb env h = .ok false h1) : sIf tb m1 m2 env h = m2 env h1 := by rw [sIf_run, e, R.toS_ok, if_neg (by decide)]
theorem run_rt {n N : Nat} {m : SD} {as : List D} (hl : as.length = n) (e : m (as.map some ++ List.replicate (N - n) none) h = .rt d h1) : runB n N m as h = .ok d h1 := by
  unfold runB
  rw [if_pos hl, e]
theorem run_exc {n N c : Nat} {m : SD} {as a : List D} (hl : as.length = n) (e : m (as.map some ++ List.replicate (N - n) none) h = .exc c a env1 h1) : runB n N m as h = .exc c a h1 := by
  unfold runB
  rw [if_pos hl, e]
theorem ret_rt {m : DE} (e : m env h = .ok d h1) : sRet m env h = .rt d h1 := by rw [sRet_run, e, R.toS_ok]
theorem asg_nx {m : DE} {g : AG} (e : m env h = .ok d h1) (hg : g d env = some env1) : sAsg m g env h = .nx env1 h1 := by
  unfold sAsg
  rw [e, R.toS_ok]
  show (match g d env with | some env1 => SR.nx env1 h1 | none => .bad) = _
  rw [hg]
end
theorem lcS_pure {g : AG} {tt : DEn Bool} {te : DE} {env : Env} {h : DH} {e : D → Env} {p : D → Bool} {q : D → D} : ∀ {ds : List D}, (∀ d ∈ ds, g d env = some (e d) ∧ tt (e d) h = .ok (p d) h ∧ (p d = true → te (e d) h = .ok (q d) h)) → lcS g tt te env ds h = .ok ((ds.filter p).map q) h
  | [], _ => rfl
  | d :: ds, hd => by
    obtain ⟨h1, h2, h3⟩ := hd d List.mem_cons_self
    have ih := lcS_pure (ds := ds) fun d' m => hd d' (List.mem_cons_of_mem _ m)
    unfold lcS
    simp only [h1, h2, R.noX, R.bind_ok]
    cases hp : p d with
    | true => simp [h3 hp, R.noX, R.bind_ok, ih, hp]
    | false => simp [ih, hp]
/-- a list display of what stands -/
theorem alloc_run {o : DO} {h : DH} : alloc o h = .ok (.ref h.length) (h ++ [o]) := (rfl)
theorem bls_all {p : D → Bool} : ∀ ds : List D, bls (ds.map fun d => .bl (p d)) = some (ds.map p)
  | [] => rfl
  | d :: ds => by
    simp [bls, bls_all ds]
section
variable {env : Env} {h h1 h2 : DH} {ma mb : DE} {ml : DEn (List D)} {d : D} {ds : List D} {g : DF}
theorem and_t (e : ma env h = .ok (.bl true) h1) : dAnd ma mb env h = mb env h1 := by
  unfold dAnd
  rw [DEn.bind_run, e, R.bind_ok]
  rfl
theorem and_f (e : ma env h = .ok (.bl false) h1) : dAnd ma mb env h = .ok (.bl false) h1 := by
  unfold dAnd
  rw [DEn.bind_run, e, R.bind_ok]
  rfl
theorem call_run (e : ml env h = .ok ds h1) : dCall ml g env h = g ds h1 := by
  unfold dCall
  rw [DEn.bind_run, e, R.bind_ok]
theorem cons_run (e : ma env h = .ok d h1) (e2 : ml env h1 = .ok ds h2) : dCons ma ml env h = .ok (d :: ds) h2 := by
  unfold dCons
  rw [DEn.bind_run, e, R.bind_ok]
  show (ml env h1).bind _ = _
  rw [e2, R.bind_ok]
theorem var_run {i : Nat} (e : env[i]? = some (some d)) : dVar i env h = .ok d h := by
  unfold dVar
  rw [e]
end
end DV
namespace DV
open PySem L2
/-- a mark that keeps simp out of what comes behind -/
structure Tg {α : Sort u} (a : α) : Type where
structure Tg2 {α : Sort u} {β : Sort v} (a : α) (b : β) : Type where
abbrev XQ := Nat → List D → DH → Prop
def wE {α : Type} (r : R α) (Q : α → DH → Prop) (X : XQ) (_t : Tg2 Q X) : Prop := match r with
  | .ok a h => Q a h
  | .exc c a h => X c a h
  | .bad => False
structure PQ where
  nx : Env → DH → Prop
  rt : D → DH → Prop
  bk : Env → DH → Prop
  ct : Env → DH → Prop
  xc : Nat → List D → Env → DH → Prop
def wS (r : SR) (Q : PQ) (_t : Tg Q) : Prop := match r with
  | .nx e h => Q.nx e h
  | .rt d h => Q.rt d h
  | .bk e h => Q.bk e h
  | .ct e h => Q.ct e h
  | .exc c a e h => Q.xc c a e h
  | .bad => False
def wG (o : Option Env) (K : Env → DH → Prop) (h : DH) (_t : Tg2 K h) : Prop := match o with
  | some e => K e h
  | none => False
section
variable {α β : Type} {Q : α → DH → Prop} {Q' : β → DH → Prop} {X : XQ} {env : Env} {h : DH}
theorem wE_ok {a : α} {t : Tg2 Q X} : wE (.ok a h) Q X t = Q a h := (rfl)
theorem wE_exc {c : Nat} {a : List D} {t : Tg2 Q X} : wE (.exc c a h) Q X t = X c a h := (rfl)
theorem wE_bad {t : Tg2 Q X} : wE .bad Q X t = False := (rfl)
theorem wE_bind {r : R α} {k : α → DH → R β} {t : Tg2 Q' X} : wE (r.bind k) Q' X t = wE r (fun a h => wE (k a h) Q' X ⟨⟩) X ⟨⟩ := by cases r <;> rfl
theorem wE_dbind {m : DEn α} {k : α → DEn β} {t : Tg2 Q' X} : wE ((m.bind k) env h) Q' X t = wE (m env h) (fun a h => wE (k a env h) Q' X ⟨⟩) X ⟨⟩ := wE_bind
theorem wE_cg {r : R α} {Q1 : α → DH → Prop} {t : Tg2 Q X} {t1 : Tg2 Q1 X} (e : ∀ a h, Q a h = Q1 a h) : wE r Q X t = wE r Q1 X t1 := by
  cases r with
  | ok a h => exact e a h
  | exc c a h => rfl
  | bad => rfl
theorem wE_noX {r : R α} {t : Tg2 Q X} : wE r.noX Q X t = wE r Q (fun _ _ _ => False) ⟨⟩ := by cases r <;> rfl
theorem wE_mono {r : R α} {Q1 : α → DH → Prop} {X1 : XQ} {t : Tg2 Q X} {t1 : Tg2 Q1 X1} (e : wE r Q1 X1 t1) (m : ∀ a h, Q1 a h → Q a h) (n : ∀ c a h, X1 c a h → X c a h) : wE r Q X t := by
  cases r with
  | ok a h => exact m a h e
  | exc c a h => exact n c a h e
  | bad => exact e
/-- without exceptions -/
abbrev Ok (r : R α) (Q : α → DH → Prop) : Prop := wE r Q (fun _ _ _ => False) ⟨⟩
theorem wE_of {r : R α} {Q1 : α → DH → Prop} {t : Tg2 Q X} (e : Ok r Q1) (m : ∀ a h, Q1 a h → Q a h) : wE r Q X t := wE_mono e m fun _ _ _ f => f.elim
theorem Ok.eq {r : R α} (e : Ok r Q) : ∃ a h, r = .ok a h ∧ Q a h := by
  cases r with
  | ok a h => exact ⟨a, h, rfl, e⟩
  | exc c a h => exact e.elim
  | bad => exact e.elim
theorem Ok.mono {r : R α} {Q1 : α → DH → Prop} (e : Ok r Q1) (m : ∀ a h, Q1 a h → Q a h) : Ok r Q := wE_of e m
theorem Ok.of {r : R α} {a : α} (e : r = .ok a h) (q : Q a h) : Ok r Q := by subst e; exact q
end
section
variable {Q : PQ} {env : Env} {h : DH} {t : Tg Q} {m m1 m2 : SD} {ma : DE}
theorem wS_mono {r : SR} {Q1 : PQ} {t : Tg Q} {t1 : Tg Q1} (e : wS r Q1 t1) (a : ∀ e h, Q1.nx e h → Q.nx e h) (b : ∀ d h, Q1.rt d h → Q.rt d h) (c : ∀ e h, Q1.bk e h → Q.bk e h) (d : ∀ e h, Q1.ct e h → Q.ct e h) (f : ∀ c a e h, Q1.xc c a e h → Q.xc c a e h) : wS r Q t := by
  cases r with
  | nx e h => exact a _ _ ‹_›
  | rt d h => exact b _ _ ‹_›
  | bk e h => exact c _ _ ‹_›
  | ct e h => exact d _ _ ‹_›
  | exc c a e h => exact f _ _ _ _ ‹_›
  | bad => exact e
theorem wS_toS {α : Type} {r : R α} {k : α → DH → SR} : wS (r.toS env k) Q t = wE r (fun a h => wS (k a h) Q ⟨⟩) (fun c a h => Q.xc c a env h) ⟨⟩ := by cases r <;> rfl
theorem wS_seq : wS (sSeq m1 m2 env h) Q t = wS (m1 env h) ⟨fun e h => wS (m2 e h) Q ⟨⟩, Q.rt, Q.bk, Q.ct, Q.xc⟩ ⟨⟩ := by
  rw [sSeq_run]
  cases m1 env h <;> rfl
theorem wS_nil : wS (sNil env h) Q t = Q.nx env h := (rfl)
theorem wS_pass : wS (sPass env h) Q t = Q.nx env h := (rfl)
theorem wS_break : wS (sBreak env h) Q t = Q.bk env h := (rfl)
theorem wS_cont : wS (sCont env h) Q t = Q.ct env h := (rfl)
theorem wS_expr : wS (sExpr ma env h) Q t = wE (ma env h) (fun _ h => Q.nx env h) (fun c a h => Q.xc c a env h) ⟨⟩ := wS_toS
theorem wS_ret : wS (sRet ma env h) Q t = wE (ma env h) (fun d h => Q.rt d h) (fun c a h => Q.xc c a env h) ⟨⟩ := wS_toS
theorem wS_retN : wS (sRetN env h) Q t = Q.rt .non h := (rfl)
theorem wS_if {tb : DEn Bool} : wS (sIf tb m1 m2 env h) Q t = wE (tb env h) (fun k h => if k = true then wS (m1 env h) Q ⟨⟩ else wS (m2 env h) Q ⟨⟩) (fun c a h => Q.xc c a env h) ⟨⟩ := by
  unfold sIf
  rw [wS_toS]
  refine wE_cg fun k h => ?_
  cases k <;> rfl
theorem wG_some {K : Env → DH → Prop} {e : Env} {t : Tg2 K h} : wG (some e) K h t = K e h := (rfl)
theorem wG_none {K : Env → DH → Prop} {t : Tg2 K h} : wG none K h t = False := (rfl)
theorem wS_asg {g : AG} : wS (sAsg ma g env h) Q t = wE (ma env h) (fun d h => wG (g d env) Q.nx h ⟨⟩) (fun c a h => Q.xc c a env h) ⟨⟩ := by
  unfold sAsg
  rw [wS_toS]
  refine wE_cg fun d h => ?_
  cases g d env <;> rfl
theorem wS_par {is : List Nat} {ml : DEn (List D)} : wS (sPar is ml env h) Q t = wE (ml env h) (fun ds h => ds.length = is.length ∧ wG (some (setAll is ds env)) Q.nx h ⟨⟩) (fun c a h => Q.xc c a env h) ⟨⟩ := by
  unfold sPar
  rw [wS_toS]
  refine wE_cg fun d h => ?_
  unfold sParK
  by_cases z : d.length = is.length
  · rw [if_pos z]; simp [z, wS, wG]
  · rw [if_neg z]; simp [z, wS]
theorem wS_set {mo mi mv : DE} : wS (sSet mo mi mv env h) Q t = wE (mv env h) (fun v h => wE (mo env h) (fun o h => wE (mi env h) (fun i h => wE (setD o i v h) (fun _ h => Q.nx env h) (fun c a h => Q.xc c a env h) ⟨⟩) (fun c a h => Q.xc c a env h) ⟨⟩) (fun c a h => Q.xc c a env h) ⟨⟩) (fun c a h => Q.xc c a env h) ⟨⟩ := by
  unfold sSet
  rw [wS_toS]
  refine wE_cg fun v h => ?_
  rw [wS_toS]
  refine wE_cg fun o h => ?_
  rw [wS_toS]
  refine wE_cg fun i h => ?_
  rw [wS_toS]
  rfl
theorem wS_raise {c n : Nat} {ml : DEn (List D)} : wS (sRaise c n ml env h) Q t = wE (ml env h) (fun ds h => ds.length = n ∧ Q.xc c ds env h) (fun c a h => Q.xc c a env h) ⟨⟩ := by
  unfold sRaise
  rw [wS_toS]
  refine wE_cg fun ds h => ?_
  by_cases z : ds.length = n
  · rw [if_pos z]; simp [z, wS]
  · rw [if_neg z]; simp [z, wS]
theorem wS_try {mb : SD} {N c0 n i : Nat} {els : List SufE} : wS (sTry mb N c0 n i els env h) Q t = wS (mb env h) ⟨Q.nx, Q.rt, Q.bk, Q.ct, fun c a e h => c < N ∧ (if c = c0 then (∃ ds, sufD a els = some ds ∧ ds.length < big ∧ a.length = n ∧ i < e.length ∧ Q.rt (.tup ds) h) else Q.xc c a e h)⟩ ⟨⟩ := by
  unfold sTry
  cases mb env h with
  | exc c a e h =>
    show wS (if c < N then (if c = c0 then _ else _) else _) Q t = (c < N ∧ _)
    by_cases z : c < N
    · rw [if_pos z]
      by_cases y : c = c0
      · rw [if_pos y]
        simp only [z, true_and]
        rw [if_pos y]
        cases sufD a els with
        | none => simp [wS]
        | some ds =>
          show wS (if _ then _ else _) Q t = _
          by_cases x : ds.length < big ∧ a.length = n ∧ i < e.length
          · rw [if_pos x]
            simp [x, wS]
          · rw [if_neg x]
            simp only [wS, Option.some.injEq]
            apply Eq.symm
            simp only [eq_iff_iff, iff_false]
            rintro ⟨ds', rfl, p, q, r, _⟩
            exact x ⟨p, q, r⟩
      · rw [if_neg y]
        simp only [z, true_and]
        rw [if_neg y]
        rfl
    · rw [if_neg z]
      simp [z, wS]
  | _ => rfl
/-- a def by its body -/
theorem wE_run {n N : Nat} {as : List D} {Q : D → DH → Prop} {X : XQ} {t : Tg2 Q X} (hl : as.length = n) : wE (runB n N m as h) Q X t = wS (m (as.map some ++ List.replicate (N - n) none) h) ⟨fun _ h => Q .non h, Q, fun _ _ => False, fun _ _ => False, fun c a _ h => X c a h⟩ ⟨⟩ := by
  unfold runB
  rw [if_pos hl]
  cases m (as.map some ++ List.replicate (N - n) none) h <;> rfl
end
section
variable {α : Type} {Q : D → DH → Prop} {QL : List D → DH → Prop} {QB : Bool → DH → Prop} {X : XQ} {env : Env} {h : DH} {ma mb mc : DE} {ml mk : DEn (List D)} {ta tb : DEn Bool} {d : D}
theorem u_var {i : Nat} {t : Tg2 Q X} (e : env[i]? = some (some d)) : wE (dVar i env h) Q X t = Q d h := by
  unfold dVar
  rw [e]
  rfl
theorem u_cst {t : Tg2 Q X} : wE (dCst d env h) Q X t = Q d h := (rfl)
theorem u_nil {t : Tg2 QL X} : wE (dNil env h) QL X t = QL [] h := (rfl)
theorem u_cons {t : Tg2 QL X} : wE (dCons ma ml env h) QL X t = wE (ma env h) (fun d h => wE (ml env h) (fun ds h => QL (d :: ds) h) X ⟨⟩) X ⟨⟩ := by
  unfold dCons
  rw [wE_dbind]
  refine wE_cg fun d h => ?_
  rw [wE_dbind]
  rfl
theorem u_d2 {g : D2} {t : Tg2 Q X} : wE (DV.d2 g ma mb env h) Q X t = wE (ma env h) (fun d h => wE (mb env h) (fun e h => wE (g d e h) Q X ⟨⟩) X ⟨⟩) X ⟨⟩ := by
  unfold DV.d2
  rw [wE_dbind]
  refine wE_cg fun d h => ?_
  rw [wE_dbind]
theorem u_tru {t : Tg2 QB X} : wE (dTru ma env h) QB X t = wE (ma env h) (fun d h => wE (truD d h) QB X ⟨⟩) X ⟨⟩ := wE_bind
theorem u_bl {t : Tg2 QB X} : wE (dBl ma env h) QB X t = wE (ma env h) (fun d h => wE (blD d h) QB X ⟨⟩) X ⟨⟩ := wE_bind
theorem wE_if {β : Type} {c : Prop} [Decidable c] {r s : R β} {Q : β → DH → Prop} {t : Tg2 Q X} : wE (if c then r else s) Q X t = if c then wE r Q X ⟨⟩ else wE s Q X ⟨⟩ := by split <;> rfl
theorem u_and {t : Tg2 Q X} : wE (dAnd ma mb env h) Q X t = wE (ma env h) (fun d h => wE (truD d h) (fun k h => if k = true then wE (mb env h) Q X ⟨⟩ else Q d h) X ⟨⟩) X ⟨⟩ := by
  unfold dAnd
  rw [wE_dbind]
  refine wE_cg fun d h => ?_
  rw [wE_bind]
  refine wE_cg fun k h => ?_
  rw [wE_if]
  rfl
theorem u_or {t : Tg2 Q X} : wE (dOr ma mb env h) Q X t = wE (ma env h) (fun d h => wE (truD d h) (fun k h => if k = true then Q d h else wE (mb env h) Q X ⟨⟩) X ⟨⟩) X ⟨⟩ := by
  unfold dOr
  rw [wE_dbind]
  refine wE_cg fun d h => ?_
  rw [wE_bind]
  refine wE_cg fun k h => ?_
  rw [wE_if]
  rfl
theorem u_tand {t : Tg2 QB X} : wE (tAndB ta tb env h) QB X t = wE (ta env h) (fun k h => if k = true then wE (tb env h) QB X ⟨⟩ else QB false h) X ⟨⟩ := by
  unfold tAndB
  rw [wE_dbind]
  refine wE_cg fun d h => ?_
  rw [wE_if]
  rfl
theorem u_tor {t : Tg2 QB X} : wE (tOrB ta tb env h) QB X t = wE (ta env h) (fun k h => if k = true then QB true h else wE (tb env h) QB X ⟨⟩) X ⟨⟩ := by
  unfold tOrB
  rw [wE_dbind]
  refine wE_cg fun d h => ?_
  rw [wE_if]
  rfl
theorem u_tnot {t : Tg2 QB X} : wE (tNotB ta env h) QB X t = wE (ta env h) (fun k h => QB (!k) h) X ⟨⟩ := by
  unfold tNotB
  rw [wE_dbind]
  rfl
theorem u_not {t : Tg2 Q X} : wE (dNot ma env h) Q X t = wE (ma env h) (fun d h => wE (truD d h) (fun k h => Q (.bl (!k)) h) X ⟨⟩) X ⟨⟩ := by
  unfold dNot
  rw [wE_dbind]
  refine wE_cg fun d h => ?_
  rw [wE_bind]
  rfl
theorem u_neg {t : Tg2 Q X} : wE (dNeg ma env h) Q X t = wE (ma env h) (fun d h => wE (negD d h) Q X ⟨⟩) X ⟨⟩ := wE_bind
theorem u_ite {t : Tg2 Q X} : wE (dIte tb ma mb env h) Q X t = wE (tb env h) (fun k h => if k = true then wE (ma env h) Q X ⟨⟩ else wE (mb env h) Q X ⟨⟩) X ⟨⟩ := by
  unfold dIte
  rw [wE_dbind]
  refine wE_cg fun d h => ?_
  rw [wE_if]
theorem u_tup {t : Tg2 Q X} : wE (dTup ml env h) Q X t = wE (ml env h) (fun ds h => ds.length ≤ big ∧ Q (.tup ds) h) X ⟨⟩ := by
  unfold dTup
  rw [wE_dbind]
  refine wE_cg fun ds h => ?_
  rw [wE_if]
  by_cases z : ds.length ≤ big
  · rw [if_pos z]; simp [z, wE]
  · rw [if_neg z]; simp [z, wE]
theorem u_lst {t : Tg2 Q X} : wE (dLst ml env h) Q X t = wE (ml env h) (fun ds h => ds.length ≤ big ∧ Q (.ref h.length) (h ++ [.lst ds])) X ⟨⟩ := by
  unfold dLst
  rw [wE_dbind]
  refine wE_cg fun ds h => ?_
  rw [wE_if]
  by_cases z : ds.length ≤ big
  · rw [if_pos z]; simp [z, wE, alloc]
  · rw [if_neg z]; simp [z, wE]
theorem u_call {g : DF} {t : Tg2 Q X} : wE (dCall ml g env h) Q X t = wE (ml env h) (fun ds h => wE (g ds h) Q X ⟨⟩) X ⟨⟩ := wE_bind
theorem u_callF {dd : List D} {n : Nat} {φ : DF} {t : Tg2 Q X} : wE (dCallF ml dd n φ env h) Q X t = wE (ml env h) (fun ds h => (ds ++ dd).length = n ∧ wE (φ (ds ++ dd) h) Q X ⟨⟩) X ⟨⟩ := by
  unfold dCallF
  rw [wE_dbind]
  refine wE_cg fun ds h => ?_
  rw [wE_if]
  by_cases z : (ds ++ dd).length = n
  · rw [if_pos z]; simp [z]
  · rw [if_neg z]; simp only [wE_bad, z, false_and]
theorem u_meth {T : String} {g : DM} {t : Tg2 Q X} : wE (dMeth T ma ml g env h) Q X t = wE (ma env h) (fun d h => tyD T d h = true ∧ wE (ml env h) (fun ds h => wE (g d ds h) Q X ⟨⟩) X ⟨⟩) X ⟨⟩ := by
  unfold dMeth
  rw [wE_dbind]
  refine wE_cg fun d h => ?_
  rw [wE_if]
  by_cases z : tyD T d h = true
  · rw [if_pos z]; simp [z, wE_bind]
  · rw [if_neg z]; simp [z, wE]
theorem u_sl {pl ph : DEn (Option Int)} {t : Tg2 Q X} : wE (dSl ma pl ph env h) Q X t = wE (ma env h) (fun d h => wE (pl env h) (fun lo h => wE (ph env h) (fun hi h => wE (slD d lo hi h) Q X ⟨⟩) X ⟨⟩) X ⟨⟩) X ⟨⟩ := by
  unfold dSl
  rw [wE_dbind]
  refine wE_cg fun d h => ?_
  rw [wE_dbind]
  refine wE_cg fun lo h => ?_
  rw [wE_dbind]
theorem u_pNone {QO : Option Int → DH → Prop} {t : Tg2 QO X} : wE (pNone env h) QO X t = QO none h := (rfl)
def pInt : D → DH → R (Option Int)
  | .int i, h => .ok (some i) h
  | _, _ => .bad
theorem u_pSome {QO : Option Int → DH → Prop} {t : Tg2 QO X} : wE (pSome ma env h) QO X t = wE (ma env h) (fun d h => wE (pInt d h) QO X ⟨⟩) X ⟨⟩ := by
  unfold pSome
  rw [wE_dbind]
  refine wE_cg fun d h => ?_
  cases d <;> rfl
theorem u_rev {t : Tg2 Q X} : wE (dRev ma env h) Q X t = wE (ma env h) (fun d h => wE (revD d h) Q X ⟨⟩) X ⟨⟩ := wE_bind
theorem u_dic0 {t : Tg2 Q X} : wE (dDic0 env h) Q X t = Q (.ref h.length) (h ++ [.dct []]) := (rfl)
theorem u_prs0 {QP : List (D × D) → DH → Prop} {t : Tg2 QP X} : wE (dPairs [] env h) QP X t = QP [] h := (rfl)
theorem u_prs {QP : List (D × D) → DH → Prop} {r : List (DE × DE)} {t : Tg2 QP X} : wE (dPairs ((ma, mb) :: r) env h) QP X t = wE (ma env h) (fun k h => wE (mb env h) (fun v h => wE (dPairs r env h) (fun ps h => QP ((k, v) :: ps) h) X ⟨⟩) X ⟨⟩) X ⟨⟩ := by
  conv => lhs; unfold dPairs
  rw [wE_dbind]
  refine wE_cg fun d h => ?_
  rw [wE_dbind]
  refine wE_cg fun lo h => ?_
  rw [wE_dbind]
  rfl
theorem u_dic {trs : List (DE × DE)} {t : Tg2 Q X} : wE (dDic trs env h) Q X t = wE (dPairs trs env h) (fun ps h => (keysOk ps = true ∧ ps.length ≤ 15) ∧ Q (.ref h.length) (h ++ [.dct (mergeD [] ps)])) X ⟨⟩ := by
  unfold dDic
  rw [wE_dbind]
  refine wE_cg fun ps h => ?_
  rw [wE_if]
  by_cases z : keysOk ps = true ∧ ps.length ≤ 15
  · rw [if_pos z]; simp [z, wE, alloc]
  · rw [if_neg z]
    simp only [wE_bad, z, false_and]
/-- what an iteration goes over -/
def itV (d : D) (h : DH) : R IS := match d with
  | .tup ds => .ok (.items ds) h
  | .frz ds => .ok (.items ds) h
  | .ref n => match h[n]? with
    | some (.lst _) => .ok (.lst n) h
    | _ => .bad
  | .str t => if t.length ≤ big then .ok (.items (chars t)) h else .bad
  | _ => .bad
theorem u_iVal {QI : IS → DH → Prop} {t : Tg2 QI X} : wE (iVal ma env h) QI X t = wE (ma env h) (fun d h => wE (itV d h) QI X ⟨⟩) X ⟨⟩ := by
  unfold iVal
  rw [wE_dbind]
  rfl
theorem u_iEn {QI : IS → DH → Prop} {t : Tg2 QI X} : wE (iEn ma env h) QI X t = wE (ma env h) (fun d h => wE (enK d h) QI X ⟨⟩) X ⟨⟩ := wE_bind
theorem u_iRng1 {QI : IS → DH → Prop} {t : Tg2 QI X} : wE (iRng1 ml env h) QI X t = wE (ml env h) (fun ds h => ∃ j, ds = [.int j] ∧ sm62 j = true ∧ QI (.items (rngI 0 j.toNat)) h) X ⟨⟩ := by
  unfold iRng1
  rw [wE_dbind]
  refine wE_cg fun ds h => ?_
  split
  · rename_i j
    rw [wE_if]
    by_cases z : sm62 j = true
    · rw [if_pos z]; simp [z, wE]
    · rw [if_neg z]; simp [z, wE]
  · rename_i z
    simp only [wE_bad]
    apply Eq.symm
    simp only [eq_iff_iff, iff_false]
    rintro ⟨j, rfl, _⟩
    exact z _ rfl
theorem u_lc {f : Nat} {mi : DEn IS} {g : AG} {tt : DEn Bool} {te : DE} {vs : List Nat} {t : Tg2 Q X} : wE (dLc f mi g tt te vs env h) Q X t = wE (mi env h) (fun is h => wE (lcI g tt te f (wipeE env vs) is h) (fun r h => r.length ≤ big ∧ Q (.ref h.length) (h ++ [.lst r])) X ⟨⟩) X ⟨⟩ := by
  unfold dLc
  rw [wE_bind]
  refine wE_cg fun is h => ?_
  rw [wE_bind]
  refine wE_cg fun r h => ?_
  unfold lcEnd
  rw [wE_if]
  simp only [List.nil_append]
  by_cases z : r.length ≤ big
  · rw [if_pos z]; simp [z, wE, alloc]
  · rw [if_neg z]; simp [z, wE]
end
end DV
namespace DV
open PySem L2
mutual
def Is (h : DH) : PyData → D → Prop
  | .none, d => d = .non
  | .bool b, d => d = .bl b
  | .int i, d => d = .int i
  | .str s, d => ∃ t, d = .str t ∧ s = sOf t
  | .tuple ps, d => ∃ ds, d = .tup ds ∧ IsL h ps ds
  | .list ps, d => ∃ ds, (d = .frz ds ∨ ∃ n, d = .ref n ∧ h[n]? = some (.lst ds)) ∧ IsL h ps ds
  | .dict _, _ => False
def IsL (h : DH) : List PyData → List D → Prop
  | [], ds => ds = []
  | p :: ps, ds => ∃ d r, ds = d :: r ∧ Is h p d ∧ IsL h ps r
end
/-- all lists that stand go on standing -/
structure Kp (h h' : DH) : Prop where
  lst : ∀ (n : Nat) (ds : List D), h[n]? = some (DO.lst ds) → h'[n]? = some (DO.lst ds)
  len : h.length ≤ h'.length
instance {h h' : DH} : CoeFun (Kp h h') (fun _ => ∀ (n : Nat) (ds : List D), h[n]? = some (DO.lst ds) → h'[n]? = some (DO.lst ds)) := ⟨Kp.lst⟩
theorem Kp.refl {h : DH} : Kp h h := ⟨fun _ _ e => e, Nat.le_refl _⟩
theorem Kp.trans {h h1 h2 : DH} (a : Kp h h1) (b : Kp h1 h2) : Kp h h2 := ⟨fun n ds e => b.lst n ds (a.lst n ds e), Nat.le_trans a.len b.len⟩
theorem Kp.of_pre {h h' : DH} (a : h <+: h') : Kp h h' := ⟨fun n ds e => pre_get a e, a.length_le⟩
theorem Kp.app {h x : DH} : Kp h (h ++ x) := Kp.of_pre ⟨x, rfl⟩
theorem Kp.set {h h1 : DH} {n : Nat} {o : DO} (k : Kp h h1) (e : ∀ ds : List D, h[n]? ≠ some (DO.lst ds)) : Kp h (h1.set n o) := ⟨fun m ds q => by
  have q1 := k.lst m ds q
  by_cases z : n = m
  · subst z
    exact absurd q (e ds)
  · rw [List.getElem?_set_ne z]
    exact q1, by rw [List.length_set]; exact k.len⟩
mutual
theorem Is.kp {h h' : DH} (k : Kp h h') : ∀ {p : PyData} {d : D}, Is h p d → Is h' p d
  | .none, _, e => by unfold Is at e ⊢; exact e
  | .bool _, _, e => by unfold Is at e ⊢; exact e
  | .int _, _, e => by unfold Is at e ⊢; exact e
  | .str _, _, e => by unfold Is at e ⊢; exact e
  | .tuple ps, _, e => by
    unfold Is at e ⊢
    obtain ⟨ds, rfl, e⟩ := e
    exact ⟨ds, rfl, IsL.kp k e⟩
  | .list ps, _, e => by
    unfold Is at e ⊢
    obtain ⟨ds, e1, e⟩ := e
    exact ⟨ds, e1.imp id (fun ⟨n, a, b⟩ => ⟨n, a, k n ds b⟩), IsL.kp k e⟩
  | .dict _, _, e => by unfold Is at e; exact e.elim
theorem IsL.kp {h h' : DH} (k : Kp h h') : ∀ {ps : List PyData} {ds : List D}, IsL h ps ds → IsL h' ps ds
  | [], _, e => by unfold IsL at e ⊢; exact e
  | p :: ps, _, e => by
    unfold IsL at e ⊢
    obtain ⟨d, r, rfl, e1, e2⟩ := e
    exact ⟨d, r, rfl, Is.kp k e1, IsL.kp k e2⟩
end
theorem depth_tuple {ps : List PyData} : (PyData.tuple ps).depth = PyData.depthAll ps + 1 := by simp only [PyData.depth]
theorem depth_list {ps : List PyData} : (PyData.list ps).depth = PyData.depthAll ps + 1 := by simp only [PyData.depth]
theorem depthAll_le {k : Nat} : ∀ {ps : List PyData}, PyData.depthAll ps ≤ k ↔ ∀ p ∈ ps, p.depth ≤ k
  | [] => by simp [PyData.depthAll]
  | p :: ps => by simp [PyData.depthAll, Nat.max_le, depthAll_le (ps := ps)]
mutual
theorem Is.toPy {h : DH} : ∀ {p : PyData} {d : D} {n : Nat}, Is h p d → p.depth < n → toPy h n d = some p
  | .none, _, n + 1, e, _ => by unfold Is at e; subst e; rfl
  | .bool _, _, n + 1, e, _ => by unfold Is at e; subst e; rfl
  | .int _, _, n + 1, e, _ => by unfold Is at e; subst e; rfl
  | .str _, _, n + 1, e, _ => by unfold Is at e; obtain ⟨t, rfl, rfl⟩ := e; rfl
  | .tuple ps, _, n + 1, e, l => by
    unfold Is at e
    obtain ⟨ds, rfl, e⟩ := e
    rw [depth_tuple] at l
    simp only [DV.toPy]
    rw [IsL.toPy e (by omega)]
    rfl
  | .list ps, _, n + 1, e, l => by
    unfold Is at e
    obtain ⟨ds, e1, e⟩ := e
    rw [depth_list] at l
    have z := IsL.toPy (n := n) e (by omega)
    rcases e1 with rfl | ⟨m, rfl, e2⟩
    · simp only [DV.toPy]
      rw [z]
      rfl
    · simp only [DV.toPy, e2]
      rw [z]
      rfl
  | .dict _, _, _, e, _ => by unfold Is at e; exact e.elim
  | .none, _, 0, _, l => absurd l (Nat.not_lt_zero _)
  | .bool _, _, 0, _, l => absurd l (Nat.not_lt_zero _)
  | .int _, _, 0, _, l => absurd l (Nat.not_lt_zero _)
  | .str _, _, 0, _, l => absurd l (Nat.not_lt_zero _)
  | .tuple _, _, 0, _, l => absurd l (Nat.not_lt_zero _)
  | .list _, _, 0, _, l => absurd l (Nat.not_lt_zero _)
theorem IsL.toPy {h : DH} : ∀ {ps : List PyData} {ds : List D} {n : Nat}, IsL h ps ds → PyData.depthAll ps < n → seqO (ds.map (toPy h n)) = some ps
  | [], _, n, e, _ => by unfold IsL at e; subst e; rfl
  | p :: ps, _, n, e, l => by
    unfold IsL at e
    obtain ⟨d, r, rfl, e1, e2⟩ := e
    simp only [PyData.depthAll] at l
    have z1 := Is.toPy (n := n) e1 (by omega)
    have z2 := IsL.toPy (n := n) e2 (by omega)
    simp only [List.map_cons, z1, seqO, z2]
    rfl
end
section
variable {h : DH} {d : D} {ds es : List D} {p : PyData} {ps qs : List PyData}
theorem IsL.length : ∀ {ps : List PyData} {ds : List D}, IsL h ps ds → ds.length = ps.length
  | [], _, e => by unfold IsL at e; subst e; rfl
  | p :: ps, _, e => by
    unfold IsL at e
    obtain ⟨d, r, rfl, _, e2⟩ := e
    simp [IsL.length e2]
theorem IsL.get : ∀ {ps : List PyData} {ds : List D}, IsL h ps ds → ∀ {i : Nat} {d : D}, ds[i]? = some d → ∃ p, ps[i]? = some p ∧ Is h p d
  | [], _, e, i, d, q => by unfold IsL at e; subst e; simp at q
  | p :: ps, _, e, i, d, q => by
    unfold IsL at e
    obtain ⟨d', r, rfl, e1, e2⟩ := e
    cases i with
    | zero => simp at q; subst q; exact ⟨p, rfl, e1⟩
    | succ i => exact IsL.get e2 (by simpa using q)
theorem IsL.mem (e : IsL h ps ds) (m : d ∈ ds) : ∃ p ∈ ps, Is h p d := by
  obtain ⟨i, q⟩ := List.mem_iff_getElem?.mp m
  obtain ⟨p, a, b⟩ := e.get q
  exact ⟨p, List.mem_of_getElem? a, b⟩
theorem IsL.app : ∀ {ps qs : List PyData} {ds es : List D}, IsL h ps ds → IsL h qs es → IsL h (ps ++ qs) (ds ++ es)
  | [], _, _, _, a, b => by unfold IsL at a; subst a; exact b
  | p :: ps, qs, _, es, a, b => by
    unfold IsL at a
    obtain ⟨d, r, rfl, e1, e2⟩ := a
    show IsL h (p :: (ps ++ qs)) _
    unfold IsL
    exact ⟨d, r ++ es, rfl, e1, IsL.app e2 b⟩
theorem IsL.cons (a : Is h p d) (b : IsL h ps ds) : IsL h (p :: ps) (d :: ds) := by
  unfold IsL
  exact ⟨d, ds, rfl, a, b⟩
theorem IsL.nil : IsL h [] [] := by unfold IsL; rfl
theorem IsL.take : ∀ {ps : List PyData} {ds : List D} (n : Nat), IsL h ps ds → IsL h (ps.take n) (ds.take n)
  | _, _, 0, _ => by simpa using IsL.nil
  | [], _, n + 1, e => by unfold IsL at e; subst e; simpa using IsL.nil
  | p :: ps, _, n + 1, e => by
    unfold IsL at e
    obtain ⟨d, r, rfl, e1, e2⟩ := e
    simpa using IsL.cons e1 (IsL.take n e2)
theorem IsL.drop : ∀ {ps : List PyData} {ds : List D} (n : Nat), IsL h ps ds → IsL h (ps.drop n) (ds.drop n)
  | _, _, 0, e => by simpa using e
  | [], _, n + 1, e => by unfold IsL at e; subst e; simpa using IsL.nil
  | p :: ps, _, n + 1, e => by
    unfold IsL at e
    obtain ⟨d, r, rfl, e1, e2⟩ := e
    simpa using IsL.drop n e2
theorem IsL.rev : ∀ {ps : List PyData} {ds : List D}, IsL h ps ds → IsL h ps.reverse ds.reverse
  | [], _, e => by unfold IsL at e; subst e; simpa using IsL.nil
  | p :: ps, _, e => by
    unfold IsL at e
    obtain ⟨d, r, rfl, e1, e2⟩ := e
    simpa using (IsL.rev e2).app (IsL.cons e1 IsL.nil)
theorem Is.tup (e : IsL h ps ds) : Is h (.tuple ps) (.tup ds) := by unfold Is; exact ⟨ds, rfl, e⟩
theorem Is.ref {n : Nat} (q : h[n]? = some (.lst ds)) (e : IsL h ps ds) : Is h (.list ps) (.ref n) := by unfold Is; exact ⟨ds, .inr ⟨n, rfl, q⟩, e⟩
theorem Is.tup_inv (e : Is h p (.tup ds)) : ∃ ps, p = .tuple ps ∧ IsL h ps ds := by
  cases p <;> unfold Is at e
  case tuple ps => obtain ⟨ds', z, e⟩ := e; cases z; exact ⟨ps, rfl, e⟩
  case str s => obtain ⟨t, z, _⟩ := e; cases z
  case list ps => obtain ⟨ds', z, _⟩ := e; rcases z with z | ⟨_, z, _⟩ <;> cases z
  case dict => exact e.elim
  all_goals cases e
/-- isinstance can be asked of it -/
theorem Is.ty (e : Is h p d) : ∃ t, tyN d h = some t := by
  cases p <;> unfold Is at e
  case tuple ps => obtain ⟨ds', rfl, e⟩ := e; exact ⟨_, rfl⟩
  case str s => obtain ⟨t, rfl, _⟩ := e; exact ⟨_, rfl⟩
  case list ps =>
    obtain ⟨ds', z, _⟩ := e
    rcases z with rfl | ⟨n, rfl, z⟩
    · exact ⟨_, rfl⟩
    · exact ⟨"list", by simp [tyN, z]⟩
  case dict => exact e.elim
  all_goals subst e; exact ⟨_, rfl⟩
end
mutual
def short : PyData → Bool
  | .none | .bool _ | .int _ | .dict _ => true
  | .str s => decide (s.cps.size ≤ 1000)
  | .tuple ps | .list ps => shortAll ps
def shortAll : List PyData → Bool
  | [] => true
  | p :: ps => short p && shortAll ps
end
def nice (p : PyData) : Bool := p.canLay0 && (p.intsShort 70 && (p.showable && short p))
theorem shortAll_all : ∀ ps : List PyData, shortAll ps = ps.all short
  | [] => by simp [shortAll]
  | p :: ps => by simp [shortAll, shortAll_all ps]
theorem canLayAll_all : ∀ ps : List PyData, PyData.canLayAll0 ps = ps.all (·.canLay0)
  | [] => rfl
  | p :: ps => by simp [PyData.canLayAll0, canLayAll_all ps]
theorem intsShortAll_all (B : Nat) : ∀ ps : List PyData, PyData.intsShortAll B ps = ps.all (·.intsShort B)
  | [] => rfl
  | p :: ps => by simp [PyData.intsShortAll, intsShortAll_all B ps]
theorem showableAll_all : ∀ ps : List PyData, PyData.showableAll ps = ps.all (·.showable)
  | [] => rfl
  | p :: ps => by simp [PyData.showableAll, showableAll_all ps]
theorem nice_all (ps : List PyData) : (∀ p ∈ ps, nice p = true) ↔ (PyData.canLayAll0 ps = true ∧ PyData.intsShortAll 70 ps = true ∧ PyData.showableAll ps = true ∧ shortAll ps = true) := by
  rw [canLayAll_all, intsShortAll_all, showableAll_all, shortAll_all]
  simp only [nice, Bool.and_eq_true, List.all_eq_true]
  constructor
  · intro a; exact ⟨fun p m => (a p m).1, fun p m => (a p m).2.1, fun p m => (a p m).2.2.1, fun p m => (a p m).2.2.2⟩
  · intro ⟨a, b, c, d⟩ p m; exact ⟨a p m, b p m, c p m, d p m⟩
theorem nice_tuple {ps : List PyData} : nice (.tuple ps) = true ↔ ∀ p ∈ ps, nice p = true := by
  rw [nice_all]
  simp [nice, PyData.canLay0, PyData.intsShort, PyData.showable, short]
theorem nice_list {ps : List PyData} : nice (.list ps) = true ↔ ∀ p ∈ ps, nice p = true := by
  rw [nice_all]
  simp [nice, PyData.canLay0, PyData.intsShort, PyData.showable, short]
theorem weight_tuple {ps : List PyData} : (PyData.tuple ps).weight = PyData.weightAll ps := by simp only [PyData.weight]
theorem weight_list {ps : List PyData} : (PyData.list ps).weight = PyData.weightAll ps := by simp only [PyData.weight]
theorem weightAll_app : ∀ (ps qs : List PyData), PyData.weightAll (ps ++ qs) = PyData.weightAll ps + PyData.weightAll qs
  | [], qs => by simp [PyData.weightAll]
  | p :: ps, qs => by
    simp only [List.cons_append, PyData.weightAll, weightAll_app ps qs]
    omega
theorem weightAll_rev : ∀ (ps : List PyData), PyData.weightAll ps.reverse = PyData.weightAll ps
  | [] => rfl
  | p :: ps => by
    simp only [List.reverse_cons, weightAll_app, weightAll_rev ps, PyData.weightAll]
    omega
theorem weightAll_take_drop (n : Nat) (ps : List PyData) : PyData.weightAll (ps.take n) + PyData.weightAll (ps.drop n) = PyData.weightAll ps := by
  rw [← weightAll_app, List.take_append_drop]
theorem weight_mem : ∀ {ps : List PyData} {p : PyData}, p ∈ ps → p.weight + 1 ≤ PyData.weightAll ps
  | q :: ps, p, m => by
    simp only [PyData.weightAll]
    rcases List.mem_cons.mp m with rfl | m
    · omega
    · have := weight_mem m; omega
theorem length_weight : ∀ (ps : List PyData), ps.length ≤ PyData.weightAll ps
  | [] => Nat.zero_le _
  | p :: ps => by
    have := length_weight ps
    simp only [PyData.weightAll, List.length_cons]
    omega
/-- a value worth a datum that can be shown: of depth k and weight w at most -/
structure Th (h : DH) (k w : Nat) (d : D) (p : PyData) : Prop where
  is : Is h p d
  ni : nice p = true
  dp : p.depth ≤ k
  wt : p.weight ≤ w
structure ThL (h : DH) (k w : Nat) (ds : List D) (ps : List PyData) : Prop where
  is : IsL h ps ds
  ni : ∀ p ∈ ps, nice p = true
  dp : ∀ p ∈ ps, p.depth ≤ k
  wt : PyData.weightAll ps ≤ w
section
variable {h h' : DH} {k k1 w w1 : Nat} {d : D} {ds es : List D} {p : PyData} {ps qs : List PyData}
theorem Th.kp (t : Th h k w d p) (a : Kp h h') : Th h' k w d p := ⟨t.is.kp a, t.ni, t.dp, t.wt⟩
theorem ThL.kp (t : ThL h k w ds ps) (a : Kp h h') : ThL h' k w ds ps := ⟨t.is.kp a, t.ni, t.dp, t.wt⟩
theorem Th.up (t : Th h k w d p) (a : k ≤ k1) (b : w ≤ w1) : Th h k1 w1 d p := ⟨t.is, t.ni, Nat.le_trans t.dp a, Nat.le_trans t.wt b⟩
theorem ThL.up (t : ThL h k w ds ps) (a : k ≤ k1) (b : w ≤ w1) : ThL h k1 w1 ds ps := ⟨t.is, t.ni, fun p m => Nat.le_trans (t.dp p m) a, Nat.le_trans t.wt b⟩
theorem ThL.nil : ThL h k w [] [] := ⟨IsL.nil, by simp, by simp, Nat.zero_le _⟩
theorem ThL.cons (a : Th h k w d p) (b : ThL h k w1 ds ps) : ThL h k (w + 1 + w1) (d :: ds) (p :: ps) := ⟨.cons a.is b.is, by simpa using ⟨a.ni, b.ni⟩, by simpa using ⟨a.dp, b.dp⟩, by
  have := a.wt
  have := b.wt
  simp only [PyData.weightAll]
  omega⟩
theorem ThL.app (a : ThL h k w ds ps) (b : ThL h k w1 es qs) : ThL h k (w + w1) (ds ++ es) (ps ++ qs) := ⟨a.is.app b.is, by
  intro p m
  exact (List.mem_append.mp m).elim (a.ni p) (b.ni p), by
  intro p m
  exact (List.mem_append.mp m).elim (a.dp p) (b.dp p), by
  have := a.wt
  have := b.wt
  rw [weightAll_app]
  omega⟩
theorem ThL.take (n : Nat) (a : ThL h k w ds ps) : ThL h k w (ds.take n) (ps.take n) := ⟨a.is.take n, fun p m => a.ni p (List.mem_of_mem_take m), fun p m => a.dp p (List.mem_of_mem_take m), by
  have := weightAll_take_drop n ps
  have := a.wt
  omega⟩
theorem ThL.drop (n : Nat) (a : ThL h k w ds ps) : ThL h k w (ds.drop n) (ps.drop n) := ⟨a.is.drop n, fun p m => a.ni p (List.mem_of_mem_drop m), fun p m => a.dp p (List.mem_of_mem_drop m), by
  have := weightAll_take_drop n ps
  have := a.wt
  omega⟩
theorem ThL.rev (a : ThL h k w ds ps) : ThL h k w ds.reverse ps.reverse := ⟨a.is.rev, fun p m => a.ni p (List.mem_reverse.mp m), fun p m => a.dp p (List.mem_reverse.mp m), by
  rw [weightAll_rev]
  exact a.wt⟩
theorem ThL.filter (q : D → Bool) : ∀ {ds : List D} {ps : List PyData} {w : Nat}, ThL h k w ds ps → ∃ qs, ThL h k w (ds.filter q) qs
  | [], ps, w, a => ⟨ps, by simpa using a⟩
  | d :: ds, ps, w, a => by
    have i := a.is
    cases ps with
    | nil => unfold IsL at i; cases i
    | cons p ps =>
      unfold IsL at i
      obtain ⟨d', r, e, i1, i2⟩ := i
      cases e
      have wt := a.wt
      simp only [PyData.weightAll] at wt
      have b : ThL h k (PyData.weightAll ps) ds ps := ⟨i2, fun p m => a.ni p (List.mem_cons_of_mem _ m), fun p m => a.dp p (List.mem_cons_of_mem _ m), Nat.le_refl _⟩
      have c : Th h k p.weight d p := ⟨i1, a.ni p List.mem_cons_self, a.dp p List.mem_cons_self, Nat.le_refl _⟩
      obtain ⟨qs, z⟩ := ThL.filter q b
      rw [List.filter_cons]
      split
      · exact ⟨p :: qs, (ThL.cons c z).up (Nat.le_refl _) (by omega)⟩
      · exact ⟨qs, z.up (Nat.le_refl _) (by omega)⟩
theorem ThL.get (a : ThL h k w ds ps) {i : Nat} (e : ds[i]? = some d) : ∃ p, Th h k w d p := by
  obtain ⟨p, e1, e2⟩ := a.is.get e
  have m := List.mem_of_getElem? e1
  exact ⟨p, e2, a.ni p m, a.dp p m, by
    have := weight_mem m
    have := a.wt
    omega⟩
theorem ThL.split (a : ThL h k w ds ps) {i : Nat} (e : ds[i]? = some d) : ∃ p p1 p2 w1 w2 we, ThL h k w1 (ds.take i) p1 ∧ Th h k we d p ∧ ThL h k w2 (ds.drop (i + 1)) p2 ∧ w1 + (we + 1) + w2 ≤ w := by
  obtain ⟨p, e1, e2⟩ := a.is.get e
  have m := List.mem_of_getElem? e1
  refine ⟨p, ps.take i, ps.drop (i + 1), PyData.weightAll (ps.take i), PyData.weightAll (ps.drop (i + 1)), p.weight, ?_, ?_, ?_, ?_⟩
  · exact ⟨a.is.take i, fun p m => a.ni p (List.mem_of_mem_take m), fun p m => a.dp p (List.mem_of_mem_take m), Nat.le_refl _⟩
  · exact ⟨e2, a.ni p m, a.dp p m, Nat.le_refl _⟩
  · exact ⟨a.is.drop _, fun p m => a.ni p (List.mem_of_mem_drop m), fun p m => a.dp p (List.mem_of_mem_drop m), Nat.le_refl _⟩
  · have lt := (List.getElem?_eq_some_iff.mp e1).1
    have ge := (List.getElem?_eq_some_iff.mp e1).2
    have z := weightAll_take_drop i ps
    rw [List.drop_eq_getElem_cons lt, ge] at z
    simp only [PyData.weightAll] at z
    have := a.wt
    omega
theorem ThL.mem (a : ThL h k w ds ps) (m : d ∈ ds) : ∃ p, Th h k w d p := by
  obtain ⟨i, q⟩ := List.mem_iff_getElem?.mp m
  exact a.get q
theorem ThL.length (a : ThL h k w ds ps) : ds.length ≤ w := by
  have := a.is.length
  have := length_weight ps
  have := a.wt
  omega
theorem Th.tup (a : ThL h k w ds ps) : Th h (k + 1) w (.tup ds) (.tuple ps) := ⟨.tup a.is, nice_tuple.mpr a.ni, by
  rw [depth_tuple]
  have := depthAll_le.mpr a.dp
  omega, by rw [weight_tuple]; exact a.wt⟩
theorem Th.ref {n : Nat} (q : h[n]? = some (.lst ds)) (a : ThL h k w ds ps) : Th h (k + 1) w (.ref n) (.list ps) := ⟨.ref q a.is, nice_list.mpr a.ni, by
  rw [depth_list]
  have := depthAll_le.mpr a.dp
  omega, by rw [weight_list]; exact a.wt⟩
theorem Th.tup_inv (a : Th h k w (.tup ds) p) : ∃ ps j, k = j + 1 ∧ p = .tuple ps ∧ ThL h j w ds ps := by
  obtain ⟨ps, rfl, e⟩ := a.is.tup_inv
  have d := a.dp
  rw [depth_tuple] at d
  refine ⟨ps, k - 1, by omega, rfl, e, nice_tuple.mp a.ni, depthAll_le.mp (by omega), ?_⟩
  have := a.wt
  rw [weight_tuple] at this
  exact this
theorem Th.non : Th h k w .non .none := ⟨by unfold Is; rfl, rfl, Nat.zero_le _, Nat.zero_le _⟩
theorem Th.bl {b : Bool} : Th h k w (.bl b) (.bool b) := ⟨by unfold Is; rfl, rfl, by simp [PyData.depth], by simp [PyData.weight]⟩
theorem Th.ty (a : Th h k w d p) : ∃ t, tyN d h = some t := a.is.ty
theorem Th.py (a : Th h k w d p) (hk : k < 60) : toPy h 60 d = some p := a.is.toPy (by have := a.dp; omega)
theorem Th.shaped (a : Th h k w d p) (hk : k ≤ 64) : SeqAt.shaped p = true := by
  have n := a.ni
  simp only [nice, Bool.and_eq_true] at n
  have := a.dp
  simp only [SeqAt.shaped, Bool.and_eq_true, n.1, true_and]
  exact decide_eq_true (by omega)
theorem Th.repr (a : Th h k w d p) (hk : k < 60) (hw : w ≤ 200000) : reprF [d] h = .ok (.str p.shown.cps.toList) h := by
  have n := a.ni
  simp only [nice, Bool.and_eq_true] at n
  have z := PyData.shown_le 70 (by decide) p (PyData.leavesShort_of_canLay0 70 p n.1 n.2.1)
  have := a.wt
  have := a.dp
  have l : p.shown.length ≤ big := by
    have : big = 16777216 := rfl
    omega
  simp only [reprF, a.py hk]
  rw [if_pos ⟨n.2.2.1, by omega, l, PyData.hasDict_of_canLay p n.1⟩]
/-- worth some datum that can be shown -/
def Any (h : DH) (d : D) : Prop := ∃ k w p, Th h k w d p ∧ k ≤ 20 ∧ w ≤ 200000
theorem Th.any (a : Th h k w d p) (hk : k ≤ 20) (hw : w ≤ 200000) : Any h d := ⟨k, w, p, a, hk, hw⟩
theorem Any.kp (a : Any h d) (b : Kp h h') : Any h' d := let ⟨k, w, p, t, u⟩ := a; ⟨k, w, p, t.kp b, u⟩
theorem Any.ty (a : Any h d) : ∃ t, tyN d h = some t := let ⟨_, _, _, t, _⟩ := a; t.ty
theorem Any.list (a : Any h (.tup ds)) : ∃ k w ps, ThL h k w ds ps ∧ k + 1 ≤ 20 ∧ w ≤ 200000 := by
  obtain ⟨k, w, p, t, u, v⟩ := a
  obtain ⟨ps, j, _, _, l⟩ := t.tup_inv
  exact ⟨j, w, ps, l, by omega, v⟩
theorem Any.cut (a : Any h (.tup ds)) (i j : Nat) : Any h (.tup ((ds.drop i).take j)) := by
  obtain ⟨k, w, ps, l, u, v⟩ := a.list
  exact (Th.tup ((l.drop i).take j)).any u v
theorem Any.drop (a : Any h (.tup ds)) (i : Nat) : Any h (.tup (ds.drop i)) := by
  obtain ⟨k, w, ps, l, u, v⟩ := a.list
  exact (Th.tup (l.drop i)).any u v
theorem Any.mem (a : Any h (.tup ds)) (m : d ∈ ds) : Any h d := by
  obtain ⟨k, w, ps, l, u, v⟩ := a.list
  obtain ⟨q, z⟩ := l.mem m
  exact z.any (by omega) v
theorem Any.txt {t : Txt} (a : Any h (.str t)) : t.length ≤ 1000 := by
  obtain ⟨k, w, p, z, _⟩ := a
  have i := z.is
  have n := z.ni
  cases p <;> unfold Is at i
  case str s =>
    obtain ⟨u, e, rfl⟩ := i
    cases e
    simp only [nice, Bool.and_eq_true, short, sOf] at n
    have := of_decide_eq_true n.2.2.2
    simpa using this
  case tuple => obtain ⟨_, e, _⟩ := i; cases e
  case list => obtain ⟨_, e, _⟩ := i; rcases e with e | ⟨_, e, _⟩ <;> cases e
  case dict => exact i.elim
  all_goals cases i
theorem Any.chr {t : Txt} (a : Any h (.str t)) : ∀ c ∈ t, c < 1114112 := by
  obtain ⟨k, w, p, z, _⟩ := a
  have i := z.is
  have n := z.ni
  cases p <;> unfold Is at i
  case str s =>
    obtain ⟨u, e, rfl⟩ := i
    cases e
    simp only [nice, Bool.and_eq_true, PyData.canLay0, PyData.strOk, sOf] at n
    have := Array.all_eq_true_iff_forall_mem.mp n.1
    intro c m
    simpa using this c (by simpa using m)
  case tuple => obtain ⟨_, e, _⟩ := i; cases e
  case list => obtain ⟨_, e, _⟩ := i; rcases e with e | ⟨_, e, _⟩ <;> cases e
  case dict => exact i.elim
  all_goals cases i
/-- a text -/
theorem Th.str {t : Txt} (e : ∀ c ∈ t, c < 1114112) (l : t.length ≤ w) (l2 : t.length ≤ 1000) : Th h k w (.str t) (.str (sOf t)) := ⟨by unfold Is; exact ⟨t, rfl, rfl⟩, by
  have : PyData.strOk (sOf t) = true := by
    unfold PyData.strOk sOf
    rw [Array.all_eq_true_iff_forall_mem]
    intro c m
    simpa using e c (by simpa using m)
  simp only [nice, PyData.canLay0, this, PyData.intsShort, PyData.showable, short, Bool.true_and]
  exact decide_eq_true (by simpa [sOf] using l2), by simp [PyData.depth], by
  simp only [PyData.weight, sOf]
  simpa using l⟩
theorem chars_th : ∀ {t : Txt}, (∀ c ∈ t, c < 1114112) → ∃ ps, ThL h 0 (2 * t.length) (chars t) ps
  | [], _ => ⟨[], ThL.nil⟩
  | c :: t, e => by
    obtain ⟨ps, z⟩ := chars_th (t := t) fun c m => e c (List.mem_cons_of_mem _ m)
    have a : Th h 0 1 (.str [c]) (.str (sOf [c])) := Th.str (by simpa using e c List.mem_cons_self) (by simp) (by simp)
    exact ⟨_, (ThL.cons a z).up (Nat.le_refl _) (by simp; omega)⟩
end
end DV
namespace DV
open PySem L2
theorem Ok.run {α : Type} {r : R α} {v : α} {h : DH} (e : Ok r fun a b => a = v ∧ b = h) : r = .ok v h := by
  obtain ⟨a, b, e1, e2, e3⟩ := e.eq
  rw [e1, e2, e3]
theorem Ok.of_run {α : Type} {r : R α} {v : α} {h : DH} {Q : α → DH → Prop} (e : r = .ok v h) (q : Q v h) : Ok r Q := Ok.of e q
def uO (o : Option (Option D)) (Q : D → DH → Prop) (h : DH) (_t : Tg2 Q h) : Prop := match o with
  | some (some d) => Q d h
  | _ => False
section
variable {Q : D → DH → Prop} {X : XQ} {env : Env} {h : DH} {d : D}
theorem u_varO {i : Nat} {t : Tg2 Q X} : wE (dVar i env h) Q X t = uO env[i]? Q h ⟨⟩ := by
  unfold dVar uO
  cases env[i]? with
  | none => rfl
  | some o => cases o <;> rfl
theorem uO_some {t : Tg2 Q h} : uO (some (some d)) Q h t = Q d h := (rfl)
theorem get0 {α : Type} {a : α} {l : List α} : (a :: l)[0]? = some a := (rfl)
theorem get1 {α : Type} {a b : α} {l : List α} : (a :: b :: l)[1]? = some b := (rfl)
theorem aName_run {i : Nat} : aName i d env = some (env.set i (some d)) := (rfl)
end
section
variable {Q : PQ} {env : Env} {h : DH} {t : Tg Q} {m : SD} {g : AG} {f : Nat}
theorem wS_for {mi : DEn IS} : wS (sFor f mi g m env h) Q t = wE (mi env h) (fun is h => wS (forI g m f is env h) Q ⟨⟩) (fun c a h => Q.xc c a env h) ⟨⟩ := wS_toS
theorem forI_items {ds : List D} : forI g m f (.items ds) = forS g m ds := (rfl)
theorem forI_lst {n : Nat} : forI g m f (.lst n) = forR g m n f 0 := (rfl)
theorem forS_nil : forS g m [] env h = .nx env h := (rfl)
theorem wS_nx : wS (.nx env h) Q t = Q.nx env h := (rfl)
theorem wS_bk : wS (.bk env h) Q t = Q.bk env h := (rfl)
theorem wS_ct : wS (.ct env h) Q t = Q.ct env h := (rfl)
theorem wS_rt {d : D} : wS (.rt d h) Q t = Q.rt d h := (rfl)
/-- one lap of a loop -/
theorem forS_cons {d : D} {ds : List D} : wS (forS g m (d :: ds) env h) Q t = wG (g d env) (fun env1 h => wS (m env1 h) ⟨fun e h => wS (forS g m ds e h) Q ⟨⟩, Q.rt, Q.nx, fun e h => wS (forS g m ds e h) Q ⟨⟩, Q.xc⟩ ⟨⟩) h ⟨⟩ := by
  conv => lhs; unfold forS
  cases g d env with
  | none => rfl
  | some e1 =>
    simp only [wG_some]
    cases m e1 h <;> rfl
/-- a loop by its invariant -/
theorem forS_inv {I : Nat → Env → DH → Prop} : ∀ (ds : List D) (j : Nat) {env : Env} {h : DH}, I j env h →
    (∀ (i : Nat) (d : D) env h, ds[i]? = some d → I (j + i) env h → ∃ env1, g d env = some env1 ∧ wS (m env1 h) ⟨I (j + i + 1), Q.rt, Q.nx, I (j + i + 1), Q.xc⟩ ⟨⟩) →
    (∀ env h, I (j + ds.length) env h → Q.nx env h) → wS (forS g m ds env h) Q t
  | [], j, env, h, a, _, c => c env h a
  | d :: ds, j, env, h, a, b, c => by
    rw [forS_cons]
    obtain ⟨e1, q1, q2⟩ := b 0 d env h rfl a
    rw [q1, wG_some]
    have next : ∀ e h, I (j + 0 + 1) e h → wS (forS g m ds e h) Q ⟨⟩ := fun e h i1 => forS_inv (I := I) ds (j + 1) i1 (fun i d' e h q i2 => by
        have z := b (i + 1) d' e h q (by rw [show j + (i + 1) = j + 1 + i by omega]; exact i2)
        rw [show j + (i + 1) = j + 1 + i by omega] at z
        exact z) (fun e h i2 => c e h (by rw [List.length_cons, show j + (ds.length + 1) = j + 1 + ds.length by omega]; exact i2))
    exact wS_mono q2 next (fun _ _ z => z) (fun _ _ z => z) next (fun _ _ _ _ z => z)
/-- a loop over a list that stands -/
theorem forR_inv {n : Nat} {ds : List D} {I : Nat → Env → DH → Prop} (keep : ∀ i env h, I i env h → h[n]? = some (.lst ds)) (step : ∀ (i : Nat) (d : D) env h, ds[i]? = some d → I i env h → ∃ env1, g d env = some env1 ∧ wS (m env1 h) ⟨I (i + 1), Q.rt, Q.nx, I (i + 1), Q.xc⟩ ⟨⟩)
    (fin : ∀ env h, I ds.length env h → Q.nx env h) : ∀ (f j : Nat) {env : Env} {h : DH}, ds.length < j + f → j ≤ ds.length → I j env h → wS (forR g m n f j env h) Q t
  | 0, j, env, h, l, l2, a => by omega
  | f + 1, j, env, h, l, l2, a => by
    unfold forR
    simp only [keep j env h a]
    cases e : ds[j]? with
    | none =>
      have : j = ds.length := by
        have := List.getElem?_eq_none_iff.mp e
        omega
      subst this
      exact fin env h a
    | some d =>
      have lt : j < ds.length := (List.getElem?_eq_some_iff.mp e).1
      obtain ⟨e1, q1, q2⟩ := step j d env h e a
      simp only [q1]
      have next : ∀ e h, I (j + 1) e h → wS (forR g m n f (j + 1) e h) Q ⟨⟩ := fun e h i1 => forR_inv keep step fin f (j + 1) (by omega) (by omega) i1
      cases r : m e1 h with
      | nx e h => rw [r] at q2; exact next e h q2
      | ct e h => rw [r] at q2; exact next e h q2
      | bk e h => rw [r] at q2; exact q2
      | rt d h => rw [r] at q2; exact q2
      | exc c a e h => rw [r] at q2; exact q2
      | bad => rw [r] at q2; exact q2.elim
theorem wS_forR {n : Nat} {ds : List D} (I : Nat → Env → DH → Prop) (hl : ds.length < f) (a : I 0 env h) (keep : ∀ i env h, I i env h → h[n]? = some (.lst ds)) (step : ∀ (i : Nat) (d : D) env h, ds[i]? = some d → I i env h → ∃ env1, g d env = some env1 ∧ wS (m env1 h) ⟨I (i + 1), Q.rt, Q.nx, I (i + 1), Q.xc⟩ ⟨⟩)
    (fin : ∀ env h, I ds.length env h → Q.nx env h) : wS (forI g m f (.lst n) env h) Q t := forR_inv keep step fin f 0 (by omega) (Nat.zero_le _) a
theorem wS_forS {ds : List D} (I : Nat → Env → DH → Prop) (a : I 0 env h) (step : ∀ (i : Nat) (d : D) env h, ds[i]? = some d → I i env h → ∃ env1, g d env = some env1 ∧ wS (m env1 h) ⟨I (i + 1), Q.rt, Q.nx, I (i + 1), Q.xc⟩ ⟨⟩)
    (fin : ∀ env h, I ds.length env h → Q.nx env h) : wS (forS g m ds env h) Q t := forS_inv (I := I) ds 0 a (fun i d env h q i1 => by
    have e : 0 + i = i := Nat.zero_add i
    rw [e] at i1 ⊢
    exact step i d env h q i1) (fun env h i1 => by
    rw [Nat.zero_add] at i1
    exact fin env h i1)
end
/-- a comprehension that writes nothing -/
theorem lcR_pure {g : AG} {tt : DEn Bool} {te : DE} {env : Env} {h : DH} {n : Nat} {ds : List D} {e : D → Env} {p : D → Bool} {q : D → D} (hn : h[n]? = some (.lst ds)) (hd : ∀ d ∈ ds, g d env = some (e d) ∧ tt (e d) h = .ok (p d) h ∧ (p d = true → te (e d) h = .ok (q d) h)) :
    ∀ (f j : Nat), ds.length < j + f → j ≤ ds.length → lcR g tt te env n f j h = .ok (((ds.drop j).filter p).map q) h
  | 0, j, l, l2 => by omega
  | f + 1, j, l, l2 => by
    unfold lcR
    simp only [hn]
    cases q : ds[j]? with
    | none =>
      have : ds.length ≤ j := List.getElem?_eq_none_iff.mp q
      simp [List.drop_eq_nil_iff.mpr this]
    | some d =>
      have lt : j < ds.length := (List.getElem?_eq_some_iff.mp q).1
      have ih := lcR_pure hn hd f (j + 1) (by omega) (by omega)
      obtain ⟨h1, h2, h3⟩ := hd d (List.mem_of_getElem? q)
      have dr : ds.drop j = d :: ds.drop (j + 1) := by
        rw [List.drop_eq_getElem_cons lt]
        have := (List.getElem?_eq_some_iff.mp q).2
        rw [this]
      simp only [h1, h2, R.noX, R.bind_ok, dr]
      cases hp : p d with
      | true => simp [h3 hp, R.noX, R.bind_ok, ih, hp]
      | false => simp [ih, hp]
theorem u_lcS_pure {QL : List D → DH → Prop} {X : XQ} {t : Tg2 QL X} {f : Nat} {g : AG} {tt : DEn Bool} {te : DE} {env : Env} {h : DH} (e : D → Env) (p : D → Bool) (q : D → D) {ds : List D} (hd : ∀ d ∈ ds, g d env = some (e d) ∧ tt (e d) h = .ok (p d) h ∧ (p d = true → te (e d) h = .ok (q d) h)) :
    wE (lcI g tt te f env (.items ds) h) QL X t = QL ((ds.filter p).map q) h := by
  show wE (lcS g tt te env ds h) QL X t = _
  rw [lcS_pure hd]
  rfl
theorem u_lcR_pure {QL : List D → DH → Prop} {X : XQ} {t : Tg2 QL X} {f n : Nat} {g : AG} {tt : DEn Bool} {te : DE} {env : Env} {h : DH} (e : D → Env) (p : D → Bool) (q : D → D) {ds : List D} (hn : h[n]? = some (.lst ds)) (hf : ds.length < f) (hd : ∀ d ∈ ds, g d env = some (e d) ∧ tt (e d) h = .ok (p d) h ∧ (p d = true → te (e d) h = .ok (q d) h)) :
    wE (lcI g tt te f env (.lst n) h) QL X t = QL ((ds.filter p).map q) h := by
  show wE (lcR g tt te env n f 0 h) QL X t = _
  rw [lcR_pure hn hd f 0 (by omega) (Nat.zero_le _)]
  rfl
section
variable {h : DH} {b : Bool} {i j : Int} {s t : Txt} {a a0 a1 a2 a3 a4 a5 d : D} {l ds es : List D} {neg : Bool} {n : Nat}
theorem isi_non_int : isiF [.non, .ty "int"] h = .ok (.bl false) h := by rw [isiF_run (t := "NoneType") rfl (by simp)]; rfl
theorem isi_non_bool : isiF [.non, .ty "bool"] h = .ok (.bl false) h := by rw [isiF_run (t := "NoneType") rfl (by simp)]; rfl
theorem isi_non_str : isiF [.non, .ty "str"] h = .ok (.bl false) h := by rw [isiF_run (t := "NoneType") rfl (by simp)]; rfl
theorem isi_non_tuple : isiF [.non, .ty "tuple"] h = .ok (.bl false) h := by rw [isiF_run (t := "NoneType") rfl (by simp)]; rfl
theorem isi_non_list : isiF [.non, .ty "list"] h = .ok (.bl false) h := by rw [isiF_run (t := "NoneType") rfl (by simp)]; rfl
theorem isi_bl_int : isiF [.bl b, .ty "int"] h = .ok (.bl true) h := by rw [isiF_run (t := "bool") rfl (by simp)]; rfl
theorem isi_bl_bool : isiF [.bl b, .ty "bool"] h = .ok (.bl true) h := by rw [isiF_run (t := "bool") rfl (by simp)]; rfl
theorem isi_bl_str : isiF [.bl b, .ty "str"] h = .ok (.bl false) h := by rw [isiF_run (t := "bool") rfl (by simp)]; rfl
theorem isi_bl_tuple : isiF [.bl b, .ty "tuple"] h = .ok (.bl false) h := by rw [isiF_run (t := "bool") rfl (by simp)]; rfl
theorem isi_bl_list : isiF [.bl b, .ty "list"] h = .ok (.bl false) h := by rw [isiF_run (t := "bool") rfl (by simp)]; rfl
theorem isi_int_int : isiF [.int i, .ty "int"] h = .ok (.bl true) h := by rw [isiF_run (t := "int") rfl (by simp)]; rfl
theorem isi_int_bool : isiF [.int i, .ty "bool"] h = .ok (.bl false) h := by rw [isiF_run (t := "int") rfl (by simp)]; rfl
theorem isi_int_str : isiF [.int i, .ty "str"] h = .ok (.bl false) h := by rw [isiF_run (t := "int") rfl (by simp)]; rfl
theorem isi_int_tuple : isiF [.int i, .ty "tuple"] h = .ok (.bl false) h := by rw [isiF_run (t := "int") rfl (by simp)]; rfl
theorem isi_int_list : isiF [.int i, .ty "list"] h = .ok (.bl false) h := by rw [isiF_run (t := "int") rfl (by simp)]; rfl
theorem isi_str_int : isiF [.str s, .ty "int"] h = .ok (.bl false) h := by rw [isiF_run (t := "str") rfl (by simp)]; rfl
theorem isi_str_bool : isiF [.str s, .ty "bool"] h = .ok (.bl false) h := by rw [isiF_run (t := "str") rfl (by simp)]; rfl
theorem isi_str_str : isiF [.str s, .ty "str"] h = .ok (.bl true) h := by rw [isiF_run (t := "str") rfl (by simp)]; rfl
theorem isi_str_tuple : isiF [.str s, .ty "tuple"] h = .ok (.bl false) h := by rw [isiF_run (t := "str") rfl (by simp)]; rfl
theorem isi_str_list : isiF [.str s, .ty "list"] h = .ok (.bl false) h := by rw [isiF_run (t := "str") rfl (by simp)]; rfl
theorem isi_tup_int : isiF [.tup ds, .ty "int"] h = .ok (.bl false) h := by rw [isiF_run (t := "tuple") rfl (by simp)]; rfl
theorem isi_tup_bool : isiF [.tup ds, .ty "bool"] h = .ok (.bl false) h := by rw [isiF_run (t := "tuple") rfl (by simp)]; rfl
theorem isi_tup_str : isiF [.tup ds, .ty "str"] h = .ok (.bl false) h := by rw [isiF_run (t := "tuple") rfl (by simp)]; rfl
theorem isi_tup_tuple : isiF [.tup ds, .ty "tuple"] h = .ok (.bl true) h := by rw [isiF_run (t := "tuple") rfl (by simp)]; rfl
theorem isi_tup_list : isiF [.tup ds, .ty "list"] h = .ok (.bl false) h := by rw [isiF_run (t := "tuple") rfl (by simp)]; rfl
theorem isi_frz_int : isiF [.frz ds, .ty "int"] h = .ok (.bl false) h := by rw [isiF_run (t := "list") rfl (by simp)]; rfl
theorem isi_frz_bool : isiF [.frz ds, .ty "bool"] h = .ok (.bl false) h := by rw [isiF_run (t := "list") rfl (by simp)]; rfl
theorem isi_frz_str : isiF [.frz ds, .ty "str"] h = .ok (.bl false) h := by rw [isiF_run (t := "list") rfl (by simp)]; rfl
theorem isi_frz_tuple : isiF [.frz ds, .ty "tuple"] h = .ok (.bl false) h := by rw [isiF_run (t := "list") rfl (by simp)]; rfl
theorem isi_frz_list : isiF [.frz ds, .ty "list"] h = .ok (.bl true) h := by rw [isiF_run (t := "list") rfl (by simp)]; rfl
theorem isi_ref (e : h[n]? = some (.lst ds)) : isiF [.ref n, .ty "list"] h = .ok (.bl true) h := by rw [isiF_run (t := "list") (by simp [tyN, e]) (by simp)]; rfl
theorem isi_refN (e : h[n]? = some (.lst ds)) : isiF [.ref n, .ty "tuple"] h = .ok (.bl false) h := by rw [isiF_run (t := "list") (by simp [tyN, e]) (by simp)]; rfl
theorem len_tup : lenF2 [.tup ds] h = .ok (.int ds.length) h := (rfl)
theorem len_frz : lenF2 [.frz ds] h = .ok (.int ds.length) h := (rfl)
theorem len_str (e : t.length ≤ big) : lenF2 [.str t] h = .ok (.int t.length) h := by
  show (if t.length ≤ big then _ else _) = _
  rw [if_pos e]
theorem len_ref (e : h[n]? = some (.lst ds)) : lenF2 [.ref n] h = .ok (.int ds.length) h := by
  simp [lenF2, lenF, e]
theorem atI_nat {α : Type} (xs : List α) (i : Nat) : atI xs (i : Int) = xs[i]? := by
  unfold atI ixN
  rw [if_pos (Int.natCast_nonneg i)]
  by_cases z : i < xs.length
  · rw [if_pos (by omega)]; simp
  · rw [if_neg (by omega)]
    simp only [Option.bind_none]
    exact (List.getElem?_eq_none_iff.mpr (by omega)).symm
theorem ix_at {i : Nat} (e : ds[i]? = some d) : ixD (.tup ds) (.int (i : Nat)) h = .ok d h := by
  simp only [ixD, atI_nat, e]
theorem ix_ref {i : Nat} (e1 : h[n]? = some (.lst ds)) (e : ds[i]? = some d) : ixD (.ref n) (.int (i : Nat)) h = .ok d h := by
  simp only [ixD, atI_nat, e1, e]
theorem ix_chr {i c : Nat} (e1 : t.length ≤ big) (e : t[i]? = some c) : ixD (.str t) (.int (i : Nat)) h = .ok (.str [c]) h := by
  simp only [ixD, atI_nat, e]
  rw [if_pos e1]
theorem ix0 : ixD (.tup (a0 :: l)) (.int 0) h = .ok a0 h := ix_at (i := 0) rfl
theorem ix1 : ixD (.tup (a0 :: a1 :: l)) (.int 1) h = .ok a1 h := ix_at (i := 1) rfl
theorem ix2 : ixD (.tup (a0 :: a1 :: a2 :: l)) (.int 2) h = .ok a2 h := ix_at (i := 2) rfl
theorem ix3 : ixD (.tup (a0 :: a1 :: a2 :: a3 :: l)) (.int 3) h = .ok a3 h := ix_at (i := 3) rfl
theorem ix4 : ixD (.tup (a0 :: a1 :: a2 :: a3 :: a4 :: l)) (.int 4) h = .ok a4 h := ix_at (i := 4) rfl
theorem ix5 : ixD (.tup (a0 :: a1 :: a2 :: a3 :: a4 :: a5 :: l)) (.int 5) h = .ok a5 h := ix_at (i := 5) rfl
theorem neg_int : negD (.int i) h = .ok (.int (-i)) h := (rfl)
theorem add_int : addD (.int i) (.int j) h = .ok (.int (i + j)) h := (rfl)
theorem sub_int : subD (.int i) (.int j) h = .ok (.int (i - j)) h := (rfl)
theorem add_tup : addD (.tup ds) (.tup es) h = if ds.length + es.length ≤ big then .ok (.tup (ds ++ es)) h else .bad := (rfl)
theorem add_str : addD (.str s) (.str t) h = if s.length + t.length ≤ big then .ok (.str (s ++ t)) h else .bad := (rfl)
theorem add_lst {m : Nat} (e1 : h[n]? = some (.lst ds)) (e2 : h[m]? = some (.lst es)) (hl : ds.length + es.length ≤ big) : addD (.ref n) (.ref m) h = .ok (.ref h.length) (h ++ [.lst (ds ++ es)]) := by
  simp only [addD, e1, e2]
  rw [if_pos hl]
  rfl
theorem is_non : isB neg d .non h = .ok (.bl (if neg then !isNon d else isNon d)) h := by cases d <;> rfl
theorem in_cdt {kvs : List (Txt × D)} : inB neg (.str s) (.cdt kvs) h = .ok (.bl (negIf neg (lookT s kvs).isSome)) h := by
  match s with
  | [] => rfl
  | [_] => rfl
  | _ :: _ :: _ => rfl
theorem ix_cdt {kvs : List (Txt × D)} (e : lookT s kvs = some d) : ixD (.cdt kvs) (.str s) h = .ok d h := by
  simp only [ixD, e]
theorem ix_dct {kvs : List (D × D)} (e : h[n]? = some (.dct kvs)) (e2 : lookK (.str s) kvs = some d) : ixD (.ref n) (.str s) h = .ok d h := by
  simp only [ixD, e, e2]
theorem in_chr {c : Nat} : inB neg (.str [c]) (.str t) h = .ok (.bl (negIf neg (decide (c ∈ t)))) h := (rfl)
theorem ord_int {o : OrdK} : ordD o (.int i) (.int j) h = .ok (.bl (o.z i j)) h := by cases o <;> rfl
theorem mod_int (e : 0 < j) : modD (.int i) (.int j) h = .ok (.int (i % j)) h := by
  simp only [modD]
  rw [if_pos e]
theorem fdiv_int (e : 0 < j ∧ j < 1073741824) : fdivD (.int i) (.int j) h = .ok (.int (i / j)) h := by
  simp only [fdivD]
  rw [if_pos e]
theorem mul_int (e : mulOk i j = true) : mulD (.int i) (.int j) h = .ok (.int (i * j)) h := by
  simp only [mulD]
  rw [if_pos e]
theorem int_int : intF [.int i] h = .ok (.int i) h := (rfl)
theorem sl_tup {lo hi : Option Int} : slD (.tup ds) lo hi h = .ok (.tup (cut ds lo hi)) h := (rfl)
theorem sl_str {lo hi : Option Int} (e : t.length ≤ big) : slD (.str t) lo hi h = .ok (.str (cut t lo hi)) h := by
  simp only [slD]
  rw [if_pos e]
theorem itV_tup : itV (.tup ds) h = .ok (.items ds) h := (rfl)
theorem itV_frz : itV (.frz ds) h = .ok (.items ds) h := (rfl)
theorem itV_str (e : t.length ≤ big) : itV (.str t) h = .ok (.items (chars t)) h := by
  simp only [itV]
  rw [if_pos e]
theorem itV_ref (e : h[n]? = some (.lst ds)) : itV (.ref n) h = .ok (.lst n) h := by
  simp only [itV, e]
theorem list_tup : listF2 [.tup ds] h = .ok (.ref h.length) (h ++ [.lst ds]) := (rfl)
theorem list_str (e : t.length ≤ big) : listF2 [.str t] h = .ok (.ref h.length) (h ++ [.lst (chars t)]) := by
  simp only [listF2]
  rw [if_pos e]
  rfl
theorem cut_nn {α : Type} (xs : List α) (i j : Nat) : cut xs (some (i : Int)) (some (j : Int)) = (xs.drop i).take (j - i) := by
  unfold cut
  rw [HT.sIx_nat, HT.sIx_nat]
  by_cases z : i ≤ xs.length
  · rw [Nat.min_eq_left z]
    by_cases y : j ≤ xs.length
    · rw [Nat.min_eq_left y]
    · rw [Nat.min_eq_right (by omega), List.take_of_length_le (by simp), List.take_of_length_le (by simp; omega)]
  · rw [Nat.min_eq_right (a := i) (by omega), List.drop_of_length_le (Nat.le_refl _), List.drop_of_length_le (by omega)]
    simp
theorem cut_n {α : Type} (xs : List α) (i : Nat) : cut xs (some (i : Int)) none = xs.drop i := by
  unfold cut
  rw [HT.sIx_nat, HT.sIx_none]
  by_cases z : i ≤ xs.length
  · rw [Nat.min_eq_left z, List.take_of_length_le (by simp)]
  · rw [Nat.min_eq_right (by omega), List.drop_of_length_le (Nat.le_refl _), List.drop_of_length_le (by omega)]
    simp
theorem cut_0n {α : Type} (xs : List α) (j : Nat) : cut xs none (some (j : Int)) = xs.take j := by
  unfold cut
  rw [HT.sIx_nat, HT.sIx_none]
  by_cases y : j ≤ xs.length
  · rw [Nat.min_eq_left y]; simp
  · rw [Nat.min_eq_right (a := j) (by omega), List.drop_zero, List.take_of_length_le (by simp), List.take_of_length_le (by omega)]
theorem cast_succ0 {n : Nat} : ((((n + 1 : Nat) : Int) = 0) = False) := by
  apply propext
  constructor
  · intro z
    omega
  · exact fun z => z.elim
theorem all_ref {p : D → Bool} (e : h[n]? = some (.lst (ds.map fun d => .bl (p d)))) : allF [.ref n] h = .ok (.bl (ds.all p)) h := by
  simp only [allF, e, bls_all]
  simp [List.all_map, Function.comp_def]
theorem any_ref {p : D → Bool} (e : h[n]? = some (.lst (ds.map fun d => .bl (p d)))) : anyF [.ref n] h = .ok (.bl (ds.any p)) h := by
  simp only [anyF, e, bls_all]
  simp [List.any_map, Function.comp_def]
theorem tyD_str : tyD "str" (.str t) h = true := (rfl)
theorem tyD_lst (e : h[n]? = some (.lst ds)) : tyD "list" (.ref n) h = true := by
  simp [tyD, e]
theorem cut12 {α : Type} {x : α} {l : List α} : cut (x :: l) (some 1) (some 2) = l.take 1 := cut_nn (x :: l) 1 2
theorem cut13 {α : Type} {x : α} {l : List α} : cut (x :: l) (some 1) (some 3) = l.take 2 := cut_nn (x :: l) 1 3
theorem cut1 {α : Type} {x : α} {l : List α} : cut (x :: l) (some 1) none = l := cut_n (x :: l) 1
theorem cut2n {α : Type} {x y : α} {l : List α} : cut (x :: y :: l) (some 2) none = l := cut_n (x :: y :: l) 2
theorem cut5n {α : Type} {a b c d e : α} {l : List α} : cut (a :: b :: c :: d :: e :: l) (some 5) none = l := cut_n (a :: b :: c :: d :: e :: l) 5
theorem cut35 {α : Type} {a b c : α} {l : List α} : cut (a :: b :: c :: l) (some 3) (some 5) = l.take 2 := cut_nn (a :: b :: c :: l) 3 5
theorem cut_m1 {α : Type} {xs : List α} : cut xs (some (-1)) none = xs.drop (xs.length - 1) := by
  unfold cut
  have e : HT.sIx xs.length 0 (some (-1)) = xs.length - 1 := by
    show (if (-1 : Int) < 0 then ((-1 : Int) + (xs.length : Int)).toNat else min (-1 : Int).toNat xs.length) = _
    rw [if_pos (by decide)]
    omega
  rw [e, HT.sIx_none, List.take_of_length_le (by simp)]
theorem cut_0m1 {α : Type} {xs : List α} : cut xs none (some (-1)) = xs.take (xs.length - 1) := by
  unfold cut
  have e : HT.sIx xs.length xs.length (some (-1)) = xs.length - 1 := by
    show (if (-1 : Int) < 0 then ((-1 : Int) + (xs.length : Int)).toNat else min (-1 : Int).toNat xs.length) = _
    rw [if_pos (by decide)]
    omega
  rw [e, HT.sIx_none]
  simp
theorem cut1n {α : Type} {xs : List α} : cut xs (some 1) none = xs.drop 1 := cut_n xs 1
theorem rev_tup : revD (.tup ds) h = .ok (.tup ds.reverse) h := (rfl)
theorem join_ref {ts : List Txt} (e : h[n]? = some (.lst ds)) (e2 : txtsD ds = some ts) (hl : (ts.map List.length).sum + ts.length * t.length ≤ 16777216) : joinM (.str t) [.ref n] h = .ok (.str (joinT t ts)) h := by
  simp only [joinM, e, joinF, e2]
  rw [if_pos hl]
theorem enK_tup : enK (.tup ds) h = .ok (.items (enumD ds)) h := (rfl)
theorem aTup_run {k : Nat} {gs : AGs} {env : Env} (e : ds.length = k) : aTup k gs (.tup ds) env = gs ds env := by
  show (if ds.length = k then _ else _) = _
  rw [if_pos e]
theorem aCons_run {g : AG} {gs : AGs} {env env1 : Env} (e : g d env = some env1) : aCons g gs (d :: ds) env = gs ds env1 := by
  show (g d env).bind _ = _
  rw [e]
  rfl
theorem aPair {i j : Nat} {env : Env} : aTup 2 (aCons (aName i) (aCons (aName j) aNil)) (.tup [a0, a1]) env = some ((env.set i (some a0)).set j (some a1)) := (rfl)
theorem enum_get {i : Nat} (e : (enumD ds)[i]? = some d) : ∃ x, ds[i]? = some x ∧ d = .tup [.int (i : Nat), x] := by
  unfold enumD at e
  rw [List.getElem?_map, Option.map_eq_some_iff] at e
  obtain ⟨j, e1, rfl⟩ := e
  have hj := List.getElem?_eq_some_iff.mp e1
  obtain ⟨lt, e2⟩ := hj
  simp only [List.length_range] at lt
  simp only [List.getElem_range] at e2
  subst e2
  refine ⟨ds[i], List.getElem?_eq_getElem lt, ?_⟩
  rw [List.getD_eq_getElem?_getD, List.getElem?_eq_getElem lt]
  rfl
theorem enum_len : (enumD ds).length = ds.length := by simp [enumD]
theorem eqvAll_nil (ps : List PyData) : PyData.eqvAll ps [] = ps.isEmpty := by
  cases ps <;> rfl
theorem shaped_nilT : SeqAt.shaped (.tuple []) = true := by decide +kernel
theorem shaped_nilL : SeqAt.shaped (.list []) = true := by decide +kernel
theorem eq_tup_nil {k w : Nat} {p : PyData} (a : Th h k w (.tup ds) p) (hk : k < 60) : eqB neg (.tup ds) (.tup []) h = .ok (.bl (if neg then !ds.isEmpty else ds.isEmpty)) h := by
  have z := a.py hk
  obtain ⟨ps, j, rfl, rfl, l⟩ := a.tup_inv
  have e : toPy h 60 (.tup []) = some (.tuple []) := rfl
  have q : ps.isEmpty = ds.isEmpty := by
    have := l.is.length
    cases ps <;> cases ds <;> simp_all
  show eqB0 neg _ _ h = _
  simp only [eqB0, z, e]
  rw [if_pos ⟨a.shaped (by omega), shaped_nilT⟩]
  have e2 : PyData.eqv (.tuple ps) (.tuple []) = ds.isEmpty := by
    rw [← q, ← eqvAll_nil ps]
    simp only [PyData.eqv]
  rw [e2]
theorem eq_ref_nil {m k w : Nat} {ps : List PyData} (e1 : h[n]? = some (.lst ds)) (e2 : h[m]? = some (.lst [])) (l : ThL h k w ds ps) (hk : k < 59) : eqB neg (.ref n) (.ref m) h = .ok (.bl (if neg then !ds.isEmpty else ds.isEmpty)) h := by
  have a := Th.ref e1 l
  have z := a.py (by omega)
  have e : toPy h 60 (.ref m) = some (.list []) := by simp only [toPy, e2]; rfl
  have q : ps.isEmpty = ds.isEmpty := by
    have := l.is.length
    cases ps <;> cases ds <;> simp_all
  show eqB0 neg _ _ h = _
  simp only [eqB0, z, e]
  rw [if_pos ⟨a.shaped (by omega), shaped_nilL⟩]
  have e2 : PyData.eqv (.list ps) (.list []) = ds.isEmpty := by
    rw [← q, ← eqvAll_nil ps]
    simp only [PyData.eqv]
  rw [e2]
theorem in_dct {kvs : List (D × D)} (e : h[n]? = some (.dct kvs)) : inB neg (.str s) (.ref n) h = .ok (.bl (negIf neg (lookK (.str s) kvs).isSome)) h := by
  have r : inRef neg (.str s) n h = .ok (.bl (negIf neg (lookK (.str s) kvs).isSome)) h := by
    simp only [inRef, e]
  match s, r with
  | [], r => exact r
  | [_], r => exact r
  | _ :: _ :: _, r => exact r
theorem app_get1 {a b : DO} : (h ++ [a, b])[h.length]? = some a := by simp
theorem app_get2 {a b : DO} : (h ++ [a] ++ [b])[h.length]? = some a := by simp
theorem pre_app {x : DH} : h <+: h ++ x := ⟨x, rfl⟩
theorem lit_big {m : Nat} (e : m ≤ 16777216) : (m ≤ big) = True := eq_true e
theorem set_ref (e : h[n]? = some (.lst ds)) (a : ds.all isKey = true) (l : ds.length < 4095) : setF [.ref n] h = .ok (.ref h.length) (h ++ [.set (dedupD ds)]) := by
  simp only [setF, e]
  rw [if_pos ⟨a, l⟩]
  rfl
theorem len_set {ks : List D} (e : h[n]? = some (.set ks)) (l : ks.length < big) : lenF2 [.ref n] h = .ok (.int ks.length) h := by
  simp only [lenF2, e]
  rw [if_pos l]
theorem app_getS {o : DO} : (h ++ [o])[h.length]? = some o := by simp
theorem pow_int (e : 0 ≤ j ∧ j ≤ 1000000 ∧ i.natAbs < 2 ^ 64) : powD (.int i) (.int j) h = .ok (.int (i ^ j.toNat)) h := by
  simp only [powD]
  rw [if_pos e]
theorem mul_l (e : i.natAbs < 2 ^ 64) : mulD (.int i) (.int j) h = .ok (.int (i * j)) h := mul_int (by simp [mulOk, e])
theorem ints_seq (ns : List Int) (m : Nat) : seqO ((ns.map D.int).map (toPy h (m + 1))) = some (ns.map .int) := by
  induction ns with
  | nil => rfl
  | cons a l ih => simp only [List.map_cons, toPy, seqO, ih]; rfl
theorem ints_lay (ns : List Int) : PyData.canLayAll0 (ns.map .int) = true := by
  rw [canLayAll_all]
  simp [PyData.canLay0]
theorem ints_depth (ns : List Int) : (PyData.list (ns.map .int)).depth ≤ 1 := by
  rw [depth_list]
  have : PyData.depthAll (ns.map .int) ≤ 0 := depthAll_le.mpr (by simp [PyData.depth])
  omega
theorem eq_ints_nil {m : Nat} {ns : List Int} (e1 : h[n]? = some (.lst (ns.map .int))) (e2 : h[m]? = some (.lst [])) : eqB neg (.ref n) (.ref m) h = .ok (.bl (if neg then !ns.isEmpty else ns.isEmpty)) h := by
  have z : toPy h 60 (.ref n) = some (.list (ns.map .int)) := by
    simp only [toPy, e1]
    rw [ints_seq]
    rfl
  have e : toPy h 60 (.ref m) = some (.list []) := by simp only [toPy, e2]; rfl
  show eqB0 neg _ _ h = _
  simp only [eqB0, z, e]
  have sh : SeqAt.shaped (.list (ns.map .int)) = true := by
    have := ints_depth ns
    simp only [SeqAt.shaped, PyData.canLay0, ints_lay, Bool.true_and]
    exact decide_eq_true (by omega)
  rw [if_pos ⟨sh, shaped_nilL⟩]
  have e2 : PyData.eqv (.list (ns.map .int)) (.list []) = ns.isEmpty := by
    have : (ns.map PyData.int).isEmpty = ns.isEmpty := by cases ns <;> rfl
    rw [← this, ← eqvAll_nil (ns.map PyData.int)]
    simp only [PyData.eqv]
  rw [e2]
theorem set_dct {kvs : List (D × D)} (e : h[n]? = some (.dct kvs)) (l : kvs.length < big) : setD (.ref n) (.str s) d h = .ok () (h.set n (.dct (putD (.str s) d kvs))) := by
  simp only [setD, e]
  rw [if_pos l]
theorem get_set {o : DO} (e : (h[n]?).isSome = true) : (h.set n o)[n]? = some o := by
  obtain ⟨x, hx⟩ := Option.isSome_iff_exists.mp e
  have lt := (List.getElem?_eq_some_iff.mp hx).1
  simp [lt]
theorem app_l {o : DO} {x : DH} (e : h[n]? = some o) : (h ++ x)[n]? = some o := pre_get pre_app e
theorem wS_cut {r : SR} {Q : PQ} {t : Tg Q} (I : Env → DH → Prop) (a : wS r ⟨I, Q.rt, Q.bk, Q.ct, Q.xc⟩ ⟨⟩) (b : ∀ e h, I e h → Q.nx e h) : wS r Q t := wS_mono a b (fun _ _ z => z) (fun _ _ z => z) (fun _ _ z => z) (fun _ _ _ _ z => z)
theorem append_ref (e : h[n]? = some (.lst ds)) (l : ds.length < big) : appendM (.ref n) [d] h = .ok .non (h.set n (.lst (ds ++ [d]))) := by
  simp only [appendM, e]
  rw [if_pos l]
theorem sl_ref {lo hi : Option Int} (e : h[n]? = some (.lst ds)) : slD (.ref n) lo hi h = .ok (.ref h.length) (h ++ [.lst (cut ds lo hi)]) := by
  simp only [slD, e]
  rfl
theorem tuple_ref (e : h[n]? = some (.lst ds)) : tupleF2 [.ref n] h = .ok (.tup ds) h := by
  simp only [tupleF2, tupleF, e]
theorem tuple_str (e : t.length ≤ big) : tupleF2 [.str t] h = .ok (.tup (chars t)) h := by
  simp only [tupleF2]
  rw [if_pos e]
theorem ix_txt {c : Nat} (l : t.length ≤ big) (e : atI t i = some c) : ixD (.str t) (.int i) h = .ok (.str [c]) h := by
  simp only [ixD, e]
  rw [if_pos l]
theorem atI_mem {α : Type} {xs : List α} {i : Int} {c : α} (e : atI xs i = some c) : c ∈ xs := by
  unfold atI at e
  obtain ⟨j, _, e⟩ := Option.bind_eq_some_iff.mp e
  exact List.mem_of_getElem? e
theorem rng_len {m : Nat} : (rngI i m).length = m := by simp [rngI]
theorem get_ne {o : DO} {m : Nat} (e : n ≠ m) : (h.set n o)[m]? = h[m]? := List.getElem?_set_ne e
theorem wE_add {Q : D → DH → Prop} {X : XQ} {tg : Tg2 Q X} {m : Nat} (e1 : h[n]? = some (.lst ds)) (e2 : h[m]? = some (.lst es)) (hl : ds.length + es.length ≤ big) (q : Q (.ref h.length) (h ++ [.lst (ds ++ es)])) : wE (addD (.ref n) (.ref m) h) Q X tg := by
  rw [add_lst e1 e2 hl]
  exact q
theorem upper_run (e : t.length ≤ 5592405) : upperM (.str t) [] h = .ok (.str (upperT t)) h := by
  simp only [upperM]
  rw [if_pos e]
theorem mul_tup (e : ds ≠ [] ∧ 2 ≤ i ∧ i ≤ 1000 ∧ ds.length ≤ 1000) : mulD (.tup ds) (.int i) h = .ok (.tup (List.replicate i.toNat ds).flatten) h := by
  simp only [mulD]
  rw [if_pos e]
theorem add_str_ok (e : s.length + t.length ≤ big) : addD (.str s) (.str t) h = .ok (.str (s ++ t)) h := by
  rw [add_str, if_pos e]
theorem app_get : (h ++ [DO.lst ds])[h.length]? = some (DO.lst ds) := by simp
end
end DV
namespace DV
open PySem L2
def elB : D → Bool
  | .non => true
  | .bl _ => true
  | .int i => decide (i.natAbs < 10 ^ 60)
  | .str t => (t.all fun c => decide (c < 1114112)) && decide (t.length ≤ 100)
  | _ => false
theorem el_int {h : DH} {k w : Nat} {i : Int} (e : i.natAbs < 10 ^ 60) (hw : 200 ≤ w) : Th h k w (.int i) (.int i) := ⟨by unfold Is; rfl, by
  have l : (PyData.shown (.int i)).length ≤ 70 := by
    have e2 := int_text_length_le10 (k := 60) (by decide) e
    show (Str.ofString (toString i)).length ≤ 70
    rw [ofString_length]
    omega
  have lg : i.natAbs.log2 < 1920 := by
    by_cases z : i.natAbs = 0
    · rw [z]; decide
    · rw [Nat.log2_lt z]
      exact Nat.lt_trans e (by decide +kernel)
  simp only [nice, PyData.canLay0, PyData.intsShort, PyData.showable, short, Bool.true_and, Bool.and_true, Bool.and_eq_true]
  exact ⟨decide_eq_true l, decide_eq_true lg⟩, by simp [PyData.depth], by
  have lg : i.natAbs.log2 < 200 := by
    by_cases z : i.natAbs = 0
    · rw [z]; decide
    · rw [Nat.log2_lt z]
      exact Nat.lt_trans e (by decide +kernel)
  simp only [PyData.weight]
  split <;> omega⟩
theorem el_th {h : DH} {d : D} (e : elB d = true) : ∃ p, Th h 0 200 d p := by
  match d, e with
  | .non, _ => exact ⟨_, Th.non⟩
  | .bl b, _ => exact ⟨_, Th.bl⟩
  | .int i, e => exact ⟨_, el_int (of_decide_eq_true e) (Nat.le_refl _)⟩
  | .str t, e =>
    simp only [elB, Bool.and_eq_true, List.all_eq_true, decide_eq_true_eq] at e
    exact ⟨_, Th.str e.1 (by omega) (by omega)⟩
theorem els_th {h : DH} : ∀ {ds : List D}, (∀ d ∈ ds, elB d = true) → ∃ ps, ThL h 0 (201 * ds.length) ds ps
  | [], _ => ⟨[], ThL.nil⟩
  | d :: ds, e => by
    obtain ⟨p, a⟩ := el_th (h := h) (e d List.mem_cons_self)
    obtain ⟨ps, b⟩ := els_th (h := h) (ds := ds) fun x m => e x (List.mem_cons_of_mem _ m)
    exact ⟨p :: ps, (ThL.cons a b).up (Nat.le_refl _) (by simp; omega)⟩
theorem row_th {h : DH} {ds : List D} (e : ∀ d ∈ ds, elB d = true) : ∃ p, Th h 1 (201 * ds.length) (.tup ds) p := by
  obtain ⟨ps, b⟩ := els_th (h := h) e
  exact ⟨_, Th.tup b⟩
/-- a row of values each of which can be shown -/
theorem thL_of {h : DH} {k w : Nat} : ∀ {ds : List D}, (∀ d ∈ ds, ∃ p, Th h k w d p) → ∃ ps, ThL h k ((w + 1) * ds.length) ds ps
  | [], _ => ⟨[], ThL.nil⟩
  | d :: ds, e => by
    obtain ⟨p, a⟩ := e d List.mem_cons_self
    obtain ⟨ps, b⟩ := thL_of (h := h) (k := k) (w := w) (ds := ds) fun x m => e x (List.mem_cons_of_mem _ m)
    exact ⟨p :: ps, (ThL.cons a b).up (Nat.le_refl _) (by rw [List.length_cons, Nat.mul_add]; omega)⟩
theorem Th.bound {h : DH} {k w : Nat} {d : D} {p : PyData} (a : Th h k w d p) : True := trivial
end DV
namespace K65
open PySem PySem.Spec PyProof.Rows L2 DV
abbrev P : Program := PySem.Challenge.pw_endclimbs_k65_programs_by_form
def top (i : Nat) : Stmt := P.main.body.getD i (.Pass ⟨0, 0, 0, 0⟩)
abbrev CF := Nat → List D → DH → R D
abbrev e_InvalidPaper : Nat := 0
def fs_InvalidPaper : List Str := [("word" : Str), ("at" : Str)]
def nErr : Nat := 1
def tabs : Tabs := { ename := fun c => match c with | 0 => tx "InvalidPaper" | _ => [], eflds := fun c => match c with | 0 => [tx "word", tx "at"] | _ => [] }
theorem nd_thing : (("thing" : Str) == ("__debug__" : Str)) = false := by decide +kernel
theorem nd_int : (("int" : Str) == ("__debug__" : Str)) = false := by decide +kernel
theorem nd_isinstance : (("isinstance" : Str) == ("__debug__" : Str)) = false := by decide +kernel
theorem nd_bool : (("bool" : Str) == ("__debug__" : Str)) = false := by decide +kernel
theorem nd_is_integer : (("is_integer" : Str) == ("__debug__" : Str)) = false := by decide +kernel
theorem nd_str : (("str" : Str) == ("__debug__" : Str)) = false := by decide +kernel
theorem nd_len : (("len" : Str) == ("__debug__" : Str)) = false := by decide +kernel
theorem nd_LETTERS : (("LETTERS" : Str) == ("__debug__" : Str)) = false := by decide +kernel
theorem nd_sign : (("sign" : Str) == ("__debug__" : Str)) = false := by decide +kernel
theorem nd_all : (("all" : Str) == ("__debug__" : Str)) = false := by decide +kernel
theorem nd_is_letters : (("is_letters" : Str) == ("__debug__" : Str)) = false := by decide +kernel
theorem nd_list : (("list" : Str) == ("__debug__" : Str)) = false := by decide +kernel
theorem nd_set : (("set" : Str) == ("__debug__" : Str)) = false := by decide +kernel
theorem nd_tuple : (("tuple" : Str) == ("__debug__" : Str)) = false := by decide +kernel
theorem nd_low : (("low" : Str) == ("__debug__" : Str)) = false := by decide +kernel
theorem nd_high : (("high" : Str) == ("__debug__" : Str)) = false := by decide +kernel
theorem nd_is_end : (("is_end" : Str) == ("__debug__" : Str)) = false := by decide +kernel
theorem nd_sort : (("sort" : Str) == ("__debug__" : Str)) = false := by decide +kernel
theorem nd_values : (("values" : Str) == ("__debug__" : Str)) = false := by decide +kernel
theorem nd_is_range : (("is_range" : Str) == ("__debug__" : Str)) = false := by decide +kernel
theorem nd_is_letter : (("is_letter" : Str) == ("__debug__" : Str)) = false := by decide +kernel
theorem nd_STEP_PARTS : (("STEP_PARTS" : Str) == ("__debug__" : Str)) = false := by decide +kernel
theorem nd_k : (("k" : Str) == ("__debug__" : Str)) = false := by decide +kernel
theorem nd_wide : (("wide" : Str) == ("__debug__" : Str)) = false := by decide +kernel
theorem nd_is_part : (("is_part" : Str) == ("__debug__" : Str)) = false := by decide +kernel
theorem nd_step : (("step" : Str) == ("__debug__" : Str)) = false := by decide +kernel
theorem nd_letters : (("letters" : Str) == ("__debug__" : Str)) = false := by decide +kernel
theorem nd_names : (("names" : Str) == ("__debug__" : Str)) = false := by decide +kernel
theorem nd_InvalidPaper : (("InvalidPaper" : Str) == ("__debug__" : Str)) = false := by decide +kernel
theorem nd_steps : (("steps" : Str) == ("__debug__" : Str)) = false := by decide +kernel
theorem nd_is_names : (("is_names" : Str) == ("__debug__" : Str)) = false := by decide +kernel
theorem nd_is_step : (("is_step" : Str) == ("__debug__" : Str)) = false := by decide +kernel
theorem nd_step_names : (("step_names" : Str) == ("__debug__" : Str)) = false := by decide +kernel
theorem nd_are_names_of : (("are_names_of" : Str) == ("__debug__" : Str)) = false := by decide +kernel
theorem nd__law_script : (("_law_script" : Str) == ("__debug__" : Str)) = false := by decide +kernel
theorem nd__law_cell : (("_law_cell" : Str) == ("__debug__" : Str)) = false := by decide +kernel
theorem nd__law_source_here : (("_law_source_here" : Str) == ("__debug__" : Str)) = false := by decide +kernel
theorem nd__law_many : (("_law_many" : Str) == ("__debug__" : Str)) = false := by decide +kernel
theorem nd__law_digit : (("_law_digit" : Str) == ("__debug__" : Str)) = false := by decide +kernel
theorem nd__law_spot : (("_law_spot" : Str) == ("__debug__" : Str)) = false := by decide +kernel
theorem nd__law_cells : (("_law_cells" : Str) == ("__debug__" : Str)) = false := by decide +kernel
theorem nd__law_value : (("_law_value" : Str) == ("__debug__" : Str)) = false := by decide +kernel
theorem nd__law_some : (("_law_some" : Str) == ("__debug__" : Str)) = false := by decide +kernel
theorem nd__law_pick : (("_law_pick" : Str) == ("__debug__" : Str)) = false := by decide +kernel
theorem nd__law_low_in : (("_law_low_in" : Str) == ("__debug__" : Str)) = false := by decide +kernel
theorem nd__law_any : (("_law_any" : Str) == ("__debug__" : Str)) = false := by decide +kernel
theorem nd__law_letters : (("_law_letters" : Str) == ("__debug__" : Str)) = false := by decide +kernel
theorem nd__law_way : (("_law_way" : Str) == ("__debug__" : Str)) = false := by decide +kernel
theorem nd__law_a : (("_law_a" : Str) == ("__debug__" : Str)) = false := by decide +kernel
theorem nd__law_range : (("_law_range" : Str) == ("__debug__" : Str)) = false := by decide +kernel
theorem nd__law_b : (("_law_b" : Str) == ("__debug__" : Str)) = false := by decide +kernel
theorem nd__law_wide : (("_law_wide" : Str) == ("__debug__" : Str)) = false := by decide +kernel
theorem nd__law_n : (("_law_n" : Str) == ("__debug__" : Str)) = false := by decide +kernel
theorem nd__law_steps_in : (("_law_steps_in" : Str) == ("__debug__" : Str)) = false := by decide +kernel
theorem nd__law_k : (("_law_k" : Str) == ("__debug__" : Str)) = false := by decide +kernel
theorem nd__law_c : (("_law_c" : Str) == ("__debug__" : Str)) = false := by decide +kernel
theorem nd__law_step : (("_law_step" : Str) == ("__debug__" : Str)) = false := by decide +kernel
theorem nd__law_turn : (("_law_turn" : Str) == ("__debug__" : Str)) = false := by decide +kernel
theorem nd__law_thing_in : (("_law_thing_in" : Str) == ("__debug__" : Str)) = false := by decide +kernel
theorem nd__law_own : (("_law_own" : Str) == ("__debug__" : Str)) = false := by decide +kernel
theorem nd__law_is_int : (("_law_is_int" : Str) == ("__debug__" : Str)) = false := by decide +kernel
theorem nd__law_sizes : (("_law_sizes" : Str) == ("__debug__" : Str)) = false := by decide +kernel
theorem nd__law_is_letter : (("_law_is_letter" : Str) == ("__debug__" : Str)) = false := by decide +kernel
theorem nd__law_is_range : (("_law_is_range" : Str) == ("__debug__" : Str)) = false := by decide +kernel
theorem nd__law_step_in : (("_law_step_in" : Str) == ("__debug__" : Str)) = false := by decide +kernel
theorem nd__law_is_step : (("_law_is_step" : Str) == ("__debug__" : Str)) = false := by decide +kernel
theorem nd__law_i : (("_law_i" : Str) == ("__debug__" : Str)) = false := by decide +kernel
theorem nd__law_at : (("_law_at" : Str) == ("__debug__" : Str)) = false := by decide +kernel
theorem nd__law_bent : (("_law_bent" : Str) == ("__debug__" : Str)) = false := by decide +kernel
theorem nd_lets_names : (("lets_names" : Str) == ("__debug__" : Str)) = false := by decide +kernel
theorem nd_PaperError : (("PaperError" : Str) == ("__debug__" : Str)) = false := by decide +kernel
theorem nd__law_odd : (("_law_odd" : Str) == ("__debug__" : Str)) = false := by decide +kernel
theorem nd__law_one : (("_law_one" : Str) == ("__debug__" : Str)) = false := by decide +kernel
theorem nd__law_source : (("_law_source" : Str) == ("__debug__" : Str)) = false := by decide +kernel
theorem nd__law_by_hand : (("_law_by_hand" : Str) == ("__debug__" : Str)) = false := by decide +kernel
theorem nd__law_plan : (("_law_plan" : Str) == ("__debug__" : Str)) = false := by decide +kernel
theorem nd__law_plan_here : (("_law_plan_here" : Str) == ("__debug__" : Str)) = false := by decide +kernel
theorem nd__law_lot : (("_law_lot" : Str) == ("__debug__" : Str)) = false := by decide +kernel
theorem nd__law_once : (("_law_once" : Str) == ("__debug__" : Str)) = false := by decide +kernel
theorem nd__law_fault : (("_law_fault" : Str) == ("__debug__" : Str)) = false := by decide +kernel
theorem nd_repr : (("repr" : Str) == ("__debug__" : Str)) = false := by decide +kernel
theorem nd__law_fault_here : (("_law_fault_here" : Str) == ("__debug__" : Str)) = false := by decide +kernel
theorem nd__law_told : (("_law_told" : Str) == ("__debug__" : Str)) = false := by decide +kernel
theorem nd__law_due : (("_law_due" : Str) == ("__debug__" : Str)) = false := by decide +kernel
theorem nd__law_kept : (("_law_kept" : Str) == ("__debug__" : Str)) = false := by decide +kernel
theorem nd__law_two : (("_law_two" : Str) == ("__debug__" : Str)) = false := by decide +kernel
theorem nc_thing : (("thing" : Str) == ("__classdict__" : Str)) = false := by decide +kernel
theorem nc_sign : (("sign" : Str) == ("__classdict__" : Str)) = false := by decide +kernel
theorem nc_low : (("low" : Str) == ("__classdict__" : Str)) = false := by decide +kernel
theorem nc_high : (("high" : Str) == ("__classdict__" : Str)) = false := by decide +kernel
theorem nc_sort : (("sort" : Str) == ("__classdict__" : Str)) = false := by decide +kernel
theorem nc_values : (("values" : Str) == ("__classdict__" : Str)) = false := by decide +kernel
theorem nc_k : (("k" : Str) == ("__classdict__" : Str)) = false := by decide +kernel
theorem nc_wide : (("wide" : Str) == ("__classdict__" : Str)) = false := by decide +kernel
theorem nc_step : (("step" : Str) == ("__classdict__" : Str)) = false := by decide +kernel
theorem nc_letters : (("letters" : Str) == ("__classdict__" : Str)) = false := by decide +kernel
theorem nc_names : (("names" : Str) == ("__classdict__" : Str)) = false := by decide +kernel
theorem nc_steps : (("steps" : Str) == ("__classdict__" : Str)) = false := by decide +kernel
theorem nc__law_script : (("_law_script" : Str) == ("__classdict__" : Str)) = false := by decide +kernel
theorem nc__law_cell : (("_law_cell" : Str) == ("__classdict__" : Str)) = false := by decide +kernel
theorem nc__law_source_here : (("_law_source_here" : Str) == ("__classdict__" : Str)) = false := by decide +kernel
theorem nc__law_many : (("_law_many" : Str) == ("__classdict__" : Str)) = false := by decide +kernel
theorem nc__law_digit : (("_law_digit" : Str) == ("__classdict__" : Str)) = false := by decide +kernel
theorem nc__law_spot : (("_law_spot" : Str) == ("__classdict__" : Str)) = false := by decide +kernel
theorem nc__law_cells : (("_law_cells" : Str) == ("__classdict__" : Str)) = false := by decide +kernel
theorem nc__law_value : (("_law_value" : Str) == ("__classdict__" : Str)) = false := by decide +kernel
theorem nc__law_some : (("_law_some" : Str) == ("__classdict__" : Str)) = false := by decide +kernel
theorem nc__law_low_in : (("_law_low_in" : Str) == ("__classdict__" : Str)) = false := by decide +kernel
theorem nc__law_letters : (("_law_letters" : Str) == ("__classdict__" : Str)) = false := by decide +kernel
theorem nc__law_way : (("_law_way" : Str) == ("__classdict__" : Str)) = false := by decide +kernel
theorem nc__law_a : (("_law_a" : Str) == ("__classdict__" : Str)) = false := by decide +kernel
theorem nc__law_b : (("_law_b" : Str) == ("__classdict__" : Str)) = false := by decide +kernel
theorem nc__law_wide : (("_law_wide" : Str) == ("__classdict__" : Str)) = false := by decide +kernel
theorem nc__law_n : (("_law_n" : Str) == ("__classdict__" : Str)) = false := by decide +kernel
theorem nc__law_steps_in : (("_law_steps_in" : Str) == ("__classdict__" : Str)) = false := by decide +kernel
theorem nc__law_k : (("_law_k" : Str) == ("__classdict__" : Str)) = false := by decide +kernel
theorem nc__law_c : (("_law_c" : Str) == ("__classdict__" : Str)) = false := by decide +kernel
theorem nc__law_turn : (("_law_turn" : Str) == ("__classdict__" : Str)) = false := by decide +kernel
theorem nc__law_thing_in : (("_law_thing_in" : Str) == ("__classdict__" : Str)) = false := by decide +kernel
theorem nc__law_own : (("_law_own" : Str) == ("__classdict__" : Str)) = false := by decide +kernel
theorem nc__law_sizes : (("_law_sizes" : Str) == ("__classdict__" : Str)) = false := by decide +kernel
theorem nc__law_step_in : (("_law_step_in" : Str) == ("__classdict__" : Str)) = false := by decide +kernel
theorem nc__law_i : (("_law_i" : Str) == ("__classdict__" : Str)) = false := by decide +kernel
theorem nc__law_at : (("_law_at" : Str) == ("__classdict__" : Str)) = false := by decide +kernel
theorem nc__law_odd : (("_law_odd" : Str) == ("__classdict__" : Str)) = false := by decide +kernel
theorem nc__law_one : (("_law_one" : Str) == ("__classdict__" : Str)) = false := by decide +kernel
theorem nc__law_plan_here : (("_law_plan_here" : Str) == ("__classdict__" : Str)) = false := by decide +kernel
theorem nc__law_lot : (("_law_lot" : Str) == ("__classdict__" : Str)) = false := by decide +kernel
theorem nc__law_once : (("_law_once" : Str) == ("__classdict__" : Str)) = false := by decide +kernel
theorem nc__law_fault_here : (("_law_fault_here" : Str) == ("__classdict__" : Str)) = false := by decide +kernel
theorem nc__law_due : (("_law_due" : Str) == ("__classdict__" : Str)) = false := by decide +kernel
theorem nc__law_kept : (("_law_kept" : Str) == ("__classdict__" : Str)) = false := by decide +kernel
theorem nc__law_two : (("_law_two" : Str) == ("__classdict__" : Str)) = false := by decide +kernel
def c_LETTERS : D := (.str (tx "abcdefghijklmnopqrstuvwxyz"))
def c_STEP_PARTS : D := (.cdt [(tx "is", (.str (tx "nr"))), (tx "plus", (.str (tx "nnc"))), (tx "within", (.str (tx "nnr"))), (tx "when", (.str (tx "nnrr")))])
def tab : List (Str × List Str) := [(("is_integer" : Str), [("thing" : Str)]), (("is_end" : Str), [("thing" : Str)]), (("is_letter" : Str), [("thing" : Str)]), (("is_letters" : Str), [("thing" : Str)]), (("is_names" : Str), [("thing" : Str)]), (("is_range" : Str), [("thing" : Str)]), (("is_part" : Str), [("values" : Str), ("sort" : Str)]), (("is_step" : Str), [("thing" : Str)]), (("step_names" : Str), [("step" : Str)]), (("are_names_of" : Str), [("names" : Str), ("letters" : Str)]), (("lets_names" : Str), [("thing" : Str)]), (("_law_source" : Str), [("_law_script" : Str)]), (("_law_pick" : Str), [("_law_source_here" : Str), ("_law_many" : Str)]), (("_law_any" : Str), [("_law_source_here" : Str), ("_law_some" : Str)]), (("_law_range" : Str), [("_law_source_here" : Str)]), (("_law_step" : Str), [("_law_source_here" : Str), ("_law_letters" : Str)]), (("_law_plan" : Str), [("_law_source_here" : Str), ("_law_wide" : Str)]), (("_law_is_int" : Str), [("_law_thing_in" : Str)]), (("_law_is_letter" : Str), [("_law_thing_in" : Str)]), (("_law_is_range" : Str), [("_law_thing_in" : Str)]), (("_law_is_step" : Str), [("_law_thing_in" : Str)]), (("_law_fault" : Str), [("_law_thing_in" : Str)]), (("_law_bent" : Str), [("_law_source_here" : Str), ("_law_thing_in" : Str)]), (("_law_told" : Str), [("_law_thing_in" : Str)]), (("_law_by_hand" : Str), []), (("law" : Str), [("_law_script" : Str)])]
/-- what the written part and the callees give -/
structure Fx (w : World) (K : PySem.W.Frag) (mg : Str → Option Value) (base : Heap) (k : Nat) (c : CF) : Prop where
  f : ∀ (i : Nat) (x : Str) (ps : List Str), tab[i]? = some (x, ps) → Cal tabs P w K mg base k x ps (c i)
  b_int : mg ("int" : Str) = none
  b_isinstance : mg ("isinstance" : Str) = none
  b_bool : mg ("bool" : Str) = none
  b_str : mg ("str" : Str) = none
  b_len : mg ("len" : Str) = none
  b_all : mg ("all" : Str) = none
  b_list : mg ("list" : Str) = none
  b_set : mg ("set" : Str) = none
  b_tuple : mg ("tuple" : Str) = none
  b_enumerate : mg ("enumerate" : Str) = none
  b_range : mg ("range" : Str) = none
  b_repr : mg ("repr" : Str) = none
  b_super : mg ("super" : Str) = none
  k_LETTERS : ∃ u, mg ("LETTERS" : Str) = some u ∧ ∃ v, RelV v u ∧ ∀ H μ, Rep ⟨K, w, P⟩ H μ c_LETTERS v
  k_STEP_PARTS : ∃ u, mg ("STEP_PARTS" : Str) = some u ∧ ∃ v, RelV v u ∧ ∀ H μ, Rep ⟨K, w, P⟩ H μ c_STEP_PARTS v
  er_InvalidPaper : ErrOk P w K (He.ga K ("InvalidPaper" : Str)) (He.fAd K (("InvalidPaper" : Str), some "__init__")) ([tx "word", tx "at"].map sOf) ∧ mg ("InvalidPaper" : Str) = some (.ref (He.ga K ("InvalidPaper" : Str)))
  m_InvalidPaper : ∀ c, c < nErr → PySem.W.exmOne K (.ref (He.ga K (sOf (tabs.ename c)))) (.ref (He.ga K ("InvalidPaper" : Str))) = some (decide (c = e_InvalidPaper))
  x_InvalidPaper : ExcC K (He.ga K ("InvalidPaper" : Str))
  is_InvalidPaper_PaperError : PySem.W.kitOne K (.ref (He.ga K ("InvalidPaper" : Str))) (.ref (He.ga K ("PaperError" : Str))) = some true
  g_PaperError : mg ("PaperError" : Str) = some (.ref (He.ga K ("PaperError" : Str)))
def N0 : List Str := [("thing" : Str)]
def m0 (c : CF) : SD := (sSeq (sRet (dAnd (dCall (dCons (dVar 0) (dCons (dCst (.ty "int")) dNil)) isiF) (dNot (dCall (dCons (dVar 0) (dCons (dCst (.ty "bool")) dNil)) isiF)))) sNil)
theorem S0 : FnScope N0 [("thing" : Str)] (defScope (top 5)) := ⟨rfl, rfl, rfl, by decide +kernel, rfl, by decide +kernel, by decide +kernel⟩
theorem N0_0 : N0[0]? = some ("thing" : Str) := rfl
theorem V0_0 : Vis (defScope (top 5)) ("thing" : Str) := by first | exact Or.inl rfl | exact Or.inr (Or.inl rfl) | exact Or.inr (Or.inr rfl)
theorem G0_int : (defScope (top 5)).names.lookup ("int" : Str) = some NameKind.globalImplicit := rfl
theorem G0_isinstance : (defScope (top 5)).names.lookup ("isinstance" : Str) = some NameKind.globalImplicit := rfl
theorem G0_bool : (defScope (top 5)).names.lookup ("bool" : Str) = some NameKind.globalImplicit := rfl
def N1 : List Str := [("thing" : Str)]
def m1 (c : CF) : SD := (sSeq (sRet (dOr (d2 (isB false) (dVar 0) (dCst .non)) (dCallF (dCons (dVar 0) dNil) [] 1 (c 0)))) sNil)
theorem S1 : FnScope N1 [("thing" : Str)] (defScope (top 6)) := ⟨rfl, rfl, rfl, by decide +kernel, rfl, by decide +kernel, by decide +kernel⟩
theorem N1_0 : N1[0]? = some ("thing" : Str) := rfl
theorem V1_0 : Vis (defScope (top 6)) ("thing" : Str) := by first | exact Or.inl rfl | exact Or.inr (Or.inl rfl) | exact Or.inr (Or.inr rfl)
theorem G1_is_integer : (defScope (top 6)).names.lookup ("is_integer" : Str) = some NameKind.globalImplicit := rfl
def N2 : List Str := [("thing" : Str)]
def m2 (c : CF) : SD := (sSeq (sRet (dAnd (dCall (dCons (dVar 0) (dCons (dCst (.ty "str")) dNil)) isiF) (dAnd (d2 (eqB false) (dCall (dCons (dVar 0) dNil) lenF2) (dCst (.int (1)))) (d2 (inB false) (dVar 0) (dCst c_LETTERS))))) sNil)
theorem S2 : FnScope N2 [("thing" : Str)] (defScope (top 10)) := ⟨rfl, rfl, rfl, by decide +kernel, rfl, by decide +kernel, by decide +kernel⟩
theorem N2_0 : N2[0]? = some ("thing" : Str) := rfl
theorem V2_0 : Vis (defScope (top 10)) ("thing" : Str) := by first | exact Or.inl rfl | exact Or.inr (Or.inl rfl) | exact Or.inr (Or.inr rfl)
theorem G2_str : (defScope (top 10)).names.lookup ("str" : Str) = some NameKind.globalImplicit := rfl
theorem G2_isinstance : (defScope (top 10)).names.lookup ("isinstance" : Str) = some NameKind.globalImplicit := rfl
theorem G2_len : (defScope (top 10)).names.lookup ("len" : Str) = some NameKind.globalImplicit := rfl
theorem G2_LETTERS : (defScope (top 10)).names.lookup ("LETTERS" : Str) = some NameKind.globalImplicit := rfl
def N3 : List Str := [("thing" : Str), ("sign" : Str)]
def m3 (c : CF) : SD := (sSeq (sRet (dAnd (dCall (dCons (dVar 0) (dCons (dCst (.ty "str")) dNil)) isiF) (dCall (dCons (dLc 100000 (iVal (dVar 0)) (aName 1) tYesD (d2 (inB false) (dVar 1) (dCst c_LETTERS)) [1]) dNil) allF))) sNil)
theorem S3 : FnScope N3 [("thing" : Str)] (defScope (top 11)) := ⟨rfl, rfl, rfl, by decide +kernel, rfl, by decide +kernel, by decide +kernel⟩
theorem N3_0 : N3[0]? = some ("thing" : Str) := rfl
theorem V3_0 : Vis (defScope (top 11)) ("thing" : Str) := by first | exact Or.inl rfl | exact Or.inr (Or.inl rfl) | exact Or.inr (Or.inr rfl)
theorem G3_str : (defScope (top 11)).names.lookup ("str" : Str) = some NameKind.globalImplicit := rfl
theorem G3_isinstance : (defScope (top 11)).names.lookup ("isinstance" : Str) = some NameKind.globalImplicit := rfl
theorem N3_1 : N3[1]? = some ("sign" : Str) := rfl
theorem G3_all : (defScope (top 11)).names.lookup ("all" : Str) = some NameKind.globalImplicit := rfl
def N4 : List Str := [("thing" : Str)]
def m4 (c : CF) : SD := (sSeq (sRet (dAnd (dCallF (dCons (dVar 0) dNil) [] 1 (c 3)) (d2 (eqB false) (dCall (dCons (dCall (dCons (dCall (dCons (dVar 0) dNil) listF2) dNil) setF) dNil) lenF2) (dCall (dCons (dVar 0) dNil) lenF2)))) sNil)
theorem S4 : FnScope N4 [("thing" : Str)] (defScope (top 12)) := ⟨rfl, rfl, rfl, by decide +kernel, rfl, by decide +kernel, by decide +kernel⟩
theorem N4_0 : N4[0]? = some ("thing" : Str) := rfl
theorem V4_0 : Vis (defScope (top 12)) ("thing" : Str) := by first | exact Or.inl rfl | exact Or.inr (Or.inl rfl) | exact Or.inr (Or.inr rfl)
theorem G4_is_letters : (defScope (top 12)).names.lookup ("is_letters" : Str) = some NameKind.globalImplicit := rfl
theorem G4_list : (defScope (top 12)).names.lookup ("list" : Str) = some NameKind.globalImplicit := rfl
theorem G4_set : (defScope (top 12)).names.lookup ("set" : Str) = some NameKind.globalImplicit := rfl
theorem G4_len : (defScope (top 12)).names.lookup ("len" : Str) = some NameKind.globalImplicit := rfl
def N5 : List Str := [("thing" : Str), ("low" : Str), ("high" : Str)]
def m5 (c : CF) : SD := (sSeq (sIf (tOrB (tNotB (dTru (dCall (dCons (dVar 0) (dCons (dCst (.ty "tuple")) dNil)) isiF))) (dBl (d2 (eqB true) (dCall (dCons (dVar 0) dNil) lenF2) (dCst (.int (2)))))) (sSeq (sRet (dCst (.bl false))) sNil) sNil) (sSeq (sAsg (dVar 0) (aTup 2 (aCons (aName 1) (aCons (aName 2) aNil)))) (sSeq (sIf (tOrB (tAndB (dBl (d2 (isB true) (dVar 1) (dCst .non))) (tNotB (dTru (dCallF (dCons (dVar 1) dNil) [] 1 (c 0))))) (tNotB (dTru (dCallF (dCons (dVar 2) dNil) [] 1 (c 1))))) (sSeq (sRet (dCst (.bl false))) sNil) sNil) (sSeq (sRet (dOr (d2 (isB false) (dVar 1) (dCst .non)) (dOr (d2 (isB false) (dVar 2) (dCst .non)) (d2 (ordD .le) (dVar 1) (dVar 2))))) sNil))))
theorem S5 : FnScope N5 [("thing" : Str)] (defScope (top 13)) := ⟨rfl, rfl, rfl, by decide +kernel, rfl, by decide +kernel, by decide +kernel⟩
theorem N5_0 : N5[0]? = some ("thing" : Str) := rfl
theorem V5_0 : Vis (defScope (top 13)) ("thing" : Str) := by first | exact Or.inl rfl | exact Or.inr (Or.inl rfl) | exact Or.inr (Or.inr rfl)
theorem G5_tuple : (defScope (top 13)).names.lookup ("tuple" : Str) = some NameKind.globalImplicit := rfl
theorem G5_isinstance : (defScope (top 13)).names.lookup ("isinstance" : Str) = some NameKind.globalImplicit := rfl
theorem G5_len : (defScope (top 13)).names.lookup ("len" : Str) = some NameKind.globalImplicit := rfl
theorem N5_1 : N5[1]? = some ("low" : Str) := rfl
theorem L5_1 : Loc (defScope (top 13)) ("low" : Str) := by first | exact Or.inl rfl | exact Or.inr rfl
theorem N5_2 : N5[2]? = some ("high" : Str) := rfl
theorem L5_2 : Loc (defScope (top 13)) ("high" : Str) := by first | exact Or.inl rfl | exact Or.inr rfl
theorem V5_1 : Vis (defScope (top 13)) ("low" : Str) := by first | exact Or.inl rfl | exact Or.inr (Or.inl rfl) | exact Or.inr (Or.inr rfl)
theorem G5_is_integer : (defScope (top 13)).names.lookup ("is_integer" : Str) = some NameKind.globalImplicit := rfl
theorem V5_2 : Vis (defScope (top 13)) ("high" : Str) := by first | exact Or.inl rfl | exact Or.inr (Or.inl rfl) | exact Or.inr (Or.inr rfl)
theorem G5_is_end : (defScope (top 13)).names.lookup ("is_end" : Str) = some NameKind.globalImplicit := rfl
def N6 : List Str := [("values" : Str), ("sort" : Str)]
def m6 (c : CF) : SD := (sSeq (sIf (dBl (d2 (eqB false) (dVar 1) (dCst (.str (tx "r"))))) (sSeq (sRet (dCallF (dCons (dVar 0) dNil) [] 1 (c 5))) sNil) sNil) (sSeq (sIf (dBl (d2 (eqB true) (dCall (dCons (dVar 0) dNil) lenF2) (dCst (.int (1))))) (sSeq (sRet (dCst (.bl false))) sNil) sNil) (sSeq (sRet (dIte (dBl (d2 (eqB false) (dVar 1) (dCst (.str (tx "n"))))) (dCallF (dCons (d2 ixD (dVar 0) (dCst (.int (0)))) dNil) [] 1 (c 2)) (dCallF (dCons (d2 ixD (dVar 0) (dCst (.int (0)))) dNil) [] 1 (c 0)))) sNil)))
theorem S6 : FnScope N6 [("values" : Str), ("sort" : Str)] (defScope (top 14)) := ⟨rfl, rfl, rfl, by decide +kernel, rfl, by decide +kernel, by decide +kernel⟩
theorem N6_1 : N6[1]? = some ("sort" : Str) := rfl
theorem V6_1 : Vis (defScope (top 14)) ("sort" : Str) := by first | exact Or.inl rfl | exact Or.inr (Or.inl rfl) | exact Or.inr (Or.inr rfl)
theorem N6_0 : N6[0]? = some ("values" : Str) := rfl
theorem V6_0 : Vis (defScope (top 14)) ("values" : Str) := by first | exact Or.inl rfl | exact Or.inr (Or.inl rfl) | exact Or.inr (Or.inr rfl)
theorem G6_is_range : (defScope (top 14)).names.lookup ("is_range" : Str) = some NameKind.globalImplicit := rfl
theorem G6_len : (defScope (top 14)).names.lookup ("len" : Str) = some NameKind.globalImplicit := rfl
theorem G6_is_letter : (defScope (top 14)).names.lookup ("is_letter" : Str) = some NameKind.globalImplicit := rfl
theorem G6_is_integer : (defScope (top 14)).names.lookup ("is_integer" : Str) = some NameKind.globalImplicit := rfl
def N7 : List Str := [("thing" : Str), ("k" : Str), ("sort" : Str), ("wide" : Str)]
def m7 (c : CF) : SD := (sSeq (sIf (tOrB (tNotB (dTru (dCall (dCons (dVar 0) (dCons (dCst (.ty "tuple")) dNil)) isiF))) (tOrB (dBl (d2 (eqB false) (dCall (dCons (dVar 0) dNil) lenF2) (dCst (.int (0))))) (tNotB (dTru (dCall (dCons (d2 ixD (dVar 0) (dCst (.int (0)))) (dCons (dCst (.ty "str")) dNil)) isiF))))) (sSeq (sRet (dCst (.bl false))) sNil) sNil) (sSeq (sIf (dBl (d2 (inB true) (d2 ixD (dVar 0) (dCst (.int (0)))) (dCst c_STEP_PARTS))) (sSeq (sRet (dCst (.bl false))) sNil) sNil) (sSeq (sAsg (dCst (.int (1))) (aName 1)) (sSeq (sFor 100000 (iVal (d2 ixD (dCst c_STEP_PARTS) (d2 ixD (dVar 0) (dCst (.int (0)))))) (aName 2) (sSeq (sAsg (dIte (dBl (d2 (eqB false) (dVar 2) (dCst (.str (tx "r"))))) (dCst (.int (2))) (dCst (.int (1)))) (aName 3)) (sSeq (sIf (tNotB (dTru (dCallF (dCons (dSl (dVar 0) (pSome (dVar 1)) (pSome (d2 addD (dVar 1) (dVar 3)))) (dCons (dVar 2) dNil)) [] 2 (c 6)))) (sSeq (sRet (dCst (.bl false))) sNil) sNil) (sSeq (sAsg (d2 addD (dVar 1) (dVar 3)) (aName 1)) sNil)))) (sSeq (sRet (d2 (eqB false) (dVar 1) (dCall (dCons (dVar 0) dNil) lenF2))) sNil)))))
theorem S7 : FnScope N7 [("thing" : Str)] (defScope (top 15)) := ⟨rfl, rfl, rfl, by decide +kernel, rfl, by decide +kernel, by decide +kernel⟩
theorem N7_0 : N7[0]? = some ("thing" : Str) := rfl
theorem V7_0 : Vis (defScope (top 15)) ("thing" : Str) := by first | exact Or.inl rfl | exact Or.inr (Or.inl rfl) | exact Or.inr (Or.inr rfl)
theorem G7_tuple : (defScope (top 15)).names.lookup ("tuple" : Str) = some NameKind.globalImplicit := rfl
theorem G7_isinstance : (defScope (top 15)).names.lookup ("isinstance" : Str) = some NameKind.globalImplicit := rfl
theorem G7_len : (defScope (top 15)).names.lookup ("len" : Str) = some NameKind.globalImplicit := rfl
theorem G7_str : (defScope (top 15)).names.lookup ("str" : Str) = some NameKind.globalImplicit := rfl
theorem G7_STEP_PARTS : (defScope (top 15)).names.lookup ("STEP_PARTS" : Str) = some NameKind.globalImplicit := rfl
theorem N7_1 : N7[1]? = some ("k" : Str) := rfl
theorem L7_1 : Loc (defScope (top 15)) ("k" : Str) := by first | exact Or.inl rfl | exact Or.inr rfl
theorem N7_2 : N7[2]? = some ("sort" : Str) := rfl
theorem L7_2 : Loc (defScope (top 15)) ("sort" : Str) := by first | exact Or.inl rfl | exact Or.inr rfl
theorem N7_3 : N7[3]? = some ("wide" : Str) := rfl
theorem L7_3 : Loc (defScope (top 15)) ("wide" : Str) := by first | exact Or.inl rfl | exact Or.inr rfl
theorem V7_2 : Vis (defScope (top 15)) ("sort" : Str) := by first | exact Or.inl rfl | exact Or.inr (Or.inl rfl) | exact Or.inr (Or.inr rfl)
theorem V7_1 : Vis (defScope (top 15)) ("k" : Str) := by first | exact Or.inl rfl | exact Or.inr (Or.inl rfl) | exact Or.inr (Or.inr rfl)
theorem V7_3 : Vis (defScope (top 15)) ("wide" : Str) := by first | exact Or.inl rfl | exact Or.inr (Or.inl rfl) | exact Or.inr (Or.inr rfl)
theorem G7_is_part : (defScope (top 15)).names.lookup ("is_part" : Str) = some NameKind.globalImplicit := rfl
def N8 : List Str := [("step" : Str)]
def m8 (c : CF) : SD := (sSeq (sRet (dMeth "str" (dCst (.str (tx ""))) (dCons (dCall (dCons (dIte (dBl (d2 (eqB false) (d2 ixD (dVar 0) (dCst (.int (0)))) (dCst (.str (tx "is"))))) (dSl (dVar 0) (pSome (dCst (.int (1)))) (pSome (dCst (.int (2))))) (dSl (dVar 0) (pSome (dCst (.int (1)))) (pSome (dCst (.int (3)))))) dNil) listF2) dNil) joinM)) sNil)
theorem S8 : FnScope N8 [("step" : Str)] (defScope (top 16)) := ⟨rfl, rfl, rfl, by decide +kernel, rfl, by decide +kernel, by decide +kernel⟩
theorem N8_0 : N8[0]? = some ("step" : Str) := rfl
theorem V8_0 : Vis (defScope (top 16)) ("step" : Str) := by first | exact Or.inl rfl | exact Or.inr (Or.inl rfl) | exact Or.inr (Or.inr rfl)
theorem G8_list : (defScope (top 16)).names.lookup ("list" : Str) = some NameKind.globalImplicit := rfl
def N9 : List Str := [("names" : Str), ("letters" : Str), ("sign" : Str)]
def m9 (c : CF) : SD := (sSeq (sRet (dCall (dCons (dLc 100000 (iVal (dVar 1)) (aName 2) tYesD (d2 (inB false) (dVar 2) (dVar 0)) [2]) dNil) allF)) sNil)
theorem S9 : FnScope N9 [("names" : Str), ("letters" : Str)] (defScope (top 17)) := ⟨rfl, rfl, rfl, by decide +kernel, rfl, by decide +kernel, by decide +kernel⟩
theorem N9_1 : N9[1]? = some ("letters" : Str) := rfl
theorem V9_1 : Vis (defScope (top 17)) ("letters" : Str) := by first | exact Or.inl rfl | exact Or.inr (Or.inl rfl) | exact Or.inr (Or.inr rfl)
theorem N9_2 : N9[2]? = some ("sign" : Str) := rfl
theorem N9_0 : N9[0]? = some ("names" : Str) := rfl
theorem G9_all : (defScope (top 17)).names.lookup ("all" : Str) = some NameKind.globalImplicit := rfl
def N10 : List Str := [("thing" : Str), ("names" : Str), ("steps" : Str), ("k" : Str), ("step" : Str)]
def m10 (c : CF) : SD := (sSeq (sIf (tOrB (tNotB (dTru (dCall (dCons (dVar 0) (dCons (dCst (.ty "tuple")) dNil)) isiF))) (dBl (d2 (eqB true) (dCall (dCons (dVar 0) dNil) lenF2) (dCst (.int (2)))))) (sSeq (sRaise e_InvalidPaper 2 (dCons (dCst (.str (tx "shape"))) (dCons (dNeg (dCst (.int (1)))) dNil))) sNil) sNil) (sSeq (sAsg (dVar 0) (aTup 2 (aCons (aName 1) (aCons (aName 2) aNil)))) (sSeq (sIf (tOrB (tNotB (dTru (dCall (dCons (dVar 1) (dCons (dCst (.ty "str")) dNil)) isiF))) (tNotB (dTru (dCall (dCons (dVar 2) (dCons (dCst (.ty "tuple")) dNil)) isiF)))) (sSeq (sRaise e_InvalidPaper 2 (dCons (dCst (.str (tx "shape"))) (dCons (dNeg (dCst (.int (1)))) dNil))) sNil) sNil) (sSeq (sIf (tNotB (dTru (dCallF (dCons (dVar 1) dNil) [] 1 (c 4)))) (sSeq (sRaise e_InvalidPaper 2 (dCons (dCst (.str (tx "names"))) (dCons (dNeg (dCst (.int (1)))) dNil))) sNil) sNil) (sSeq (sFor 100000 (iEn (dVar 2)) (aTup 2 (aCons (aName 3) (aCons (aName 4) aNil))) (sSeq (sIf (tNotB (dTru (dCallF (dCons (dVar 4) dNil) [] 1 (c 7)))) (sSeq (sRaise e_InvalidPaper 2 (dCons (dCst (.str (tx "step"))) (dCons (dVar 3) dNil))) sNil) sNil) (sSeq (sIf (tNotB (dTru (dCallF (dCons (dVar 1) (dCons (dCallF (dCons (dVar 4) dNil) [] 1 (c 8)) dNil)) [] 2 (c 9)))) (sSeq (sRaise e_InvalidPaper 2 (dCons (dCst (.str (tx "name"))) (dCons (dVar 3) dNil))) sNil) sNil) sNil))) (sSeq (sRet (dCall (dCons (dVar 2) dNil) lenF2)) sNil))))))
theorem S10 : FnScope N10 [("thing" : Str)] (defScope (top 18)) := ⟨rfl, rfl, rfl, by decide +kernel, rfl, by decide +kernel, by decide +kernel⟩
theorem N10_0 : N10[0]? = some ("thing" : Str) := rfl
theorem V10_0 : Vis (defScope (top 18)) ("thing" : Str) := by first | exact Or.inl rfl | exact Or.inr (Or.inl rfl) | exact Or.inr (Or.inr rfl)
theorem G10_tuple : (defScope (top 18)).names.lookup ("tuple" : Str) = some NameKind.globalImplicit := rfl
theorem G10_isinstance : (defScope (top 18)).names.lookup ("isinstance" : Str) = some NameKind.globalImplicit := rfl
theorem G10_len : (defScope (top 18)).names.lookup ("len" : Str) = some NameKind.globalImplicit := rfl
theorem G10_InvalidPaper : (defScope (top 18)).names.lookup ("InvalidPaper" : Str) = some NameKind.globalImplicit := rfl
theorem N10_1 : N10[1]? = some ("names" : Str) := rfl
theorem L10_1 : Loc (defScope (top 18)) ("names" : Str) := by first | exact Or.inl rfl | exact Or.inr rfl
theorem N10_2 : N10[2]? = some ("steps" : Str) := rfl
theorem L10_2 : Loc (defScope (top 18)) ("steps" : Str) := by first | exact Or.inl rfl | exact Or.inr rfl
theorem V10_1 : Vis (defScope (top 18)) ("names" : Str) := by first | exact Or.inl rfl | exact Or.inr (Or.inl rfl) | exact Or.inr (Or.inr rfl)
theorem G10_str : (defScope (top 18)).names.lookup ("str" : Str) = some NameKind.globalImplicit := rfl
theorem V10_2 : Vis (defScope (top 18)) ("steps" : Str) := by first | exact Or.inl rfl | exact Or.inr (Or.inl rfl) | exact Or.inr (Or.inr rfl)
theorem G10_is_names : (defScope (top 18)).names.lookup ("is_names" : Str) = some NameKind.globalImplicit := rfl
theorem G10_enumerate : (defScope (top 18)).names.lookup ("enumerate" : Str) = some NameKind.globalImplicit := rfl
theorem N10_3 : N10[3]? = some ("k" : Str) := rfl
theorem L10_3 : Loc (defScope (top 18)) ("k" : Str) := by first | exact Or.inl rfl | exact Or.inr rfl
theorem N10_4 : N10[4]? = some ("step" : Str) := rfl
theorem L10_4 : Loc (defScope (top 18)) ("step" : Str) := by first | exact Or.inl rfl | exact Or.inr rfl
theorem V10_4 : Vis (defScope (top 18)) ("step" : Str) := by first | exact Or.inl rfl | exact Or.inr (Or.inl rfl) | exact Or.inr (Or.inr rfl)
theorem G10_is_step : (defScope (top 18)).names.lookup ("is_step" : Str) = some NameKind.globalImplicit := rfl
theorem V10_3 : Vis (defScope (top 18)) ("k" : Str) := by first | exact Or.inl rfl | exact Or.inr (Or.inl rfl) | exact Or.inr (Or.inr rfl)
theorem G10_step_names : (defScope (top 18)).names.lookup ("step_names" : Str) = some NameKind.globalImplicit := rfl
theorem G10_are_names_of : (defScope (top 18)).names.lookup ("are_names_of" : Str) = some NameKind.globalImplicit := rfl
def N11 : List Str := [("_law_script" : Str), ("_law_cell" : Str)]
def m11 (c : CF) : SD := (sSeq (sRet (dDic [((dCst (.str (tx "cells"))), (dLc 100000 (iVal (dSl (dVar 0) pNone (pSome (dCst (.int (63)))))) (aName 1) tYesD (dCall (dCons (dVar 1) dNil) intF) [1])), ((dCst (.str (tx "spot"))), (dCst (.int (0)))), ((dCst (.str (tx "rest"))), (dCst (.int (0)))), ((dCst (.str (tx "count"))), (dCst (.int (0))))])) sNil)
theorem S11 : FnScope N11 [("_law_script" : Str)] (defScope (top 20)) := ⟨rfl, rfl, rfl, by decide +kernel, rfl, by decide +kernel, by decide +kernel⟩
theorem N11_0 : N11[0]? = some ("_law_script" : Str) := rfl
theorem V11_0 : Vis (defScope (top 20)) ("_law_script" : Str) := by first | exact Or.inl rfl | exact Or.inr (Or.inl rfl) | exact Or.inr (Or.inr rfl)
theorem N11_1 : N11[1]? = some ("_law_cell" : Str) := rfl
def N12 : List Str := [("_law_source_here" : Str), ("_law_many" : Str), ("_law_digit" : Str), ("_law_cells" : Str), ("_law_spot" : Str), ("_law_cell" : Str), ("_law_value" : Str)]
def m12 (c : CF) : SD := (sSeq (sSet (dVar 0) (dCst (.str (tx "count"))) (d2 addD (d2 ixD (dVar 0) (dCst (.str (tx "count")))) (dCst (.int (1))))) (sSeq (sIf (dBl (d2 (ordD .gt) (d2 ixD (dVar 0) (dCst (.str (tx "rest")))) (dCst (.int (0))))) (sSeq (sAsg (d2 modD (dCall (dCons (d2 ixD (dVar 0) (dCst (.str (tx "rest")))) dNil) intF) (dVar 1)) (aName 2)) (sSeq (sSet (dVar 0) (dCst (.str (tx "rest"))) (d2 fdivD (dCall (dCons (d2 ixD (dVar 0) (dCst (.str (tx "rest")))) dNil) intF) (dVar 1))) (sSeq (sRet (dVar 2)) sNil))) sNil) (sSeq (sPar [3, 4] (dCons (d2 ixD (dVar 0) (dCst (.str (tx "cells")))) (dCons (d2 ixD (dVar 0) (dCst (.str (tx "spot")))) dNil))) (sSeq (sSet (dVar 0) (dCst (.str (tx "spot"))) (d2 addD (dVar 4) (dCst (.int (1))))) (sSeq (sAsg (dIte (dBl (d2 (eqB true) (dVar 3) (dLst dNil))) (d2 ixD (dVar 3) (d2 modD (dCall (dCons (dVar 4) dNil) intF) (dCall (dCons (dVar 3) dNil) lenF2))) (dCst (.int (6007)))) (aName 5)) (sSeq (sIf (tAndB (dBl (d2 (ordD .ge) (dVar 5) (d2 powD (dCst (.int (10))) (dCst (.int (18)))))) (dBl (d2 (ordD .lt) (dVar 4) (dCall (dCons (dVar 3) dNil) lenF2)))) (sSeq (sSet (dVar 0) (dCst (.str (tx "rest"))) (d2 fdivD (dCall (dCons (dVar 5) dNil) intF) (dVar 1))) (sSeq (sRet (d2 modD (dCall (dCons (dVar 5) dNil) intF) (dVar 1))) sNil)) sNil) (sSeq (sAsg (d2 modD (dCall (dCons (d2 addD (d2 addD (d2 modD (dCall (dCons (dVar 5) dNil) intF) (dCst (.int (998244353)))) (d2 mulD (dCst (.int (90001))) (d2 ixD (dVar 0) (dCst (.str (tx "count")))))) (dCst (.int (31)))) dNil) intF) (dCst (.int (2147483629)))) (aName 6)) (sSeq (sAsg (d2 modD (dCall (dCons (d2 addD (d2 addD (d2 powD (dVar 6) (dCst (.int (3)))) (d2 mulD (dCst (.int (6700417))) (d2 ixD (dVar 0) (dCst (.str (tx "count")))))) (dCst (.int (97)))) dNil) intF) (dCst (.int (2147483587)))) (aName 6)) (sSeq (sAsg (d2 modD (dCall (dCons (d2 addD (d2 powD (dVar 6) (dCst (.int (3)))) (d2 mulD (dCst (.int (521))) (dVar 6))) dNil) intF) (dCst (.int (2147483579)))) (aName 6)) (sSeq (sRet (d2 modD (dCall (dCons (d2 fdivD (dVar 6) (dCst (.int (64)))) dNil) intF) (dVar 1))) sNil))))))))))
theorem S12 : FnScope N12 [("_law_source_here" : Str), ("_law_many" : Str)] (defScope (top 21)) := ⟨rfl, rfl, rfl, by decide +kernel, rfl, by decide +kernel, by decide +kernel⟩
theorem N12_0 : N12[0]? = some ("_law_source_here" : Str) := rfl
theorem V12_0 : Vis (defScope (top 21)) ("_law_source_here" : Str) := by first | exact Or.inl rfl | exact Or.inr (Or.inl rfl) | exact Or.inr (Or.inr rfl)
theorem N12_2 : N12[2]? = some ("_law_digit" : Str) := rfl
theorem L12_2 : Loc (defScope (top 21)) ("_law_digit" : Str) := by first | exact Or.inl rfl | exact Or.inr rfl
theorem G12_int : (defScope (top 21)).names.lookup ("int" : Str) = some NameKind.globalImplicit := rfl
theorem N12_1 : N12[1]? = some ("_law_many" : Str) := rfl
theorem V12_1 : Vis (defScope (top 21)) ("_law_many" : Str) := by first | exact Or.inl rfl | exact Or.inr (Or.inl rfl) | exact Or.inr (Or.inr rfl)
theorem V12_2 : Vis (defScope (top 21)) ("_law_digit" : Str) := by first | exact Or.inl rfl | exact Or.inr (Or.inl rfl) | exact Or.inr (Or.inr rfl)
theorem N12_3 : N12[3]? = some ("_law_cells" : Str) := rfl
theorem N12_4 : N12[4]? = some ("_law_spot" : Str) := rfl
theorem V12_4 : Vis (defScope (top 21)) ("_law_spot" : Str) := by first | exact Or.inl rfl | exact Or.inr (Or.inl rfl) | exact Or.inr (Or.inr rfl)
theorem N12_5 : N12[5]? = some ("_law_cell" : Str) := rfl
theorem L12_5 : Loc (defScope (top 21)) ("_law_cell" : Str) := by first | exact Or.inl rfl | exact Or.inr rfl
theorem V12_3 : Vis (defScope (top 21)) ("_law_cells" : Str) := by first | exact Or.inl rfl | exact Or.inr (Or.inl rfl) | exact Or.inr (Or.inr rfl)
theorem G12_len : (defScope (top 21)).names.lookup ("len" : Str) = some NameKind.globalImplicit := rfl
theorem V12_5 : Vis (defScope (top 21)) ("_law_cell" : Str) := by first | exact Or.inl rfl | exact Or.inr (Or.inl rfl) | exact Or.inr (Or.inr rfl)
theorem N12_6 : N12[6]? = some ("_law_value" : Str) := rfl
theorem L12_6 : Loc (defScope (top 21)) ("_law_value" : Str) := by first | exact Or.inl rfl | exact Or.inr rfl
theorem V12_6 : Vis (defScope (top 21)) ("_law_value" : Str) := by first | exact Or.inl rfl | exact Or.inr (Or.inl rfl) | exact Or.inr (Or.inr rfl)
def N13 : List Str := [("_law_source_here" : Str), ("_law_some" : Str)]
def m13 (c : CF) : SD := (sSeq (sRet (d2 ixD (dVar 1) (dCallF (dCons (dVar 0) (dCons (dCall (dCons (dVar 1) dNil) lenF2) dNil)) [] 2 (c 12)))) sNil)
theorem S13 : FnScope N13 [("_law_source_here" : Str), ("_law_some" : Str)] (defScope (top 22)) := ⟨rfl, rfl, rfl, by decide +kernel, rfl, by decide +kernel, by decide +kernel⟩
theorem N13_1 : N13[1]? = some ("_law_some" : Str) := rfl
theorem V13_1 : Vis (defScope (top 22)) ("_law_some" : Str) := by first | exact Or.inl rfl | exact Or.inr (Or.inl rfl) | exact Or.inr (Or.inr rfl)
theorem N13_0 : N13[0]? = some ("_law_source_here" : Str) := rfl
theorem V13_0 : Vis (defScope (top 22)) ("_law_source_here" : Str) := by first | exact Or.inl rfl | exact Or.inr (Or.inl rfl) | exact Or.inr (Or.inr rfl)
theorem G13_len : (defScope (top 22)).names.lookup ("len" : Str) = some NameKind.globalImplicit := rfl
theorem G13__law_pick : (defScope (top 22)).names.lookup ("_law_pick" : Str) = some NameKind.globalImplicit := rfl
def N14 : List Str := [("_law_source_here" : Str), ("_law_some" : Str), ("_law_low_in" : Str)]
def m14 (c : CF) : SD := (sSeq (sAsg (dLst (dCons (dTup (dCons (dCst .non) (dCons (dCst .non) dNil))) (dCons (dTup (dCons (dCst (.int (0))) (dCons (dCst (.int (0))) dNil))) (dCons (dTup (dCons (dCst (.int (5))) (dCons (dCst (.int (5))) dNil))) (dCons (dTup (dCons (dNeg (dCst (.int (3)))) (dCons (dCst (.int (4))) dNil))) (dCons (dTup (dCons (dCst .non) (dCons (dCst (.int (7))) dNil))) (dCons (dTup (dCons (dCst (.int (2))) (dCons (dCst .non) dNil))) (dCons (dTup (dCons (dCst (.int (1))) (dCons (dCst (.int (9))) dNil))) (dCons (dTup (dCons (dNeg (dCst (.int (8)))) (dCons (dNeg (dCst (.int (2)))) dNil))) (dCons (dTup (dCons (dCst (.int (6))) (dCons (dCst (.int (12))) dNil))) (dCons (dTup (dCons (dCst .non) (dCons (dNeg (dCst (.int (1)))) dNil))) dNil))))))))))) (aName 1)) (sSeq (sAsg (d2 subD (dCallF (dCons (dVar 0) (dCons (dCst (.int (14))) dNil)) [] 2 (c 12)) (dCst (.int (4)))) (aName 2)) (sSeq (sRet (dCallF (dCons (dVar 0) (dCons (d2 addD (dVar 1) (dLst (dCons (dTup (dCons (dVar 2) (dCons (d2 addD (dVar 2) (dCallF (dCons (dVar 0) (dCons (dCst (.int (9))) dNil)) [] 2 (c 12))) dNil))) (dCons (dTup (dCons (dVar 2) (dCons (dVar 2) dNil))) dNil)))) dNil)) [] 2 (c 13))) sNil)))
theorem S14 : FnScope N14 [("_law_source_here" : Str)] (defScope (top 23)) := ⟨rfl, rfl, rfl, by decide +kernel, rfl, by decide +kernel, by decide +kernel⟩
theorem N14_1 : N14[1]? = some ("_law_some" : Str) := rfl
theorem L14_1 : Loc (defScope (top 23)) ("_law_some" : Str) := by first | exact Or.inl rfl | exact Or.inr rfl
theorem N14_2 : N14[2]? = some ("_law_low_in" : Str) := rfl
theorem L14_2 : Loc (defScope (top 23)) ("_law_low_in" : Str) := by first | exact Or.inl rfl | exact Or.inr rfl
theorem N14_0 : N14[0]? = some ("_law_source_here" : Str) := rfl
theorem V14_0 : Vis (defScope (top 23)) ("_law_source_here" : Str) := by first | exact Or.inl rfl | exact Or.inr (Or.inl rfl) | exact Or.inr (Or.inr rfl)
theorem G14__law_pick : (defScope (top 23)).names.lookup ("_law_pick" : Str) = some NameKind.globalImplicit := rfl
theorem V14_1 : Vis (defScope (top 23)) ("_law_some" : Str) := by first | exact Or.inl rfl | exact Or.inr (Or.inl rfl) | exact Or.inr (Or.inr rfl)
theorem V14_2 : Vis (defScope (top 23)) ("_law_low_in" : Str) := by first | exact Or.inl rfl | exact Or.inr (Or.inl rfl) | exact Or.inr (Or.inr rfl)
theorem G14__law_any : (defScope (top 23)).names.lookup ("_law_any" : Str) = some NameKind.globalImplicit := rfl
def N15 : List Str := [("_law_source_here" : Str), ("_law_letters" : Str), ("_law_a" : Str), ("_law_b" : Str), ("_law_way" : Str)]
def m15 (c : CF) : SD := (sSeq (sPar [2, 3, 4] (dCons (dCallF (dCons (dVar 0) (dCons (dVar 1) dNil)) [] 2 (c 13)) (dCons (dCallF (dCons (dVar 0) (dCons (dVar 1) dNil)) [] 2 (c 13)) (dCons (dCallF (dCons (dVar 0) (dCons (dCst (.int (7))) dNil)) [] 2 (c 12)) dNil)))) (sSeq (sIf (dBl (d2 (ordD .lt) (dVar 4) (dCst (.int (2))))) (sSeq (sRet (d2 addD (dTup (dCons (dCst (.str (tx "is"))) (dCons (dVar 2) dNil))) (dCallF (dCons (dVar 0) dNil) [] 1 (c 14)))) sNil) sNil) (sSeq (sIf (dBl (d2 (ordD .lt) (dVar 4) (dCst (.int (4))))) (sSeq (sRet (dTup (dCons (dCst (.str (tx "plus"))) (dCons (dVar 2) (dCons (dVar 3) (dCons (dCallF (dCons (dVar 0) (dCons (dLst (dCons (dCst (.int (1))) (dCons (dCst (.int (2))) (dCons (dCst (.int (3))) (dCons (dNeg (dCst (.int (1)))) (dCons (dNeg (dCst (.int (2)))) (dCons (dCst (.int (0))) (dCons (dCst (.int (7))) (dCons (dCst (.int (1))) dNil))))))))) dNil)) [] 2 (c 13)) dNil)))))) sNil) sNil) (sSeq (sIf (dBl (d2 (ordD .lt) (dVar 4) (dCst (.int (6))))) (sSeq (sRet (d2 addD (dTup (dCons (dCst (.str (tx "within"))) (dCons (dVar 2) (dCons (dVar 3) dNil)))) (dCallF (dCons (dVar 0) dNil) [] 1 (c 14)))) sNil) sNil) (sSeq (sRet (d2 addD (d2 addD (dTup (dCons (dCst (.str (tx "when"))) (dCons (dVar 2) (dCons (dVar 3) dNil)))) (dCallF (dCons (dVar 0) dNil) [] 1 (c 14))) (dCallF (dCons (dVar 0) dNil) [] 1 (c 14)))) sNil)))))
theorem S15 : FnScope N15 [("_law_source_here" : Str), ("_law_letters" : Str)] (defScope (top 24)) := ⟨rfl, rfl, rfl, by decide +kernel, rfl, by decide +kernel, by decide +kernel⟩
theorem N15_0 : N15[0]? = some ("_law_source_here" : Str) := rfl
theorem V15_0 : Vis (defScope (top 24)) ("_law_source_here" : Str) := by first | exact Or.inl rfl | exact Or.inr (Or.inl rfl) | exact Or.inr (Or.inr rfl)
theorem N15_1 : N15[1]? = some ("_law_letters" : Str) := rfl
theorem V15_1 : Vis (defScope (top 24)) ("_law_letters" : Str) := by first | exact Or.inl rfl | exact Or.inr (Or.inl rfl) | exact Or.inr (Or.inr rfl)
theorem G15__law_any : (defScope (top 24)).names.lookup ("_law_any" : Str) = some NameKind.globalImplicit := rfl
theorem G15__law_pick : (defScope (top 24)).names.lookup ("_law_pick" : Str) = some NameKind.globalImplicit := rfl
theorem N15_2 : N15[2]? = some ("_law_a" : Str) := rfl
theorem N15_3 : N15[3]? = some ("_law_b" : Str) := rfl
theorem N15_4 : N15[4]? = some ("_law_way" : Str) := rfl
theorem V15_4 : Vis (defScope (top 24)) ("_law_way" : Str) := by first | exact Or.inl rfl | exact Or.inr (Or.inl rfl) | exact Or.inr (Or.inr rfl)
theorem V15_2 : Vis (defScope (top 24)) ("_law_a" : Str) := by first | exact Or.inl rfl | exact Or.inr (Or.inl rfl) | exact Or.inr (Or.inr rfl)
theorem G15__law_range : (defScope (top 24)).names.lookup ("_law_range" : Str) = some NameKind.globalImplicit := rfl
theorem V15_3 : Vis (defScope (top 24)) ("_law_b" : Str) := by first | exact Or.inl rfl | exact Or.inr (Or.inl rfl) | exact Or.inr (Or.inr rfl)
def N16 : List Str := [("_law_source_here" : Str), ("_law_wide" : Str), ("_law_letters" : Str), ("_law_a" : Str), ("_law_b" : Str), ("_law_c" : Str), ("_law_n" : Str), ("_law_way" : Str), ("_law_k" : Str), ("_law_steps_in" : Str), ("_law_lap" : Str), ("_law_turn" : Str)]
def m16 (c : CF) : SD := (sSeq (sAsg (dSl (dCallF (dCons (dVar 0) (dCons (dLst (dCons (dCst (.str (tx "fgw"))) (dCons (dCst (.str (tx "wgf"))) (dCons (dCst (.str (tx "ab"))) (dCons (dCst (.str (tx "ba"))) (dCons (dCst (.str (tx "x"))) (dCons (dCst (.str (tx "zka"))) (dCons (dCst (.str (tx "qwert"))) (dCons (dCst (.str (tx "hi"))) dNil))))))))) dNil)) [] 2 (c 13)) pNone (pSome (dVar 1))) (aName 2)) (sSeq (sPar [3, 4, 5] (dCons (d2 ixD (dVar 2) (dCst (.int (0)))) (dCons (d2 ixD (dVar 2) (dNeg (dCst (.int (1))))) (dCons (d2 ixD (dVar 2) (d2 fdivD (dCall (dCons (dVar 2) dNil) lenF2) (dCst (.int (2))))) dNil)))) (sSeq (sPar [6, 7, 8] (dCons (dCallF (dCons (dVar 0) (dCons (dCst (.int (5))) dNil)) [] 2 (c 12)) (dCons (dCallF (dCons (dVar 0) (dCons (dCst (.int (5))) dNil)) [] 2 (c 12)) (dCons (d2 addD (dCst (.int (1))) (dCallF (dCons (dVar 0) (dCons (dCst (.int (3))) dNil)) [] 2 (c 12))) dNil)))) (sSeq (sAsg (dLst (dCons (dTup (dCons (dCst (.str (tx "is"))) (dCons (dVar 3) (dCons (dVar 6) (dCons (dVar 6) dNil))))) dNil)) (aName 9)) (sSeq (sIf (dBl (d2 (eqB false) (dVar 7) (dCst (.int (0))))) (sSeq (sAsg (d2 addD (dVar 9) (dLst (dCons (dTup (dCons (dCst (.str (tx "plus"))) (dCons (dVar 4) (dCons (dVar 3) (dCons (dVar 8) dNil))))) (dCons (dTup (dCons (dCst (.str (tx "within"))) (dCons (dVar 3) (dCons (dVar 4) (dCons (dCst .non) (dCons (d2 addD (dCst (.int (6))) (dVar 6)) dNil)))))) dNil)))) (aName 9)) sNil) (sSeq (sIf (dBl (d2 (eqB false) (dVar 7) (dCst (.int (1))))) (sSeq (sAsg (d2 addD (dVar 9) (dLst (dCons (dTup (dCons (dCst (.str (tx "plus"))) (dCons (dVar 3) (dCons (dVar 3) (dCons (dVar 8) dNil))))) (dCons (dTup (dCons (dCst (.str (tx "within"))) (dCons (dVar 4) (dCons (dVar 3) (dCons (dCst (.int (2))) (dCons (dCst (.int (9))) dNil)))))) (dCons (dTup (dCons (dCst (.str (tx "when"))) (dCons (dVar 5) (dCons (dVar 3) (dCons (dCst (.int (8))) (dCons (dCst .non) (dCons (dNeg (dCst (.int (1)))) (dCons (dCst (.int (1))) dNil)))))))) dNil))))) (aName 9)) sNil) (sSeq (sIf (dBl (d2 (eqB false) (dVar 7) (dCst (.int (2))))) (sSeq (sAsg (dLst (dCons (dTup (dCons (dCst (.str (tx "is"))) (dCons (dVar 3) (dCons (dCst (.int (5))) (dCons (dCst (.int (5))) dNil))))) (dCons (dTup (dCons (dCst (.str (tx "plus"))) (dCons (dVar 5) (dCons (dVar 3) (dCons (dCst (.int (2))) dNil))))) (dCons (dTup (dCons (dCst (.str (tx "is"))) (dCons (dVar 4) (dCons (dCst (.int (0))) (dCons (dCst (.int (0))) dNil))))) (dCons (dTup (dCons (dCst (.str (tx "within"))) (dCons (dVar 4) (dCons (dVar 3) (dCons (dCst .non) (dCons (dCst .non) dNil)))))) dNil))))) (aName 9)) (sSeq (sExpr (dMeth "list" (dVar 9) (dCons (dTup (dCons (dCst (.str (tx "within"))) (dCons (dVar 4) (dCons (dVar 5) (dCons (dCst .non) (dCons (dCst .non) dNil)))))) dNil) appendM)) sNil)) (sSeq (sIf (dBl (d2 (eqB false) (dVar 7) (dCst (.int (3))))) (sSeq (sAsg (d2 addD (dVar 9) (dLst (dCons (dTup (dCons (dCst (.str (tx "plus"))) (dCons (dVar 3) (dCons (dVar 4) (dCons (d2 subD (dCst (.int (0))) (dVar 8)) dNil))))) (dCons (dTup (dCons (dCst (.str (tx "plus"))) (dCons (dVar 4) (dCons (dVar 3) (dCons (d2 subD (dCst (.int (0))) (dVar 8)) dNil))))) (dCons (dTup (dCons (dCst (.str (tx "is"))) (dCons (dVar 4) (dCons (dCst (.int (3))) (dCons (dIte (dBl (d2 (eqB false) (dVar 6) (dCst (.int (0))))) (dCst .non) (dCst (.int (4)))) dNil))))) dNil))))) (aName 9)) sNil) sNil) sNil)) sNil)) sNil)) (sSeq (sFor 100000 (iRng1 (dCons (dCallF (dCons (dVar 0) (dCons (dCst (.int (4))) dNil)) [] 2 (c 12)) dNil)) (aName 10) (sSeq (sExpr (dMeth "list" (dVar 9) (dCons (dCallF (dCons (dVar 0) (dCons (dVar 2) dNil)) [] 2 (c 15)) dNil) appendM)) sNil)) (sSeq (sAsg (dCallF (dCons (dVar 0) (dCons (dCall (dCons (dVar 9) dNil) lenF2) dNil)) [] 2 (c 12)) (aName 11)) (sSeq (sRet (dTup (dCons (dVar 2) (dCons (dCall (dCons (d2 addD (dSl (dVar 9) (pSome (dVar 11)) pNone) (dSl (dVar 9) pNone (pSome (dVar 11)))) dNil) tupleF2) dNil)))) sNil))))))))
theorem S16 : FnScope N16 [("_law_source_here" : Str), ("_law_wide" : Str)] (defScope (top 25)) := ⟨rfl, rfl, rfl, by decide +kernel, rfl, by decide +kernel, by decide +kernel⟩
theorem N16_2 : N16[2]? = some ("_law_letters" : Str) := rfl
theorem L16_2 : Loc (defScope (top 25)) ("_law_letters" : Str) := by first | exact Or.inl rfl | exact Or.inr rfl
theorem N16_0 : N16[0]? = some ("_law_source_here" : Str) := rfl
theorem V16_0 : Vis (defScope (top 25)) ("_law_source_here" : Str) := by first | exact Or.inl rfl | exact Or.inr (Or.inl rfl) | exact Or.inr (Or.inr rfl)
theorem G16__law_any : (defScope (top 25)).names.lookup ("_law_any" : Str) = some NameKind.globalImplicit := rfl
theorem N16_1 : N16[1]? = some ("_law_wide" : Str) := rfl
theorem V16_1 : Vis (defScope (top 25)) ("_law_wide" : Str) := by first | exact Or.inl rfl | exact Or.inr (Or.inl rfl) | exact Or.inr (Or.inr rfl)
theorem V16_2 : Vis (defScope (top 25)) ("_law_letters" : Str) := by first | exact Or.inl rfl | exact Or.inr (Or.inl rfl) | exact Or.inr (Or.inr rfl)
theorem G16_len : (defScope (top 25)).names.lookup ("len" : Str) = some NameKind.globalImplicit := rfl
theorem N16_3 : N16[3]? = some ("_law_a" : Str) := rfl
theorem N16_4 : N16[4]? = some ("_law_b" : Str) := rfl
theorem N16_5 : N16[5]? = some ("_law_c" : Str) := rfl
theorem G16__law_pick : (defScope (top 25)).names.lookup ("_law_pick" : Str) = some NameKind.globalImplicit := rfl
theorem N16_6 : N16[6]? = some ("_law_n" : Str) := rfl
theorem N16_7 : N16[7]? = some ("_law_way" : Str) := rfl
theorem N16_8 : N16[8]? = some ("_law_k" : Str) := rfl
theorem N16_9 : N16[9]? = some ("_law_steps_in" : Str) := rfl
theorem L16_9 : Loc (defScope (top 25)) ("_law_steps_in" : Str) := by first | exact Or.inl rfl | exact Or.inr rfl
theorem V16_3 : Vis (defScope (top 25)) ("_law_a" : Str) := by first | exact Or.inl rfl | exact Or.inr (Or.inl rfl) | exact Or.inr (Or.inr rfl)
theorem V16_6 : Vis (defScope (top 25)) ("_law_n" : Str) := by first | exact Or.inl rfl | exact Or.inr (Or.inl rfl) | exact Or.inr (Or.inr rfl)
theorem V16_7 : Vis (defScope (top 25)) ("_law_way" : Str) := by first | exact Or.inl rfl | exact Or.inr (Or.inl rfl) | exact Or.inr (Or.inr rfl)
theorem V16_9 : Vis (defScope (top 25)) ("_law_steps_in" : Str) := by first | exact Or.inl rfl | exact Or.inr (Or.inl rfl) | exact Or.inr (Or.inr rfl)
theorem V16_4 : Vis (defScope (top 25)) ("_law_b" : Str) := by first | exact Or.inl rfl | exact Or.inr (Or.inl rfl) | exact Or.inr (Or.inr rfl)
theorem V16_8 : Vis (defScope (top 25)) ("_law_k" : Str) := by first | exact Or.inl rfl | exact Or.inr (Or.inl rfl) | exact Or.inr (Or.inr rfl)
theorem V16_5 : Vis (defScope (top 25)) ("_law_c" : Str) := by first | exact Or.inl rfl | exact Or.inr (Or.inl rfl) | exact Or.inr (Or.inr rfl)
theorem G16_range : (defScope (top 25)).names.lookup ("range" : Str) = some NameKind.globalImplicit := rfl
theorem N16_10 : N16[10]? = some ("_law_lap" : Str) := rfl
theorem L16_10 : Loc (defScope (top 25)) ("_law_lap" : Str) := by first | exact Or.inl rfl | exact Or.inr rfl
theorem G16__law_step : (defScope (top 25)).names.lookup ("_law_step" : Str) = some NameKind.globalImplicit := rfl
theorem N16_11 : N16[11]? = some ("_law_turn" : Str) := rfl
theorem L16_11 : Loc (defScope (top 25)) ("_law_turn" : Str) := by first | exact Or.inl rfl | exact Or.inr rfl
theorem V16_11 : Vis (defScope (top 25)) ("_law_turn" : Str) := by first | exact Or.inl rfl | exact Or.inr (Or.inl rfl) | exact Or.inr (Or.inr rfl)
theorem G16_tuple : (defScope (top 25)).names.lookup ("tuple" : Str) = some NameKind.globalImplicit := rfl
def N17 : List Str := [("_law_thing_in" : Str)]
def m17 (c : CF) : SD := (sSeq (sRet (dAnd (dCall (dCons (dVar 0) (dCons (dCst (.ty "int")) dNil)) isiF) (dNot (dCall (dCons (dVar 0) (dCons (dCst (.ty "bool")) dNil)) isiF)))) sNil)
theorem S17 : FnScope N17 [("_law_thing_in" : Str)] (defScope (top 26)) := ⟨rfl, rfl, rfl, by decide +kernel, rfl, by decide +kernel, by decide +kernel⟩
theorem N17_0 : N17[0]? = some ("_law_thing_in" : Str) := rfl
theorem V17_0 : Vis (defScope (top 26)) ("_law_thing_in" : Str) := by first | exact Or.inl rfl | exact Or.inr (Or.inl rfl) | exact Or.inr (Or.inr rfl)
theorem G17_int : (defScope (top 26)).names.lookup ("int" : Str) = some NameKind.globalImplicit := rfl
theorem G17_isinstance : (defScope (top 26)).names.lookup ("isinstance" : Str) = some NameKind.globalImplicit := rfl
theorem G17_bool : (defScope (top 26)).names.lookup ("bool" : Str) = some NameKind.globalImplicit := rfl
def N18 : List Str := [("_law_thing_in" : Str)]
def m18 (c : CF) : SD := (sSeq (sRet (dAnd (dCall (dCons (dVar 0) (dCons (dCst (.ty "str")) dNil)) isiF) (dAnd (d2 (eqB false) (dCall (dCons (dVar 0) dNil) lenF2) (dCst (.int (1)))) (d2 (inB false) (dVar 0) (dCst (.str (tx "abcdefghijklmnopqrstuvwxyz"))))))) sNil)
theorem S18 : FnScope N18 [("_law_thing_in" : Str)] (defScope (top 27)) := ⟨rfl, rfl, rfl, by decide +kernel, rfl, by decide +kernel, by decide +kernel⟩
theorem N18_0 : N18[0]? = some ("_law_thing_in" : Str) := rfl
theorem V18_0 : Vis (defScope (top 27)) ("_law_thing_in" : Str) := by first | exact Or.inl rfl | exact Or.inr (Or.inl rfl) | exact Or.inr (Or.inr rfl)
theorem G18_str : (defScope (top 27)).names.lookup ("str" : Str) = some NameKind.globalImplicit := rfl
theorem G18_isinstance : (defScope (top 27)).names.lookup ("isinstance" : Str) = some NameKind.globalImplicit := rfl
theorem G18_len : (defScope (top 27)).names.lookup ("len" : Str) = some NameKind.globalImplicit := rfl
def N19 : List Str := [("_law_thing_in" : Str), ("_law_own" : Str)]
def m19 (c : CF) : SD := (sSeq (sIf (tOrB (tNotB (dTru (dCall (dCons (dVar 0) (dCons (dCst (.ty "tuple")) dNil)) isiF))) (dBl (d2 (eqB true) (dCall (dCons (dVar 0) dNil) lenF2) (dCst (.int (2)))))) (sSeq (sRet (dCst (.bl false))) sNil) sNil) (sSeq (sIf (dBl (d2 (eqB true) (dLc 100000 (iVal (dVar 0)) (aName 1) (tAndB (dBl (d2 (isB true) (dVar 1) (dCst .non))) (tNotB (dTru (dCallF (dCons (dVar 1) dNil) [] 1 (c 17))))) (dVar 1) [1]) (dLst dNil))) (sSeq (sRet (dCst (.bl false))) sNil) sNil) (sSeq (sRet (dOr (d2 (inB false) (dCst .non) (dVar 0)) (d2 (ordD .le) (d2 ixD (dVar 0) (dCst (.int (0)))) (d2 ixD (dVar 0) (dCst (.int (1))))))) sNil)))
theorem S19 : FnScope N19 [("_law_thing_in" : Str)] (defScope (top 28)) := ⟨rfl, rfl, rfl, by decide +kernel, rfl, by decide +kernel, by decide +kernel⟩
theorem N19_0 : N19[0]? = some ("_law_thing_in" : Str) := rfl
theorem V19_0 : Vis (defScope (top 28)) ("_law_thing_in" : Str) := by first | exact Or.inl rfl | exact Or.inr (Or.inl rfl) | exact Or.inr (Or.inr rfl)
theorem G19_tuple : (defScope (top 28)).names.lookup ("tuple" : Str) = some NameKind.globalImplicit := rfl
theorem G19_isinstance : (defScope (top 28)).names.lookup ("isinstance" : Str) = some NameKind.globalImplicit := rfl
theorem G19_len : (defScope (top 28)).names.lookup ("len" : Str) = some NameKind.globalImplicit := rfl
theorem N19_1 : N19[1]? = some ("_law_own" : Str) := rfl
def N20 : List Str := [("_law_thing_in" : Str), ("_law_sizes" : Str)]
def m20 (c : CF) : SD := (sSeq (sIf (tOrB (tNotB (dTru (dCall (dCons (dVar 0) (dCons (dCst (.ty "tuple")) dNil)) isiF))) (tOrB (dBl (d2 (eqB false) (dVar 0) (dTup dNil))) (tNotB (dTru (dCall (dCons (d2 ixD (dVar 0) (dCst (.int (0)))) (dCons (dCst (.ty "str")) dNil)) isiF))))) (sSeq (sRet (dCst (.bl false))) sNil) sNil) (sSeq (sAsg (dDic [((dCst (.str (tx "is"))), (dCst (.int (4)))), ((dCst (.str (tx "plus"))), (dCst (.int (4)))), ((dCst (.str (tx "within"))), (dCst (.int (5)))), ((dCst (.str (tx "when"))), (dCst (.int (7))))]) (aName 1)) (sSeq (sIf (tOrB (dBl (d2 (inB true) (d2 ixD (dVar 0) (dCst (.int (0)))) (dVar 1))) (tOrB (dBl (d2 (eqB true) (dCall (dCons (dVar 0) dNil) lenF2) (d2 ixD (dVar 1) (d2 ixD (dVar 0) (dCst (.int (0))))))) (tNotB (dTru (dCallF (dCons (d2 ixD (dVar 0) (dCst (.int (1)))) dNil) [] 1 (c 18)))))) (sSeq (sRet (dCst (.bl false))) sNil) sNil) (sSeq (sIf (dBl (d2 (eqB false) (d2 ixD (dVar 0) (dCst (.int (0)))) (dCst (.str (tx "is"))))) (sSeq (sRet (dCallF (dCons (dSl (dVar 0) (pSome (dCst (.int (2)))) pNone) dNil) [] 1 (c 19))) sNil) sNil) (sSeq (sIf (dBl (d2 (eqB false) (d2 ixD (dVar 0) (dCst (.int (0)))) (dCst (.str (tx "plus"))))) (sSeq (sRet (dAnd (dCallF (dCons (d2 ixD (dVar 0) (dCst (.int (2)))) dNil) [] 1 (c 18)) (dCallF (dCons (d2 ixD (dVar 0) (dCst (.int (3)))) dNil) [] 1 (c 17)))) sNil) sNil) (sSeq (sIf (tOrB (tNotB (dTru (dCallF (dCons (d2 ixD (dVar 0) (dCst (.int (2)))) dNil) [] 1 (c 18)))) (tNotB (dTru (dCallF (dCons (dSl (dVar 0) (pSome (dCst (.int (3)))) (pSome (dCst (.int (5))))) dNil) [] 1 (c 19))))) (sSeq (sRet (dCst (.bl false))) sNil) sNil) (sSeq (sRet (dOr (d2 (eqB false) (d2 ixD (dVar 0) (dCst (.int (0)))) (dCst (.str (tx "within")))) (dCallF (dCons (dSl (dVar 0) (pSome (dCst (.int (5)))) pNone) dNil) [] 1 (c 19)))) sNil)))))))
theorem S20 : FnScope N20 [("_law_thing_in" : Str)] (defScope (top 29)) := ⟨rfl, rfl, rfl, by decide +kernel, rfl, by decide +kernel, by decide +kernel⟩
theorem N20_0 : N20[0]? = some ("_law_thing_in" : Str) := rfl
theorem V20_0 : Vis (defScope (top 29)) ("_law_thing_in" : Str) := by first | exact Or.inl rfl | exact Or.inr (Or.inl rfl) | exact Or.inr (Or.inr rfl)
theorem G20_tuple : (defScope (top 29)).names.lookup ("tuple" : Str) = some NameKind.globalImplicit := rfl
theorem G20_isinstance : (defScope (top 29)).names.lookup ("isinstance" : Str) = some NameKind.globalImplicit := rfl
theorem G20_str : (defScope (top 29)).names.lookup ("str" : Str) = some NameKind.globalImplicit := rfl
theorem N20_1 : N20[1]? = some ("_law_sizes" : Str) := rfl
theorem L20_1 : Loc (defScope (top 29)) ("_law_sizes" : Str) := by first | exact Or.inl rfl | exact Or.inr rfl
theorem V20_1 : Vis (defScope (top 29)) ("_law_sizes" : Str) := by first | exact Or.inl rfl | exact Or.inr (Or.inl rfl) | exact Or.inr (Or.inr rfl)
theorem G20_len : (defScope (top 29)).names.lookup ("len" : Str) = some NameKind.globalImplicit := rfl
theorem G20__law_is_letter : (defScope (top 29)).names.lookup ("_law_is_letter" : Str) = some NameKind.globalImplicit := rfl
theorem G20__law_is_range : (defScope (top 29)).names.lookup ("_law_is_range" : Str) = some NameKind.globalImplicit := rfl
theorem G20__law_is_int : (defScope (top 29)).names.lookup ("_law_is_int" : Str) = some NameKind.globalImplicit := rfl
def N21 : List Str := [("_law_thing_in" : Str), ("_law_letters" : Str), ("_law_steps_in" : Str), ("_law_i" : Str), ("_law_step_in" : Str), ("_law_own" : Str)]
def m21 (c : CF) : SD := (sSeq (sIf (tOrB (tNotB (dTru (dCall (dCons (dVar 0) (dCons (dCst (.ty "tuple")) dNil)) isiF))) (dBl (d2 (eqB true) (dCall (dCons (dVar 0) dNil) lenF2) (dCst (.int (2)))))) (sSeq (sRet (dTup (dCons (dCst (.str (tx "shape"))) (dCons (dNeg (dCst (.int (1)))) dNil)))) sNil) sNil) (sSeq (sIf (tOrB (tNotB (dTru (dCall (dCons (d2 ixD (dVar 0) (dCst (.int (0)))) (dCons (dCst (.ty "str")) dNil)) isiF))) (tNotB (dTru (dCall (dCons (d2 ixD (dVar 0) (dCst (.int (1)))) (dCons (dCst (.ty "tuple")) dNil)) isiF)))) (sSeq (sRet (dTup (dCons (dCst (.str (tx "shape"))) (dCons (dNeg (dCst (.int (1)))) dNil)))) sNil) sNil) (sSeq (sAsg (dVar 0) (aTup 2 (aCons (aName 1) (aCons (aName 2) aNil)))) (sSeq (sIf (tOrB (dBl (d2 (eqB true) (dLc 100000 (iVal (dVar 1)) (aName 5) (tNotB (dTru (dCallF (dCons (dVar 5) dNil) [] 1 (c 18)))) (dVar 5) [5]) (dLst dNil))) (dBl (d2 (eqB true) (dCall (dCons (dCall (dCons (dCall (dCons (dVar 1) dNil) listF2) dNil) setF) dNil) lenF2) (dCall (dCons (dVar 1) dNil) lenF2)))) (sSeq (sRet (dTup (dCons (dCst (.str (tx "names"))) (dCons (dNeg (dCst (.int (1)))) dNil)))) sNil) sNil) (sSeq (sFor 100000 (iEn (dVar 2)) (aTup 2 (aCons (aName 3) (aCons (aName 4) aNil))) (sSeq (sIf (tNotB (dTru (dCallF (dCons (dVar 4) dNil) [] 1 (c 20)))) (sSeq (sRet (dTup (dCons (dCst (.str (tx "step"))) (dCons (dVar 3) dNil)))) sNil) sNil) (sSeq (sIf (dBl (d2 (eqB true) (dLc 100000 (iVal (dSl (dVar 4) (pSome (dCst (.int (1)))) pNone)) (aName 5) (tAndB (dTru (dCall (dCons (dVar 5) (dCons (dCst (.ty "str")) dNil)) isiF)) (dBl (d2 (inB true) (dVar 5) (dVar 1)))) (dVar 5) [5]) (dLst dNil))) (sSeq (sRet (dTup (dCons (dCst (.str (tx "name"))) (dCons (dVar 3) dNil)))) sNil) sNil) sNil))) (sSeq (sRet (dCst .non)) sNil))))))
theorem S21 : FnScope N21 [("_law_thing_in" : Str)] (defScope (top 30)) := ⟨rfl, rfl, rfl, by decide +kernel, rfl, by decide +kernel, by decide +kernel⟩
theorem N21_0 : N21[0]? = some ("_law_thing_in" : Str) := rfl
theorem V21_0 : Vis (defScope (top 30)) ("_law_thing_in" : Str) := by first | exact Or.inl rfl | exact Or.inr (Or.inl rfl) | exact Or.inr (Or.inr rfl)
theorem G21_tuple : (defScope (top 30)).names.lookup ("tuple" : Str) = some NameKind.globalImplicit := rfl
theorem G21_isinstance : (defScope (top 30)).names.lookup ("isinstance" : Str) = some NameKind.globalImplicit := rfl
theorem G21_len : (defScope (top 30)).names.lookup ("len" : Str) = some NameKind.globalImplicit := rfl
theorem G21_str : (defScope (top 30)).names.lookup ("str" : Str) = some NameKind.globalImplicit := rfl
theorem N21_1 : N21[1]? = some ("_law_letters" : Str) := rfl
theorem L21_1 : Loc (defScope (top 30)) ("_law_letters" : Str) := by first | exact Or.inl rfl | exact Or.inr rfl
theorem N21_2 : N21[2]? = some ("_law_steps_in" : Str) := rfl
theorem L21_2 : Loc (defScope (top 30)) ("_law_steps_in" : Str) := by first | exact Or.inl rfl | exact Or.inr rfl
theorem V21_1 : Vis (defScope (top 30)) ("_law_letters" : Str) := by first | exact Or.inl rfl | exact Or.inr (Or.inl rfl) | exact Or.inr (Or.inr rfl)
theorem N21_5 : N21[5]? = some ("_law_own" : Str) := rfl
theorem G21_list : (defScope (top 30)).names.lookup ("list" : Str) = some NameKind.globalImplicit := rfl
theorem G21_set : (defScope (top 30)).names.lookup ("set" : Str) = some NameKind.globalImplicit := rfl
theorem V21_2 : Vis (defScope (top 30)) ("_law_steps_in" : Str) := by first | exact Or.inl rfl | exact Or.inr (Or.inl rfl) | exact Or.inr (Or.inr rfl)
theorem G21_enumerate : (defScope (top 30)).names.lookup ("enumerate" : Str) = some NameKind.globalImplicit := rfl
theorem N21_3 : N21[3]? = some ("_law_i" : Str) := rfl
theorem L21_3 : Loc (defScope (top 30)) ("_law_i" : Str) := by first | exact Or.inl rfl | exact Or.inr rfl
theorem N21_4 : N21[4]? = some ("_law_step_in" : Str) := rfl
theorem L21_4 : Loc (defScope (top 30)) ("_law_step_in" : Str) := by first | exact Or.inl rfl | exact Or.inr rfl
theorem V21_4 : Vis (defScope (top 30)) ("_law_step_in" : Str) := by first | exact Or.inl rfl | exact Or.inr (Or.inl rfl) | exact Or.inr (Or.inr rfl)
theorem G21__law_is_step : (defScope (top 30)).names.lookup ("_law_is_step" : Str) = some NameKind.globalImplicit := rfl
theorem V21_3 : Vis (defScope (top 30)) ("_law_i" : Str) := by first | exact Or.inl rfl | exact Or.inr (Or.inl rfl) | exact Or.inr (Or.inr rfl)
def N22 : List Str := [("_law_source_here" : Str), ("_law_thing_in" : Str), ("_law_at" : Str), ("_law_way" : Str), ("_law_some" : Str)]
def m22 (c : CF) : SD := (sSeq (sIf (tAndB (dTru (dCall (dCons (dVar 1) (dCons (dCst (.ty "tuple")) dNil)) isiF)) (tAndB (dBl (d2 (eqB true) (dVar 1) (dTup dNil))) (dBl (d2 (ordD .gt) (dCallF (dCons (dVar 0) (dCons (dCst (.int (5))) dNil)) [] 2 (c 12)) (dCst (.int (0))))))) (sSeq (sAsg (dCallF (dCons (dVar 0) (dCons (dCall (dCons (dVar 1) dNil) lenF2) dNil)) [] 2 (c 12)) (aName 2)) (sSeq (sRet (d2 addD (d2 addD (dSl (dVar 1) pNone (pSome (dVar 2))) (dTup (dCons (dCallF (dCons (dVar 0) (dCons (d2 ixD (dVar 1) (dVar 2)) dNil)) [] 2 (c 22)) dNil))) (dSl (dVar 1) (pSome (d2 addD (dVar 2) (dCst (.int (1))))) pNone))) sNil)) sNil) (sSeq (sAsg (dCallF (dCons (dVar 0) (dCons (dCst (.int (7))) dNil)) [] 2 (c 12)) (aName 3)) (sSeq (sIf (tAndB (dTru (dCall (dCons (dVar 1) (dCons (dCst (.ty "tuple")) dNil)) isiF)) (dBl (d2 (ordD .lt) (dVar 3) (dCst (.int (5)))))) (sSeq (sRet (d2 ixD (dLst (dCons (dSl (dVar 1) (pSome (dCst (.int (1)))) pNone) (dCons (dSl (dVar 1) pNone (pSome (dNeg (dCst (.int (1)))))) (dCons (d2 addD (dVar 1) (dSl (dVar 1) (pSome (dNeg (dCst (.int (1))))) pNone)) (dCons (dRev (dVar 1)) (dCons (dCall (dCons (dVar 1) dNil) listF2) dNil)))))) (dVar 3))) sNil) sNil) (sSeq (sAsg (dLst (dCons (dCst .non) (dCons (dCst (.bl true)) (dCons (dCst (.bl false)) (dCons (dCst (.int (0))) (dCons (dNeg (dCst (.int (1)))) (dCons (dCst (.int (7))) (dCons (dCst (.str (tx ""))) (dCons (dCst (.str (tx "f"))) (dCons (dCst (.str (tx "fg"))) (dCons (dCst (.str (tx "is"))) (dCons (dCst (.str (tx "plus"))) (dCons (dCst (.str (tx "when"))) (dCons (dCst (.str (tx "A"))) (dCons (dTup dNil) (dCons (dTup (dCons (dCst (.int (1))) (dCons (dCst (.int (0))) dNil))) (dCons (dCst (.str (tx "ff"))) (dCons (d2 powD (dCst (.int (10))) (dCst (.int (59)))) dNil)))))))))))))))))) (aName 4)) (sSeq (sRet (dCallF (dCons (dVar 0) (dCons (dVar 4) dNil)) [] 2 (c 13))) sNil)))))
theorem S22 : FnScope N22 [("_law_source_here" : Str), ("_law_thing_in" : Str)] (defScope (top 31)) := ⟨rfl, rfl, rfl, by decide +kernel, rfl, by decide +kernel, by decide +kernel⟩
theorem N22_1 : N22[1]? = some ("_law_thing_in" : Str) := rfl
theorem V22_1 : Vis (defScope (top 31)) ("_law_thing_in" : Str) := by first | exact Or.inl rfl | exact Or.inr (Or.inl rfl) | exact Or.inr (Or.inr rfl)
theorem G22_tuple : (defScope (top 31)).names.lookup ("tuple" : Str) = some NameKind.globalImplicit := rfl
theorem G22_isinstance : (defScope (top 31)).names.lookup ("isinstance" : Str) = some NameKind.globalImplicit := rfl
theorem N22_0 : N22[0]? = some ("_law_source_here" : Str) := rfl
theorem V22_0 : Vis (defScope (top 31)) ("_law_source_here" : Str) := by first | exact Or.inl rfl | exact Or.inr (Or.inl rfl) | exact Or.inr (Or.inr rfl)
theorem G22__law_pick : (defScope (top 31)).names.lookup ("_law_pick" : Str) = some NameKind.globalImplicit := rfl
theorem N22_2 : N22[2]? = some ("_law_at" : Str) := rfl
theorem L22_2 : Loc (defScope (top 31)) ("_law_at" : Str) := by first | exact Or.inl rfl | exact Or.inr rfl
theorem G22_len : (defScope (top 31)).names.lookup ("len" : Str) = some NameKind.globalImplicit := rfl
theorem V22_2 : Vis (defScope (top 31)) ("_law_at" : Str) := by first | exact Or.inl rfl | exact Or.inr (Or.inl rfl) | exact Or.inr (Or.inr rfl)
theorem G22__law_bent : (defScope (top 31)).names.lookup ("_law_bent" : Str) = some NameKind.globalImplicit := rfl
theorem N22_3 : N22[3]? = some ("_law_way" : Str) := rfl
theorem L22_3 : Loc (defScope (top 31)) ("_law_way" : Str) := by first | exact Or.inl rfl | exact Or.inr rfl
theorem V22_3 : Vis (defScope (top 31)) ("_law_way" : Str) := by first | exact Or.inl rfl | exact Or.inr (Or.inl rfl) | exact Or.inr (Or.inr rfl)
theorem G22_list : (defScope (top 31)).names.lookup ("list" : Str) = some NameKind.globalImplicit := rfl
theorem N22_4 : N22[4]? = some ("_law_some" : Str) := rfl
theorem L22_4 : Loc (defScope (top 31)) ("_law_some" : Str) := by first | exact Or.inl rfl | exact Or.inr rfl
theorem V22_4 : Vis (defScope (top 31)) ("_law_some" : Str) := by first | exact Or.inl rfl | exact Or.inr (Or.inl rfl) | exact Or.inr (Or.inr rfl)
theorem G22__law_any : (defScope (top 31)).names.lookup ("_law_any" : Str) = some NameKind.globalImplicit := rfl
def N23 : List Str := [("_law_thing_in" : Str), ("error" : Str)]
def m23 (c : CF) : SD := (sSeq (sTry (sSeq (sRet (dTup (dCons (dCst (.str (tx "told"))) (dCons (dCallF (dCons (dVar 0) dNil) [] 1 (c 10)) dNil)))) sNil) nErr e_InvalidPaper 2 1 [.con (.str (tx "paper")), .fld 0, .fld 1]) sNil)
theorem S23 : FnScope N23 [("_law_thing_in" : Str)] (defScope (top 32)) := ⟨rfl, rfl, rfl, by decide +kernel, rfl, by decide +kernel, by decide +kernel⟩
theorem N23_0 : N23[0]? = some ("_law_thing_in" : Str) := rfl
theorem V23_0 : Vis (defScope (top 32)) ("_law_thing_in" : Str) := by first | exact Or.inl rfl | exact Or.inr (Or.inl rfl) | exact Or.inr (Or.inr rfl)
theorem G23_lets_names : (defScope (top 32)).names.lookup ("lets_names" : Str) = some NameKind.globalImplicit := rfl
theorem G23_isinstance : (defScope (top 32)).names.lookup ("isinstance" : Str) = some NameKind.globalImplicit := rfl
theorem G23_PaperError : (defScope (top 32)).names.lookup ("PaperError" : Str) = some NameKind.globalImplicit := rfl
theorem N23_1 : N23[1]? = some ("error" : Str) := rfl
theorem G23_InvalidPaper : (defScope (top 32)).names.lookup ("InvalidPaper" : Str) = some NameKind.globalImplicit := rfl
def N24 : List Str := [("_law_some" : Str), ("_law_odd" : Str), ("_law_one" : Str)]
def m24 (c : CF) : SD := (sSeq (sAsg (dLst (dCons (dTup (dCons (dCst (.str (tx "is"))) (dCons (dCst (.str (tx "f"))) (dCons (dCst (.int (0))) (dCons (dCst (.int (0))) dNil))))) (dCons (dTup (dCons (dCst (.str (tx "plus"))) (dCons (dCst (.str (tx "f"))) (dCons (dCst (.str (tx "g"))) (dCons (dNeg (dCst (.int (1)))) dNil))))) (dCons (dTup (dCons (dCst (.str (tx "within"))) (dCons (dCst (.str (tx "f"))) (dCons (dCst (.str (tx "g"))) (dCons (dCst .non) (dCons (dCst (.int (3))) dNil)))))) dNil)))) (aName 0)) (sSeq (sExpr (dMeth "list" (dVar 0) (dCons (dTup (dCons (dCst (.str (tx "when"))) (dCons (dCst (.str (tx "f"))) (dCons (dCst (.str (tx "g"))) (dCons (dCst (.int (1))) (dCons (dCst (.int (2))) (dCons (dCst .non) (dCons (dCst .non) dNil)))))))) dNil) appendM)) (sSeq (sAsg (dLst (dCons (dTup (dCons (dCst (.str (tx "is"))) (dCons (dCst (.str (tx "f"))) (dCons (dCst (.int (1))) (dCons (dCst (.int (0))) dNil))))) (dCons (dTup (dCons (dCst (.str (tx "is"))) (dCons (dCst (.str (tx "f"))) (dCons (dCst (.bl true)) (dCons (dCst (.int (3))) dNil))))) (dCons (dTup (dCons (dCst (.str (tx "is"))) (dCons (dCst (.str (tx "ff"))) (dCons (dCst (.int (0))) (dCons (dCst (.int (0))) dNil))))) (dCons (dTup (dCons (dCst (.str (tx "is"))) (dCons (dCst (.str (tx "F"))) (dCons (dCst (.int (0))) (dCons (dCst (.int (0))) dNil))))) (dCons (dTup (dCons (dCst (.str (tx "is"))) (dCons (dCst (.str (tx "f"))) (dCons (dCst (.int (0))) dNil)))) dNil)))))) (aName 1)) (sSeq (sAsg (d2 addD (dVar 1) (dLst (dCons (dTup (dCons (dCst (.str (tx "plus"))) (dCons (dCst (.str (tx "f"))) (dCons (dCst (.str (tx "g"))) dNil)))) (dCons (dTup (dCons (dCst (.str (tx "plus"))) (dCons (dCst (.str (tx "f"))) (dCons (dCst (.str (tx "g"))) (dCons (dCst .non) dNil))))) (dCons (dTup (dCons (dCst (.str (tx "plus"))) (dCons (dCst (.str (tx "f"))) (dCons (dCst (.str (tx "g"))) (dCons (dCst (.bl true)) dNil))))) (dCons (dTup (dCons (dCst (.str (tx "plus"))) (dCons (dCst (.str (tx "f"))) (dCons (dCst (.int (1))) (dCons (dCst (.int (1))) dNil))))) dNil)))))) (aName 1)) (sSeq (sExpr (dMeth "list" (dVar 1) (dCons (dTup (dCons (dCst (.str (tx "within"))) (dCons (dCst (.str (tx "f"))) (dCons (dCst (.str (tx "g"))) (dCons (dCst (.int (4))) (dCons (dCst (.int (3))) dNil)))))) dNil) appendM)) (sSeq (sAsg (d2 addD (dVar 1) (dLst (dCons (dTup (dCons (dCst (.str (tx "when"))) (dCons (dCst (.str (tx "f"))) (dCons (dCst (.str (tx "g"))) (dCons (dCst (.int (1))) (dCons (dCst (.int (2))) (dCons (dCst (.int (4))) (dCons (dCst (.int (3))) dNil)))))))) (dCons (dTup (dCons (dCst (.str (tx "when"))) (dCons (dCst (.str (tx "f"))) (dCons (dCst (.str (tx "g"))) (dCons (dCst (.int (2))) (dCons (dCst (.int (1))) (dCons (dCst (.int (3))) (dCons (dCst (.int (4))) dNil)))))))) (dCons (dTup (dCons (dCst (.str (tx "when"))) (dCons (dCst (.str (tx "f"))) (dCons (dCst (.str (tx "g"))) (dCons (dCst (.int (1))) (dCons (dCst (.int (2))) dNil)))))) dNil))))) (aName 1)) (sSeq (sAsg (d2 addD (dVar 1) (dLst (dCons (dLst (dCons (dCst (.str (tx "is"))) (dCons (dCst (.str (tx "f"))) (dCons (dCst (.int (0))) (dCons (dCst (.int (0))) dNil))))) (dCons (dTup (dCons (dCst (.str (tx "is"))) (dCons (dCst (.str (tx ""))) (dCons (dCst (.int (0))) (dCons (dCst (.int (0))) dNil))))) (dCons (dTup (dCons (dCst (.str (tx "was"))) (dCons (dCst (.str (tx "f"))) (dCons (dCst (.int (0))) (dCons (dCst (.int (0))) dNil))))) (dCons (dTup (dCons (dCst (.str (tx "is"))) (dCons (dTup (dCons (dCst (.str (tx "f"))) dNil)) (dCons (dCst (.int (0))) (dCons (dCst (.int (0))) dNil))))) (dCons (dTup (dCons (dCst (.str (tx "is"))) (dCons (dCst (.str (tx "f"))) (dCons (dTup (dCons (dCst (.int (0))) (dCons (dCst (.int (0))) dNil))) dNil)))) dNil))))))) (aName 1)) (sSeq (sAsg (d2 addD (dVar 1) (dLst (dCons (dCst .non) (dCons (dTup dNil) (dCons (dTup (dCons (dCst (.str (tx "is"))) dNil)) (dCons (dCst (.str (tx "is"))) dNil)))))) (aName 1)) (sSeq (sIf (tOrB (dBl (d2 (eqB true) (dLc 100000 (iVal (dVar 0)) (aName 2) tYesD (dCallF (dCons (dVar 2) dNil) [] 1 (c 7)) [2]) (d2 mulD (dLst (dCons (dCst (.bl true)) dNil)) (dCst (.int (4)))))) (dBl (d2 (eqB true) (dLc 100000 (iVal (dVar 1)) (aName 2) tYesD (dCallF (dCons (dVar 2) dNil) [] 1 (c 7)) [2]) (d2 mulD (dLst (dCons (dCst (.bl false)) dNil)) (dCall (dCons (dVar 1) dNil) lenF2))))) (sSeq (sRet (dCst (.bl false))) sNil) sNil) (sSeq (sAsg (dLst (dCons (dTup (dCons (dCst .non) (dCons (dCst .non) dNil))) (dCons (dTup (dCons (dCst .non) (dCons (dNeg (dCst (.int (3)))) dNil))) (dCons (dTup (dCons (dCst (.int (4))) (dCons (dCst .non) dNil))) (dCons (dTup (dCons (dCst (.int (4))) (dCons (dCst (.int (4))) dNil))) (dCons (dTup (dCons (dNeg (d2 powD (dCst (.int (10))) (dCst (.int (59))))) (dCons (d2 powD (dCst (.int (10))) (dCst (.int (59)))) dNil))) dNil)))))) (aName 0)) (sSeq (sAsg (dLst (dCons (dTup (dCons (dCst (.int (5))) (dCons (dCst (.int (4))) dNil))) (dCons (dTup (dCons (dCst (.bl true)) (dCons (dCst (.int (4))) dNil))) (dCons (dTup (dCons (dCst (.int (0))) (dCons (dCst (.bl false)) dNil))) (dCons (dLst (dCons (dCst (.int (0))) (dCons (dCst (.int (1))) dNil))) (dCons (dTup (dCons (dCst (.int (0))) dNil)) (dCons (dTup (dCons (dCst (.int (0))) (dCons (dCst (.int (1))) (dCons (dCst (.int (2))) dNil)))) (dCons (dTup dNil) (dCons (dCst .non) (dCons (dCst (.int (3))) (dCons (dTup (dCons (dCst (.str (tx "0"))) (dCons (dCst (.str (tx "1"))) dNil))) (dCons (dTup (dCons (dTup (dCons (dCst (.int (0))) dNil)) (dCons (dCst (.int (1))) dNil))) (dCons (dCst (.str (tx "01"))) dNil))))))))))))) (aName 1)) (sSeq (sExpr (dMeth "list" (dVar 1) (dCons (dTup (dCons (dCst (.int (0))) (dCons (dCst .non) (dCons (dCst .non) dNil)))) dNil) appendM)) (sSeq (sRet (d2 (eqB false) (dLc 100000 (iVal (d2 addD (dVar 0) (dVar 1))) (aName 2) tYesD (dCallF (dCons (dVar 2) dNil) [] 1 (c 5)) [2]) (d2 addD (d2 mulD (dLst (dCons (dCst (.bl true)) dNil)) (dCst (.int (5)))) (d2 mulD (dLst (dCons (dCst (.bl false)) dNil)) (dCall (dCons (dVar 1) dNil) lenF2))))) sNil)))))))))))))
theorem S24 : FnScope N24 [] (defScope (top 33)) := ⟨rfl, rfl, rfl, by decide +kernel, rfl, by decide +kernel, by decide +kernel⟩
theorem N24_0 : N24[0]? = some ("_law_some" : Str) := rfl
theorem L24_0 : Loc (defScope (top 33)) ("_law_some" : Str) := by first | exact Or.inl rfl | exact Or.inr rfl
theorem V24_0 : Vis (defScope (top 33)) ("_law_some" : Str) := by first | exact Or.inl rfl | exact Or.inr (Or.inl rfl) | exact Or.inr (Or.inr rfl)
theorem N24_1 : N24[1]? = some ("_law_odd" : Str) := rfl
theorem L24_1 : Loc (defScope (top 33)) ("_law_odd" : Str) := by first | exact Or.inl rfl | exact Or.inr rfl
theorem V24_1 : Vis (defScope (top 33)) ("_law_odd" : Str) := by first | exact Or.inl rfl | exact Or.inr (Or.inl rfl) | exact Or.inr (Or.inr rfl)
theorem N24_2 : N24[2]? = some ("_law_one" : Str) := rfl
theorem G24_len : (defScope (top 33)).names.lookup ("len" : Str) = some NameKind.globalImplicit := rfl
def N25 : List Str := [("_law_script" : Str), ("_law_source_here" : Str), ("_law_lap" : Str), ("_law_plan_here" : Str), ("_law_lot" : Str), ("_law_turn" : Str), ("_law_once" : Str), ("_law_thing_in" : Str), ("_law_fault_here" : Str), ("_law_kept" : Str), ("_law_due" : Str), ("_law_one" : Str), ("_law_two" : Str)]
def m25 (c : CF) : SD := (sSeq (sAsg (dCallF (dCons (dVar 0) dNil) [] 1 (c 11)) (aName 1)) (sSeq (sIf (tNotB (dTru (dCallF dNil [] 0 (c 24)))) (sSeq (sRet (dCst (.bl false))) sNil) sNil) (sSeq (sFor 100000 (iRng1 (dCons (dCst (.int (2))) dNil)) (aName 2) (sSeq (sAsg (dCallF (dCons (dVar 1) (dCons (dCst (.int (5))) dNil)) [] 2 (c 16)) (aName 3)) (sSeq (sAsg (dLst (dCons (dVar 3) (dCons (dTup (dCons (d2 addD (d2 ixD (dVar 3) (dCst (.int (0)))) (dSl (d2 ixD (dVar 3) (dCst (.int (0)))) pNone (pSome (dCst (.int (1)))))) (dCons (d2 ixD (dVar 3) (dCst (.int (1)))) dNil))) (dCons (dTup (dCons (dSl (d2 ixD (dVar 3) (dCst (.int (0)))) (pSome (dCst (.int (1)))) pNone) (dCons (d2 ixD (dVar 3) (dCst (.int (1)))) dNil))) (dCons (dCall (dCons (dVar 3) dNil) listF2) (dCons (dTup (dCons (d2 ixD (dVar 3) (dCst (.int (0)))) (dCons (dCall (dCons (d2 ixD (dVar 3) (dCst (.int (1)))) dNil) listF2) dNil))) dNil)))))) (aName 4)) (sSeq (sAsg (d2 addD (dVar 4) (dLst (dCons (dTup (dCons (dCall (dCons (d2 ixD (dVar 3) (dCst (.int (0)))) dNil) listF2) (dCons (d2 ixD (dVar 3) (dCst (.int (1)))) dNil))) (dCons (dTup (dCons (dCall (dCons (d2 ixD (dVar 3) (dCst (.int (0)))) dNil) tupleF2) (dCons (d2 ixD (dVar 3) (dCst (.int (1)))) dNil))) (dCons (d2 addD (dVar 3) (dTup (dCons (dTup dNil) dNil))) (dCons (dTup (dCons (dMeth "str" (d2 ixD (dVar 3) (dCst (.int (0)))) dNil upperM) (dCons (d2 ixD (dVar 3) (dCst (.int (1)))) dNil))) dNil)))))) (aName 4)) (sSeq (sAsg (d2 addD (dVar 4) (dLst (dCons (dCst .non) (dCons (dTup (dCons (d2 ixD (dVar 3) (dCst (.int (0)))) (dCons (dTup dNil) dNil))) (dCons (dTup (dCons (dCst (.int (3))) (dCons (dTup dNil) dNil))) (dCons (dTup (dCons (d2 addD (d2 ixD (dVar 3) (dCst (.int (0)))) (dCst (.str (tx "1")))) (dCons (d2 ixD (dVar 3) (dCst (.int (1)))) dNil))) (dCons (dTup (dCons (d2 ixD (dVar 3) (dCst (.int (0)))) (dCons (d2 mulD (d2 ixD (dVar 3) (dCst (.int (1)))) (dCst (.int (5)))) dNil))) (dCons (dTup (dCons (dCst (.str (tx ""))) (dCons (dTup dNil) dNil))) dNil)))))))) (aName 4)) (sSeq (sAsg (d2 addD (dVar 4) (dLst (dCons (d2 ixD (dVar 3) (dCst (.int (1)))) (dCons (dTup (dCons (dCst (.str (tx "abcdefghijk"))) (dCons (d2 ixD (dVar 3) (dCst (.int (1)))) dNil))) (dCons (dTup (dCons (dCst (.str (tx ""))) (dCons (d2 ixD (dVar 3) (dCst (.int (1)))) dNil))) dNil))))) (aName 4)) (sSeq (sFor 100000 (iRng1 (dCons (dCst (.int (12))) dNil)) (aName 5) (sSeq (sAsg (dCallF (dCons (dVar 1) (dCons (dVar 3) dNil)) [] 2 (c 22)) (aName 6)) (sSeq (sAsg (d2 addD (dVar 4) (dLst (dCons (dVar 6) (dCons (dCallF (dCons (dVar 1) (dCons (dVar 6) dNil)) [] 2 (c 22)) dNil)))) (aName 4)) sNil))) (sSeq (sFor 100000 (iVal (dVar 4)) (aName 7) (sSeq (sPar [8, 9] (dCons (dCallF (dCons (dVar 7) dNil) [] 1 (c 21)) (dCons (dCall (dCons (dVar 7) dNil) reprF) dNil))) (sSeq (sAsg (dIte (dBl (d2 (isB false) (dVar 8) (dCst .non))) (dTup (dCons (dCst (.str (tx "told"))) (dCons (dCall (dCons (d2 ixD (dVar 7) (dCst (.int (1)))) dNil) lenF2) dNil))) (dTup (dCons (dCst (.str (tx "paper"))) (dCons (d2 ixD (dVar 8) (dCst (.int (0)))) (dCons (d2 ixD (dVar 8) (dCst (.int (1)))) dNil))))) (aName 10)) (sSeq (sIf (tOrB (dBl (d2 (eqB true) (dCall (dCons (dCallF (dCons (dVar 7) dNil) [] 1 (c 23)) dNil) reprF) (dCall (dCons (dVar 10) dNil) reprF))) (dBl (d2 (eqB true) (dCall (dCons (dVar 7) dNil) reprF) (dVar 9)))) (sSeq (sRet (dCst (.bl false))) sNil) sNil) sNil)))) (sSeq (sFor 100000 (iRng1 (dCons (dCst (.int (8))) dNil)) (aName 5) (sSeq (sPar [11, 12] (dCons (dCallF (dCons (dVar 1) (dCons (dCallF (dCons (dVar 1) dNil) [] 1 (c 14)) dNil)) [] 2 (c 22)) (dCons (dCallF (dCons (dVar 1) (dCons (dCallF (dCons (dVar 1) (dCons (dCst (.str (tx "fg"))) dNil)) [] 2 (c 15)) dNil)) [] 2 (c 22)) dNil))) (sSeq (sIf (dBl (d2 (eqB true) (dCall (dCons (dLst (dCons (dCallF (dCons (dVar 11) dNil) [] 1 (c 5)) (dCons (dCallF (dCons (dVar 12) dNil) [] 1 (c 7)) dNil))) dNil) reprF) (dCall (dCons (dLst (dCons (dCallF (dCons (dVar 11) dNil) [] 1 (c 19)) (dCons (dCallF (dCons (dVar 12) dNil) [] 1 (c 20)) dNil))) dNil) reprF))) (sSeq (sRet (dCst (.bl false))) sNil) sNil) sNil))) (sSeq (sIf (tOrB (dBl (d2 (isB true) (dCallF (dCons (dCallF (dCons (dVar 1) dNil) [] 1 (c 14)) dNil) [] 1 (c 5)) (dCst (.bl true)))) (dBl (d2 (eqB true) (dCallF (dCons (dVar 3) dNil) [] 1 (c 10)) (dCall (dCons (d2 ixD (dVar 3) (dCst (.int (1)))) dNil) lenF2)))) (sSeq (sRet (dCst (.bl false))) sNil) sNil) sNil)))))))))) (sSeq (sRet (dCst (.bl true))) sNil))))
theorem S25 : FnScope N25 [("_law_script" : Str)] (defScope (top 34)) := ⟨rfl, rfl, rfl, by decide +kernel, rfl, by decide +kernel, by decide +kernel⟩
theorem N25_1 : N25[1]? = some ("_law_source_here" : Str) := rfl
theorem L25_1 : Loc (defScope (top 34)) ("_law_source_here" : Str) := by first | exact Or.inl rfl | exact Or.inr rfl
theorem N25_0 : N25[0]? = some ("_law_script" : Str) := rfl
theorem V25_0 : Vis (defScope (top 34)) ("_law_script" : Str) := by first | exact Or.inl rfl | exact Or.inr (Or.inl rfl) | exact Or.inr (Or.inr rfl)
theorem G25__law_source : (defScope (top 34)).names.lookup ("_law_source" : Str) = some NameKind.globalImplicit := rfl
theorem G25__law_by_hand : (defScope (top 34)).names.lookup ("_law_by_hand" : Str) = some NameKind.globalImplicit := rfl
theorem G25_range : (defScope (top 34)).names.lookup ("range" : Str) = some NameKind.globalImplicit := rfl
theorem N25_2 : N25[2]? = some ("_law_lap" : Str) := rfl
theorem L25_2 : Loc (defScope (top 34)) ("_law_lap" : Str) := by first | exact Or.inl rfl | exact Or.inr rfl
theorem N25_3 : N25[3]? = some ("_law_plan_here" : Str) := rfl
theorem L25_3 : Loc (defScope (top 34)) ("_law_plan_here" : Str) := by first | exact Or.inl rfl | exact Or.inr rfl
theorem V25_1 : Vis (defScope (top 34)) ("_law_source_here" : Str) := by first | exact Or.inl rfl | exact Or.inr (Or.inl rfl) | exact Or.inr (Or.inr rfl)
theorem G25__law_plan : (defScope (top 34)).names.lookup ("_law_plan" : Str) = some NameKind.globalImplicit := rfl
theorem N25_4 : N25[4]? = some ("_law_lot" : Str) := rfl
theorem L25_4 : Loc (defScope (top 34)) ("_law_lot" : Str) := by first | exact Or.inl rfl | exact Or.inr rfl
theorem V25_3 : Vis (defScope (top 34)) ("_law_plan_here" : Str) := by first | exact Or.inl rfl | exact Or.inr (Or.inl rfl) | exact Or.inr (Or.inr rfl)
theorem G25_list : (defScope (top 34)).names.lookup ("list" : Str) = some NameKind.globalImplicit := rfl
theorem V25_4 : Vis (defScope (top 34)) ("_law_lot" : Str) := by first | exact Or.inl rfl | exact Or.inr (Or.inl rfl) | exact Or.inr (Or.inr rfl)
theorem G25_tuple : (defScope (top 34)).names.lookup ("tuple" : Str) = some NameKind.globalImplicit := rfl
theorem N25_5 : N25[5]? = some ("_law_turn" : Str) := rfl
theorem L25_5 : Loc (defScope (top 34)) ("_law_turn" : Str) := by first | exact Or.inl rfl | exact Or.inr rfl
theorem N25_6 : N25[6]? = some ("_law_once" : Str) := rfl
theorem L25_6 : Loc (defScope (top 34)) ("_law_once" : Str) := by first | exact Or.inl rfl | exact Or.inr rfl
theorem G25__law_bent : (defScope (top 34)).names.lookup ("_law_bent" : Str) = some NameKind.globalImplicit := rfl
theorem V25_6 : Vis (defScope (top 34)) ("_law_once" : Str) := by first | exact Or.inl rfl | exact Or.inr (Or.inl rfl) | exact Or.inr (Or.inr rfl)
theorem N25_7 : N25[7]? = some ("_law_thing_in" : Str) := rfl
theorem L25_7 : Loc (defScope (top 34)) ("_law_thing_in" : Str) := by first | exact Or.inl rfl | exact Or.inr rfl
theorem V25_7 : Vis (defScope (top 34)) ("_law_thing_in" : Str) := by first | exact Or.inl rfl | exact Or.inr (Or.inl rfl) | exact Or.inr (Or.inr rfl)
theorem G25__law_fault : (defScope (top 34)).names.lookup ("_law_fault" : Str) = some NameKind.globalImplicit := rfl
theorem G25_repr : (defScope (top 34)).names.lookup ("repr" : Str) = some NameKind.globalImplicit := rfl
theorem N25_8 : N25[8]? = some ("_law_fault_here" : Str) := rfl
theorem N25_9 : N25[9]? = some ("_law_kept" : Str) := rfl
theorem N25_10 : N25[10]? = some ("_law_due" : Str) := rfl
theorem L25_10 : Loc (defScope (top 34)) ("_law_due" : Str) := by first | exact Or.inl rfl | exact Or.inr rfl
theorem V25_8 : Vis (defScope (top 34)) ("_law_fault_here" : Str) := by first | exact Or.inl rfl | exact Or.inr (Or.inl rfl) | exact Or.inr (Or.inr rfl)
theorem G25_len : (defScope (top 34)).names.lookup ("len" : Str) = some NameKind.globalImplicit := rfl
theorem G25__law_told : (defScope (top 34)).names.lookup ("_law_told" : Str) = some NameKind.globalImplicit := rfl
theorem V25_10 : Vis (defScope (top 34)) ("_law_due" : Str) := by first | exact Or.inl rfl | exact Or.inr (Or.inl rfl) | exact Or.inr (Or.inr rfl)
theorem V25_9 : Vis (defScope (top 34)) ("_law_kept" : Str) := by first | exact Or.inl rfl | exact Or.inr (Or.inl rfl) | exact Or.inr (Or.inr rfl)
theorem G25__law_range : (defScope (top 34)).names.lookup ("_law_range" : Str) = some NameKind.globalImplicit := rfl
theorem G25__law_step : (defScope (top 34)).names.lookup ("_law_step" : Str) = some NameKind.globalImplicit := rfl
theorem N25_11 : N25[11]? = some ("_law_one" : Str) := rfl
theorem N25_12 : N25[12]? = some ("_law_two" : Str) := rfl
theorem V25_11 : Vis (defScope (top 34)) ("_law_one" : Str) := by first | exact Or.inl rfl | exact Or.inr (Or.inl rfl) | exact Or.inr (Or.inr rfl)
theorem G25_is_range : (defScope (top 34)).names.lookup ("is_range" : Str) = some NameKind.globalImplicit := rfl
theorem V25_12 : Vis (defScope (top 34)) ("_law_two" : Str) := by first | exact Or.inl rfl | exact Or.inr (Or.inl rfl) | exact Or.inr (Or.inr rfl)
theorem G25_is_step : (defScope (top 34)).names.lookup ("is_step" : Str) = some NameKind.globalImplicit := rfl
theorem G25__law_is_range : (defScope (top 34)).names.lookup ("_law_is_range" : Str) = some NameKind.globalImplicit := rfl
theorem G25__law_is_step : (defScope (top 34)).names.lookup ("_law_is_step" : Str) = some NameKind.globalImplicit := rfl
theorem G25_lets_names : (defScope (top 34)).names.lookup ("lets_names" : Str) = some NameKind.globalImplicit := rfl
end K65
namespace K65
open PySem PySem.Spec PyProof.Rows L2 DV
theorem b0 {w : World} {K : PySem.W.Frag} {mg : Str → Option Value} {base : Heap} {k : Nat} {q : Str} {f : Addr} {cdv : Value} {A : Around} {outer : List PySem.Env} {s : Shared} {H : Hp} {E : XK} {W : XWS} {wx : WX} {c : CF} (Y : Fx w K mg base k c) (b : Bd tabs k (cxOf (CX P w) P w K mg base N0 q (defScope (top 5)) f cdv A outer s H E) W wx) :
    PSs (cxOf (CX P w) P w K mg base N0 q (defScope (top 5)) f cdv A outer s H E) (defBody (top 5)) (TDS ⟨K, w, P⟩ W (m0 c)) := by
  delta m0
  exact (ss_cons (s_ret (d_and (d_callB (fun _ => c_isi) G0_isinstance Y.b_isinstance (by rfl) (a_cons (d_var N0_0 V0_0 nd_thing nc_thing) (a_cons (d_tyN G0_int Y.b_int (by rfl) (by decide) nd_int) a_nil (by exact rfl)) (by exact rfl)) (by decide) nd_isinstance (by exact rfl) (by exact rfl)) (d_one (d_not (d_callB (fun _ => c_isi) G0_isinstance Y.b_isinstance (by rfl) (a_cons (d_var N0_0 V0_0 nd_thing nc_thing) (a_cons (d_tyN G0_bool Y.b_bool (by rfl) (by decide) nd_bool) a_nil (by exact rfl)) (by exact rfl)) (by decide) nd_isinstance (by exact rfl) (by exact rfl)))))) ss_nil)
theorem b1 {w : World} {K : PySem.W.Frag} {mg : Str → Option Value} {base : Heap} {k : Nat} {q : Str} {f : Addr} {cdv : Value} {A : Around} {outer : List PySem.Env} {s : Shared} {H : Hp} {E : XK} {W : XWS} {wx : WX} {c : CF} (Y : Fx w K mg base k c) (b : Bd tabs k (cxOf (CX P w) P w K mg base N1 q (defScope (top 6)) f cdv A outer s H E) W wx) :
    PSs (cxOf (CX P w) P w K mg base N1 q (defScope (top 6)) f cdv A outer s H E) (defBody (top 6)) (TDS ⟨K, w, P⟩ W (m1 c)) := by
  delta m1
  exact (ss_cons (s_ret (d_or (d_cmp (fun _ => o_is) (d_var N1_0 V1_0 nd_thing nc_thing) d_non (by exact rfl)) (d_one (d_cal (Y.f 0 _ _ rfl) b G1_is_integer nd_is_integer (a_cons (d_var N1_0 V1_0 nd_thing nc_thing) a_nil (by exact rfl)) (by exact rfl) (by exact rfl))))) ss_nil)
theorem b2 {w : World} {K : PySem.W.Frag} {mg : Str → Option Value} {base : Heap} {k : Nat} {q : Str} {f : Addr} {cdv : Value} {A : Around} {outer : List PySem.Env} {s : Shared} {H : Hp} {E : XK} {W : XWS} {wx : WX} {c : CF} (Y : Fx w K mg base k c) (b : Bd tabs k (cxOf (CX P w) P w K mg base N2 q (defScope (top 10)) f cdv A outer s H E) W wx) :
    PSs (cxOf (CX P w) P w K mg base N2 q (defScope (top 10)) f cdv A outer s H E) (defBody (top 10)) (TDS ⟨K, w, P⟩ W (m2 c)) := by
  delta m2
  exact (ss_cons (s_ret (d_and (d_callB (fun _ => c_isi) G2_isinstance Y.b_isinstance (by rfl) (a_cons (d_var N2_0 V2_0 nd_thing nc_thing) (a_cons (d_tyN G2_str Y.b_str (by rfl) (by decide) nd_str) a_nil (by exact rfl)) (by exact rfl)) (by decide) nd_isinstance (by exact rfl) (by exact rfl)) (d_and (d_cmp (fun _ => o_eq b.hu64) (d_callB (fun _ => c_len2) G2_len Y.b_len (by rfl) (a_cons (d_var N2_0 V2_0 nd_thing nc_thing) a_nil (by exact rfl)) (by decide) nd_len (by exact rfl) (by exact rfl)) d_int (by exact rfl)) (d_one (d_cmp (fun _ => o_in b.hu65) (d_var N2_0 V2_0 nd_thing nc_thing) (d_globE G2_LETTERS Y.k_LETTERS nd_LETTERS) (by exact rfl)))))) ss_nil)
theorem b3 {w : World} {K : PySem.W.Frag} {mg : Str → Option Value} {base : Heap} {k : Nat} {q : Str} {f : Addr} {cdv : Value} {A : Around} {outer : List PySem.Env} {s : Shared} {H : Hp} {E : XK} {W : XWS} {wx : WX} {c : CF} (Y : Fx w K mg base k c) (b : Bd tabs k (cxOf (CX P w) P w K mg base N3 q (defScope (top 11)) f cdv A outer s H E) W wx) :
    PSs (cxOf (CX P w) P w K mg base N3 q (defScope (top 11)) f cdv A outer s H E) (defBody (top 11)) (TDS ⟨K, w, P⟩ W (m3 c)) := by
  delta m3
  exact (ss_cons (s_ret (d_and (d_callB (fun _ => c_isi) G3_isinstance Y.b_isinstance (by rfl) (a_cons (d_var N3_0 V3_0 nd_thing nc_thing) (a_cons (d_tyN G3_str Y.b_str (by rfl) (by decide) nd_str) a_nil (by exact rfl)) (by exact rfl)) (by decide) nd_isinstance (by exact rfl) (by exact rfl)) (d_one (d_callB (fun _ => c_all rfl) G3_all Y.b_all (by rfl) (a_cons (d_lc rfl S3.nd (i_val (d_var N3_0 V3_0 nd_thing nc_thing)) (own := [(("sign" : Str), 1)]) (blkB_ok (by exact rfl)) (by decide) (fun s_ H_ C_ cl_ fp_ => (g_name S3.nd N3_1 (by first | exact Or.inl rfl | exact Or.inr rfl) ((by first | exact Or.inr rfl | exact Or.inl rfl)))) (fun s_ H_ C_ cl_ fp_ => ts_nil) (fun s_ H_ C_ cl_ fp_ => (d_cmp (fun _ => o_in b.hu65) (d_var N3_1 (by first | exact Or.inl rfl | exact Or.inr (Or.inl rfl) | exact Or.inr (Or.inr rfl)) nd_sign nc_sign) (d_globE (by exact rfl) Y.k_LETTERS nd_LETTERS) (by exact rfl))) (by intro _; rfl)) a_nil (by exact rfl)) (by decide) nd_all (by exact rfl) (by exact rfl))))) ss_nil)
theorem b4 {w : World} {K : PySem.W.Frag} {mg : Str → Option Value} {base : Heap} {k : Nat} {q : Str} {f : Addr} {cdv : Value} {A : Around} {outer : List PySem.Env} {s : Shared} {H : Hp} {E : XK} {W : XWS} {wx : WX} {c : CF} (Y : Fx w K mg base k c) (b : Bd tabs k (cxOf (CX P w) P w K mg base N4 q (defScope (top 12)) f cdv A outer s H E) W wx) :
    PSs (cxOf (CX P w) P w K mg base N4 q (defScope (top 12)) f cdv A outer s H E) (defBody (top 12)) (TDS ⟨K, w, P⟩ W (m4 c)) := by
  delta m4
  exact (ss_cons (s_ret (d_and (d_cal (Y.f 3 _ _ rfl) b G4_is_letters nd_is_letters (a_cons (d_var N4_0 V4_0 nd_thing nc_thing) a_nil (by exact rfl)) (by exact rfl) (by exact rfl)) (d_one (d_cmp (fun _ => o_eq b.hu64) (d_callB (fun _ => c_len2) G4_len Y.b_len (by rfl) (a_cons (d_callTy (fun _ => c_set rfl) G4_set Y.b_set (by rfl) (a_cons (d_callTy (fun _ => c_list2 rfl) G4_list Y.b_list (by rfl) (a_cons (d_var N4_0 V4_0 nd_thing nc_thing) a_nil (by exact rfl)) (by decide) nd_list (by exact rfl) (by exact rfl)) a_nil (by exact rfl)) (by decide) nd_set (by exact rfl) (by exact rfl)) a_nil (by exact rfl)) (by decide) nd_len (by exact rfl) (by exact rfl)) (d_callB (fun _ => c_len2) G4_len Y.b_len (by rfl) (a_cons (d_var N4_0 V4_0 nd_thing nc_thing) a_nil (by exact rfl)) (by decide) nd_len (by exact rfl) (by exact rfl)) (by exact rfl))))) ss_nil)
theorem b5 {w : World} {K : PySem.W.Frag} {mg : Str → Option Value} {base : Heap} {k : Nat} {q : Str} {f : Addr} {cdv : Value} {A : Around} {outer : List PySem.Env} {s : Shared} {H : Hp} {E : XK} {W : XWS} {wx : WX} {c : CF} (Y : Fx w K mg base k c) (b : Bd tabs k (cxOf (CX P w) P w K mg base N5 q (defScope (top 13)) f cdv A outer s H E) W wx) :
    PSs (cxOf (CX P w) P w K mg base N5 q (defScope (top 13)) f cdv A outer s H E) (defBody (top 13)) (TDS ⟨K, w, P⟩ W (m5 c)) := by
  delta m5
  exact (ss_cons (s_if (L2.PW.pt (w_or (t_not (t_truth (d_callB (fun _ => c_isi) G5_isinstance Y.b_isinstance (by rfl) (a_cons (d_var N5_0 V5_0 nd_thing nc_thing) (a_cons (d_tyN G5_tuple Y.b_tuple (by rfl) (by decide) nd_tuple) a_nil (by exact rfl)) (by exact rfl)) (by decide) nd_isinstance (by exact rfl) (by exact rfl)) (by intro _; rfl))) (w_or1 (t_cmp (fun _ => o_ne b.hu64) (d_callB (fun _ => c_len2) G5_len Y.b_len (by rfl) (a_cons (d_var N5_0 V5_0 nd_thing nc_thing) a_nil (by exact rfl)) (by decide) nd_len (by exact rfl) (by exact rfl)) d_int (by exact rfl))))) (ss_cons (s_ret d_bl) ss_nil) ss_nil) (ss_cons (s_asg (d_var N5_0 V5_0 nd_thing nc_thing) (g_tup rfl (gs_cons (g_name S5.nd N5_1 L5_1 (Or.inl rfl)) (gs_cons (g_name S5.nd N5_2 L5_2 (Or.inl rfl)) gs_nil (by exact rfl)) (by exact rfl)) (by exact rfl) (by exact rfl)) (by exact rfl) (by exact rfl) (by exact rfl)) (ss_cons (s_if (L2.PW.pt (w_or (L2.PW.pt (w_and (t_cmp (fun _ => o_isnot) (d_var N5_1 V5_1 nd_low nc_low) d_non (by exact rfl)) (w_and1 (t_not (t_truth (d_cal (Y.f 0 _ _ rfl) b G5_is_integer nd_is_integer (a_cons (d_var N5_1 V5_1 nd_low nc_low) a_nil (by exact rfl)) (by exact rfl) (by exact rfl)) (by intro _; rfl)))))) (w_or1 (t_not (t_truth (d_cal (Y.f 1 _ _ rfl) b G5_is_end nd_is_end (a_cons (d_var N5_2 V5_2 nd_high nc_high) a_nil (by exact rfl)) (by exact rfl) (by exact rfl)) (by intro _; rfl)))))) (ss_cons (s_ret d_bl) ss_nil) ss_nil) (ss_cons (s_ret (d_or (d_cmp (fun _ => o_is) (d_var N5_1 V5_1 nd_low nc_low) d_non (by exact rfl)) (d_or (d_cmp (fun _ => o_is) (d_var N5_2 V5_2 nd_high nc_high) d_non (by exact rfl)) (d_one (d_cmp (fun _ => o_ord b.hu64 .le) (d_var N5_1 V5_1 nd_low nc_low) (d_var N5_2 V5_2 nd_high nc_high) (by exact rfl)))))) ss_nil))))
theorem b6 {w : World} {K : PySem.W.Frag} {mg : Str → Option Value} {base : Heap} {k : Nat} {q : Str} {f : Addr} {cdv : Value} {A : Around} {outer : List PySem.Env} {s : Shared} {H : Hp} {E : XK} {W : XWS} {wx : WX} {c : CF} (Y : Fx w K mg base k c) (b : Bd tabs k (cxOf (CX P w) P w K mg base N6 q (defScope (top 14)) f cdv A outer s H E) W wx) :
    PSs (cxOf (CX P w) P w K mg base N6 q (defScope (top 14)) f cdv A outer s H E) (defBody (top 14)) (TDS ⟨K, w, P⟩ W (m6 c)) := by
  delta m6
  exact (ss_cons (s_if (t_cmp (fun _ => o_eq b.hu64) (d_var N6_1 V6_1 nd_sort nc_sort) d_strS (by exact rfl)) (ss_cons (s_ret (d_cal (Y.f 5 _ _ rfl) b G6_is_range nd_is_range (a_cons (d_var N6_0 V6_0 nd_values nc_values) a_nil (by exact rfl)) (by exact rfl) (by exact rfl))) ss_nil) ss_nil) (ss_cons (s_if (t_cmp (fun _ => o_ne b.hu64) (d_callB (fun _ => c_len2) G6_len Y.b_len (by rfl) (a_cons (d_var N6_0 V6_0 nd_values nc_values) a_nil (by exact rfl)) (by decide) nd_len (by exact rfl) (by exact rfl)) d_int (by exact rfl)) (ss_cons (s_ret d_bl) ss_nil) ss_nil) (ss_cons (s_ret (d_ite (t_cmp (fun _ => o_eq b.hu64) (d_var N6_1 V6_1 nd_sort nc_sort) d_strS (by exact rfl)) (d_cal (Y.f 2 _ _ rfl) b G6_is_letter nd_is_letter (a_cons (d_ix (fun _ => o_ix b.hu1) (d_var N6_0 V6_0 nd_values nc_values) d_int (by (intro _ _; rfl))) a_nil (by exact rfl)) (by exact rfl) (by exact rfl)) (d_cal (Y.f 0 _ _ rfl) b G6_is_integer nd_is_integer (a_cons (d_ix (fun _ => o_ix b.hu1) (d_var N6_0 V6_0 nd_values nc_values) d_int (by (intro _ _; rfl))) a_nil (by exact rfl)) (by exact rfl) (by exact rfl)))) ss_nil)))
theorem b7 {w : World} {K : PySem.W.Frag} {mg : Str → Option Value} {base : Heap} {k : Nat} {q : Str} {f : Addr} {cdv : Value} {A : Around} {outer : List PySem.Env} {s : Shared} {H : Hp} {E : XK} {W : XWS} {wx : WX} {c : CF} (Y : Fx w K mg base k c) (b : Bd tabs k (cxOf (CX P w) P w K mg base N7 q (defScope (top 15)) f cdv A outer s H E) W wx) :
    PSs (cxOf (CX P w) P w K mg base N7 q (defScope (top 15)) f cdv A outer s H E) (defBody (top 15)) (TDS ⟨K, w, P⟩ W (m7 c)) := by
  delta m7
  exact (ss_cons (s_if (L2.PW.pt (w_or (t_not (t_truth (d_callB (fun _ => c_isi) G7_isinstance Y.b_isinstance (by rfl) (a_cons (d_var N7_0 V7_0 nd_thing nc_thing) (a_cons (d_tyN G7_tuple Y.b_tuple (by rfl) (by decide) nd_tuple) a_nil (by exact rfl)) (by exact rfl)) (by decide) nd_isinstance (by exact rfl) (by exact rfl)) (by intro _; rfl))) (w_or (t_cmp (fun _ => o_eq b.hu64) (d_callB (fun _ => c_len2) G7_len Y.b_len (by rfl) (a_cons (d_var N7_0 V7_0 nd_thing nc_thing) a_nil (by exact rfl)) (by decide) nd_len (by exact rfl) (by exact rfl)) d_int (by exact rfl)) (w_or1 (t_not (t_truth (d_callB (fun _ => c_isi) G7_isinstance Y.b_isinstance (by rfl) (a_cons (d_ix (fun _ => o_ix b.hu1) (d_var N7_0 V7_0 nd_thing nc_thing) d_int (by (intro _ _; rfl))) (a_cons (d_tyN G7_str Y.b_str (by rfl) (by decide) nd_str) a_nil (by exact rfl)) (by exact rfl)) (by decide) nd_isinstance (by exact rfl) (by exact rfl)) (by intro _; rfl))))))) (ss_cons (s_ret d_bl) ss_nil) ss_nil) (ss_cons (s_if (t_cmp (fun _ => o_notin b.hu65) (d_ix (fun _ => o_ix b.hu1) (d_var N7_0 V7_0 nd_thing nc_thing) d_int (by (intro _ _; rfl))) (d_globE G7_STEP_PARTS Y.k_STEP_PARTS nd_STEP_PARTS) (by exact rfl)) (ss_cons (s_ret d_bl) ss_nil) ss_nil) (ss_cons (s_asg d_int (g_name S7.nd N7_1 L7_1 (Or.inl rfl)) (by exact rfl) (by exact rfl) (by exact rfl)) (ss_cons (s_for b.po rfl (i_val (d_ix (fun _ => o_ix b.hu1) (d_globE G7_STEP_PARTS Y.k_STEP_PARTS nd_STEP_PARTS) (d_ix (fun _ => o_ix b.hu1) (d_var N7_0 V7_0 nd_thing nc_thing) d_int (by (intro _ _; rfl))) (by (intro _ _; rfl)))) (g_name S7.nd N7_2 L7_2 (Or.inl rfl)) (ss_cons (s_asg (d_ite (t_cmp (fun _ => o_eq b.hu64) (d_var N7_2 V7_2 nd_sort nc_sort) d_strS (by exact rfl)) d_int d_int) (g_name S7.nd N7_3 L7_3 (Or.inl rfl)) (by exact rfl) (by exact rfl) (by exact rfl)) (ss_cons (s_if (t_not (t_truth (d_cal (Y.f 6 _ _ rfl) b G7_is_part nd_is_part (a_cons (d_sl (d_var N7_0 V7_0 nd_thing nc_thing) (p_some (d_var N7_1 V7_1 nd_k nc_k)) (p_some (d_bin (fun _ => o_add) (d_var N7_1 V7_1 nd_k nc_k) (d_var N7_3 V7_3 nd_wide nc_wide)))) (a_cons (d_var N7_2 V7_2 nd_sort nc_sort) a_nil (by exact rfl)) (by exact rfl)) (by exact rfl) (by exact rfl)) (by intro _; rfl))) (ss_cons (s_ret d_bl) ss_nil) ss_nil) (ss_cons (s_asg (d_bin (fun _ => o_add) (d_var N7_1 V7_1 nd_k nc_k) (d_var N7_3 V7_3 nd_wide nc_wide)) (g_name S7.nd N7_1 L7_1 (Or.inl rfl)) (by exact rfl) (by exact rfl) (by exact rfl)) ss_nil))) (by intro _; rfl)) (ss_cons (s_ret (d_cmp (fun _ => o_eq b.hu64) (d_var N7_1 V7_1 nd_k nc_k) (d_callB (fun _ => c_len2) G7_len Y.b_len (by rfl) (a_cons (d_var N7_0 V7_0 nd_thing nc_thing) a_nil (by exact rfl)) (by decide) nd_len (by exact rfl) (by exact rfl)) (by exact rfl))) ss_nil)))))
theorem b8 {w : World} {K : PySem.W.Frag} {mg : Str → Option Value} {base : Heap} {k : Nat} {q : Str} {f : Addr} {cdv : Value} {A : Around} {outer : List PySem.Env} {s : Shared} {H : Hp} {E : XK} {W : XWS} {wx : WX} {c : CF} (Y : Fx w K mg base k c) (b : Bd tabs k (cxOf (CX P w) P w K mg base N8 q (defScope (top 16)) f cdv A outer s H E) W wx) :
    PSs (cxOf (CX P w) P w K mg base N8 q (defScope (top 16)) f cdv A outer s H E) (defBody (top 16)) (TDS ⟨K, w, P⟩ W (m8 c)) := by
  delta m8
  exact (ss_cons (s_ret (d_meth F.plainAttrs_str F.slot_str_join F.type_str_join (fun _ => m_join) d_strS (a_cons (d_callTy (fun _ => c_list2 rfl) G8_list Y.b_list (by rfl) (a_cons (d_ite (t_cmp (fun _ => o_eq b.hu64) (d_ix (fun _ => o_ix b.hu1) (d_var N8_0 V8_0 nd_step nc_step) d_int (by (intro _ _; rfl))) d_strS (by exact rfl)) (d_sl (d_var N8_0 V8_0 nd_step nc_step) (p_some d_int) (p_some d_int)) (d_sl (d_var N8_0 V8_0 nd_step nc_step) (p_some d_int) (p_some d_int))) a_nil (by exact rfl)) (by decide) nd_list (by exact rfl) (by exact rfl)) a_nil (by exact rfl)) (by exact rfl) (by exact rfl) (by exact rfl) (by exact rfl) (by exact rfl))) ss_nil)
theorem b9 {w : World} {K : PySem.W.Frag} {mg : Str → Option Value} {base : Heap} {k : Nat} {q : Str} {f : Addr} {cdv : Value} {A : Around} {outer : List PySem.Env} {s : Shared} {H : Hp} {E : XK} {W : XWS} {wx : WX} {c : CF} (Y : Fx w K mg base k c) (b : Bd tabs k (cxOf (CX P w) P w K mg base N9 q (defScope (top 17)) f cdv A outer s H E) W wx) :
    PSs (cxOf (CX P w) P w K mg base N9 q (defScope (top 17)) f cdv A outer s H E) (defBody (top 17)) (TDS ⟨K, w, P⟩ W (m9 c)) := by
  delta m9
  exact (ss_cons (s_ret (d_callB (fun _ => c_all rfl) G9_all Y.b_all (by rfl) (a_cons (d_lc rfl S9.nd (i_val (d_var N9_1 V9_1 nd_letters nc_letters)) (own := [(("sign" : Str), 2)]) (blkB_ok (by exact rfl)) (by decide) (fun s_ H_ C_ cl_ fp_ => (g_name S9.nd N9_2 (by first | exact Or.inl rfl | exact Or.inr rfl) ((by first | exact Or.inr rfl | exact Or.inl rfl)))) (fun s_ H_ C_ cl_ fp_ => ts_nil) (fun s_ H_ C_ cl_ fp_ => (d_cmp (fun _ => o_in b.hu65) (d_var N9_2 (by first | exact Or.inl rfl | exact Or.inr (Or.inl rfl) | exact Or.inr (Or.inr rfl)) nd_sign nc_sign) (d_var N9_0 (by first | exact Or.inl rfl | exact Or.inr (Or.inl rfl) | exact Or.inr (Or.inr rfl)) nd_names nc_names) (by exact rfl))) (by intro _; rfl)) a_nil (by exact rfl)) (by decide) nd_all (by exact rfl) (by exact rfl))) ss_nil)
theorem b10 {w : World} {K : PySem.W.Frag} {mg : Str → Option Value} {base : Heap} {k : Nat} {q : Str} {f : Addr} {cdv : Value} {A : Around} {outer : List PySem.Env} {s : Shared} {H : Hp} {E : XK} {W : XWS} {wx : WX} {c : CF} (Y : Fx w K mg base k c) (b : Bd tabs k (cxOf (CX P w) P w K mg base N10 q (defScope (top 18)) f cdv A outer s H E) W wx) :
    PSs (cxOf (CX P w) P w K mg base N10 q (defScope (top 18)) f cdv A outer s H E) (defBody (top 18)) (TDS ⟨K, w, P⟩ W (m10 c)) := by
  delta m10
  exact (ss_cons (s_if (L2.PW.pt (w_or (t_not (t_truth (d_callB (fun _ => c_isi) G10_isinstance Y.b_isinstance (by rfl) (a_cons (d_var N10_0 V10_0 nd_thing nc_thing) (a_cons (d_tyN G10_tuple Y.b_tuple (by rfl) (by decide) nd_tuple) a_nil (by exact rfl)) (by exact rfl)) (by decide) nd_isinstance (by exact rfl) (by exact rfl)) (by intro _; rfl))) (w_or1 (t_cmp (fun _ => o_ne b.hu64) (d_callB (fun _ => c_len2) G10_len Y.b_len (by rfl) (a_cons (d_var N10_0 V10_0 nd_thing nc_thing) a_nil (by exact rfl)) (by decide) nd_len (by exact rfl) (by exact rfl)) d_int (by exact rfl))))) (ss_cons (s_raise (c := e_InvalidPaper) rfl b.tk b.lw Y.er_InvalidPaper.1 rfl rfl rfl (by decide) b.rm G10_InvalidPaper Y.er_InvalidPaper.2 Y.b_super (a_cons d_strS (a_cons (d_neg d_int) a_nil (by exact rfl)) (by exact rfl)) nd_InvalidPaper (by exact rfl) (by exact rfl)) ss_nil) ss_nil) (ss_cons (s_asg (d_var N10_0 V10_0 nd_thing nc_thing) (g_tup rfl (gs_cons (g_name S10.nd N10_1 L10_1 (Or.inl rfl)) (gs_cons (g_name S10.nd N10_2 L10_2 (Or.inl rfl)) gs_nil (by exact rfl)) (by exact rfl)) (by exact rfl) (by exact rfl)) (by exact rfl) (by exact rfl) (by exact rfl)) (ss_cons (s_if (L2.PW.pt (w_or (t_not (t_truth (d_callB (fun _ => c_isi) G10_isinstance Y.b_isinstance (by rfl) (a_cons (d_var N10_1 V10_1 nd_names nc_names) (a_cons (d_tyN G10_str Y.b_str (by rfl) (by decide) nd_str) a_nil (by exact rfl)) (by exact rfl)) (by decide) nd_isinstance (by exact rfl) (by exact rfl)) (by intro _; rfl))) (w_or1 (t_not (t_truth (d_callB (fun _ => c_isi) G10_isinstance Y.b_isinstance (by rfl) (a_cons (d_var N10_2 V10_2 nd_steps nc_steps) (a_cons (d_tyN G10_tuple Y.b_tuple (by rfl) (by decide) nd_tuple) a_nil (by exact rfl)) (by exact rfl)) (by decide) nd_isinstance (by exact rfl) (by exact rfl)) (by intro _; rfl)))))) (ss_cons (s_raise (c := e_InvalidPaper) rfl b.tk b.lw Y.er_InvalidPaper.1 rfl rfl rfl (by decide) b.rm G10_InvalidPaper Y.er_InvalidPaper.2 Y.b_super (a_cons d_strS (a_cons (d_neg d_int) a_nil (by exact rfl)) (by exact rfl)) nd_InvalidPaper (by exact rfl) (by exact rfl)) ss_nil) ss_nil) (ss_cons (s_if (t_not (t_truth (d_cal (Y.f 4 _ _ rfl) b G10_is_names nd_is_names (a_cons (d_var N10_1 V10_1 nd_names nc_names) a_nil (by exact rfl)) (by exact rfl) (by exact rfl)) (by intro _; rfl))) (ss_cons (s_raise (c := e_InvalidPaper) rfl b.tk b.lw Y.er_InvalidPaper.1 rfl rfl rfl (by decide) b.rm G10_InvalidPaper Y.er_InvalidPaper.2 Y.b_super (a_cons d_strS (a_cons (d_neg d_int) a_nil (by exact rfl)) (by exact rfl)) nd_InvalidPaper (by exact rfl) (by exact rfl)) ss_nil) ss_nil) (ss_cons (s_for b.po rfl (i_en G10_enumerate Y.b_enumerate (d_var N10_2 V10_2 nd_steps nc_steps) (by exact rfl)) (g_tup rfl (gs_cons (g_name S10.nd N10_3 L10_3 (Or.inl rfl)) (gs_cons (g_name S10.nd N10_4 L10_4 (Or.inl rfl)) gs_nil (by exact rfl)) (by exact rfl)) (by exact rfl) (by exact rfl)) (ss_cons (s_if (t_not (t_truth (d_cal (Y.f 7 _ _ rfl) b G10_is_step nd_is_step (a_cons (d_var N10_4 V10_4 nd_step nc_step) a_nil (by exact rfl)) (by exact rfl) (by exact rfl)) (by intro _; rfl))) (ss_cons (s_raise (c := e_InvalidPaper) rfl b.tk b.lw Y.er_InvalidPaper.1 rfl rfl rfl (by decide) b.rm G10_InvalidPaper Y.er_InvalidPaper.2 Y.b_super (a_cons d_strS (a_cons (d_var N10_3 V10_3 nd_k nc_k) a_nil (by exact rfl)) (by exact rfl)) nd_InvalidPaper (by exact rfl) (by exact rfl)) ss_nil) ss_nil) (ss_cons (s_if (t_not (t_truth (d_cal (Y.f 9 _ _ rfl) b G10_are_names_of nd_are_names_of (a_cons (d_var N10_1 V10_1 nd_names nc_names) (a_cons (d_cal (Y.f 8 _ _ rfl) b G10_step_names nd_step_names (a_cons (d_var N10_4 V10_4 nd_step nc_step) a_nil (by exact rfl)) (by exact rfl) (by exact rfl)) a_nil (by exact rfl)) (by exact rfl)) (by exact rfl) (by exact rfl)) (by intro _; rfl))) (ss_cons (s_raise (c := e_InvalidPaper) rfl b.tk b.lw Y.er_InvalidPaper.1 rfl rfl rfl (by decide) b.rm G10_InvalidPaper Y.er_InvalidPaper.2 Y.b_super (a_cons d_strS (a_cons (d_var N10_3 V10_3 nd_k nc_k) a_nil (by exact rfl)) (by exact rfl)) nd_InvalidPaper (by exact rfl) (by exact rfl)) ss_nil) ss_nil) ss_nil)) (by intro _; rfl)) (ss_cons (s_ret (d_callB (fun _ => c_len2) G10_len Y.b_len (by rfl) (a_cons (d_var N10_2 V10_2 nd_steps nc_steps) a_nil (by exact rfl)) (by decide) nd_len (by exact rfl) (by exact rfl))) ss_nil))))))
theorem b11 {w : World} {K : PySem.W.Frag} {mg : Str → Option Value} {base : Heap} {k : Nat} {q : Str} {f : Addr} {cdv : Value} {A : Around} {outer : List PySem.Env} {s : Shared} {H : Hp} {E : XK} {W : XWS} {wx : WX} {c : CF} (Y : Fx w K mg base k c) (b : Bd tabs k (cxOf (CX P w) P w K mg base N11 q (defScope (top 20)) f cdv A outer s H E) W wx) :
    PSs (cxOf (CX P w) P w K mg base N11 q (defScope (top 20)) f cdv A outer s H E) (defBody (top 20)) (TDS ⟨K, w, P⟩ W (m11 c)) := by
  delta m11
  exact (ss_cons (s_ret (d_dic (pps_cons d_strS (d_lc rfl S11.nd (i_val (d_sl (d_var N11_0 V11_0 nd__law_script nc__law_script) p_none (p_some d_int))) (own := [(("_law_cell" : Str), 1)]) (blkB_ok (by exact rfl)) (by decide) (fun s_ H_ C_ cl_ fp_ => (g_name S11.nd N11_1 (by first | exact Or.inl rfl | exact Or.inr rfl) ((by first | exact Or.inr rfl | exact Or.inl rfl)))) (fun s_ H_ C_ cl_ fp_ => ts_nil) (fun s_ H_ C_ cl_ fp_ => (d_callTy (fun _ => c_int) (by exact rfl) Y.b_int (by rfl) (a_cons (d_var N11_1 (by first | exact Or.inl rfl | exact Or.inr (Or.inl rfl) | exact Or.inr (Or.inr rfl)) nd__law_cell nc__law_cell) a_nil (by exact rfl)) (by decide) nd_int (by exact rfl) (by exact rfl))) (by intro _; rfl)) (pps_cons d_strS d_int (pps_cons d_strS d_int (pps_cons d_strS d_int pps_nil)))) (by exact rfl) (by exact rfl) (by simp) (by decide))) ss_nil)
theorem b12 {w : World} {K : PySem.W.Frag} {mg : Str → Option Value} {base : Heap} {k : Nat} {q : Str} {f : Addr} {cdv : Value} {A : Around} {outer : List PySem.Env} {s : Shared} {H : Hp} {E : XK} {W : XWS} {wx : WX} {c : CF} (Y : Fx w K mg base k c) (b : Bd tabs k (cxOf (CX P w) P w K mg base N12 q (defScope (top 21)) f cdv A outer s H E) W wx) :
    PSs (cxOf (CX P w) P w K mg base N12 q (defScope (top 21)) f cdv A outer s H E) (defBody (top 21)) (TDS ⟨K, w, P⟩ W (m12 c)) := by
  delta m12
  exact (ss_cons (s_set b.hu1 (d_var N12_0 V12_0 nd__law_source_here nc__law_source_here) d_strS (d_bin (fun _ => o_add) (d_ix (fun _ => o_ix b.hu1) (d_var N12_0 V12_0 nd__law_source_here nc__law_source_here) d_strS (by (intro _ _; rfl))) d_int) (by exact rfl)) (ss_cons (s_if (t_cmp (fun _ => o_ord b.hu64 .gt) (d_ix (fun _ => o_ix b.hu1) (d_var N12_0 V12_0 nd__law_source_here nc__law_source_here) d_strS (by (intro _ _; rfl))) d_int (by exact rfl)) (ss_cons (s_asg (d_bin (fun _ => o_mod) (d_callTy (fun _ => c_int) G12_int Y.b_int (by rfl) (a_cons (d_ix (fun _ => o_ix b.hu1) (d_var N12_0 V12_0 nd__law_source_here nc__law_source_here) d_strS (by (intro _ _; rfl))) a_nil (by exact rfl)) (by decide) nd_int (by exact rfl) (by exact rfl)) (d_var N12_1 V12_1 nd__law_many nc__law_many)) (g_name S12.nd N12_2 L12_2 (Or.inl rfl)) (by exact rfl) (by exact rfl) (by exact rfl)) (ss_cons (s_set b.hu1 (d_var N12_0 V12_0 nd__law_source_here nc__law_source_here) d_strS (d_bin (fun _ => o_fdiv) (d_callTy (fun _ => c_int) G12_int Y.b_int (by rfl) (a_cons (d_ix (fun _ => o_ix b.hu1) (d_var N12_0 V12_0 nd__law_source_here nc__law_source_here) d_strS (by (intro _ _; rfl))) a_nil (by exact rfl)) (by decide) nd_int (by exact rfl) (by exact rfl)) (d_var N12_1 V12_1 nd__law_many nc__law_many)) (by exact rfl)) (ss_cons (s_ret (d_var N12_2 V12_2 nd__law_digit nc__law_digit)) ss_nil))) ss_nil) (ss_cons (s_par rfl S12.nd N12_3 N12_4 (by decide) (by exact rfl) (by exact rfl) (a_cons (d_ix (fun _ => o_ix b.hu1) (d_var N12_0 V12_0 nd__law_source_here nc__law_source_here) d_strS (by (intro _ _; rfl))) (a_cons (d_ix (fun _ => o_ix b.hu1) (d_var N12_0 V12_0 nd__law_source_here nc__law_source_here) d_strS (by (intro _ _; rfl))) a_nil (by exact rfl)) (by exact rfl)) (by exact rfl) (by exact rfl)) (ss_cons (s_set b.hu1 (d_var N12_0 V12_0 nd__law_source_here nc__law_source_here) d_strS (d_bin (fun _ => o_add) (d_var N12_4 V12_4 nd__law_spot nc__law_spot) d_int) (by exact rfl)) (ss_cons (s_asg (d_ite (t_cmp (fun _ => o_ne b.hu64) (d_var N12_3 V12_3 nd__law_cells nc__law_cells) (d_lst a_nil) (by exact rfl)) (d_ix (fun _ => o_ix b.hu1) (d_var N12_3 V12_3 nd__law_cells nc__law_cells) (d_bin (fun _ => o_mod) (d_callTy (fun _ => c_int) G12_int Y.b_int (by rfl) (a_cons (d_var N12_4 V12_4 nd__law_spot nc__law_spot) a_nil (by exact rfl)) (by decide) nd_int (by exact rfl) (by exact rfl)) (d_callB (fun _ => c_len2) G12_len Y.b_len (by rfl) (a_cons (d_var N12_3 V12_3 nd__law_cells nc__law_cells) a_nil (by exact rfl)) (by decide) nd_len (by exact rfl) (by exact rfl))) (by (intro _ _; rfl))) d_int) (g_name S12.nd N12_5 L12_5 (Or.inl rfl)) (by exact rfl) (by exact rfl) (by exact rfl)) (ss_cons (s_if (L2.PW.pt (w_and (t_cmp (fun _ => o_ord b.hu64 .ge) (d_var N12_5 V12_5 nd__law_cell nc__law_cell) (d_bin (fun _ => o_pow) d_int d_int) (by exact rfl)) (w_and1 (t_cmp (fun _ => o_ord b.hu64 .lt) (d_var N12_4 V12_4 nd__law_spot nc__law_spot) (d_callB (fun _ => c_len2) G12_len Y.b_len (by rfl) (a_cons (d_var N12_3 V12_3 nd__law_cells nc__law_cells) a_nil (by exact rfl)) (by decide) nd_len (by exact rfl) (by exact rfl)) (by exact rfl))))) (ss_cons (s_set b.hu1 (d_var N12_0 V12_0 nd__law_source_here nc__law_source_here) d_strS (d_bin (fun _ => o_fdiv) (d_callTy (fun _ => c_int) G12_int Y.b_int (by rfl) (a_cons (d_var N12_5 V12_5 nd__law_cell nc__law_cell) a_nil (by exact rfl)) (by decide) nd_int (by exact rfl) (by exact rfl)) (d_var N12_1 V12_1 nd__law_many nc__law_many)) (by exact rfl)) (ss_cons (s_ret (d_bin (fun _ => o_mod) (d_callTy (fun _ => c_int) G12_int Y.b_int (by rfl) (a_cons (d_var N12_5 V12_5 nd__law_cell nc__law_cell) a_nil (by exact rfl)) (by decide) nd_int (by exact rfl) (by exact rfl)) (d_var N12_1 V12_1 nd__law_many nc__law_many))) ss_nil)) ss_nil) (ss_cons (s_asg (d_bin (fun _ => o_mod) (d_callTy (fun _ => c_int) G12_int Y.b_int (by rfl) (a_cons (d_bin (fun _ => o_add) (d_bin (fun _ => o_add) (d_bin (fun _ => o_mod) (d_callTy (fun _ => c_int) G12_int Y.b_int (by rfl) (a_cons (d_var N12_5 V12_5 nd__law_cell nc__law_cell) a_nil (by exact rfl)) (by decide) nd_int (by exact rfl) (by exact rfl)) d_int) (d_bin (fun _ => o_mul) d_int (d_ix (fun _ => o_ix b.hu1) (d_var N12_0 V12_0 nd__law_source_here nc__law_source_here) d_strS (by (intro _ _; rfl))))) d_int) a_nil (by exact rfl)) (by decide) nd_int (by exact rfl) (by exact rfl)) d_int) (g_name S12.nd N12_6 L12_6 (Or.inl rfl)) (by exact rfl) (by exact rfl) (by exact rfl)) (ss_cons (s_asg (d_bin (fun _ => o_mod) (d_callTy (fun _ => c_int) G12_int Y.b_int (by rfl) (a_cons (d_bin (fun _ => o_add) (d_bin (fun _ => o_add) (d_bin (fun _ => o_pow) (d_var N12_6 V12_6 nd__law_value nc__law_value) d_int) (d_bin (fun _ => o_mul) d_int (d_ix (fun _ => o_ix b.hu1) (d_var N12_0 V12_0 nd__law_source_here nc__law_source_here) d_strS (by (intro _ _; rfl))))) d_int) a_nil (by exact rfl)) (by decide) nd_int (by exact rfl) (by exact rfl)) d_int) (g_name S12.nd N12_6 L12_6 (Or.inl rfl)) (by exact rfl) (by exact rfl) (by exact rfl)) (ss_cons (s_asg (d_bin (fun _ => o_mod) (d_callTy (fun _ => c_int) G12_int Y.b_int (by rfl) (a_cons (d_bin (fun _ => o_add) (d_bin (fun _ => o_pow) (d_var N12_6 V12_6 nd__law_value nc__law_value) d_int) (d_bin (fun _ => o_mul) d_int (d_var N12_6 V12_6 nd__law_value nc__law_value))) a_nil (by exact rfl)) (by decide) nd_int (by exact rfl) (by exact rfl)) d_int) (g_name S12.nd N12_6 L12_6 (Or.inl rfl)) (by exact rfl) (by exact rfl) (by exact rfl)) (ss_cons (s_ret (d_bin (fun _ => o_mod) (d_callTy (fun _ => c_int) G12_int Y.b_int (by rfl) (a_cons (d_bin (fun _ => o_fdiv) (d_var N12_6 V12_6 nd__law_value nc__law_value) d_int) a_nil (by exact rfl)) (by decide) nd_int (by exact rfl) (by exact rfl)) (d_var N12_1 V12_1 nd__law_many nc__law_many))) ss_nil))))))))))
theorem b13 {w : World} {K : PySem.W.Frag} {mg : Str → Option Value} {base : Heap} {k : Nat} {q : Str} {f : Addr} {cdv : Value} {A : Around} {outer : List PySem.Env} {s : Shared} {H : Hp} {E : XK} {W : XWS} {wx : WX} {c : CF} (Y : Fx w K mg base k c) (b : Bd tabs k (cxOf (CX P w) P w K mg base N13 q (defScope (top 22)) f cdv A outer s H E) W wx) :
    PSs (cxOf (CX P w) P w K mg base N13 q (defScope (top 22)) f cdv A outer s H E) (defBody (top 22)) (TDS ⟨K, w, P⟩ W (m13 c)) := by
  delta m13
  exact (ss_cons (s_ret (d_ix (fun _ => o_ix b.hu1) (d_var N13_1 V13_1 nd__law_some nc__law_some) (d_cal (Y.f 12 _ _ rfl) b G13__law_pick nd__law_pick (a_cons (d_var N13_0 V13_0 nd__law_source_here nc__law_source_here) (a_cons (d_callB (fun _ => c_len2) G13_len Y.b_len (by rfl) (a_cons (d_var N13_1 V13_1 nd__law_some nc__law_some) a_nil (by exact rfl)) (by decide) nd_len (by exact rfl) (by exact rfl)) a_nil (by exact rfl)) (by exact rfl)) (by exact rfl) (by exact rfl)) (by (intro _ _; rfl)))) ss_nil)
theorem b14 {w : World} {K : PySem.W.Frag} {mg : Str → Option Value} {base : Heap} {k : Nat} {q : Str} {f : Addr} {cdv : Value} {A : Around} {outer : List PySem.Env} {s : Shared} {H : Hp} {E : XK} {W : XWS} {wx : WX} {c : CF} (Y : Fx w K mg base k c) (b : Bd tabs k (cxOf (CX P w) P w K mg base N14 q (defScope (top 23)) f cdv A outer s H E) W wx) :
    PSs (cxOf (CX P w) P w K mg base N14 q (defScope (top 23)) f cdv A outer s H E) (defBody (top 23)) (TDS ⟨K, w, P⟩ W (m14 c)) := by
  delta m14
  exact (ss_cons (s_asg (d_lst (a_cons (d_tup (a_cons d_non (a_cons d_non a_nil (by exact rfl)) (by exact rfl))) (a_cons (d_tup (a_cons d_int (a_cons d_int a_nil (by exact rfl)) (by exact rfl))) (a_cons (d_tup (a_cons d_int (a_cons d_int a_nil (by exact rfl)) (by exact rfl))) (a_cons (d_tup (a_cons (d_neg d_int) (a_cons d_int a_nil (by exact rfl)) (by exact rfl))) (a_cons (d_tup (a_cons d_non (a_cons d_int a_nil (by exact rfl)) (by exact rfl))) (a_cons (d_tup (a_cons d_int (a_cons d_non a_nil (by exact rfl)) (by exact rfl))) (a_cons (d_tup (a_cons d_int (a_cons d_int a_nil (by exact rfl)) (by exact rfl))) (a_cons (d_tup (a_cons (d_neg d_int) (a_cons (d_neg d_int) a_nil (by exact rfl)) (by exact rfl))) (a_cons (d_tup (a_cons d_int (a_cons d_int a_nil (by exact rfl)) (by exact rfl))) (a_cons (d_tup (a_cons d_non (a_cons (d_neg d_int) a_nil (by exact rfl)) (by exact rfl))) a_nil (by exact rfl)) (by exact rfl)) (by exact rfl)) (by exact rfl)) (by exact rfl)) (by exact rfl)) (by exact rfl)) (by exact rfl)) (by exact rfl)) (by exact rfl))) (g_name S14.nd N14_1 L14_1 (Or.inl rfl)) (by exact rfl) (by exact rfl) (by exact rfl)) (ss_cons (s_asg (d_bin (fun _ => o_sub) (d_cal (Y.f 12 _ _ rfl) b G14__law_pick nd__law_pick (a_cons (d_var N14_0 V14_0 nd__law_source_here nc__law_source_here) (a_cons d_int a_nil (by exact rfl)) (by exact rfl)) (by exact rfl) (by exact rfl)) d_int) (g_name S14.nd N14_2 L14_2 (Or.inl rfl)) (by exact rfl) (by exact rfl) (by exact rfl)) (ss_cons (s_ret (d_cal (Y.f 13 _ _ rfl) b G14__law_any nd__law_any (a_cons (d_var N14_0 V14_0 nd__law_source_here nc__law_source_here) (a_cons (d_bin (fun _ => o_add) (d_var N14_1 V14_1 nd__law_some nc__law_some) (d_lst (a_cons (d_tup (a_cons (d_var N14_2 V14_2 nd__law_low_in nc__law_low_in) (a_cons (d_bin (fun _ => o_add) (d_var N14_2 V14_2 nd__law_low_in nc__law_low_in) (d_cal (Y.f 12 _ _ rfl) b G14__law_pick nd__law_pick (a_cons (d_var N14_0 V14_0 nd__law_source_here nc__law_source_here) (a_cons d_int a_nil (by exact rfl)) (by exact rfl)) (by exact rfl) (by exact rfl))) a_nil (by exact rfl)) (by exact rfl))) (a_cons (d_tup (a_cons (d_var N14_2 V14_2 nd__law_low_in nc__law_low_in) (a_cons (d_var N14_2 V14_2 nd__law_low_in nc__law_low_in) a_nil (by exact rfl)) (by exact rfl))) a_nil (by exact rfl)) (by exact rfl)))) a_nil (by exact rfl)) (by exact rfl)) (by exact rfl) (by exact rfl))) ss_nil)))
theorem b15 {w : World} {K : PySem.W.Frag} {mg : Str → Option Value} {base : Heap} {k : Nat} {q : Str} {f : Addr} {cdv : Value} {A : Around} {outer : List PySem.Env} {s : Shared} {H : Hp} {E : XK} {W : XWS} {wx : WX} {c : CF} (Y : Fx w K mg base k c) (b : Bd tabs k (cxOf (CX P w) P w K mg base N15 q (defScope (top 24)) f cdv A outer s H E) W wx) :
    PSs (cxOf (CX P w) P w K mg base N15 q (defScope (top 24)) f cdv A outer s H E) (defBody (top 24)) (TDS ⟨K, w, P⟩ W (m15 c)) := by
  delta m15
  exact (ss_cons (s_par3 rfl S15.nd N15_2 N15_3 N15_4 (by decide) (by decide) (by decide) (by exact rfl) (by exact rfl) (by exact rfl) (a_cons (d_cal (Y.f 13 _ _ rfl) b G15__law_any nd__law_any (a_cons (d_var N15_0 V15_0 nd__law_source_here nc__law_source_here) (a_cons (d_var N15_1 V15_1 nd__law_letters nc__law_letters) a_nil (by exact rfl)) (by exact rfl)) (by exact rfl) (by exact rfl)) (a_cons (d_cal (Y.f 13 _ _ rfl) b G15__law_any nd__law_any (a_cons (d_var N15_0 V15_0 nd__law_source_here nc__law_source_here) (a_cons (d_var N15_1 V15_1 nd__law_letters nc__law_letters) a_nil (by exact rfl)) (by exact rfl)) (by exact rfl) (by exact rfl)) (a_cons (d_cal (Y.f 12 _ _ rfl) b G15__law_pick nd__law_pick (a_cons (d_var N15_0 V15_0 nd__law_source_here nc__law_source_here) (a_cons d_int a_nil (by exact rfl)) (by exact rfl)) (by exact rfl) (by exact rfl)) a_nil (by exact rfl)) (by exact rfl)) (by exact rfl)) (by exact rfl) (by exact rfl)) (ss_cons (s_if (t_cmp (fun _ => o_ord b.hu64 .lt) (d_var N15_4 V15_4 nd__law_way nc__law_way) d_int (by exact rfl)) (ss_cons (s_ret (d_bin (fun _ => o_add) (d_tup (a_cons d_strS (a_cons (d_var N15_2 V15_2 nd__law_a nc__law_a) a_nil (by exact rfl)) (by exact rfl))) (d_cal (Y.f 14 _ _ rfl) b G15__law_range nd__law_range (a_cons (d_var N15_0 V15_0 nd__law_source_here nc__law_source_here) a_nil (by exact rfl)) (by exact rfl) (by exact rfl)))) ss_nil) ss_nil) (ss_cons (s_if (t_cmp (fun _ => o_ord b.hu64 .lt) (d_var N15_4 V15_4 nd__law_way nc__law_way) d_int (by exact rfl)) (ss_cons (s_ret (d_tup (a_cons d_strS (a_cons (d_var N15_2 V15_2 nd__law_a nc__law_a) (a_cons (d_var N15_3 V15_3 nd__law_b nc__law_b) (a_cons (d_cal (Y.f 13 _ _ rfl) b G15__law_any nd__law_any (a_cons (d_var N15_0 V15_0 nd__law_source_here nc__law_source_here) (a_cons (d_lst (a_cons d_int (a_cons d_int (a_cons d_int (a_cons (d_neg d_int) (a_cons (d_neg d_int) (a_cons d_int (a_cons d_int (a_cons d_int a_nil (by exact rfl)) (by exact rfl)) (by exact rfl)) (by exact rfl)) (by exact rfl)) (by exact rfl)) (by exact rfl)) (by exact rfl))) a_nil (by exact rfl)) (by exact rfl)) (by exact rfl) (by exact rfl)) a_nil (by exact rfl)) (by exact rfl)) (by exact rfl)) (by exact rfl)))) ss_nil) ss_nil) (ss_cons (s_if (t_cmp (fun _ => o_ord b.hu64 .lt) (d_var N15_4 V15_4 nd__law_way nc__law_way) d_int (by exact rfl)) (ss_cons (s_ret (d_bin (fun _ => o_add) (d_tup (a_cons d_strS (a_cons (d_var N15_2 V15_2 nd__law_a nc__law_a) (a_cons (d_var N15_3 V15_3 nd__law_b nc__law_b) a_nil (by exact rfl)) (by exact rfl)) (by exact rfl))) (d_cal (Y.f 14 _ _ rfl) b G15__law_range nd__law_range (a_cons (d_var N15_0 V15_0 nd__law_source_here nc__law_source_here) a_nil (by exact rfl)) (by exact rfl) (by exact rfl)))) ss_nil) ss_nil) (ss_cons (s_ret (d_bin (fun _ => o_add) (d_bin (fun _ => o_add) (d_tup (a_cons d_strS (a_cons (d_var N15_2 V15_2 nd__law_a nc__law_a) (a_cons (d_var N15_3 V15_3 nd__law_b nc__law_b) a_nil (by exact rfl)) (by exact rfl)) (by exact rfl))) (d_cal (Y.f 14 _ _ rfl) b G15__law_range nd__law_range (a_cons (d_var N15_0 V15_0 nd__law_source_here nc__law_source_here) a_nil (by exact rfl)) (by exact rfl) (by exact rfl))) (d_cal (Y.f 14 _ _ rfl) b G15__law_range nd__law_range (a_cons (d_var N15_0 V15_0 nd__law_source_here nc__law_source_here) a_nil (by exact rfl)) (by exact rfl) (by exact rfl)))) ss_nil)))))
theorem b16 {w : World} {K : PySem.W.Frag} {mg : Str → Option Value} {base : Heap} {k : Nat} {q : Str} {f : Addr} {cdv : Value} {A : Around} {outer : List PySem.Env} {s : Shared} {H : Hp} {E : XK} {W : XWS} {wx : WX} {c : CF} (Y : Fx w K mg base k c) (b : Bd tabs k (cxOf (CX P w) P w K mg base N16 q (defScope (top 25)) f cdv A outer s H E) W wx) :
    PSs (cxOf (CX P w) P w K mg base N16 q (defScope (top 25)) f cdv A outer s H E) (defBody (top 25)) (TDS ⟨K, w, P⟩ W (m16 c)) := by
  delta m16
  exact (ss_cons (s_asg (d_sl (d_cal (Y.f 13 _ _ rfl) b G16__law_any nd__law_any (a_cons (d_var N16_0 V16_0 nd__law_source_here nc__law_source_here) (a_cons (d_lst (a_cons d_strS (a_cons d_strS (a_cons d_strS (a_cons d_strS (a_cons d_strS (a_cons d_strS (a_cons d_strS (a_cons d_strS a_nil (by exact rfl)) (by exact rfl)) (by exact rfl)) (by exact rfl)) (by exact rfl)) (by exact rfl)) (by exact rfl)) (by exact rfl))) a_nil (by exact rfl)) (by exact rfl)) (by exact rfl) (by exact rfl)) p_none (p_some (d_var N16_1 V16_1 nd__law_wide nc__law_wide))) (g_name S16.nd N16_2 L16_2 (Or.inl rfl)) (by exact rfl) (by exact rfl) (by exact rfl)) (ss_cons (s_par3 rfl S16.nd N16_3 N16_4 N16_5 (by decide) (by decide) (by decide) (by exact rfl) (by exact rfl) (by exact rfl) (a_cons (d_ix (fun _ => o_ix b.hu1) (d_var N16_2 V16_2 nd__law_letters nc__law_letters) d_int (by (intro _ _; rfl))) (a_cons (d_ix (fun _ => o_ix b.hu1) (d_var N16_2 V16_2 nd__law_letters nc__law_letters) (d_neg d_int) (by (intro _ _; rfl))) (a_cons (d_ix (fun _ => o_ix b.hu1) (d_var N16_2 V16_2 nd__law_letters nc__law_letters) (d_bin (fun _ => o_fdiv) (d_callB (fun _ => c_len2) G16_len Y.b_len (by rfl) (a_cons (d_var N16_2 V16_2 nd__law_letters nc__law_letters) a_nil (by exact rfl)) (by decide) nd_len (by exact rfl) (by exact rfl)) d_int) (by (intro _ _; rfl))) a_nil (by exact rfl)) (by exact rfl)) (by exact rfl)) (by exact rfl) (by exact rfl)) (ss_cons (s_par3 rfl S16.nd N16_6 N16_7 N16_8 (by decide) (by decide) (by decide) (by exact rfl) (by exact rfl) (by exact rfl) (a_cons (d_cal (Y.f 12 _ _ rfl) b G16__law_pick nd__law_pick (a_cons (d_var N16_0 V16_0 nd__law_source_here nc__law_source_here) (a_cons d_int a_nil (by exact rfl)) (by exact rfl)) (by exact rfl) (by exact rfl)) (a_cons (d_cal (Y.f 12 _ _ rfl) b G16__law_pick nd__law_pick (a_cons (d_var N16_0 V16_0 nd__law_source_here nc__law_source_here) (a_cons d_int a_nil (by exact rfl)) (by exact rfl)) (by exact rfl) (by exact rfl)) (a_cons (d_bin (fun _ => o_add) d_int (d_cal (Y.f 12 _ _ rfl) b G16__law_pick nd__law_pick (a_cons (d_var N16_0 V16_0 nd__law_source_here nc__law_source_here) (a_cons d_int a_nil (by exact rfl)) (by exact rfl)) (by exact rfl) (by exact rfl))) a_nil (by exact rfl)) (by exact rfl)) (by exact rfl)) (by exact rfl) (by exact rfl)) (ss_cons (s_asg (d_lst (a_cons (d_tup (a_cons d_strS (a_cons (d_var N16_3 V16_3 nd__law_a nc__law_a) (a_cons (d_var N16_6 V16_6 nd__law_n nc__law_n) (a_cons (d_var N16_6 V16_6 nd__law_n nc__law_n) a_nil (by exact rfl)) (by exact rfl)) (by exact rfl)) (by exact rfl))) a_nil (by exact rfl))) (g_name S16.nd N16_9 L16_9 (Or.inl rfl)) (by exact rfl) (by exact rfl) (by exact rfl)) (ss_cons (s_if (t_cmp (fun _ => o_eq b.hu64) (d_var N16_7 V16_7 nd__law_way nc__law_way) d_int (by exact rfl)) (ss_cons (s_asg (d_bin (fun _ => o_add) (d_var N16_9 V16_9 nd__law_steps_in nc__law_steps_in) (d_lst (a_cons (d_tup (a_cons d_strS (a_cons (d_var N16_4 V16_4 nd__law_b nc__law_b) (a_cons (d_var N16_3 V16_3 nd__law_a nc__law_a) (a_cons (d_var N16_8 V16_8 nd__law_k nc__law_k) a_nil (by exact rfl)) (by exact rfl)) (by exact rfl)) (by exact rfl))) (a_cons (d_tup (a_cons d_strS (a_cons (d_var N16_3 V16_3 nd__law_a nc__law_a) (a_cons (d_var N16_4 V16_4 nd__law_b nc__law_b) (a_cons d_non (a_cons (d_bin (fun _ => o_add) d_int (d_var N16_6 V16_6 nd__law_n nc__law_n)) a_nil (by exact rfl)) (by exact rfl)) (by exact rfl)) (by exact rfl)) (by exact rfl))) a_nil (by exact rfl)) (by exact rfl)))) (g_name S16.nd N16_9 L16_9 (Or.inl rfl)) (by exact rfl) (by exact rfl) (by exact rfl)) ss_nil) (ss_cons (s_if (t_cmp (fun _ => o_eq b.hu64) (d_var N16_7 V16_7 nd__law_way nc__law_way) d_int (by exact rfl)) (ss_cons (s_asg (d_bin (fun _ => o_add) (d_var N16_9 V16_9 nd__law_steps_in nc__law_steps_in) (d_lst (a_cons (d_tup (a_cons d_strS (a_cons (d_var N16_3 V16_3 nd__law_a nc__law_a) (a_cons (d_var N16_3 V16_3 nd__law_a nc__law_a) (a_cons (d_var N16_8 V16_8 nd__law_k nc__law_k) a_nil (by exact rfl)) (by exact rfl)) (by exact rfl)) (by exact rfl))) (a_cons (d_tup (a_cons d_strS (a_cons (d_var N16_4 V16_4 nd__law_b nc__law_b) (a_cons (d_var N16_3 V16_3 nd__law_a nc__law_a) (a_cons d_int (a_cons d_int a_nil (by exact rfl)) (by exact rfl)) (by exact rfl)) (by exact rfl)) (by exact rfl))) (a_cons (d_tup (a_cons d_strS (a_cons (d_var N16_5 V16_5 nd__law_c nc__law_c) (a_cons (d_var N16_3 V16_3 nd__law_a nc__law_a) (a_cons d_int (a_cons d_non (a_cons (d_neg d_int) (a_cons d_int a_nil (by exact rfl)) (by exact rfl)) (by exact rfl)) (by exact rfl)) (by exact rfl)) (by exact rfl)) (by exact rfl))) a_nil (by exact rfl)) (by exact rfl)) (by exact rfl)))) (g_name S16.nd N16_9 L16_9 (Or.inl rfl)) (by exact rfl) (by exact rfl) (by exact rfl)) ss_nil) (ss_cons (s_if (t_cmp (fun _ => o_eq b.hu64) (d_var N16_7 V16_7 nd__law_way nc__law_way) d_int (by exact rfl)) (ss_cons (s_asg (d_lst (a_cons (d_tup (a_cons d_strS (a_cons (d_var N16_3 V16_3 nd__law_a nc__law_a) (a_cons d_int (a_cons d_int a_nil (by exact rfl)) (by exact rfl)) (by exact rfl)) (by exact rfl))) (a_cons (d_tup (a_cons d_strS (a_cons (d_var N16_5 V16_5 nd__law_c nc__law_c) (a_cons (d_var N16_3 V16_3 nd__law_a nc__law_a) (a_cons d_int a_nil (by exact rfl)) (by exact rfl)) (by exact rfl)) (by exact rfl))) (a_cons (d_tup (a_cons d_strS (a_cons (d_var N16_4 V16_4 nd__law_b nc__law_b) (a_cons d_int (a_cons d_int a_nil (by exact rfl)) (by exact rfl)) (by exact rfl)) (by exact rfl))) (a_cons (d_tup (a_cons d_strS (a_cons (d_var N16_4 V16_4 nd__law_b nc__law_b) (a_cons (d_var N16_3 V16_3 nd__law_a nc__law_a) (a_cons d_non (a_cons d_non a_nil (by exact rfl)) (by exact rfl)) (by exact rfl)) (by exact rfl)) (by exact rfl))) a_nil (by exact rfl)) (by exact rfl)) (by exact rfl)) (by exact rfl))) (g_name S16.nd N16_9 L16_9 (Or.inl rfl)) (by exact rfl) (by exact rfl) (by exact rfl)) (ss_cons (s_expr (d_meth F.plainAttrs_list F.slot_list_append F.type_list_append (fun _ => m_append) (d_var N16_9 V16_9 nd__law_steps_in nc__law_steps_in) (a_cons (d_tup (a_cons d_strS (a_cons (d_var N16_4 V16_4 nd__law_b nc__law_b) (a_cons (d_var N16_5 V16_5 nd__law_c nc__law_c) (a_cons d_non (a_cons d_non a_nil (by exact rfl)) (by exact rfl)) (by exact rfl)) (by exact rfl)) (by exact rfl))) a_nil (by exact rfl)) (by exact rfl) (by exact rfl) (by exact rfl) (by exact rfl) (by exact rfl)) (by exact rfl)) ss_nil)) (ss_cons (s_if (t_cmp (fun _ => o_eq b.hu64) (d_var N16_7 V16_7 nd__law_way nc__law_way) d_int (by exact rfl)) (ss_cons (s_asg (d_bin (fun _ => o_add) (d_var N16_9 V16_9 nd__law_steps_in nc__law_steps_in) (d_lst (a_cons (d_tup (a_cons d_strS (a_cons (d_var N16_3 V16_3 nd__law_a nc__law_a) (a_cons (d_var N16_4 V16_4 nd__law_b nc__law_b) (a_cons (d_bin (fun _ => o_sub) d_int (d_var N16_8 V16_8 nd__law_k nc__law_k)) a_nil (by exact rfl)) (by exact rfl)) (by exact rfl)) (by exact rfl))) (a_cons (d_tup (a_cons d_strS (a_cons (d_var N16_4 V16_4 nd__law_b nc__law_b) (a_cons (d_var N16_3 V16_3 nd__law_a nc__law_a) (a_cons (d_bin (fun _ => o_sub) d_int (d_var N16_8 V16_8 nd__law_k nc__law_k)) a_nil (by exact rfl)) (by exact rfl)) (by exact rfl)) (by exact rfl))) (a_cons (d_tup (a_cons d_strS (a_cons (d_var N16_4 V16_4 nd__law_b nc__law_b) (a_cons d_int (a_cons (d_ite (t_cmp (fun _ => o_eq b.hu64) (d_var N16_6 V16_6 nd__law_n nc__law_n) d_int (by exact rfl)) d_non d_int) a_nil (by exact rfl)) (by exact rfl)) (by exact rfl)) (by exact rfl))) a_nil (by exact rfl)) (by exact rfl)) (by exact rfl)))) (g_name S16.nd N16_9 L16_9 (Or.inl rfl)) (by exact rfl) (by exact rfl) (by exact rfl)) ss_nil) ss_nil) ss_nil)) ss_nil)) ss_nil)) (ss_cons (s_for b.po rfl (i_rng1 G16_range Y.b_range (a_cons (d_cal (Y.f 12 _ _ rfl) b G16__law_pick nd__law_pick (a_cons (d_var N16_0 V16_0 nd__law_source_here nc__law_source_here) (a_cons d_int a_nil (by exact rfl)) (by exact rfl)) (by exact rfl) (by exact rfl)) a_nil (by exact rfl)) (by exact rfl)) (g_name S16.nd N16_10 L16_10 (Or.inl rfl)) (ss_cons (s_expr (d_meth F.plainAttrs_list F.slot_list_append F.type_list_append (fun _ => m_append) (d_var N16_9 V16_9 nd__law_steps_in nc__law_steps_in) (a_cons (d_cal (Y.f 15 _ _ rfl) b G16__law_step nd__law_step (a_cons (d_var N16_0 V16_0 nd__law_source_here nc__law_source_here) (a_cons (d_var N16_2 V16_2 nd__law_letters nc__law_letters) a_nil (by exact rfl)) (by exact rfl)) (by exact rfl) (by exact rfl)) a_nil (by exact rfl)) (by exact rfl) (by exact rfl) (by exact rfl) (by exact rfl) (by exact rfl)) (by exact rfl)) ss_nil) (by intro _; rfl)) (ss_cons (s_asg (d_cal (Y.f 12 _ _ rfl) b G16__law_pick nd__law_pick (a_cons (d_var N16_0 V16_0 nd__law_source_here nc__law_source_here) (a_cons (d_callB (fun _ => c_len2) G16_len Y.b_len (by rfl) (a_cons (d_var N16_9 V16_9 nd__law_steps_in nc__law_steps_in) a_nil (by exact rfl)) (by decide) nd_len (by exact rfl) (by exact rfl)) a_nil (by exact rfl)) (by exact rfl)) (by exact rfl) (by exact rfl)) (g_name S16.nd N16_11 L16_11 (Or.inl rfl)) (by exact rfl) (by exact rfl) (by exact rfl)) (ss_cons (s_ret (d_tup (a_cons (d_var N16_2 V16_2 nd__law_letters nc__law_letters) (a_cons (d_callTy (fun _ => c_tuple2 rfl) G16_tuple Y.b_tuple (by rfl) (a_cons (d_bin (fun _ => o_add) (d_sl (d_var N16_9 V16_9 nd__law_steps_in nc__law_steps_in) (p_some (d_var N16_11 V16_11 nd__law_turn nc__law_turn)) p_none) (d_sl (d_var N16_9 V16_9 nd__law_steps_in nc__law_steps_in) p_none (p_some (d_var N16_11 V16_11 nd__law_turn nc__law_turn)))) a_nil (by exact rfl)) (by decide) nd_tuple (by exact rfl) (by exact rfl)) a_nil (by exact rfl)) (by exact rfl)))) ss_nil))))))))
theorem b17 {w : World} {K : PySem.W.Frag} {mg : Str → Option Value} {base : Heap} {k : Nat} {q : Str} {f : Addr} {cdv : Value} {A : Around} {outer : List PySem.Env} {s : Shared} {H : Hp} {E : XK} {W : XWS} {wx : WX} {c : CF} (Y : Fx w K mg base k c) (b : Bd tabs k (cxOf (CX P w) P w K mg base N17 q (defScope (top 26)) f cdv A outer s H E) W wx) :
    PSs (cxOf (CX P w) P w K mg base N17 q (defScope (top 26)) f cdv A outer s H E) (defBody (top 26)) (TDS ⟨K, w, P⟩ W (m17 c)) := by
  delta m17
  exact (ss_cons (s_ret (d_and (d_callB (fun _ => c_isi) G17_isinstance Y.b_isinstance (by rfl) (a_cons (d_var N17_0 V17_0 nd__law_thing_in nc__law_thing_in) (a_cons (d_tyN G17_int Y.b_int (by rfl) (by decide) nd_int) a_nil (by exact rfl)) (by exact rfl)) (by decide) nd_isinstance (by exact rfl) (by exact rfl)) (d_one (d_not (d_callB (fun _ => c_isi) G17_isinstance Y.b_isinstance (by rfl) (a_cons (d_var N17_0 V17_0 nd__law_thing_in nc__law_thing_in) (a_cons (d_tyN G17_bool Y.b_bool (by rfl) (by decide) nd_bool) a_nil (by exact rfl)) (by exact rfl)) (by decide) nd_isinstance (by exact rfl) (by exact rfl)))))) ss_nil)
theorem b18 {w : World} {K : PySem.W.Frag} {mg : Str → Option Value} {base : Heap} {k : Nat} {q : Str} {f : Addr} {cdv : Value} {A : Around} {outer : List PySem.Env} {s : Shared} {H : Hp} {E : XK} {W : XWS} {wx : WX} {c : CF} (Y : Fx w K mg base k c) (b : Bd tabs k (cxOf (CX P w) P w K mg base N18 q (defScope (top 27)) f cdv A outer s H E) W wx) :
    PSs (cxOf (CX P w) P w K mg base N18 q (defScope (top 27)) f cdv A outer s H E) (defBody (top 27)) (TDS ⟨K, w, P⟩ W (m18 c)) := by
  delta m18
  exact (ss_cons (s_ret (d_and (d_callB (fun _ => c_isi) G18_isinstance Y.b_isinstance (by rfl) (a_cons (d_var N18_0 V18_0 nd__law_thing_in nc__law_thing_in) (a_cons (d_tyN G18_str Y.b_str (by rfl) (by decide) nd_str) a_nil (by exact rfl)) (by exact rfl)) (by decide) nd_isinstance (by exact rfl) (by exact rfl)) (d_and (d_cmp (fun _ => o_eq b.hu64) (d_callB (fun _ => c_len2) G18_len Y.b_len (by rfl) (a_cons (d_var N18_0 V18_0 nd__law_thing_in nc__law_thing_in) a_nil (by exact rfl)) (by decide) nd_len (by exact rfl) (by exact rfl)) d_int (by exact rfl)) (d_one (d_cmp (fun _ => o_in b.hu65) (d_var N18_0 V18_0 nd__law_thing_in nc__law_thing_in) d_strS (by exact rfl)))))) ss_nil)
theorem b19 {w : World} {K : PySem.W.Frag} {mg : Str → Option Value} {base : Heap} {k : Nat} {q : Str} {f : Addr} {cdv : Value} {A : Around} {outer : List PySem.Env} {s : Shared} {H : Hp} {E : XK} {W : XWS} {wx : WX} {c : CF} (Y : Fx w K mg base k c) (b : Bd tabs k (cxOf (CX P w) P w K mg base N19 q (defScope (top 28)) f cdv A outer s H E) W wx) :
    PSs (cxOf (CX P w) P w K mg base N19 q (defScope (top 28)) f cdv A outer s H E) (defBody (top 28)) (TDS ⟨K, w, P⟩ W (m19 c)) := by
  delta m19
  exact (ss_cons (s_if (L2.PW.pt (w_or (t_not (t_truth (d_callB (fun _ => c_isi) G19_isinstance Y.b_isinstance (by rfl) (a_cons (d_var N19_0 V19_0 nd__law_thing_in nc__law_thing_in) (a_cons (d_tyN G19_tuple Y.b_tuple (by rfl) (by decide) nd_tuple) a_nil (by exact rfl)) (by exact rfl)) (by decide) nd_isinstance (by exact rfl) (by exact rfl)) (by intro _; rfl))) (w_or1 (t_cmp (fun _ => o_ne b.hu64) (d_callB (fun _ => c_len2) G19_len Y.b_len (by rfl) (a_cons (d_var N19_0 V19_0 nd__law_thing_in nc__law_thing_in) a_nil (by exact rfl)) (by decide) nd_len (by exact rfl) (by exact rfl)) d_int (by exact rfl))))) (ss_cons (s_ret d_bl) ss_nil) ss_nil) (ss_cons (s_if (t_cmp (fun _ => o_ne b.hu64) (d_lc rfl S19.nd (i_val (d_var N19_0 V19_0 nd__law_thing_in nc__law_thing_in)) (own := [(("_law_own" : Str), 1)]) (blkB_ok (by exact rfl)) (by decide) (fun s_ H_ C_ cl_ fp_ => (g_name S19.nd N19_1 (by first | exact Or.inl rfl | exact Or.inr rfl) ((by first | exact Or.inr rfl | exact Or.inl rfl)))) (fun s_ H_ C_ cl_ fp_ => (ts_one (L2.PW.pt (w_and (t_cmp (fun _ => o_isnot) (d_var N19_1 (by first | exact Or.inl rfl | exact Or.inr (Or.inl rfl) | exact Or.inr (Or.inr rfl)) nd__law_own nc__law_own) d_non (by exact rfl)) (w_and1 (t_not (t_truth (d_cal (Y.f 17 _ _ rfl) (b.blk _ _ _ _ _) (by exact rfl) nd__law_is_int (a_cons (d_var N19_1 (by first | exact Or.inl rfl | exact Or.inr (Or.inl rfl) | exact Or.inr (Or.inr rfl)) nd__law_own nc__law_own) a_nil (by exact rfl)) (by exact rfl) (by exact rfl)) (by intro _; rfl)))))))) (fun s_ H_ C_ cl_ fp_ => (d_var N19_1 (by first | exact Or.inl rfl | exact Or.inr (Or.inl rfl) | exact Or.inr (Or.inr rfl)) nd__law_own nc__law_own)) (by intro _; rfl)) (d_lst a_nil) (by exact rfl)) (ss_cons (s_ret d_bl) ss_nil) ss_nil) (ss_cons (s_ret (d_or (d_cmp (fun _ => o_in b.hu65) d_non (d_var N19_0 V19_0 nd__law_thing_in nc__law_thing_in) (by exact rfl)) (d_one (d_cmp (fun _ => o_ord b.hu64 .le) (d_ix (fun _ => o_ix b.hu1) (d_var N19_0 V19_0 nd__law_thing_in nc__law_thing_in) d_int (by (intro _ _; rfl))) (d_ix (fun _ => o_ix b.hu1) (d_var N19_0 V19_0 nd__law_thing_in nc__law_thing_in) d_int (by (intro _ _; rfl))) (by exact rfl))))) ss_nil)))
theorem b20 {w : World} {K : PySem.W.Frag} {mg : Str → Option Value} {base : Heap} {k : Nat} {q : Str} {f : Addr} {cdv : Value} {A : Around} {outer : List PySem.Env} {s : Shared} {H : Hp} {E : XK} {W : XWS} {wx : WX} {c : CF} (Y : Fx w K mg base k c) (b : Bd tabs k (cxOf (CX P w) P w K mg base N20 q (defScope (top 29)) f cdv A outer s H E) W wx) :
    PSs (cxOf (CX P w) P w K mg base N20 q (defScope (top 29)) f cdv A outer s H E) (defBody (top 29)) (TDS ⟨K, w, P⟩ W (m20 c)) := by
  delta m20
  exact (ss_cons (s_if (L2.PW.pt (w_or (t_not (t_truth (d_callB (fun _ => c_isi) G20_isinstance Y.b_isinstance (by rfl) (a_cons (d_var N20_0 V20_0 nd__law_thing_in nc__law_thing_in) (a_cons (d_tyN G20_tuple Y.b_tuple (by rfl) (by decide) nd_tuple) a_nil (by exact rfl)) (by exact rfl)) (by decide) nd_isinstance (by exact rfl) (by exact rfl)) (by intro _; rfl))) (w_or (t_cmp (fun _ => o_eq b.hu64) (d_var N20_0 V20_0 nd__law_thing_in nc__law_thing_in) (d_tup a_nil) (by exact rfl)) (w_or1 (t_not (t_truth (d_callB (fun _ => c_isi) G20_isinstance Y.b_isinstance (by rfl) (a_cons (d_ix (fun _ => o_ix b.hu1) (d_var N20_0 V20_0 nd__law_thing_in nc__law_thing_in) d_int (by (intro _ _; rfl))) (a_cons (d_tyN G20_str Y.b_str (by rfl) (by decide) nd_str) a_nil (by exact rfl)) (by exact rfl)) (by decide) nd_isinstance (by exact rfl) (by exact rfl)) (by intro _; rfl))))))) (ss_cons (s_ret d_bl) ss_nil) ss_nil) (ss_cons (s_asg (d_dic (pps_cons d_strS d_int (pps_cons d_strS d_int (pps_cons d_strS d_int (pps_cons d_strS d_int pps_nil)))) (by exact rfl) (by exact rfl) (by simp) (by decide)) (g_name S20.nd N20_1 L20_1 (Or.inl rfl)) (by exact rfl) (by exact rfl) (by exact rfl)) (ss_cons (s_if (L2.PW.pt (w_or (t_cmp (fun _ => o_notin b.hu65) (d_ix (fun _ => o_ix b.hu1) (d_var N20_0 V20_0 nd__law_thing_in nc__law_thing_in) d_int (by (intro _ _; rfl))) (d_var N20_1 V20_1 nd__law_sizes nc__law_sizes) (by exact rfl)) (w_or (t_cmp (fun _ => o_ne b.hu64) (d_callB (fun _ => c_len2) G20_len Y.b_len (by rfl) (a_cons (d_var N20_0 V20_0 nd__law_thing_in nc__law_thing_in) a_nil (by exact rfl)) (by decide) nd_len (by exact rfl) (by exact rfl)) (d_ix (fun _ => o_ix b.hu1) (d_var N20_1 V20_1 nd__law_sizes nc__law_sizes) (d_ix (fun _ => o_ix b.hu1) (d_var N20_0 V20_0 nd__law_thing_in nc__law_thing_in) d_int (by (intro _ _; rfl))) (by (intro _ _; rfl))) (by exact rfl)) (w_or1 (t_not (t_truth (d_cal (Y.f 18 _ _ rfl) b G20__law_is_letter nd__law_is_letter (a_cons (d_ix (fun _ => o_ix b.hu1) (d_var N20_0 V20_0 nd__law_thing_in nc__law_thing_in) d_int (by (intro _ _; rfl))) a_nil (by exact rfl)) (by exact rfl) (by exact rfl)) (by intro _; rfl))))))) (ss_cons (s_ret d_bl) ss_nil) ss_nil) (ss_cons (s_if (t_cmp (fun _ => o_eq b.hu64) (d_ix (fun _ => o_ix b.hu1) (d_var N20_0 V20_0 nd__law_thing_in nc__law_thing_in) d_int (by (intro _ _; rfl))) d_strS (by exact rfl)) (ss_cons (s_ret (d_cal (Y.f 19 _ _ rfl) b G20__law_is_range nd__law_is_range (a_cons (d_sl (d_var N20_0 V20_0 nd__law_thing_in nc__law_thing_in) (p_some d_int) p_none) a_nil (by exact rfl)) (by exact rfl) (by exact rfl))) ss_nil) ss_nil) (ss_cons (s_if (t_cmp (fun _ => o_eq b.hu64) (d_ix (fun _ => o_ix b.hu1) (d_var N20_0 V20_0 nd__law_thing_in nc__law_thing_in) d_int (by (intro _ _; rfl))) d_strS (by exact rfl)) (ss_cons (s_ret (d_and (d_cal (Y.f 18 _ _ rfl) b G20__law_is_letter nd__law_is_letter (a_cons (d_ix (fun _ => o_ix b.hu1) (d_var N20_0 V20_0 nd__law_thing_in nc__law_thing_in) d_int (by (intro _ _; rfl))) a_nil (by exact rfl)) (by exact rfl) (by exact rfl)) (d_one (d_cal (Y.f 17 _ _ rfl) b G20__law_is_int nd__law_is_int (a_cons (d_ix (fun _ => o_ix b.hu1) (d_var N20_0 V20_0 nd__law_thing_in nc__law_thing_in) d_int (by (intro _ _; rfl))) a_nil (by exact rfl)) (by exact rfl) (by exact rfl))))) ss_nil) ss_nil) (ss_cons (s_if (L2.PW.pt (w_or (t_not (t_truth (d_cal (Y.f 18 _ _ rfl) b G20__law_is_letter nd__law_is_letter (a_cons (d_ix (fun _ => o_ix b.hu1) (d_var N20_0 V20_0 nd__law_thing_in nc__law_thing_in) d_int (by (intro _ _; rfl))) a_nil (by exact rfl)) (by exact rfl) (by exact rfl)) (by intro _; rfl))) (w_or1 (t_not (t_truth (d_cal (Y.f 19 _ _ rfl) b G20__law_is_range nd__law_is_range (a_cons (d_sl (d_var N20_0 V20_0 nd__law_thing_in nc__law_thing_in) (p_some d_int) (p_some d_int)) a_nil (by exact rfl)) (by exact rfl) (by exact rfl)) (by intro _; rfl)))))) (ss_cons (s_ret d_bl) ss_nil) ss_nil) (ss_cons (s_ret (d_or (d_cmp (fun _ => o_eq b.hu64) (d_ix (fun _ => o_ix b.hu1) (d_var N20_0 V20_0 nd__law_thing_in nc__law_thing_in) d_int (by (intro _ _; rfl))) d_strS (by exact rfl)) (d_one (d_cal (Y.f 19 _ _ rfl) b G20__law_is_range nd__law_is_range (a_cons (d_sl (d_var N20_0 V20_0 nd__law_thing_in nc__law_thing_in) (p_some d_int) p_none) a_nil (by exact rfl)) (by exact rfl) (by exact rfl))))) ss_nil)))))))
theorem b21 {w : World} {K : PySem.W.Frag} {mg : Str → Option Value} {base : Heap} {k : Nat} {q : Str} {f : Addr} {cdv : Value} {A : Around} {outer : List PySem.Env} {s : Shared} {H : Hp} {E : XK} {W : XWS} {wx : WX} {c : CF} (Y : Fx w K mg base k c) (b : Bd tabs k (cxOf (CX P w) P w K mg base N21 q (defScope (top 30)) f cdv A outer s H E) W wx) :
    PSs (cxOf (CX P w) P w K mg base N21 q (defScope (top 30)) f cdv A outer s H E) (defBody (top 30)) (TDS ⟨K, w, P⟩ W (m21 c)) := by
  delta m21
  exact (ss_cons (s_if (L2.PW.pt (w_or (t_not (t_truth (d_callB (fun _ => c_isi) G21_isinstance Y.b_isinstance (by rfl) (a_cons (d_var N21_0 V21_0 nd__law_thing_in nc__law_thing_in) (a_cons (d_tyN G21_tuple Y.b_tuple (by rfl) (by decide) nd_tuple) a_nil (by exact rfl)) (by exact rfl)) (by decide) nd_isinstance (by exact rfl) (by exact rfl)) (by intro _; rfl))) (w_or1 (t_cmp (fun _ => o_ne b.hu64) (d_callB (fun _ => c_len2) G21_len Y.b_len (by rfl) (a_cons (d_var N21_0 V21_0 nd__law_thing_in nc__law_thing_in) a_nil (by exact rfl)) (by decide) nd_len (by exact rfl) (by exact rfl)) d_int (by exact rfl))))) (ss_cons (s_ret (d_tup (a_cons d_strS (a_cons (d_neg d_int) a_nil (by exact rfl)) (by exact rfl)))) ss_nil) ss_nil) (ss_cons (s_if (L2.PW.pt (w_or (t_not (t_truth (d_callB (fun _ => c_isi) G21_isinstance Y.b_isinstance (by rfl) (a_cons (d_ix (fun _ => o_ix b.hu1) (d_var N21_0 V21_0 nd__law_thing_in nc__law_thing_in) d_int (by (intro _ _; rfl))) (a_cons (d_tyN G21_str Y.b_str (by rfl) (by decide) nd_str) a_nil (by exact rfl)) (by exact rfl)) (by decide) nd_isinstance (by exact rfl) (by exact rfl)) (by intro _; rfl))) (w_or1 (t_not (t_truth (d_callB (fun _ => c_isi) G21_isinstance Y.b_isinstance (by rfl) (a_cons (d_ix (fun _ => o_ix b.hu1) (d_var N21_0 V21_0 nd__law_thing_in nc__law_thing_in) d_int (by (intro _ _; rfl))) (a_cons (d_tyN G21_tuple Y.b_tuple (by rfl) (by decide) nd_tuple) a_nil (by exact rfl)) (by exact rfl)) (by decide) nd_isinstance (by exact rfl) (by exact rfl)) (by intro _; rfl)))))) (ss_cons (s_ret (d_tup (a_cons d_strS (a_cons (d_neg d_int) a_nil (by exact rfl)) (by exact rfl)))) ss_nil) ss_nil) (ss_cons (s_asg (d_var N21_0 V21_0 nd__law_thing_in nc__law_thing_in) (g_tup rfl (gs_cons (g_name S21.nd N21_1 L21_1 (Or.inl rfl)) (gs_cons (g_name S21.nd N21_2 L21_2 (Or.inl rfl)) gs_nil (by exact rfl)) (by exact rfl)) (by exact rfl) (by exact rfl)) (by exact rfl) (by exact rfl) (by exact rfl)) (ss_cons (s_if (L2.PW.pt (w_or (t_cmp (fun _ => o_ne b.hu64) (d_lc rfl S21.nd (i_val (d_var N21_1 V21_1 nd__law_letters nc__law_letters)) (own := [(("_law_own" : Str), 5)]) (blkB_ok (by exact rfl)) (by decide) (fun s_ H_ C_ cl_ fp_ => (g_name S21.nd N21_5 (by first | exact Or.inl rfl | exact Or.inr rfl) ((by first | exact Or.inr rfl | exact Or.inl rfl)))) (fun s_ H_ C_ cl_ fp_ => (ts_one (t_not (t_truth (d_cal (Y.f 18 _ _ rfl) (b.blk _ _ _ _ _) (by exact rfl) nd__law_is_letter (a_cons (d_var N21_5 (by first | exact Or.inl rfl | exact Or.inr (Or.inl rfl) | exact Or.inr (Or.inr rfl)) nd__law_own nc__law_own) a_nil (by exact rfl)) (by exact rfl) (by exact rfl)) (by intro _; rfl))))) (fun s_ H_ C_ cl_ fp_ => (d_var N21_5 (by first | exact Or.inl rfl | exact Or.inr (Or.inl rfl) | exact Or.inr (Or.inr rfl)) nd__law_own nc__law_own)) (by intro _; rfl)) (d_lst a_nil) (by exact rfl)) (w_or1 (t_cmp (fun _ => o_ne b.hu64) (d_callB (fun _ => c_len2) G21_len Y.b_len (by rfl) (a_cons (d_callTy (fun _ => c_set rfl) G21_set Y.b_set (by rfl) (a_cons (d_callTy (fun _ => c_list2 rfl) G21_list Y.b_list (by rfl) (a_cons (d_var N21_1 V21_1 nd__law_letters nc__law_letters) a_nil (by exact rfl)) (by decide) nd_list (by exact rfl) (by exact rfl)) a_nil (by exact rfl)) (by decide) nd_set (by exact rfl) (by exact rfl)) a_nil (by exact rfl)) (by decide) nd_len (by exact rfl) (by exact rfl)) (d_callB (fun _ => c_len2) G21_len Y.b_len (by rfl) (a_cons (d_var N21_1 V21_1 nd__law_letters nc__law_letters) a_nil (by exact rfl)) (by decide) nd_len (by exact rfl) (by exact rfl)) (by exact rfl))))) (ss_cons (s_ret (d_tup (a_cons d_strS (a_cons (d_neg d_int) a_nil (by exact rfl)) (by exact rfl)))) ss_nil) ss_nil) (ss_cons (s_for b.po rfl (i_en G21_enumerate Y.b_enumerate (d_var N21_2 V21_2 nd__law_steps_in nc__law_steps_in) (by exact rfl)) (g_tup rfl (gs_cons (g_name S21.nd N21_3 L21_3 (Or.inl rfl)) (gs_cons (g_name S21.nd N21_4 L21_4 (Or.inl rfl)) gs_nil (by exact rfl)) (by exact rfl)) (by exact rfl) (by exact rfl)) (ss_cons (s_if (t_not (t_truth (d_cal (Y.f 20 _ _ rfl) b G21__law_is_step nd__law_is_step (a_cons (d_var N21_4 V21_4 nd__law_step_in nc__law_step_in) a_nil (by exact rfl)) (by exact rfl) (by exact rfl)) (by intro _; rfl))) (ss_cons (s_ret (d_tup (a_cons d_strS (a_cons (d_var N21_3 V21_3 nd__law_i nc__law_i) a_nil (by exact rfl)) (by exact rfl)))) ss_nil) ss_nil) (ss_cons (s_if (t_cmp (fun _ => o_ne b.hu64) (d_lc rfl S21.nd (i_val (d_sl (d_var N21_4 V21_4 nd__law_step_in nc__law_step_in) (p_some d_int) p_none)) (own := [(("_law_own" : Str), 5)]) (blkB_ok (by exact rfl)) (by decide) (fun s_ H_ C_ cl_ fp_ => (g_name S21.nd N21_5 (by first | exact Or.inl rfl | exact Or.inr rfl) ((by first | exact Or.inr rfl | exact Or.inl rfl)))) (fun s_ H_ C_ cl_ fp_ => (ts_one (L2.PW.pt (w_and (t_truth (d_callB (fun _ => c_isi) (by exact rfl) Y.b_isinstance (by rfl) (a_cons (d_var N21_5 (by first | exact Or.inl rfl | exact Or.inr (Or.inl rfl) | exact Or.inr (Or.inr rfl)) nd__law_own nc__law_own) (a_cons (d_tyN (by exact rfl) Y.b_str (by rfl) (by decide) nd_str) a_nil (by exact rfl)) (by exact rfl)) (by decide) nd_isinstance (by exact rfl) (by exact rfl)) (by intro _; rfl)) (w_and1 (t_cmp (fun _ => o_notin b.hu65) (d_var N21_5 (by first | exact Or.inl rfl | exact Or.inr (Or.inl rfl) | exact Or.inr (Or.inr rfl)) nd__law_own nc__law_own) (d_var N21_1 (by first | exact Or.inl rfl | exact Or.inr (Or.inl rfl) | exact Or.inr (Or.inr rfl)) nd__law_letters nc__law_letters) (by exact rfl))))))) (fun s_ H_ C_ cl_ fp_ => (d_var N21_5 (by first | exact Or.inl rfl | exact Or.inr (Or.inl rfl) | exact Or.inr (Or.inr rfl)) nd__law_own nc__law_own)) (by intro _; rfl)) (d_lst a_nil) (by exact rfl)) (ss_cons (s_ret (d_tup (a_cons d_strS (a_cons (d_var N21_3 V21_3 nd__law_i nc__law_i) a_nil (by exact rfl)) (by exact rfl)))) ss_nil) ss_nil) ss_nil)) (by intro _; rfl)) (ss_cons (s_ret d_non) ss_nil))))))
theorem b22 {w : World} {K : PySem.W.Frag} {mg : Str → Option Value} {base : Heap} {k : Nat} {q : Str} {f : Addr} {cdv : Value} {A : Around} {outer : List PySem.Env} {s : Shared} {H : Hp} {E : XK} {W : XWS} {wx : WX} {c : CF} (Y : Fx w K mg base k c) (b : Bd tabs k (cxOf (CX P w) P w K mg base N22 q (defScope (top 31)) f cdv A outer s H E) W wx) :
    PSs (cxOf (CX P w) P w K mg base N22 q (defScope (top 31)) f cdv A outer s H E) (defBody (top 31)) (TDS ⟨K, w, P⟩ W (m22 c)) := by
  delta m22
  exact (ss_cons (s_if (L2.PW.pt (w_and (t_truth (d_callB (fun _ => c_isi) G22_isinstance Y.b_isinstance (by rfl) (a_cons (d_var N22_1 V22_1 nd__law_thing_in nc__law_thing_in) (a_cons (d_tyN G22_tuple Y.b_tuple (by rfl) (by decide) nd_tuple) a_nil (by exact rfl)) (by exact rfl)) (by decide) nd_isinstance (by exact rfl) (by exact rfl)) (by intro _; rfl)) (w_and (t_cmp (fun _ => o_ne b.hu64) (d_var N22_1 V22_1 nd__law_thing_in nc__law_thing_in) (d_tup a_nil) (by exact rfl)) (w_and1 (t_cmp (fun _ => o_ord b.hu64 .gt) (d_cal (Y.f 12 _ _ rfl) b G22__law_pick nd__law_pick (a_cons (d_var N22_0 V22_0 nd__law_source_here nc__law_source_here) (a_cons d_int a_nil (by exact rfl)) (by exact rfl)) (by exact rfl) (by exact rfl)) d_int (by exact rfl)))))) (ss_cons (s_asg (d_cal (Y.f 12 _ _ rfl) b G22__law_pick nd__law_pick (a_cons (d_var N22_0 V22_0 nd__law_source_here nc__law_source_here) (a_cons (d_callB (fun _ => c_len2) G22_len Y.b_len (by rfl) (a_cons (d_var N22_1 V22_1 nd__law_thing_in nc__law_thing_in) a_nil (by exact rfl)) (by decide) nd_len (by exact rfl) (by exact rfl)) a_nil (by exact rfl)) (by exact rfl)) (by exact rfl) (by exact rfl)) (g_name S22.nd N22_2 L22_2 (Or.inl rfl)) (by exact rfl) (by exact rfl) (by exact rfl)) (ss_cons (s_ret (d_bin (fun _ => o_add) (d_bin (fun _ => o_add) (d_sl (d_var N22_1 V22_1 nd__law_thing_in nc__law_thing_in) p_none (p_some (d_var N22_2 V22_2 nd__law_at nc__law_at))) (d_tup (a_cons (d_cal (Y.f 22 _ _ rfl) b G22__law_bent nd__law_bent (a_cons (d_var N22_0 V22_0 nd__law_source_here nc__law_source_here) (a_cons (d_ix (fun _ => o_ix b.hu1) (d_var N22_1 V22_1 nd__law_thing_in nc__law_thing_in) (d_var N22_2 V22_2 nd__law_at nc__law_at) (by (intro _ _; rfl))) a_nil (by exact rfl)) (by exact rfl)) (by exact rfl) (by exact rfl)) a_nil (by exact rfl)))) (d_sl (d_var N22_1 V22_1 nd__law_thing_in nc__law_thing_in) (p_some (d_bin (fun _ => o_add) (d_var N22_2 V22_2 nd__law_at nc__law_at) d_int)) p_none))) ss_nil)) ss_nil) (ss_cons (s_asg (d_cal (Y.f 12 _ _ rfl) b G22__law_pick nd__law_pick (a_cons (d_var N22_0 V22_0 nd__law_source_here nc__law_source_here) (a_cons d_int a_nil (by exact rfl)) (by exact rfl)) (by exact rfl) (by exact rfl)) (g_name S22.nd N22_3 L22_3 (Or.inl rfl)) (by exact rfl) (by exact rfl) (by exact rfl)) (ss_cons (s_if (L2.PW.pt (w_and (t_truth (d_callB (fun _ => c_isi) G22_isinstance Y.b_isinstance (by rfl) (a_cons (d_var N22_1 V22_1 nd__law_thing_in nc__law_thing_in) (a_cons (d_tyN G22_tuple Y.b_tuple (by rfl) (by decide) nd_tuple) a_nil (by exact rfl)) (by exact rfl)) (by decide) nd_isinstance (by exact rfl) (by exact rfl)) (by intro _; rfl)) (w_and1 (t_cmp (fun _ => o_ord b.hu64 .lt) (d_var N22_3 V22_3 nd__law_way nc__law_way) d_int (by exact rfl))))) (ss_cons (s_ret (d_ix (fun _ => o_ix b.hu1) (d_lst (a_cons (d_sl (d_var N22_1 V22_1 nd__law_thing_in nc__law_thing_in) (p_some d_int) p_none) (a_cons (d_sl (d_var N22_1 V22_1 nd__law_thing_in nc__law_thing_in) p_none (p_some (d_neg d_int))) (a_cons (d_bin (fun _ => o_add) (d_var N22_1 V22_1 nd__law_thing_in nc__law_thing_in) (d_sl (d_var N22_1 V22_1 nd__law_thing_in nc__law_thing_in) (p_some (d_neg d_int)) p_none)) (a_cons (d_rev (d_var N22_1 V22_1 nd__law_thing_in nc__law_thing_in)) (a_cons (d_callTy (fun _ => c_list2 rfl) G22_list Y.b_list (by rfl) (a_cons (d_var N22_1 V22_1 nd__law_thing_in nc__law_thing_in) a_nil (by exact rfl)) (by decide) nd_list (by exact rfl) (by exact rfl)) a_nil (by exact rfl)) (by exact rfl)) (by exact rfl)) (by exact rfl)) (by exact rfl))) (d_var N22_3 V22_3 nd__law_way nc__law_way) (by (intro _ _; rfl)))) ss_nil) ss_nil) (ss_cons (s_asg (d_lst (a_cons d_non (a_cons d_bl (a_cons d_bl (a_cons d_int (a_cons (d_neg d_int) (a_cons d_int (a_cons d_strS (a_cons d_strS (a_cons d_strS (a_cons d_strS (a_cons d_strS (a_cons d_strS (a_cons d_strS (a_cons (d_tup a_nil) (a_cons (d_tup (a_cons d_int (a_cons d_int a_nil (by exact rfl)) (by exact rfl))) (a_cons d_strS (a_cons (d_bin (fun _ => o_pow) d_int d_int) a_nil (by exact rfl)) (by exact rfl)) (by exact rfl)) (by exact rfl)) (by exact rfl)) (by exact rfl)) (by exact rfl)) (by exact rfl)) (by exact rfl)) (by exact rfl)) (by exact rfl)) (by exact rfl)) (by exact rfl)) (by exact rfl)) (by exact rfl)) (by exact rfl)) (by exact rfl))) (g_name S22.nd N22_4 L22_4 (Or.inl rfl)) (by exact rfl) (by exact rfl) (by exact rfl)) (ss_cons (s_ret (d_cal (Y.f 13 _ _ rfl) b G22__law_any nd__law_any (a_cons (d_var N22_0 V22_0 nd__law_source_here nc__law_source_here) (a_cons (d_var N22_4 V22_4 nd__law_some nc__law_some) a_nil (by exact rfl)) (by exact rfl)) (by exact rfl) (by exact rfl))) ss_nil)))))
theorem b23 {w : World} {K : PySem.W.Frag} {mg : Str → Option Value} {base : Heap} {k : Nat} {q : Str} {f : Addr} {cdv : Value} {A : Around} {outer : List PySem.Env} {s : Shared} {H : Hp} {E : XK} {W : XWS} {wx : WX} {c : CF} (Y : Fx w K mg base k c) (b : Bd tabs k (cxOf (CX P w) P w K mg base N23 q (defScope (top 32)) f cdv A outer s H E) W wx) :
    PSs (cxOf (CX P w) P w K mg base N23 q (defScope (top 32)) f cdv A outer s H E) (defBody (top 32)) (TDS ⟨K, w, P⟩ W (m23 c)) := by
  delta m23
  exact (ss_cons (s_try (c0 := e_InvalidPaper) rfl rfl S23.nd N23_1 (by exact rfl) (by exact ⟨G23_InvalidPaper, nd_InvalidPaper, Or.inl Y.er_InvalidPaper.2⟩) b.tk b.lw rfl rfl (by decide) Y.m_InvalidPaper (fun W_ w_ pn_ xe_ tk_ lw_ po_ => let bt := b.tr tk_ lw_ po_; (ss_cons (s_ret (d_tup (a_cons d_strS (a_cons (d_cal (Y.f 10 _ _ rfl) bt G23_lets_names nd_lets_names (a_cons (d_var N23_0 V23_0 nd__law_thing_in nc__law_thing_in) a_nil (by exact rfl)) (by exact rfl) (by exact rfl)) a_nil (by exact rfl)) (by exact rfl)))) ss_nil)) (fun a_ oe_ cls_ d_ pn_ hz_ hf_ => suf_ret (suf_is Y.x_InvalidPaper Y.is_InvalidPaper_PaperError hz_ hf_ G23_isinstance Y.b_isinstance G23_PaperError Y.g_PaperError nd_PaperError (pv 1) (suf_tup (suf_cons (suf_con pe_str (by exact rfl)) (suf_cons (suf_fld Y.er_InvalidPaper.1.xf (Y.er_InvalidPaper.1.no _ (List.mem_of_getElem? (i := 0) (by exact rfl))) hz_ hf_ (by decide) (by exact rfl) (pv 1) (by exact rfl)) (suf_cons (suf_fld Y.er_InvalidPaper.1.xf (Y.er_InvalidPaper.1.no _ (List.mem_of_getElem? (i := 1) (by exact rfl))) hz_ hf_ (by decide) (by exact rfl) (pv 1) (by exact rfl)) suf_nil (by exact rfl)) (by exact rfl)) (by exact rfl))) (pe_tup (pa_cons pe_str pa_nil)) (by exact rfl) (by exact rfl) (by exact rfl) (by intro _; rfl)))) ss_nil)
theorem b24 {w : World} {K : PySem.W.Frag} {mg : Str → Option Value} {base : Heap} {k : Nat} {q : Str} {f : Addr} {cdv : Value} {A : Around} {outer : List PySem.Env} {s : Shared} {H : Hp} {E : XK} {W : XWS} {wx : WX} {c : CF} (Y : Fx w K mg base k c) (b : Bd tabs k (cxOf (CX P w) P w K mg base N24 q (defScope (top 33)) f cdv A outer s H E) W wx) :
    PSs (cxOf (CX P w) P w K mg base N24 q (defScope (top 33)) f cdv A outer s H E) (defBody (top 33)) (TDS ⟨K, w, P⟩ W (m24 c)) := by
  delta m24
  exact (ss_cons (s_asg (d_lst (a_cons (d_tup (a_cons d_strS (a_cons d_strS (a_cons d_int (a_cons d_int a_nil (by exact rfl)) (by exact rfl)) (by exact rfl)) (by exact rfl))) (a_cons (d_tup (a_cons d_strS (a_cons d_strS (a_cons d_strS (a_cons (d_neg d_int) a_nil (by exact rfl)) (by exact rfl)) (by exact rfl)) (by exact rfl))) (a_cons (d_tup (a_cons d_strS (a_cons d_strS (a_cons d_strS (a_cons d_non (a_cons d_int a_nil (by exact rfl)) (by exact rfl)) (by exact rfl)) (by exact rfl)) (by exact rfl))) a_nil (by exact rfl)) (by exact rfl)) (by exact rfl))) (g_name S24.nd N24_0 L24_0 (Or.inl rfl)) (by exact rfl) (by exact rfl) (by exact rfl)) (ss_cons (s_expr (d_meth F.plainAttrs_list F.slot_list_append F.type_list_append (fun _ => m_append) (d_var N24_0 V24_0 nd__law_some nc__law_some) (a_cons (d_tup (a_cons d_strS (a_cons d_strS (a_cons d_strS (a_cons d_int (a_cons d_int (a_cons d_non (a_cons d_non a_nil (by exact rfl)) (by exact rfl)) (by exact rfl)) (by exact rfl)) (by exact rfl)) (by exact rfl)) (by exact rfl))) a_nil (by exact rfl)) (by exact rfl) (by exact rfl) (by exact rfl) (by exact rfl) (by exact rfl)) (by exact rfl)) (ss_cons (s_asg (d_lst (a_cons (d_tup (a_cons d_strS (a_cons d_strS (a_cons d_int (a_cons d_int a_nil (by exact rfl)) (by exact rfl)) (by exact rfl)) (by exact rfl))) (a_cons (d_tup (a_cons d_strS (a_cons d_strS (a_cons d_bl (a_cons d_int a_nil (by exact rfl)) (by exact rfl)) (by exact rfl)) (by exact rfl))) (a_cons (d_tup (a_cons d_strS (a_cons d_strS (a_cons d_int (a_cons d_int a_nil (by exact rfl)) (by exact rfl)) (by exact rfl)) (by exact rfl))) (a_cons (d_tup (a_cons d_strS (a_cons d_strS (a_cons d_int (a_cons d_int a_nil (by exact rfl)) (by exact rfl)) (by exact rfl)) (by exact rfl))) (a_cons (d_tup (a_cons d_strS (a_cons d_strS (a_cons d_int a_nil (by exact rfl)) (by exact rfl)) (by exact rfl))) a_nil (by exact rfl)) (by exact rfl)) (by exact rfl)) (by exact rfl)) (by exact rfl))) (g_name S24.nd N24_1 L24_1 (Or.inl rfl)) (by exact rfl) (by exact rfl) (by exact rfl)) (ss_cons (s_asg (d_bin (fun _ => o_add) (d_var N24_1 V24_1 nd__law_odd nc__law_odd) (d_lst (a_cons (d_tup (a_cons d_strS (a_cons d_strS (a_cons d_strS a_nil (by exact rfl)) (by exact rfl)) (by exact rfl))) (a_cons (d_tup (a_cons d_strS (a_cons d_strS (a_cons d_strS (a_cons d_non a_nil (by exact rfl)) (by exact rfl)) (by exact rfl)) (by exact rfl))) (a_cons (d_tup (a_cons d_strS (a_cons d_strS (a_cons d_strS (a_cons d_bl a_nil (by exact rfl)) (by exact rfl)) (by exact rfl)) (by exact rfl))) (a_cons (d_tup (a_cons d_strS (a_cons d_strS (a_cons d_int (a_cons d_int a_nil (by exact rfl)) (by exact rfl)) (by exact rfl)) (by exact rfl))) a_nil (by exact rfl)) (by exact rfl)) (by exact rfl)) (by exact rfl)))) (g_name S24.nd N24_1 L24_1 (Or.inl rfl)) (by exact rfl) (by exact rfl) (by exact rfl)) (ss_cons (s_expr (d_meth F.plainAttrs_list F.slot_list_append F.type_list_append (fun _ => m_append) (d_var N24_1 V24_1 nd__law_odd nc__law_odd) (a_cons (d_tup (a_cons d_strS (a_cons d_strS (a_cons d_strS (a_cons d_int (a_cons d_int a_nil (by exact rfl)) (by exact rfl)) (by exact rfl)) (by exact rfl)) (by exact rfl))) a_nil (by exact rfl)) (by exact rfl) (by exact rfl) (by exact rfl) (by exact rfl) (by exact rfl)) (by exact rfl)) (ss_cons (s_asg (d_bin (fun _ => o_add) (d_var N24_1 V24_1 nd__law_odd nc__law_odd) (d_lst (a_cons (d_tup (a_cons d_strS (a_cons d_strS (a_cons d_strS (a_cons d_int (a_cons d_int (a_cons d_int (a_cons d_int a_nil (by exact rfl)) (by exact rfl)) (by exact rfl)) (by exact rfl)) (by exact rfl)) (by exact rfl)) (by exact rfl))) (a_cons (d_tup (a_cons d_strS (a_cons d_strS (a_cons d_strS (a_cons d_int (a_cons d_int (a_cons d_int (a_cons d_int a_nil (by exact rfl)) (by exact rfl)) (by exact rfl)) (by exact rfl)) (by exact rfl)) (by exact rfl)) (by exact rfl))) (a_cons (d_tup (a_cons d_strS (a_cons d_strS (a_cons d_strS (a_cons d_int (a_cons d_int a_nil (by exact rfl)) (by exact rfl)) (by exact rfl)) (by exact rfl)) (by exact rfl))) a_nil (by exact rfl)) (by exact rfl)) (by exact rfl)))) (g_name S24.nd N24_1 L24_1 (Or.inl rfl)) (by exact rfl) (by exact rfl) (by exact rfl)) (ss_cons (s_asg (d_bin (fun _ => o_add) (d_var N24_1 V24_1 nd__law_odd nc__law_odd) (d_lst (a_cons (d_lst (a_cons d_strS (a_cons d_strS (a_cons d_int (a_cons d_int a_nil (by exact rfl)) (by exact rfl)) (by exact rfl)) (by exact rfl))) (a_cons (d_tup (a_cons d_strS (a_cons d_strS (a_cons d_int (a_cons d_int a_nil (by exact rfl)) (by exact rfl)) (by exact rfl)) (by exact rfl))) (a_cons (d_tup (a_cons d_strS (a_cons d_strS (a_cons d_int (a_cons d_int a_nil (by exact rfl)) (by exact rfl)) (by exact rfl)) (by exact rfl))) (a_cons (d_tup (a_cons d_strS (a_cons (d_tup (a_cons d_strS a_nil (by exact rfl))) (a_cons d_int (a_cons d_int a_nil (by exact rfl)) (by exact rfl)) (by exact rfl)) (by exact rfl))) (a_cons (d_tup (a_cons d_strS (a_cons d_strS (a_cons (d_tup (a_cons d_int (a_cons d_int a_nil (by exact rfl)) (by exact rfl))) a_nil (by exact rfl)) (by exact rfl)) (by exact rfl))) a_nil (by exact rfl)) (by exact rfl)) (by exact rfl)) (by exact rfl)) (by exact rfl)))) (g_name S24.nd N24_1 L24_1 (Or.inl rfl)) (by exact rfl) (by exact rfl) (by exact rfl)) (ss_cons (s_asg (d_bin (fun _ => o_add) (d_var N24_1 V24_1 nd__law_odd nc__law_odd) (d_lst (a_cons d_non (a_cons (d_tup a_nil) (a_cons (d_tup (a_cons d_strS a_nil (by exact rfl))) (a_cons d_strS a_nil (by exact rfl)) (by exact rfl)) (by exact rfl)) (by exact rfl)))) (g_name S24.nd N24_1 L24_1 (Or.inl rfl)) (by exact rfl) (by exact rfl) (by exact rfl)) (ss_cons (s_if (L2.PW.pt (w_or (t_cmp (fun _ => o_ne b.hu64) (d_lc rfl S24.nd (i_val (d_var N24_0 V24_0 nd__law_some nc__law_some)) (own := [(("_law_one" : Str), 2)]) (blkB_ok (by exact rfl)) (by decide) (fun s_ H_ C_ cl_ fp_ => (g_name S24.nd N24_2 (by first | exact Or.inl rfl | exact Or.inr rfl) ((by first | exact Or.inr rfl | exact Or.inl rfl)))) (fun s_ H_ C_ cl_ fp_ => ts_nil) (fun s_ H_ C_ cl_ fp_ => (d_cal (Y.f 7 _ _ rfl) (b.blk _ _ _ _ _) (by exact rfl) nd_is_step (a_cons (d_var N24_2 (by first | exact Or.inl rfl | exact Or.inr (Or.inl rfl) | exact Or.inr (Or.inr rfl)) nd__law_one nc__law_one) a_nil (by exact rfl)) (by exact rfl) (by exact rfl))) (by intro _; rfl)) (d_bin (fun _ => o_mul) (d_lst (a_cons d_bl a_nil (by exact rfl))) d_int) (by exact rfl)) (w_or1 (t_cmp (fun _ => o_ne b.hu64) (d_lc rfl S24.nd (i_val (d_var N24_1 V24_1 nd__law_odd nc__law_odd)) (own := [(("_law_one" : Str), 2)]) (blkB_ok (by exact rfl)) (by decide) (fun s_ H_ C_ cl_ fp_ => (g_name S24.nd N24_2 (by first | exact Or.inl rfl | exact Or.inr rfl) ((by first | exact Or.inr rfl | exact Or.inl rfl)))) (fun s_ H_ C_ cl_ fp_ => ts_nil) (fun s_ H_ C_ cl_ fp_ => (d_calK (Y.f 7 _ _ rfl) (b.blk _ _ _ _ _) (by exact rfl) nd_is_step (k_cons (d_var N24_2 (by first | exact Or.inl rfl | exact Or.inr (Or.inl rfl) | exact Or.inr (Or.inr rfl)) nd__law_one nc__law_one) k_nil) (by exact rfl) (by exact rfl) (by exact rfl))) (by intro _; rfl)) (d_bin (fun _ => o_mul) (d_lst (a_cons d_bl a_nil (by exact rfl))) (d_callB (fun _ => c_len2) G24_len Y.b_len (by rfl) (a_cons (d_var N24_1 V24_1 nd__law_odd nc__law_odd) a_nil (by exact rfl)) (by decide) nd_len (by exact rfl) (by exact rfl))) (by exact rfl))))) (ss_cons (s_ret d_bl) ss_nil) ss_nil) (ss_cons (s_asg (d_lst (a_cons (d_tup (a_cons d_non (a_cons d_non a_nil (by exact rfl)) (by exact rfl))) (a_cons (d_tup (a_cons d_non (a_cons (d_neg d_int) a_nil (by exact rfl)) (by exact rfl))) (a_cons (d_tup (a_cons d_int (a_cons d_non a_nil (by exact rfl)) (by exact rfl))) (a_cons (d_tup (a_cons d_int (a_cons d_int a_nil (by exact rfl)) (by exact rfl))) (a_cons (d_tup (a_cons (d_neg (d_bin (fun _ => o_pow) d_int d_int)) (a_cons (d_bin (fun _ => o_pow) d_int d_int) a_nil (by exact rfl)) (by exact rfl))) a_nil (by exact rfl)) (by exact rfl)) (by exact rfl)) (by exact rfl)) (by exact rfl))) (g_name S24.nd N24_0 L24_0 (Or.inl rfl)) (by exact rfl) (by exact rfl) (by exact rfl)) (ss_cons (s_asg (d_lst (a_cons (d_tup (a_cons d_int (a_cons d_int a_nil (by exact rfl)) (by exact rfl))) (a_cons (d_tup (a_cons d_bl (a_cons d_int a_nil (by exact rfl)) (by exact rfl))) (a_cons (d_tup (a_cons d_int (a_cons d_bl a_nil (by exact rfl)) (by exact rfl))) (a_cons (d_lst (a_cons d_int (a_cons d_int a_nil (by exact rfl)) (by exact rfl))) (a_cons (d_tup (a_cons d_int a_nil (by exact rfl))) (a_cons (d_tup (a_cons d_int (a_cons d_int (a_cons d_int a_nil (by exact rfl)) (by exact rfl)) (by exact rfl))) (a_cons (d_tup a_nil) (a_cons d_non (a_cons d_int (a_cons (d_tup (a_cons d_strS (a_cons d_strS a_nil (by exact rfl)) (by exact rfl))) (a_cons (d_tup (a_cons (d_tup (a_cons d_int a_nil (by exact rfl))) (a_cons d_int a_nil (by exact rfl)) (by exact rfl))) (a_cons d_strS a_nil (by exact rfl)) (by exact rfl)) (by exact rfl)) (by exact rfl)) (by exact rfl)) (by exact rfl)) (by exact rfl)) (by exact rfl)) (by exact rfl)) (by exact rfl)) (by exact rfl)) (by exact rfl))) (g_name S24.nd N24_1 L24_1 (Or.inl rfl)) (by exact rfl) (by exact rfl) (by exact rfl)) (ss_cons (s_expr (d_meth F.plainAttrs_list F.slot_list_append F.type_list_append (fun _ => m_append) (d_var N24_1 V24_1 nd__law_odd nc__law_odd) (a_cons (d_tup (a_cons d_int (a_cons d_non (a_cons d_non a_nil (by exact rfl)) (by exact rfl)) (by exact rfl))) a_nil (by exact rfl)) (by exact rfl) (by exact rfl) (by exact rfl) (by exact rfl) (by exact rfl)) (by exact rfl)) (ss_cons (s_ret (d_cmp (fun _ => o_eq b.hu64) (d_lc rfl S24.nd (i_val (d_bin (fun _ => o_add) (d_var N24_0 V24_0 nd__law_some nc__law_some) (d_var N24_1 V24_1 nd__law_odd nc__law_odd))) (own := [(("_law_one" : Str), 2)]) (blkB_ok (by exact rfl)) (by decide) (fun s_ H_ C_ cl_ fp_ => (g_name S24.nd N24_2 (by first | exact Or.inl rfl | exact Or.inr rfl) ((by first | exact Or.inr rfl | exact Or.inl rfl)))) (fun s_ H_ C_ cl_ fp_ => ts_nil) (fun s_ H_ C_ cl_ fp_ => (d_cal (Y.f 5 _ _ rfl) (b.blk _ _ _ _ _) (by exact rfl) nd_is_range (a_cons (d_var N24_2 (by first | exact Or.inl rfl | exact Or.inr (Or.inl rfl) | exact Or.inr (Or.inr rfl)) nd__law_one nc__law_one) a_nil (by exact rfl)) (by exact rfl) (by exact rfl))) (by intro _; rfl)) (d_bin (fun _ => o_add) (d_bin (fun _ => o_mul) (d_lst (a_cons d_bl a_nil (by exact rfl))) d_int) (d_bin (fun _ => o_mul) (d_lst (a_cons d_bl a_nil (by exact rfl))) (d_callB (fun _ => c_len2) G24_len Y.b_len (by rfl) (a_cons (d_var N24_1 V24_1 nd__law_odd nc__law_odd) a_nil (by exact rfl)) (by decide) nd_len (by exact rfl) (by exact rfl)))) (by exact rfl))) ss_nil)))))))))))))
theorem b25 {w : World} {K : PySem.W.Frag} {mg : Str → Option Value} {base : Heap} {k : Nat} {q : Str} {f : Addr} {cdv : Value} {A : Around} {outer : List PySem.Env} {s : Shared} {H : Hp} {E : XK} {W : XWS} {wx : WX} {c : CF} (Y : Fx w K mg base k c) (b : Bd tabs k (cxOf (CX P w) P w K mg base N25 q (defScope (top 34)) f cdv A outer s H E) W wx) :
    PSs (cxOf (CX P w) P w K mg base N25 q (defScope (top 34)) f cdv A outer s H E) (defBody (top 34)) (TDS ⟨K, w, P⟩ W (m25 c)) := by
  delta m25
  exact (ss_cons (s_asg (d_cal (Y.f 11 _ _ rfl) b G25__law_source nd__law_source (a_cons (d_var N25_0 V25_0 nd__law_script nc__law_script) a_nil (by exact rfl)) (by exact rfl) (by exact rfl)) (g_name S25.nd N25_1 L25_1 (Or.inl rfl)) (by exact rfl) (by exact rfl) (by exact rfl)) (ss_cons (s_if (t_not (t_truth (d_cal0 (Y.f 24 _ _ rfl) b G25__law_by_hand nd__law_by_hand) (by intro _; rfl))) (ss_cons (s_ret d_bl) ss_nil) ss_nil) (ss_cons (s_for b.po rfl (i_rng1 G25_range Y.b_range (a_cons d_int a_nil (by exact rfl)) (by exact rfl)) (g_name S25.nd N25_2 L25_2 (Or.inl rfl)) (ss_cons (s_asg (d_cal (Y.f 16 _ _ rfl) b G25__law_plan nd__law_plan (a_cons (d_var N25_1 V25_1 nd__law_source_here nc__law_source_here) (a_cons d_int a_nil (by exact rfl)) (by exact rfl)) (by exact rfl) (by exact rfl)) (g_name S25.nd N25_3 L25_3 (Or.inl rfl)) (by exact rfl) (by exact rfl) (by exact rfl)) (ss_cons (s_asg (d_lst (a_cons (d_var N25_3 V25_3 nd__law_plan_here nc__law_plan_here) (a_cons (d_tup (a_cons (d_bin (fun _ => o_add) (d_ix (fun _ => o_ix b.hu1) (d_var N25_3 V25_3 nd__law_plan_here nc__law_plan_here) d_int (by (intro _ _; rfl))) (d_sl (d_ix (fun _ => o_ix b.hu1) (d_var N25_3 V25_3 nd__law_plan_here nc__law_plan_here) d_int (by (intro _ _; rfl))) p_none (p_some d_int))) (a_cons (d_ix (fun _ => o_ix b.hu1) (d_var N25_3 V25_3 nd__law_plan_here nc__law_plan_here) d_int (by (intro _ _; rfl))) a_nil (by exact rfl)) (by exact rfl))) (a_cons (d_tup (a_cons (d_sl (d_ix (fun _ => o_ix b.hu1) (d_var N25_3 V25_3 nd__law_plan_here nc__law_plan_here) d_int (by (intro _ _; rfl))) (p_some d_int) p_none) (a_cons (d_ix (fun _ => o_ix b.hu1) (d_var N25_3 V25_3 nd__law_plan_here nc__law_plan_here) d_int (by (intro _ _; rfl))) a_nil (by exact rfl)) (by exact rfl))) (a_cons (d_callTy (fun _ => c_list2 rfl) G25_list Y.b_list (by rfl) (a_cons (d_var N25_3 V25_3 nd__law_plan_here nc__law_plan_here) a_nil (by exact rfl)) (by decide) nd_list (by exact rfl) (by exact rfl)) (a_cons (d_tup (a_cons (d_ix (fun _ => o_ix b.hu1) (d_var N25_3 V25_3 nd__law_plan_here nc__law_plan_here) d_int (by (intro _ _; rfl))) (a_cons (d_callTy (fun _ => c_list2 rfl) G25_list Y.b_list (by rfl) (a_cons (d_ix (fun _ => o_ix b.hu1) (d_var N25_3 V25_3 nd__law_plan_here nc__law_plan_here) d_int (by (intro _ _; rfl))) a_nil (by exact rfl)) (by decide) nd_list (by exact rfl) (by exact rfl)) a_nil (by exact rfl)) (by exact rfl))) a_nil (by exact rfl)) (by exact rfl)) (by exact rfl)) (by exact rfl)) (by exact rfl))) (g_name S25.nd N25_4 L25_4 (Or.inl rfl)) (by exact rfl) (by exact rfl) (by exact rfl)) (ss_cons (s_asg (d_bin (fun _ => o_add) (d_var N25_4 V25_4 nd__law_lot nc__law_lot) (d_lst (a_cons (d_tup (a_cons (d_callTy (fun _ => c_list2 rfl) G25_list Y.b_list (by rfl) (a_cons (d_ix (fun _ => o_ix b.hu1) (d_var N25_3 V25_3 nd__law_plan_here nc__law_plan_here) d_int (by (intro _ _; rfl))) a_nil (by exact rfl)) (by decide) nd_list (by exact rfl) (by exact rfl)) (a_cons (d_ix (fun _ => o_ix b.hu1) (d_var N25_3 V25_3 nd__law_plan_here nc__law_plan_here) d_int (by (intro _ _; rfl))) a_nil (by exact rfl)) (by exact rfl))) (a_cons (d_tup (a_cons (d_callTy (fun _ => c_tuple2 rfl) G25_tuple Y.b_tuple (by rfl) (a_cons (d_ix (fun _ => o_ix b.hu1) (d_var N25_3 V25_3 nd__law_plan_here nc__law_plan_here) d_int (by (intro _ _; rfl))) a_nil (by exact rfl)) (by decide) nd_tuple (by exact rfl) (by exact rfl)) (a_cons (d_ix (fun _ => o_ix b.hu1) (d_var N25_3 V25_3 nd__law_plan_here nc__law_plan_here) d_int (by (intro _ _; rfl))) a_nil (by exact rfl)) (by exact rfl))) (a_cons (d_bin (fun _ => o_add) (d_var N25_3 V25_3 nd__law_plan_here nc__law_plan_here) (d_tup (a_cons (d_tup a_nil) a_nil (by exact rfl)))) (a_cons (d_tup (a_cons (d_meth0 F.plainAttrs_str F.slot_str_upper F.type_str_upper (fun _ => m_upper) (d_ix (fun _ => o_ix b.hu1) (d_var N25_3 V25_3 nd__law_plan_here nc__law_plan_here) d_int (by (intro _ _; rfl))) (by exact rfl) (by exact rfl)) (a_cons (d_ix (fun _ => o_ix b.hu1) (d_var N25_3 V25_3 nd__law_plan_here nc__law_plan_here) d_int (by (intro _ _; rfl))) a_nil (by exact rfl)) (by exact rfl))) a_nil (by exact rfl)) (by exact rfl)) (by exact rfl)) (by exact rfl)))) (g_name S25.nd N25_4 L25_4 (Or.inl rfl)) (by exact rfl) (by exact rfl) (by exact rfl)) (ss_cons (s_asg (d_bin (fun _ => o_add) (d_var N25_4 V25_4 nd__law_lot nc__law_lot) (d_lst (a_cons d_non (a_cons (d_tup (a_cons (d_ix (fun _ => o_ix b.hu1) (d_var N25_3 V25_3 nd__law_plan_here nc__law_plan_here) d_int (by (intro _ _; rfl))) (a_cons (d_tup a_nil) a_nil (by exact rfl)) (by exact rfl))) (a_cons (d_tup (a_cons d_int (a_cons (d_tup a_nil) a_nil (by exact rfl)) (by exact rfl))) (a_cons (d_tup (a_cons (d_bin (fun _ => o_add) (d_ix (fun _ => o_ix b.hu1) (d_var N25_3 V25_3 nd__law_plan_here nc__law_plan_here) d_int (by (intro _ _; rfl))) d_strS) (a_cons (d_ix (fun _ => o_ix b.hu1) (d_var N25_3 V25_3 nd__law_plan_here nc__law_plan_here) d_int (by (intro _ _; rfl))) a_nil (by exact rfl)) (by exact rfl))) (a_cons (d_tup (a_cons (d_ix (fun _ => o_ix b.hu1) (d_var N25_3 V25_3 nd__law_plan_here nc__law_plan_here) d_int (by (intro _ _; rfl))) (a_cons (d_bin (fun _ => o_mul) (d_ix (fun _ => o_ix b.hu1) (d_var N25_3 V25_3 nd__law_plan_here nc__law_plan_here) d_int (by (intro _ _; rfl))) d_int) a_nil (by exact rfl)) (by exact rfl))) (a_cons (d_tup (a_cons d_strS (a_cons (d_tup a_nil) a_nil (by exact rfl)) (by exact rfl))) a_nil (by exact rfl)) (by exact rfl)) (by exact rfl)) (by exact rfl)) (by exact rfl)) (by exact rfl)))) (g_name S25.nd N25_4 L25_4 (Or.inl rfl)) (by exact rfl) (by exact rfl) (by exact rfl)) (ss_cons (s_asg (d_bin (fun _ => o_add) (d_var N25_4 V25_4 nd__law_lot nc__law_lot) (d_lst (a_cons (d_ix (fun _ => o_ix b.hu1) (d_var N25_3 V25_3 nd__law_plan_here nc__law_plan_here) d_int (by (intro _ _; rfl))) (a_cons (d_tup (a_cons d_strS (a_cons (d_ix (fun _ => o_ix b.hu1) (d_var N25_3 V25_3 nd__law_plan_here nc__law_plan_here) d_int (by (intro _ _; rfl))) a_nil (by exact rfl)) (by exact rfl))) (a_cons (d_tup (a_cons d_strS (a_cons (d_ix (fun _ => o_ix b.hu1) (d_var N25_3 V25_3 nd__law_plan_here nc__law_plan_here) d_int (by (intro _ _; rfl))) a_nil (by exact rfl)) (by exact rfl))) a_nil (by exact rfl)) (by exact rfl)) (by exact rfl)))) (g_name S25.nd N25_4 L25_4 (Or.inl rfl)) (by exact rfl) (by exact rfl) (by exact rfl)) (ss_cons (s_for b.po rfl (i_rng1 G25_range Y.b_range (a_cons d_int a_nil (by exact rfl)) (by exact rfl)) (g_name S25.nd N25_5 L25_5 (Or.inl rfl)) (ss_cons (s_asg (d_cal (Y.f 22 _ _ rfl) b G25__law_bent nd__law_bent (a_cons (d_var N25_1 V25_1 nd__law_source_here nc__law_source_here) (a_cons (d_var N25_3 V25_3 nd__law_plan_here nc__law_plan_here) a_nil (by exact rfl)) (by exact rfl)) (by exact rfl) (by exact rfl)) (g_name S25.nd N25_6 L25_6 (Or.inl rfl)) (by exact rfl) (by exact rfl) (by exact rfl)) (ss_cons (s_asg (d_bin (fun _ => o_add) (d_var N25_4 V25_4 nd__law_lot nc__law_lot) (d_lst (a_cons (d_var N25_6 V25_6 nd__law_once nc__law_once) (a_cons (d_cal (Y.f 22 _ _ rfl) b G25__law_bent nd__law_bent (a_cons (d_var N25_1 V25_1 nd__law_source_here nc__law_source_here) (a_cons (d_var N25_6 V25_6 nd__law_once nc__law_once) a_nil (by exact rfl)) (by exact rfl)) (by exact rfl) (by exact rfl)) a_nil (by exact rfl)) (by exact rfl)))) (g_name S25.nd N25_4 L25_4 (Or.inl rfl)) (by exact rfl) (by exact rfl) (by exact rfl)) ss_nil)) (by intro _; rfl)) (ss_cons (s_for b.po rfl (i_val (d_var N25_4 V25_4 nd__law_lot nc__law_lot)) (g_name S25.nd N25_7 L25_7 (Or.inl rfl)) (ss_cons (s_par rfl S25.nd N25_8 N25_9 (by decide) (by exact rfl) (by exact rfl) (a_cons (d_cal (Y.f 21 _ _ rfl) b G25__law_fault nd__law_fault (a_cons (d_var N25_7 V25_7 nd__law_thing_in nc__law_thing_in) a_nil (by exact rfl)) (by exact rfl) (by exact rfl)) (a_cons (d_callB (fun _ => c_repr b.hu70 b.gd) G25_repr Y.b_repr (by rfl) (a_cons (d_var N25_7 V25_7 nd__law_thing_in nc__law_thing_in) a_nil (by exact rfl)) (by decide) nd_repr (by exact rfl) (by exact rfl)) a_nil (by exact rfl)) (by exact rfl)) (by exact rfl) (by exact rfl)) (ss_cons (s_asg (d_ite (t_cmp (fun _ => o_is) (d_var N25_8 V25_8 nd__law_fault_here nc__law_fault_here) d_non (by exact rfl)) (d_tup (a_cons d_strS (a_cons (d_callB (fun _ => c_len2) G25_len Y.b_len (by rfl) (a_cons (d_ix (fun _ => o_ix b.hu1) (d_var N25_7 V25_7 nd__law_thing_in nc__law_thing_in) d_int (by (intro _ _; rfl))) a_nil (by exact rfl)) (by decide) nd_len (by exact rfl) (by exact rfl)) a_nil (by exact rfl)) (by exact rfl))) (d_tup (a_cons d_strS (a_cons (d_ix (fun _ => o_ix b.hu1) (d_var N25_8 V25_8 nd__law_fault_here nc__law_fault_here) d_int (by (intro _ _; rfl))) (a_cons (d_ix (fun _ => o_ix b.hu1) (d_var N25_8 V25_8 nd__law_fault_here nc__law_fault_here) d_int (by (intro _ _; rfl))) a_nil (by exact rfl)) (by exact rfl)) (by exact rfl)))) (g_name S25.nd N25_10 L25_10 (Or.inl rfl)) (by exact rfl) (by exact rfl) (by exact rfl)) (ss_cons (s_if (L2.PW.pt (w_or (t_cmp (fun _ => o_ne b.hu64) (d_callB (fun _ => c_repr b.hu70 b.gd) G25_repr Y.b_repr (by rfl) (a_cons (d_cal (Y.f 23 _ _ rfl) b G25__law_told nd__law_told (a_cons (d_var N25_7 V25_7 nd__law_thing_in nc__law_thing_in) a_nil (by exact rfl)) (by exact rfl) (by exact rfl)) a_nil (by exact rfl)) (by decide) nd_repr (by exact rfl) (by exact rfl)) (d_callB (fun _ => c_repr b.hu70 b.gd) G25_repr Y.b_repr (by rfl) (a_cons (d_var N25_10 V25_10 nd__law_due nc__law_due) a_nil (by exact rfl)) (by decide) nd_repr (by exact rfl) (by exact rfl)) (by exact rfl)) (w_or1 (t_cmp (fun _ => o_ne b.hu64) (d_callB (fun _ => c_repr b.hu70 b.gd) G25_repr Y.b_repr (by rfl) (a_cons (d_var N25_7 V25_7 nd__law_thing_in nc__law_thing_in) a_nil (by exact rfl)) (by decide) nd_repr (by exact rfl) (by exact rfl)) (d_var N25_9 V25_9 nd__law_kept nc__law_kept) (by exact rfl))))) (ss_cons (s_ret d_bl) ss_nil) ss_nil) ss_nil))) (by intro _; rfl)) (ss_cons (s_for b.po rfl (i_rng1 G25_range Y.b_range (a_cons d_int a_nil (by exact rfl)) (by exact rfl)) (g_name S25.nd N25_5 L25_5 (Or.inl rfl)) (ss_cons (s_par rfl S25.nd N25_11 N25_12 (by decide) (by exact rfl) (by exact rfl) (a_cons (d_cal (Y.f 22 _ _ rfl) b G25__law_bent nd__law_bent (a_cons (d_var N25_1 V25_1 nd__law_source_here nc__law_source_here) (a_cons (d_cal (Y.f 14 _ _ rfl) b G25__law_range nd__law_range (a_cons (d_var N25_1 V25_1 nd__law_source_here nc__law_source_here) a_nil (by exact rfl)) (by exact rfl) (by exact rfl)) a_nil (by exact rfl)) (by exact rfl)) (by exact rfl) (by exact rfl)) (a_cons (d_cal (Y.f 22 _ _ rfl) b G25__law_bent nd__law_bent (a_cons (d_var N25_1 V25_1 nd__law_source_here nc__law_source_here) (a_cons (d_cal (Y.f 15 _ _ rfl) b G25__law_step nd__law_step (a_cons (d_var N25_1 V25_1 nd__law_source_here nc__law_source_here) (a_cons d_strS a_nil (by exact rfl)) (by exact rfl)) (by exact rfl) (by exact rfl)) a_nil (by exact rfl)) (by exact rfl)) (by exact rfl) (by exact rfl)) a_nil (by exact rfl)) (by exact rfl)) (by exact rfl) (by exact rfl)) (ss_cons (s_if (t_cmp (fun _ => o_ne b.hu64) (d_callB (fun _ => c_repr b.hu70 b.gd) G25_repr Y.b_repr (by rfl) (a_cons (d_lst (a_cons (d_cal (Y.f 5 _ _ rfl) b G25_is_range nd_is_range (a_cons (d_var N25_11 V25_11 nd__law_one nc__law_one) a_nil (by exact rfl)) (by exact rfl) (by exact rfl)) (a_cons (d_cal (Y.f 7 _ _ rfl) b G25_is_step nd_is_step (a_cons (d_var N25_12 V25_12 nd__law_two nc__law_two) a_nil (by exact rfl)) (by exact rfl) (by exact rfl)) a_nil (by exact rfl)) (by exact rfl))) a_nil (by exact rfl)) (by decide) nd_repr (by exact rfl) (by exact rfl)) (d_callB (fun _ => c_repr b.hu70 b.gd) G25_repr Y.b_repr (by rfl) (a_cons (d_lst (a_cons (d_cal (Y.f 19 _ _ rfl) b G25__law_is_range nd__law_is_range (a_cons (d_var N25_11 V25_11 nd__law_one nc__law_one) a_nil (by exact rfl)) (by exact rfl) (by exact rfl)) (a_cons (d_cal (Y.f 20 _ _ rfl) b G25__law_is_step nd__law_is_step (a_cons (d_var N25_12 V25_12 nd__law_two nc__law_two) a_nil (by exact rfl)) (by exact rfl) (by exact rfl)) a_nil (by exact rfl)) (by exact rfl))) a_nil (by exact rfl)) (by decide) nd_repr (by exact rfl) (by exact rfl)) (by exact rfl)) (ss_cons (s_ret d_bl) ss_nil) ss_nil) ss_nil)) (by intro _; rfl)) (ss_cons (s_if (L2.PW.pt (w_or (t_cmp (fun _ => o_isnot) (d_cal (Y.f 5 _ _ rfl) b G25_is_range nd_is_range (a_cons (d_cal (Y.f 14 _ _ rfl) b G25__law_range nd__law_range (a_cons (d_var N25_1 V25_1 nd__law_source_here nc__law_source_here) a_nil (by exact rfl)) (by exact rfl) (by exact rfl)) a_nil (by exact rfl)) (by exact rfl) (by exact rfl)) d_bl (by exact rfl)) (w_or1 (t_cmp (fun _ => o_ne b.hu64) (d_calK (Y.f 10 _ _ rfl) b G25_lets_names nd_lets_names (k_cons (d_var N25_3 V25_3 nd__law_plan_here nc__law_plan_here) k_nil) (by exact rfl) (by exact rfl) (by exact rfl)) (d_callB (fun _ => c_len2) G25_len Y.b_len (by rfl) (a_cons (d_ix (fun _ => o_ix b.hu1) (d_var N25_3 V25_3 nd__law_plan_here nc__law_plan_here) d_int (by (intro _ _; rfl))) a_nil (by exact rfl)) (by decide) nd_len (by exact rfl) (by exact rfl)) (by exact rfl))))) (ss_cons (s_ret d_bl) ss_nil) ss_nil) ss_nil))))))))) (by intro _; rfl)) (ss_cons (s_ret d_bl) ss_nil))))
end K65
namespace K65
open PySem PySem.Spec PyProof.Rows L2 DV
def body (c : CF) : Nat → DF
  | 0 => runB 1 N0.length (m0 c)
  | 1 => runB 1 N1.length (m1 c)
  | 2 => runB 1 N2.length (m2 c)
  | 3 => runB 1 N3.length (m3 c)
  | 4 => runB 1 N4.length (m4 c)
  | 5 => runB 1 N5.length (m5 c)
  | 6 => runB 2 N6.length (m6 c)
  | 7 => runB 1 N7.length (m7 c)
  | 8 => runB 1 N8.length (m8 c)
  | 9 => runB 2 N9.length (m9 c)
  | 10 => runB 1 N10.length (m10 c)
  | 11 => runB 1 N11.length (m11 c)
  | 12 => runB 2 N12.length (m12 c)
  | 13 => runB 2 N13.length (m13 c)
  | 14 => runB 1 N14.length (m14 c)
  | 15 => runB 2 N15.length (m15 c)
  | 16 => runB 2 N16.length (m16 c)
  | 17 => runB 1 N17.length (m17 c)
  | 18 => runB 1 N18.length (m18 c)
  | 19 => runB 1 N19.length (m19 c)
  | 20 => runB 1 N20.length (m20 c)
  | 21 => runB 1 N21.length (m21 c)
  | 22 => runB 2 N22.length (m22 c)
  | 23 => runB 1 N23.length (m23 c)
  | 24 => runB 0 N24.length (m24 c)
  | 25 => runB 1 N25.length (m25 c)
  | _ => fun _ _ => .bad
def callF : Nat → CF
  | 0 => fun _ _ _ => .bad
  | k + 1 => fun i => body (callF k) i
def df0 : He.DefD := ⟨(("is_integer" : Str), none), ("is_integer" : Str), ("is_integer" : Str), defArgs (top 5), defBody (top 5), defScope (top 5), [], []⟩
def df1 : He.DefD := ⟨(("is_end" : Str), none), ("is_end" : Str), ("is_end" : Str), defArgs (top 6), defBody (top 6), defScope (top 6), [], []⟩
def df2 : He.DefD := ⟨(("is_letter" : Str), none), ("is_letter" : Str), ("is_letter" : Str), defArgs (top 10), defBody (top 10), defScope (top 10), [], []⟩
def df3 : He.DefD := ⟨(("is_letters" : Str), none), ("is_letters" : Str), ("is_letters" : Str), defArgs (top 11), defBody (top 11), defScope (top 11), [], []⟩
def df4 : He.DefD := ⟨(("is_names" : Str), none), ("is_names" : Str), ("is_names" : Str), defArgs (top 12), defBody (top 12), defScope (top 12), [], []⟩
def df5 : He.DefD := ⟨(("is_range" : Str), none), ("is_range" : Str), ("is_range" : Str), defArgs (top 13), defBody (top 13), defScope (top 13), [], []⟩
def df6 : He.DefD := ⟨(("is_part" : Str), none), ("is_part" : Str), ("is_part" : Str), defArgs (top 14), defBody (top 14), defScope (top 14), [], []⟩
def df7 : He.DefD := ⟨(("is_step" : Str), none), ("is_step" : Str), ("is_step" : Str), defArgs (top 15), defBody (top 15), defScope (top 15), [], []⟩
def df8 : He.DefD := ⟨(("step_names" : Str), none), ("step_names" : Str), ("step_names" : Str), defArgs (top 16), defBody (top 16), defScope (top 16), [], []⟩
def df9 : He.DefD := ⟨(("are_names_of" : Str), none), ("are_names_of" : Str), ("are_names_of" : Str), defArgs (top 17), defBody (top 17), defScope (top 17), [], []⟩
def df10 : He.DefD := ⟨(("lets_names" : Str), none), ("lets_names" : Str), ("lets_names" : Str), defArgs (top 18), defBody (top 18), defScope (top 18), [], []⟩
def df11 : He.DefD := ⟨(("_law_source" : Str), none), ("_law_source" : Str), ("_law_source" : Str), defArgs (top 20), defBody (top 20), defScope (top 20), [], []⟩
def df12 : He.DefD := ⟨(("_law_pick" : Str), none), ("_law_pick" : Str), ("_law_pick" : Str), defArgs (top 21), defBody (top 21), defScope (top 21), [], []⟩
def df13 : He.DefD := ⟨(("_law_any" : Str), none), ("_law_any" : Str), ("_law_any" : Str), defArgs (top 22), defBody (top 22), defScope (top 22), [], []⟩
def df14 : He.DefD := ⟨(("_law_range" : Str), none), ("_law_range" : Str), ("_law_range" : Str), defArgs (top 23), defBody (top 23), defScope (top 23), [], []⟩
def df15 : He.DefD := ⟨(("_law_step" : Str), none), ("_law_step" : Str), ("_law_step" : Str), defArgs (top 24), defBody (top 24), defScope (top 24), [], []⟩
def df16 : He.DefD := ⟨(("_law_plan" : Str), none), ("_law_plan" : Str), ("_law_plan" : Str), defArgs (top 25), defBody (top 25), defScope (top 25), [], []⟩
def df17 : He.DefD := ⟨(("_law_is_int" : Str), none), ("_law_is_int" : Str), ("_law_is_int" : Str), defArgs (top 26), defBody (top 26), defScope (top 26), [], []⟩
def df18 : He.DefD := ⟨(("_law_is_letter" : Str), none), ("_law_is_letter" : Str), ("_law_is_letter" : Str), defArgs (top 27), defBody (top 27), defScope (top 27), [], []⟩
def df19 : He.DefD := ⟨(("_law_is_range" : Str), none), ("_law_is_range" : Str), ("_law_is_range" : Str), defArgs (top 28), defBody (top 28), defScope (top 28), [], []⟩
def df20 : He.DefD := ⟨(("_law_is_step" : Str), none), ("_law_is_step" : Str), ("_law_is_step" : Str), defArgs (top 29), defBody (top 29), defScope (top 29), [], []⟩
def df21 : He.DefD := ⟨(("_law_fault" : Str), none), ("_law_fault" : Str), ("_law_fault" : Str), defArgs (top 30), defBody (top 30), defScope (top 30), [], []⟩
def df22 : He.DefD := ⟨(("_law_bent" : Str), none), ("_law_bent" : Str), ("_law_bent" : Str), defArgs (top 31), defBody (top 31), defScope (top 31), [], []⟩
def df23 : He.DefD := ⟨(("_law_told" : Str), none), ("_law_told" : Str), ("_law_told" : Str), defArgs (top 32), defBody (top 32), defScope (top 32), [], []⟩
def df24 : He.DefD := ⟨(("_law_by_hand" : Str), none), ("_law_by_hand" : Str), ("_law_by_hand" : Str), defArgs (top 33), defBody (top 33), defScope (top 33), [], []⟩
def df25 : He.DefD := ⟨(("law" : Str), none), ("law" : Str), ("law" : Str), defArgs (top 34), defBody (top 34), defScope (top 34), [], []⟩
def fn : List He.DefD := [df0, df1, df2, df3, df4, df5, df6, df7, df8, df9, df10, df11, df12, df13, df14, df15, df16, df17, df18, df19, df20, df21, df22, df23, df24, df25]
def fa0 : List He.Fa := [.glo ("is_integer" : Str), .glo ("is_end" : Str), .glo ("is_letter" : Str), .glo ("is_letters" : Str), .glo ("is_names" : Str), .glo ("is_range" : Str), .glo ("is_part" : Str), .glo ("is_step" : Str), .glo ("step_names" : Str), .glo ("are_names_of" : Str), .glo ("lets_names" : Str), .glo ("_law_source" : Str), .glo ("_law_pick" : Str), .glo ("_law_any" : Str), .glo ("_law_range" : Str), .glo ("_law_step" : Str), .glo ("_law_plan" : Str), .glo ("_law_is_int" : Str), .glo ("_law_is_letter" : Str), .glo ("_law_is_range" : Str), .glo ("_law_is_step" : Str), .glo ("_law_fault" : Str), .glo ("_law_bent" : Str), .glo ("_law_told" : Str), .glo ("_law_by_hand" : Str), .glo ("law" : Str), .glo ("InvalidPaper" : Str), .glo ("PaperError" : Str), .free ("int" : Str), .free ("isinstance" : Str)]
def fa1 : List He.Fa := [.free ("bool" : Str), .free ("str" : Str), .free ("len" : Str), .free ("all" : Str), .free ("list" : Str), .free ("set" : Str), .free ("tuple" : Str), .free ("enumerate" : Str), .free ("range" : Str), .free ("repr" : Str), .free ("super" : Str), .str ("LETTERS" : Str) ("abcdefghijklmnopqrstuvwxyz" : Str), .glo ("STEP_PARTS" : Str)]
def fa : List He.Fa := fa0 ++ fa1
def ts : List He.Tab := [(fun K => He.ga K ("STEP_PARTS" : Str), [("is" : Str), ("plus" : Str), ("within" : Str), ("when" : Str)])]
def in_InvalidPaper : Stmt := inB_ (top 3) 0
theorem it_InvalidPaper : IniT (defArgs in_InvalidPaper) (defScope in_InvalidPaper) fs_InvalidPaper := ⟨⟨_, rfl, rfl⟩, rfl, rfl, rfl, by decide +kernel, by decide +kernel, rfl, rfl, fun _ _ _ _ _ _ _ _ _ _ _ _ _ us hl => match us, hl with | [_, _, _], _ => rfl⟩
def ini : List (Str × IniW) := [(("InvalidPaper" : Str), some (defArgs in_InvalidPaper, FuncBody.stmts (defBody in_InvalidPaper), defScope in_InvalidPaper, ([("__class__" : Str)] : List Str), mainGlobals, builtinsNs))]
def dv_STEP_PARTS : List He.Dv := [.str ("nr" : Str), .str ("nnc" : Str), .str ("nnr" : Str), .str ("nnrr" : Str)]
def kv_STEP_PARTS : List (Txt × D) := [(tx "is", (.str (tx "nr"))), (tx "plus", (.str (tx "nnc"))), (tx "within", (.str (tx "nnr"))), (tx "when", (.str (tx "nnrr")))]
def exs (K : PySem.W.Frag) : List Bool := [errB K P.main.file ("InvalidPaper" : Str) fs_InvalidPaper, decide (PySem.W.exmOne K (.ref (He.ga K ("InvalidPaper" : Str))) (.ref (He.ga K ("InvalidPaper" : Str))) = some true), excB K (He.ga K ("InvalidPaper" : Str)), decide (PySem.W.kitOne K (.ref (He.ga K ("InvalidPaper" : Str))) (.ref (He.ga K ("PaperError" : Str))) = some true), He.valsB K (He.ga K ("STEP_PARTS" : Str)) ((kv_STEP_PARTS.map fun q => sOf q.1).zip dv_STEP_PARTS)]
def ex (K : PySem.W.Frag) : Bool := (exs K).all id
abbrev Says (w : World) (K : PySem.W.Frag) : Prop := SaysV fa fn ts ini ex w K
theorem ex_at {w : World} {K : PySem.W.Frag} (s : Says w K) (i : Nat) {b : Bool} (h : (exs K)[i]? = some b) : b = true := List.all_eq_true.mp s.ex_ b (List.mem_of_getElem? h)
section
variable {w : World} {K : PySem.W.Frag} {mg : Str → Option Value} {base h : Heap} {k : Nat} {c : CF}
theorem cd_STEP_PARTS : ∀ (i : Nat) (d : He.Dv) (q : Txt × D), dv_STEP_PARTS[i]? = some d → kv_STEP_PARTS[i]? = some q → ∀ H μ, Rep ⟨K, w, P⟩ H μ q.2 (d.v K)
  | 0, d, q, h1, h2, H, μ => by
    cases h1
    cases h2
    unfold Rep
    exact congrArg V.str (sOf_tx _).symm
  | 1, d, q, h1, h2, H, μ => by
    cases h1
    cases h2
    unfold Rep
    exact congrArg V.str (sOf_tx _).symm
  | 2, d, q, h1, h2, H, μ => by
    cases h1
    cases h2
    unfold Rep
    exact congrArg V.str (sOf_tx _).symm
  | 3, d, q, h1, h2, H, μ => by
    cases h1
    cases h2
    unfold Rep
    exact congrArg V.str (sOf_tx _).symm
  | n + 4, d, q, h1, h2, H, μ => by cases h1
theorem er_InvalidPaper (s : Says w K) : ErrOk P w K (He.ga K ("InvalidPaper" : Str)) (He.fAd K (("InvalidPaper" : Str), some "__init__")) ([tx "word", tx "at"].map sOf) := by
  have e : ([tx "word", tx "at"].map sOf : List Str) = fs_InvalidPaper := by simp [sOf_tx, fs_InvalidPaper]
  rw [e]
  have Y := ini_of (body := defBody in_InvalidPaper) (ex_at s 0 rfl) (s.ini_ 0 (p := ini[0]) rfl) it_InvalidPaper (by decide +kernel)
  exact err2 Y ⟨_, fun _ => rfl⟩ (by decide) (by decide) (by decide) (by decide) (by decide)
theorem fx_of (X : K.In h) (G : h.Ns mainGlobals mg) (s : Says w K) (hf : ∀ (i : Nat) (x : Str) (ps : List Str), tab[i]? = some (x, ps) → Cal tabs P w K mg base k x ps (c i)) : Fx w K mg base k c where
  f := hf
  b_int := He.free_ok X G (s.d.fact 28 (f := .free ("int" : Str)) rfl)
  b_isinstance := He.free_ok X G (s.d.fact 29 (f := .free ("isinstance" : Str)) rfl)
  b_bool := He.free_ok X G (s.d.fact 30 (f := .free ("bool" : Str)) rfl)
  b_str := He.free_ok X G (s.d.fact 31 (f := .free ("str" : Str)) rfl)
  b_len := He.free_ok X G (s.d.fact 32 (f := .free ("len" : Str)) rfl)
  b_all := He.free_ok X G (s.d.fact 33 (f := .free ("all" : Str)) rfl)
  b_list := He.free_ok X G (s.d.fact 34 (f := .free ("list" : Str)) rfl)
  b_set := He.free_ok X G (s.d.fact 35 (f := .free ("set" : Str)) rfl)
  b_tuple := He.free_ok X G (s.d.fact 36 (f := .free ("tuple" : Str)) rfl)
  b_enumerate := He.free_ok X G (s.d.fact 37 (f := .free ("enumerate" : Str)) rfl)
  b_range := He.free_ok X G (s.d.fact 38 (f := .free ("range" : Str)) rfl)
  b_repr := He.free_ok X G (s.d.fact 39 (f := .free ("repr" : Str)) rfl)
  b_super := He.free_ok X G (s.d.fact 40 (f := .free ("super" : Str)) rfl)
  k_LETTERS := k_str X G (s.d.fact 41 (f := .str ("LETTERS" : Str) ("abcdefghijklmnopqrstuvwxyz" : Str)) rfl)
  k_STEP_PARTS := ⟨_, He.glo_ok X G (s.d.fact 42 (f := .glo ("STEP_PARTS" : Str)) rfl), .ref (He.ga K ("STEP_PARTS" : Str)), rfl, cdict_of (kvs := kv_STEP_PARTS) (dvs := dv_STEP_PARTS) (by rw [s.tab 0 rfl]; rfl) (ex_at s 4 rfl) rfl cd_STEP_PARTS⟩
  er_InvalidPaper := ⟨er_InvalidPaper s, He.glo_ok X G (s.d.fact 26 (f := .glo ("InvalidPaper" : Str)) rfl)⟩
  m_InvalidPaper := fun c hc => match c, hc with
    | 0, _ => by
      have e : sOf (tabs.ename 0) = ("InvalidPaper" : Str) := sOf_tx _
      rw [e]
      exact of_decide_eq_true (ex_at s 1 rfl)
    | n + 1, hc => absurd hc (by unfold nErr; omega)
  x_InvalidPaper := excB_ok (ex_at s 2 rfl)
  is_InvalidPaper_PaperError := of_decide_eq_true (ex_at s 3 rfl)
  g_PaperError := He.glo_ok X G (s.d.fact 27 (f := .glo ("PaperError" : Str)) rfl)
theorem c0 (X : K.In h) (G : h.Ns mainGlobals mg) (s : Says w K) {φ : DF} (hF : ∀ fd, FunD K df0.name df0.qual df0.params df0.body df0.scope [] [] (He.fAd K df0.at_) fd → FnG P w K mg base (CX P w) k (He.fAd K df0.at_) fd [("thing" : Str)] (spF tabs ⟨K, w, P⟩ 1 φ)) : Cal tabs P w K mg base k ("is_integer" : Str) [("thing" : Str)] φ := by
  obtain ⟨fd, FD⟩ := s.d.def_ 0 (d := df0) rfl
  have FD : FunD K df0.name df0.qual df0.params df0.body df0.scope [] [] (He.fAd K df0.at_) fd := FD
  exact ⟨_, fd, hF fd FD, He.glo_ok X G (s.d.fact 0 (f := .glo ("is_integer" : Str)) rfl), FD.kp, bindEq FD fun _ _ _ _ _ _ us hl => match us, hl with | [_], _ => rfl, bindKw FD fun _ _ _ _ _ _ us hl => match us, hl with | [_], _ => rfl⟩
theorem c1 (X : K.In h) (G : h.Ns mainGlobals mg) (s : Says w K) {φ : DF} (hF : ∀ fd, FunD K df1.name df1.qual df1.params df1.body df1.scope [] [] (He.fAd K df1.at_) fd → FnG P w K mg base (CX P w) k (He.fAd K df1.at_) fd [("thing" : Str)] (spF tabs ⟨K, w, P⟩ 1 φ)) : Cal tabs P w K mg base k ("is_end" : Str) [("thing" : Str)] φ := by
  obtain ⟨fd, FD⟩ := s.d.def_ 1 (d := df1) rfl
  have FD : FunD K df1.name df1.qual df1.params df1.body df1.scope [] [] (He.fAd K df1.at_) fd := FD
  exact ⟨_, fd, hF fd FD, He.glo_ok X G (s.d.fact 1 (f := .glo ("is_end" : Str)) rfl), FD.kp, bindEq FD fun _ _ _ _ _ _ us hl => match us, hl with | [_], _ => rfl, bindKw FD fun _ _ _ _ _ _ us hl => match us, hl with | [_], _ => rfl⟩
theorem c2 (X : K.In h) (G : h.Ns mainGlobals mg) (s : Says w K) {φ : DF} (hF : ∀ fd, FunD K df2.name df2.qual df2.params df2.body df2.scope [] [] (He.fAd K df2.at_) fd → FnG P w K mg base (CX P w) k (He.fAd K df2.at_) fd [("thing" : Str)] (spF tabs ⟨K, w, P⟩ 1 φ)) : Cal tabs P w K mg base k ("is_letter" : Str) [("thing" : Str)] φ := by
  obtain ⟨fd, FD⟩ := s.d.def_ 2 (d := df2) rfl
  have FD : FunD K df2.name df2.qual df2.params df2.body df2.scope [] [] (He.fAd K df2.at_) fd := FD
  exact ⟨_, fd, hF fd FD, He.glo_ok X G (s.d.fact 2 (f := .glo ("is_letter" : Str)) rfl), FD.kp, bindEq FD fun _ _ _ _ _ _ us hl => match us, hl with | [_], _ => rfl, bindKw FD fun _ _ _ _ _ _ us hl => match us, hl with | [_], _ => rfl⟩
theorem c3 (X : K.In h) (G : h.Ns mainGlobals mg) (s : Says w K) {φ : DF} (hF : ∀ fd, FunD K df3.name df3.qual df3.params df3.body df3.scope [] [] (He.fAd K df3.at_) fd → FnG P w K mg base (CX P w) k (He.fAd K df3.at_) fd [("thing" : Str)] (spF tabs ⟨K, w, P⟩ 1 φ)) : Cal tabs P w K mg base k ("is_letters" : Str) [("thing" : Str)] φ := by
  obtain ⟨fd, FD⟩ := s.d.def_ 3 (d := df3) rfl
  have FD : FunD K df3.name df3.qual df3.params df3.body df3.scope [] [] (He.fAd K df3.at_) fd := FD
  exact ⟨_, fd, hF fd FD, He.glo_ok X G (s.d.fact 3 (f := .glo ("is_letters" : Str)) rfl), FD.kp, bindEq FD fun _ _ _ _ _ _ us hl => match us, hl with | [_], _ => rfl, bindKw FD fun _ _ _ _ _ _ us hl => match us, hl with | [_], _ => rfl⟩
theorem c4 (X : K.In h) (G : h.Ns mainGlobals mg) (s : Says w K) {φ : DF} (hF : ∀ fd, FunD K df4.name df4.qual df4.params df4.body df4.scope [] [] (He.fAd K df4.at_) fd → FnG P w K mg base (CX P w) k (He.fAd K df4.at_) fd [("thing" : Str)] (spF tabs ⟨K, w, P⟩ 1 φ)) : Cal tabs P w K mg base k ("is_names" : Str) [("thing" : Str)] φ := by
  obtain ⟨fd, FD⟩ := s.d.def_ 4 (d := df4) rfl
  have FD : FunD K df4.name df4.qual df4.params df4.body df4.scope [] [] (He.fAd K df4.at_) fd := FD
  exact ⟨_, fd, hF fd FD, He.glo_ok X G (s.d.fact 4 (f := .glo ("is_names" : Str)) rfl), FD.kp, bindEq FD fun _ _ _ _ _ _ us hl => match us, hl with | [_], _ => rfl, bindKw FD fun _ _ _ _ _ _ us hl => match us, hl with | [_], _ => rfl⟩
theorem c5 (X : K.In h) (G : h.Ns mainGlobals mg) (s : Says w K) {φ : DF} (hF : ∀ fd, FunD K df5.name df5.qual df5.params df5.body df5.scope [] [] (He.fAd K df5.at_) fd → FnG P w K mg base (CX P w) k (He.fAd K df5.at_) fd [("thing" : Str)] (spF tabs ⟨K, w, P⟩ 1 φ)) : Cal tabs P w K mg base k ("is_range" : Str) [("thing" : Str)] φ := by
  obtain ⟨fd, FD⟩ := s.d.def_ 5 (d := df5) rfl
  have FD : FunD K df5.name df5.qual df5.params df5.body df5.scope [] [] (He.fAd K df5.at_) fd := FD
  exact ⟨_, fd, hF fd FD, He.glo_ok X G (s.d.fact 5 (f := .glo ("is_range" : Str)) rfl), FD.kp, bindEq FD fun _ _ _ _ _ _ us hl => match us, hl with | [_], _ => rfl, bindKw FD fun _ _ _ _ _ _ us hl => match us, hl with | [_], _ => rfl⟩
theorem c6 (X : K.In h) (G : h.Ns mainGlobals mg) (s : Says w K) {φ : DF} (hF : ∀ fd, FunD K df6.name df6.qual df6.params df6.body df6.scope [] [] (He.fAd K df6.at_) fd → FnG P w K mg base (CX P w) k (He.fAd K df6.at_) fd [("values" : Str), ("sort" : Str)] (spF tabs ⟨K, w, P⟩ 2 φ)) : Cal tabs P w K mg base k ("is_part" : Str) [("values" : Str), ("sort" : Str)] φ := by
  obtain ⟨fd, FD⟩ := s.d.def_ 6 (d := df6) rfl
  have FD : FunD K df6.name df6.qual df6.params df6.body df6.scope [] [] (He.fAd K df6.at_) fd := FD
  exact ⟨_, fd, hF fd FD, He.glo_ok X G (s.d.fact 6 (f := .glo ("is_part" : Str)) rfl), FD.kp, bindEq FD fun _ _ _ _ _ _ us hl => match us, hl with | [_, _], _ => rfl, bindKw FD fun _ _ _ _ _ _ us hl => match us, hl with | [_, _], _ => rfl⟩
theorem c7 (X : K.In h) (G : h.Ns mainGlobals mg) (s : Says w K) {φ : DF} (hF : ∀ fd, FunD K df7.name df7.qual df7.params df7.body df7.scope [] [] (He.fAd K df7.at_) fd → FnG P w K mg base (CX P w) k (He.fAd K df7.at_) fd [("thing" : Str)] (spF tabs ⟨K, w, P⟩ 1 φ)) : Cal tabs P w K mg base k ("is_step" : Str) [("thing" : Str)] φ := by
  obtain ⟨fd, FD⟩ := s.d.def_ 7 (d := df7) rfl
  have FD : FunD K df7.name df7.qual df7.params df7.body df7.scope [] [] (He.fAd K df7.at_) fd := FD
  exact ⟨_, fd, hF fd FD, He.glo_ok X G (s.d.fact 7 (f := .glo ("is_step" : Str)) rfl), FD.kp, bindEq FD fun _ _ _ _ _ _ us hl => match us, hl with | [_], _ => rfl, bindKw FD fun _ _ _ _ _ _ us hl => match us, hl with | [_], _ => rfl⟩
theorem c8 (X : K.In h) (G : h.Ns mainGlobals mg) (s : Says w K) {φ : DF} (hF : ∀ fd, FunD K df8.name df8.qual df8.params df8.body df8.scope [] [] (He.fAd K df8.at_) fd → FnG P w K mg base (CX P w) k (He.fAd K df8.at_) fd [("step" : Str)] (spF tabs ⟨K, w, P⟩ 1 φ)) : Cal tabs P w K mg base k ("step_names" : Str) [("step" : Str)] φ := by
  obtain ⟨fd, FD⟩ := s.d.def_ 8 (d := df8) rfl
  have FD : FunD K df8.name df8.qual df8.params df8.body df8.scope [] [] (He.fAd K df8.at_) fd := FD
  exact ⟨_, fd, hF fd FD, He.glo_ok X G (s.d.fact 8 (f := .glo ("step_names" : Str)) rfl), FD.kp, bindEq FD fun _ _ _ _ _ _ us hl => match us, hl with | [_], _ => rfl, bindKw FD fun _ _ _ _ _ _ us hl => match us, hl with | [_], _ => rfl⟩
theorem c9 (X : K.In h) (G : h.Ns mainGlobals mg) (s : Says w K) {φ : DF} (hF : ∀ fd, FunD K df9.name df9.qual df9.params df9.body df9.scope [] [] (He.fAd K df9.at_) fd → FnG P w K mg base (CX P w) k (He.fAd K df9.at_) fd [("names" : Str), ("letters" : Str)] (spF tabs ⟨K, w, P⟩ 2 φ)) : Cal tabs P w K mg base k ("are_names_of" : Str) [("names" : Str), ("letters" : Str)] φ := by
  obtain ⟨fd, FD⟩ := s.d.def_ 9 (d := df9) rfl
  have FD : FunD K df9.name df9.qual df9.params df9.body df9.scope [] [] (He.fAd K df9.at_) fd := FD
  exact ⟨_, fd, hF fd FD, He.glo_ok X G (s.d.fact 9 (f := .glo ("are_names_of" : Str)) rfl), FD.kp, bindEq FD fun _ _ _ _ _ _ us hl => match us, hl with | [_, _], _ => rfl, bindKw FD fun _ _ _ _ _ _ us hl => match us, hl with | [_, _], _ => rfl⟩
theorem c10 (X : K.In h) (G : h.Ns mainGlobals mg) (s : Says w K) {φ : DF} (hF : ∀ fd, FunD K df10.name df10.qual df10.params df10.body df10.scope [] [] (He.fAd K df10.at_) fd → FnG P w K mg base (CX P w) k (He.fAd K df10.at_) fd [("thing" : Str)] (spF tabs ⟨K, w, P⟩ 1 φ)) : Cal tabs P w K mg base k ("lets_names" : Str) [("thing" : Str)] φ := by
  obtain ⟨fd, FD⟩ := s.d.def_ 10 (d := df10) rfl
  have FD : FunD K df10.name df10.qual df10.params df10.body df10.scope [] [] (He.fAd K df10.at_) fd := FD
  exact ⟨_, fd, hF fd FD, He.glo_ok X G (s.d.fact 10 (f := .glo ("lets_names" : Str)) rfl), FD.kp, bindEq FD fun _ _ _ _ _ _ us hl => match us, hl with | [_], _ => rfl, bindKw FD fun _ _ _ _ _ _ us hl => match us, hl with | [_], _ => rfl⟩
theorem c11 (X : K.In h) (G : h.Ns mainGlobals mg) (s : Says w K) {φ : DF} (hF : ∀ fd, FunD K df11.name df11.qual df11.params df11.body df11.scope [] [] (He.fAd K df11.at_) fd → FnG P w K mg base (CX P w) k (He.fAd K df11.at_) fd [("_law_script" : Str)] (spF tabs ⟨K, w, P⟩ 1 φ)) : Cal tabs P w K mg base k ("_law_source" : Str) [("_law_script" : Str)] φ := by
  obtain ⟨fd, FD⟩ := s.d.def_ 11 (d := df11) rfl
  have FD : FunD K df11.name df11.qual df11.params df11.body df11.scope [] [] (He.fAd K df11.at_) fd := FD
  exact ⟨_, fd, hF fd FD, He.glo_ok X G (s.d.fact 11 (f := .glo ("_law_source" : Str)) rfl), FD.kp, bindEq FD fun _ _ _ _ _ _ us hl => match us, hl with | [_], _ => rfl, bindKw FD fun _ _ _ _ _ _ us hl => match us, hl with | [_], _ => rfl⟩
theorem c12 (X : K.In h) (G : h.Ns mainGlobals mg) (s : Says w K) {φ : DF} (hF : ∀ fd, FunD K df12.name df12.qual df12.params df12.body df12.scope [] [] (He.fAd K df12.at_) fd → FnG P w K mg base (CX P w) k (He.fAd K df12.at_) fd [("_law_source_here" : Str), ("_law_many" : Str)] (spF tabs ⟨K, w, P⟩ 2 φ)) : Cal tabs P w K mg base k ("_law_pick" : Str) [("_law_source_here" : Str), ("_law_many" : Str)] φ := by
  obtain ⟨fd, FD⟩ := s.d.def_ 12 (d := df12) rfl
  have FD : FunD K df12.name df12.qual df12.params df12.body df12.scope [] [] (He.fAd K df12.at_) fd := FD
  exact ⟨_, fd, hF fd FD, He.glo_ok X G (s.d.fact 12 (f := .glo ("_law_pick" : Str)) rfl), FD.kp, bindEq FD fun _ _ _ _ _ _ us hl => match us, hl with | [_, _], _ => rfl, bindKw FD fun _ _ _ _ _ _ us hl => match us, hl with | [_, _], _ => rfl⟩
theorem c13 (X : K.In h) (G : h.Ns mainGlobals mg) (s : Says w K) {φ : DF} (hF : ∀ fd, FunD K df13.name df13.qual df13.params df13.body df13.scope [] [] (He.fAd K df13.at_) fd → FnG P w K mg base (CX P w) k (He.fAd K df13.at_) fd [("_law_source_here" : Str), ("_law_some" : Str)] (spF tabs ⟨K, w, P⟩ 2 φ)) : Cal tabs P w K mg base k ("_law_any" : Str) [("_law_source_here" : Str), ("_law_some" : Str)] φ := by
  obtain ⟨fd, FD⟩ := s.d.def_ 13 (d := df13) rfl
  have FD : FunD K df13.name df13.qual df13.params df13.body df13.scope [] [] (He.fAd K df13.at_) fd := FD
  exact ⟨_, fd, hF fd FD, He.glo_ok X G (s.d.fact 13 (f := .glo ("_law_any" : Str)) rfl), FD.kp, bindEq FD fun _ _ _ _ _ _ us hl => match us, hl with | [_, _], _ => rfl, bindKw FD fun _ _ _ _ _ _ us hl => match us, hl with | [_, _], _ => rfl⟩
theorem c14 (X : K.In h) (G : h.Ns mainGlobals mg) (s : Says w K) {φ : DF} (hF : ∀ fd, FunD K df14.name df14.qual df14.params df14.body df14.scope [] [] (He.fAd K df14.at_) fd → FnG P w K mg base (CX P w) k (He.fAd K df14.at_) fd [("_law_source_here" : Str)] (spF tabs ⟨K, w, P⟩ 1 φ)) : Cal tabs P w K mg base k ("_law_range" : Str) [("_law_source_here" : Str)] φ := by
  obtain ⟨fd, FD⟩ := s.d.def_ 14 (d := df14) rfl
  have FD : FunD K df14.name df14.qual df14.params df14.body df14.scope [] [] (He.fAd K df14.at_) fd := FD
  exact ⟨_, fd, hF fd FD, He.glo_ok X G (s.d.fact 14 (f := .glo ("_law_range" : Str)) rfl), FD.kp, bindEq FD fun _ _ _ _ _ _ us hl => match us, hl with | [_], _ => rfl, bindKw FD fun _ _ _ _ _ _ us hl => match us, hl with | [_], _ => rfl⟩
theorem c15 (X : K.In h) (G : h.Ns mainGlobals mg) (s : Says w K) {φ : DF} (hF : ∀ fd, FunD K df15.name df15.qual df15.params df15.body df15.scope [] [] (He.fAd K df15.at_) fd → FnG P w K mg base (CX P w) k (He.fAd K df15.at_) fd [("_law_source_here" : Str), ("_law_letters" : Str)] (spF tabs ⟨K, w, P⟩ 2 φ)) : Cal tabs P w K mg base k ("_law_step" : Str) [("_law_source_here" : Str), ("_law_letters" : Str)] φ := by
  obtain ⟨fd, FD⟩ := s.d.def_ 15 (d := df15) rfl
  have FD : FunD K df15.name df15.qual df15.params df15.body df15.scope [] [] (He.fAd K df15.at_) fd := FD
  exact ⟨_, fd, hF fd FD, He.glo_ok X G (s.d.fact 15 (f := .glo ("_law_step" : Str)) rfl), FD.kp, bindEq FD fun _ _ _ _ _ _ us hl => match us, hl with | [_, _], _ => rfl, bindKw FD fun _ _ _ _ _ _ us hl => match us, hl with | [_, _], _ => rfl⟩
theorem c16 (X : K.In h) (G : h.Ns mainGlobals mg) (s : Says w K) {φ : DF} (hF : ∀ fd, FunD K df16.name df16.qual df16.params df16.body df16.scope [] [] (He.fAd K df16.at_) fd → FnG P w K mg base (CX P w) k (He.fAd K df16.at_) fd [("_law_source_here" : Str), ("_law_wide" : Str)] (spF tabs ⟨K, w, P⟩ 2 φ)) : Cal tabs P w K mg base k ("_law_plan" : Str) [("_law_source_here" : Str), ("_law_wide" : Str)] φ := by
  obtain ⟨fd, FD⟩ := s.d.def_ 16 (d := df16) rfl
  have FD : FunD K df16.name df16.qual df16.params df16.body df16.scope [] [] (He.fAd K df16.at_) fd := FD
  exact ⟨_, fd, hF fd FD, He.glo_ok X G (s.d.fact 16 (f := .glo ("_law_plan" : Str)) rfl), FD.kp, bindEq FD fun _ _ _ _ _ _ us hl => match us, hl with | [_, _], _ => rfl, bindKw FD fun _ _ _ _ _ _ us hl => match us, hl with | [_, _], _ => rfl⟩
theorem c17 (X : K.In h) (G : h.Ns mainGlobals mg) (s : Says w K) {φ : DF} (hF : ∀ fd, FunD K df17.name df17.qual df17.params df17.body df17.scope [] [] (He.fAd K df17.at_) fd → FnG P w K mg base (CX P w) k (He.fAd K df17.at_) fd [("_law_thing_in" : Str)] (spF tabs ⟨K, w, P⟩ 1 φ)) : Cal tabs P w K mg base k ("_law_is_int" : Str) [("_law_thing_in" : Str)] φ := by
  obtain ⟨fd, FD⟩ := s.d.def_ 17 (d := df17) rfl
  have FD : FunD K df17.name df17.qual df17.params df17.body df17.scope [] [] (He.fAd K df17.at_) fd := FD
  exact ⟨_, fd, hF fd FD, He.glo_ok X G (s.d.fact 17 (f := .glo ("_law_is_int" : Str)) rfl), FD.kp, bindEq FD fun _ _ _ _ _ _ us hl => match us, hl with | [_], _ => rfl, bindKw FD fun _ _ _ _ _ _ us hl => match us, hl with | [_], _ => rfl⟩
theorem c18 (X : K.In h) (G : h.Ns mainGlobals mg) (s : Says w K) {φ : DF} (hF : ∀ fd, FunD K df18.name df18.qual df18.params df18.body df18.scope [] [] (He.fAd K df18.at_) fd → FnG P w K mg base (CX P w) k (He.fAd K df18.at_) fd [("_law_thing_in" : Str)] (spF tabs ⟨K, w, P⟩ 1 φ)) : Cal tabs P w K mg base k ("_law_is_letter" : Str) [("_law_thing_in" : Str)] φ := by
  obtain ⟨fd, FD⟩ := s.d.def_ 18 (d := df18) rfl
  have FD : FunD K df18.name df18.qual df18.params df18.body df18.scope [] [] (He.fAd K df18.at_) fd := FD
  exact ⟨_, fd, hF fd FD, He.glo_ok X G (s.d.fact 18 (f := .glo ("_law_is_letter" : Str)) rfl), FD.kp, bindEq FD fun _ _ _ _ _ _ us hl => match us, hl with | [_], _ => rfl, bindKw FD fun _ _ _ _ _ _ us hl => match us, hl with | [_], _ => rfl⟩
theorem c19 (X : K.In h) (G : h.Ns mainGlobals mg) (s : Says w K) {φ : DF} (hF : ∀ fd, FunD K df19.name df19.qual df19.params df19.body df19.scope [] [] (He.fAd K df19.at_) fd → FnG P w K mg base (CX P w) k (He.fAd K df19.at_) fd [("_law_thing_in" : Str)] (spF tabs ⟨K, w, P⟩ 1 φ)) : Cal tabs P w K mg base k ("_law_is_range" : Str) [("_law_thing_in" : Str)] φ := by
  obtain ⟨fd, FD⟩ := s.d.def_ 19 (d := df19) rfl
  have FD : FunD K df19.name df19.qual df19.params df19.body df19.scope [] [] (He.fAd K df19.at_) fd := FD
  exact ⟨_, fd, hF fd FD, He.glo_ok X G (s.d.fact 19 (f := .glo ("_law_is_range" : Str)) rfl), FD.kp, bindEq FD fun _ _ _ _ _ _ us hl => match us, hl with | [_], _ => rfl, bindKw FD fun _ _ _ _ _ _ us hl => match us, hl with | [_], _ => rfl⟩
theorem c20 (X : K.In h) (G : h.Ns mainGlobals mg) (s : Says w K) {φ : DF} (hF : ∀ fd, FunD K df20.name df20.qual df20.params df20.body df20.scope [] [] (He.fAd K df20.at_) fd → FnG P w K mg base (CX P w) k (He.fAd K df20.at_) fd [("_law_thing_in" : Str)] (spF tabs ⟨K, w, P⟩ 1 φ)) : Cal tabs P w K mg base k ("_law_is_step" : Str) [("_law_thing_in" : Str)] φ := by
  obtain ⟨fd, FD⟩ := s.d.def_ 20 (d := df20) rfl
  have FD : FunD K df20.name df20.qual df20.params df20.body df20.scope [] [] (He.fAd K df20.at_) fd := FD
  exact ⟨_, fd, hF fd FD, He.glo_ok X G (s.d.fact 20 (f := .glo ("_law_is_step" : Str)) rfl), FD.kp, bindEq FD fun _ _ _ _ _ _ us hl => match us, hl with | [_], _ => rfl, bindKw FD fun _ _ _ _ _ _ us hl => match us, hl with | [_], _ => rfl⟩
theorem c21 (X : K.In h) (G : h.Ns mainGlobals mg) (s : Says w K) {φ : DF} (hF : ∀ fd, FunD K df21.name df21.qual df21.params df21.body df21.scope [] [] (He.fAd K df21.at_) fd → FnG P w K mg base (CX P w) k (He.fAd K df21.at_) fd [("_law_thing_in" : Str)] (spF tabs ⟨K, w, P⟩ 1 φ)) : Cal tabs P w K mg base k ("_law_fault" : Str) [("_law_thing_in" : Str)] φ := by
  obtain ⟨fd, FD⟩ := s.d.def_ 21 (d := df21) rfl
  have FD : FunD K df21.name df21.qual df21.params df21.body df21.scope [] [] (He.fAd K df21.at_) fd := FD
  exact ⟨_, fd, hF fd FD, He.glo_ok X G (s.d.fact 21 (f := .glo ("_law_fault" : Str)) rfl), FD.kp, bindEq FD fun _ _ _ _ _ _ us hl => match us, hl with | [_], _ => rfl, bindKw FD fun _ _ _ _ _ _ us hl => match us, hl with | [_], _ => rfl⟩
theorem c22 (X : K.In h) (G : h.Ns mainGlobals mg) (s : Says w K) {φ : DF} (hF : ∀ fd, FunD K df22.name df22.qual df22.params df22.body df22.scope [] [] (He.fAd K df22.at_) fd → FnG P w K mg base (CX P w) k (He.fAd K df22.at_) fd [("_law_source_here" : Str), ("_law_thing_in" : Str)] (spF tabs ⟨K, w, P⟩ 2 φ)) : Cal tabs P w K mg base k ("_law_bent" : Str) [("_law_source_here" : Str), ("_law_thing_in" : Str)] φ := by
  obtain ⟨fd, FD⟩ := s.d.def_ 22 (d := df22) rfl
  have FD : FunD K df22.name df22.qual df22.params df22.body df22.scope [] [] (He.fAd K df22.at_) fd := FD
  exact ⟨_, fd, hF fd FD, He.glo_ok X G (s.d.fact 22 (f := .glo ("_law_bent" : Str)) rfl), FD.kp, bindEq FD fun _ _ _ _ _ _ us hl => match us, hl with | [_, _], _ => rfl, bindKw FD fun _ _ _ _ _ _ us hl => match us, hl with | [_, _], _ => rfl⟩
theorem c23 (X : K.In h) (G : h.Ns mainGlobals mg) (s : Says w K) {φ : DF} (hF : ∀ fd, FunD K df23.name df23.qual df23.params df23.body df23.scope [] [] (He.fAd K df23.at_) fd → FnG P w K mg base (CX P w) k (He.fAd K df23.at_) fd [("_law_thing_in" : Str)] (spF tabs ⟨K, w, P⟩ 1 φ)) : Cal tabs P w K mg base k ("_law_told" : Str) [("_law_thing_in" : Str)] φ := by
  obtain ⟨fd, FD⟩ := s.d.def_ 23 (d := df23) rfl
  have FD : FunD K df23.name df23.qual df23.params df23.body df23.scope [] [] (He.fAd K df23.at_) fd := FD
  exact ⟨_, fd, hF fd FD, He.glo_ok X G (s.d.fact 23 (f := .glo ("_law_told" : Str)) rfl), FD.kp, bindEq FD fun _ _ _ _ _ _ us hl => match us, hl with | [_], _ => rfl, bindKw FD fun _ _ _ _ _ _ us hl => match us, hl with | [_], _ => rfl⟩
theorem c24 (X : K.In h) (G : h.Ns mainGlobals mg) (s : Says w K) {φ : DF} (hF : ∀ fd, FunD K df24.name df24.qual df24.params df24.body df24.scope [] [] (He.fAd K df24.at_) fd → FnG P w K mg base (CX P w) k (He.fAd K df24.at_) fd [] (spF tabs ⟨K, w, P⟩ 0 φ)) : Cal tabs P w K mg base k ("_law_by_hand" : Str) [] φ := by
  obtain ⟨fd, FD⟩ := s.d.def_ 24 (d := df24) rfl
  have FD : FunD K df24.name df24.qual df24.params df24.body df24.scope [] [] (He.fAd K df24.at_) fd := FD
  exact ⟨_, fd, hF fd FD, He.glo_ok X G (s.d.fact 24 (f := .glo ("_law_by_hand" : Str)) rfl), FD.kp, bindEq FD fun _ _ _ _ _ _ us hl => match us, hl with | [], _ => rfl, bindKw FD fun _ _ _ _ _ _ us hl => match us, hl with | [], _ => rfl⟩
theorem c25 (X : K.In h) (G : h.Ns mainGlobals mg) (s : Says w K) {φ : DF} (hF : ∀ fd, FunD K df25.name df25.qual df25.params df25.body df25.scope [] [] (He.fAd K df25.at_) fd → FnG P w K mg base (CX P w) k (He.fAd K df25.at_) fd [("_law_script" : Str)] (spF tabs ⟨K, w, P⟩ 1 φ)) : Cal tabs P w K mg base k ("law" : Str) [("_law_script" : Str)] φ := by
  obtain ⟨fd, FD⟩ := s.d.def_ 25 (d := df25) rfl
  have FD : FunD K df25.name df25.qual df25.params df25.body df25.scope [] [] (He.fAd K df25.at_) fd := FD
  exact ⟨_, fd, hF fd FD, He.glo_ok X G (s.d.fact 25 (f := .glo ("law" : Str)) rfl), FD.kp, bindEq FD fun _ _ _ _ _ _ us hl => match us, hl with | [_], _ => rfl, bindKw FD fun _ _ _ _ _ _ us hl => match us, hl with | [_], _ => rfl⟩
theorem cals (X : K.In h) (G : h.Ns mainGlobals mg) (s : Says w K) : ∀ (k i : Nat) (x : Str) (ps : List Str), tab[i]? = some (x, ps) → Cal tabs P w K mg base k x ps (callF k i)
  | 0, i, x, ps, e => match i, e with
    | 0, e => by
      cases e
      exact c0 X G s fun fd _ => fn_0
    | 1, e => by
      cases e
      exact c1 X G s fun fd _ => fn_0
    | 2, e => by
      cases e
      exact c2 X G s fun fd _ => fn_0
    | 3, e => by
      cases e
      exact c3 X G s fun fd _ => fn_0
    | 4, e => by
      cases e
      exact c4 X G s fun fd _ => fn_0
    | 5, e => by
      cases e
      exact c5 X G s fun fd _ => fn_0
    | 6, e => by
      cases e
      exact c6 X G s fun fd _ => fn_0
    | 7, e => by
      cases e
      exact c7 X G s fun fd _ => fn_0
    | 8, e => by
      cases e
      exact c8 X G s fun fd _ => fn_0
    | 9, e => by
      cases e
      exact c9 X G s fun fd _ => fn_0
    | 10, e => by
      cases e
      exact c10 X G s fun fd _ => fn_0
    | 11, e => by
      cases e
      exact c11 X G s fun fd _ => fn_0
    | 12, e => by
      cases e
      exact c12 X G s fun fd _ => fn_0
    | 13, e => by
      cases e
      exact c13 X G s fun fd _ => fn_0
    | 14, e => by
      cases e
      exact c14 X G s fun fd _ => fn_0
    | 15, e => by
      cases e
      exact c15 X G s fun fd _ => fn_0
    | 16, e => by
      cases e
      exact c16 X G s fun fd _ => fn_0
    | 17, e => by
      cases e
      exact c17 X G s fun fd _ => fn_0
    | 18, e => by
      cases e
      exact c18 X G s fun fd _ => fn_0
    | 19, e => by
      cases e
      exact c19 X G s fun fd _ => fn_0
    | 20, e => by
      cases e
      exact c20 X G s fun fd _ => fn_0
    | 21, e => by
      cases e
      exact c21 X G s fun fd _ => fn_0
    | 22, e => by
      cases e
      exact c22 X G s fun fd _ => fn_0
    | 23, e => by
      cases e
      exact c23 X G s fun fd _ => fn_0
    | 24, e => by
      cases e
      exact c24 X G s fun fd _ => fn_0
    | 25, e => by
      cases e
      exact c25 X G s fun fd _ => fn_0
    | n + 26, e => by cases e
  | k + 1, i, x, ps, e => match i, e with
    | 0, e => by
      cases e
      exact c0 X G s fun fd FD => fn_d (base := base) FD S0 fun cdv A outer s_ H E W wx b => b0 (fx_of X G s (cals X G s k)) b
    | 1, e => by
      cases e
      exact c1 X G s fun fd FD => fn_d (base := base) FD S1 fun cdv A outer s_ H E W wx b => b1 (fx_of X G s (cals X G s k)) b
    | 2, e => by
      cases e
      exact c2 X G s fun fd FD => fn_d (base := base) FD S2 fun cdv A outer s_ H E W wx b => b2 (fx_of X G s (cals X G s k)) b
    | 3, e => by
      cases e
      exact c3 X G s fun fd FD => fn_d (base := base) FD S3 fun cdv A outer s_ H E W wx b => b3 (fx_of X G s (cals X G s k)) b
    | 4, e => by
      cases e
      exact c4 X G s fun fd FD => fn_d (base := base) FD S4 fun cdv A outer s_ H E W wx b => b4 (fx_of X G s (cals X G s k)) b
    | 5, e => by
      cases e
      exact c5 X G s fun fd FD => fn_d (base := base) FD S5 fun cdv A outer s_ H E W wx b => b5 (fx_of X G s (cals X G s k)) b
    | 6, e => by
      cases e
      exact c6 X G s fun fd FD => fn_d (base := base) FD S6 fun cdv A outer s_ H E W wx b => b6 (fx_of X G s (cals X G s k)) b
    | 7, e => by
      cases e
      exact c7 X G s fun fd FD => fn_d (base := base) FD S7 fun cdv A outer s_ H E W wx b => b7 (fx_of X G s (cals X G s k)) b
    | 8, e => by
      cases e
      exact c8 X G s fun fd FD => fn_d (base := base) FD S8 fun cdv A outer s_ H E W wx b => b8 (fx_of X G s (cals X G s k)) b
    | 9, e => by
      cases e
      exact c9 X G s fun fd FD => fn_d (base := base) FD S9 fun cdv A outer s_ H E W wx b => b9 (fx_of X G s (cals X G s k)) b
    | 10, e => by
      cases e
      exact c10 X G s fun fd FD => fn_d (base := base) FD S10 fun cdv A outer s_ H E W wx b => b10 (fx_of X G s (cals X G s k)) b
    | 11, e => by
      cases e
      exact c11 X G s fun fd FD => fn_d (base := base) FD S11 fun cdv A outer s_ H E W wx b => b11 (fx_of X G s (cals X G s k)) b
    | 12, e => by
      cases e
      exact c12 X G s fun fd FD => fn_d (base := base) FD S12 fun cdv A outer s_ H E W wx b => b12 (fx_of X G s (cals X G s k)) b
    | 13, e => by
      cases e
      exact c13 X G s fun fd FD => fn_d (base := base) FD S13 fun cdv A outer s_ H E W wx b => b13 (fx_of X G s (cals X G s k)) b
    | 14, e => by
      cases e
      exact c14 X G s fun fd FD => fn_d (base := base) FD S14 fun cdv A outer s_ H E W wx b => b14 (fx_of X G s (cals X G s k)) b
    | 15, e => by
      cases e
      exact c15 X G s fun fd FD => fn_d (base := base) FD S15 fun cdv A outer s_ H E W wx b => b15 (fx_of X G s (cals X G s k)) b
    | 16, e => by
      cases e
      exact c16 X G s fun fd FD => fn_d (base := base) FD S16 fun cdv A outer s_ H E W wx b => b16 (fx_of X G s (cals X G s k)) b
    | 17, e => by
      cases e
      exact c17 X G s fun fd FD => fn_d (base := base) FD S17 fun cdv A outer s_ H E W wx b => b17 (fx_of X G s (cals X G s k)) b
    | 18, e => by
      cases e
      exact c18 X G s fun fd FD => fn_d (base := base) FD S18 fun cdv A outer s_ H E W wx b => b18 (fx_of X G s (cals X G s k)) b
    | 19, e => by
      cases e
      exact c19 X G s fun fd FD => fn_d (base := base) FD S19 fun cdv A outer s_ H E W wx b => b19 (fx_of X G s (cals X G s k)) b
    | 20, e => by
      cases e
      exact c20 X G s fun fd FD => fn_d (base := base) FD S20 fun cdv A outer s_ H E W wx b => b20 (fx_of X G s (cals X G s k)) b
    | 21, e => by
      cases e
      exact c21 X G s fun fd FD => fn_d (base := base) FD S21 fun cdv A outer s_ H E W wx b => b21 (fx_of X G s (cals X G s k)) b
    | 22, e => by
      cases e
      exact c22 X G s fun fd FD => fn_d (base := base) FD S22 fun cdv A outer s_ H E W wx b => b22 (fx_of X G s (cals X G s k)) b
    | 23, e => by
      cases e
      exact c23 X G s fun fd FD => fn_d (base := base) FD S23 fun cdv A outer s_ H E W wx b => b23 (fx_of X G s (cals X G s k)) b
    | 24, e => by
      cases e
      exact c24 X G s fun fd FD => fn_d (base := base) FD S24 fun cdv A outer s_ H E W wx b => b24 (fx_of X G s (cals X G s k)) b
    | 25, e => by
      cases e
      exact c25 X G s fun fd FD => fn_d (base := base) FD S25 fun cdv A outer s_ H E W wx b => b25 (fx_of X G s (cals X G s k)) b
    | n + 26, e => by cases e
end
end K65
namespace K65
open PySem DV L2
def isIntD : D → Bool
  | .int _ => true
  | _ => false
def isNonD : D → Bool
  | .non => true
  | _ => false
/-- a value that isinstance can be asked of -/
def Tyd (h : DH) (d : D) : Prop := ∃ t, tyN d h = some t
@[irreducible] def cF : Nat → CF := callF
theorem step_ (k i : Nat) : cF (k + 1) i = body (cF k) i := by
  unfold cF
  rfl
theorem cF_eq : cF = callF := by
  unfold cF
  rfl
theorem f0 (k : Nat) {d : D} {h : DH} (hd : Tyd h d) : cF (k + 1) 0 [d] h = .ok (.bl (isIntD d)) h := by
  obtain ⟨t, ht⟩ := hd
  have e1 := isiF_run (c := "int") ht (by simp)
  have e2 := isiF_run (c := "bool") ht (by simp)
  rw [step_]
  show runB 1 N0.length (m0 (cF k)) [d] h = _
  cases d <;> simp [runB, sSeq_run, sNil_run, sRet_run, dAnd, dNot, dCall, dCons, dVar, DEn.bind_run, R.bind_ok, R.toS_ok, dCst_run, dNil_run, truD_bl, m0, N0, e1, e2, isTy, isIntD]
theorem f1 (k : Nat) {d : D} {h : DH} (hd : Tyd h d) : cF (k + 2) 1 [d] h = .ok (.bl (isNonD d || isIntD d)) h := by
  have e := f0 k hd
  rw [step_]
  show runB 1 N1.length (m1 (cF (k + 1))) [d] h = _
  cases d <;> simp [runB, sSeq_run, sNil_run, sRet_run, dOr, dCallF, dCons, dVar, DEn.bind_run, R.bind_ok, R.toS_ok, dCst_run, dNil_run, truD_bl, DV.d2, isB, DV.isNon, m1, N1, e, isIntD, isNonD]
def letters : Txt := tx "abcdefghijklmnopqrstuvwxyz"
def isLetD : D → Bool
  | .str [c] => decide (c ∈ letters)
  | _ => false
theorem f2 (k : Nat) {d : D} {h : DH} (hd : Tyd h d) (hs : ∀ t, d = .str t → t.length ≤ big) : cF (k + 1) 2 [d] h = .ok (.bl (isLetD d)) h := by
  obtain ⟨t, ht⟩ := hd
  have e1 := isiF_run (c := "str") ht (by simp)
  rw [step_]
  show runB 1 N2.length (m2 (cF k)) [d] h = _
  cases d
  case str t =>
    have hl := hs t rfl
    match t, hl with
    | [], _ => simp [runB, sSeq_run, sNil_run, sRet_run, dAnd, dCall, dCons, dVar, DEn.bind_run, R.bind_ok, R.toS_ok, dCst_run, dNil_run, truD_bl, DV.d2, m2, N2, e1, isTy, isLetD, lenF2, lenF, eqB_int, big]
    | [c], _ => simp [runB, sSeq_run, sNil_run, sRet_run, dAnd, dCall, dCons, dVar, DEn.bind_run, R.bind_ok, R.toS_ok, dCst_run, dNil_run, truD_bl, DV.d2, m2, N2, e1, isTy, isLetD, lenF2, lenF, eqB_int, big, c_LETTERS, inB, negIf, letters]; exact decide_eq_decide.mpr Iff.rfl
    | c :: c2 :: r, hl =>
      have ne : ¬ ((r.length : Int) + 1 + 1 = 1) := by omega
      have hl' : r.length + 1 + 1 ≤ 16777216 := by simpa [big] using hl
      simp [runB, sSeq_run, sNil_run, sRet_run, dAnd, dCall, dCons, dVar, DEn.bind_run, R.bind_ok, R.toS_ok, dCst_run, dNil_run, truD_bl, DV.d2, m2, N2, e1, isTy, isLetD, lenF2, lenF, eqB_int, big, ne, hl']
  all_goals simp [runB, sSeq_run, sNil_run, sRet_run, dAnd, dCall, dCons, dVar, DEn.bind_run, R.bind_ok, R.toS_ok, dCst_run, dNil_run, truD_bl, DV.d2, m2, N2, e1, isTy, isLetD]
/-- ends ascend -/
def isRngD : D → Bool
  | .tup [a, b] => (isNonD a || isIntD a) && (isNonD b || isIntD b) && (match a, b with
    | .int i, .int j => decide (i ≤ j)
    | _, _ => true)
  | _ => false
theorem f5 (k : Nat) {d : D} {h : DH} (hd : Tyd h d) (hs : ∀ ds, d = .tup ds → ∀ e ∈ ds, Tyd h e) : cF (k + 3) 5 [d] h = .ok (.bl (isRngD d)) h := by
  obtain ⟨t, ht⟩ := hd
  have e1 := isiF_run (c := "tuple") ht (by simp)
  rw [step_]
  show runB 1 N5.length (m5 (cF (k + 2))) [d] h = _
  refine run_rt rfl ?_
  show m5 (cF (k + 2)) [some d, none, none] h = _
  unfold m5
  have no : (isTy d "tuple" = false ∨ ∀ a b, d ≠ .tup [a, b]) → isRngD d = false := by
    intro z
    match d, z with
    | .tup [a, b], z => exact absurd rfl (z.elim (by simp [isTy]) (fun q => q a b))
    | .tup [], _ => rfl
    | .tup [_], _ => rfl
    | .tup (_ :: _ :: _ :: _), _ => rfl
    | .non, _ => rfl
    | .bl _, _ => rfl
    | .int _, _ => rfl
    | .str _, _ => rfl
    | .frz _, _ => rfl
    | .ref _, _ => rfl
    | .cdt _, _ => rfl
    | .fn _, _ => rfl
    | .ty _, _ => rfl
  by_cases ht2 : ∃ ds, d = .tup ds
  · obtain ⟨ds, rfl⟩ := ht2
    by_cases hl : ds.length = 2
    · obtain ⟨a, b, rfl⟩ : ∃ a b, ds = [a, b] := by
        match ds, hl with
        | [a, b], _ => exact ⟨a, b, rfl⟩
      have ha : Tyd h a := hs _ rfl a (by simp)
      have hb : Tyd h b := hs _ rfl b (by simp)
      have ea := f0 (k + 1) ha
      have eb := f1 k hb
      rw [seq_nx ((if_f (h1 := h) (by simp [tOrB, tAndB, tNotB, dTru, dBl, dAnd, dOr, dNot, dCall, dCallF, dCons, dVar, DEn.bind_run, R.bind_ok, R.toS_ok, dCst_run, dNil_run, truD_bl, blD_bl, DV.d2, isB, DV.isNon, lenF2, lenF, eqB_int, e1, isTy])).trans (sNil_run)), seq_nx (asg_nx (h1 := h) (d := .tup [a, b]) (env1 := [some (.tup [a, b]), some a, some b]) (by simp [tOrB, tAndB, tNotB, dTru, dBl, dAnd, dOr, dNot, dCall, dCallF, dCons, dVar, DEn.bind_run, R.bind_ok, R.toS_ok, dCst_run, dNil_run, truD_bl, blD_bl, DV.d2, isB, DV.isNon, lenF2, lenF, eqB_int]) (by rfl))]
      have hx : ((isNonD a || isIntD a) && (isNonD b || isIntD b)) = true ∨ ((isNonD a || isIntD a) && (isNonD b || isIntD b)) = false := by cases ((isNonD a || isIntD a) && (isNonD b || isIntD b)) <;> simp
      rcases hx with hab | hab
      · obtain ⟨h1, h2⟩ := Bool.and_eq_true_iff.mp hab
        rw [h2] at eb
        rw [seq_nx ((if_f (h1 := h) (by cases a <;> simp [isNonD, isIntD] at h1 <;> simp [tOrB, tAndB, tNotB, dTru, dBl, dAnd, dOr, dNot, dCall, dCallF, dCons, dVar, DEn.bind_run, R.bind_ok, R.toS_ok, dCst_run, dNil_run, truD_bl, blD_bl, DV.d2, isB, DV.isNon, lenF2, lenF, eqB_int, ea, eb, isIntD])).trans (sNil_run))]
        refine seq_rt (ret_rt ?_)
        cases a <;> simp [isNonD, isIntD] at h1 <;> cases b <;> simp [isNonD, isIntD] at h2 <;> simp [tOrB, tAndB, tNotB, dTru, dBl, dAnd, dOr, dNot, dCall, dCallF, dCons, dVar, DEn.bind_run, R.bind_ok, R.toS_ok, dCst_run, dNil_run, truD_bl, blD_bl, DV.d2, isB, DV.isNon, lenF2, lenF, eqB_int, isRngD, isNonD, isIntD, truD_non, ordD, OrdK.z]
      · have er : isRngD (.tup [a, b]) = false := by
          show ((isNonD a || isIntD a) && (isNonD b || isIntD b) && _) = false
          rw [hab]
          rfl
        rw [er]
        refine seq_rt ((if_t (h1 := h) ?_).trans (seq_rt (ret_rt dCst_run)))
        cases hb2 : (isNonD b || isIntD b)
        · rw [hb2] at eb
          cases a <;> simp [tOrB, tAndB, tNotB, dTru, dBl, dAnd, dOr, dNot, dCall, dCallF, dCons, dVar, DEn.bind_run, R.bind_ok, R.toS_ok, dCst_run, dNil_run, truD_bl, blD_bl, DV.d2, isB, DV.isNon, lenF2, lenF, eqB_int, ea, eb, isIntD]
        · rw [hb2, Bool.and_true] at hab
          cases a <;> simp [isNonD, isIntD] at hab <;> simp [tOrB, tAndB, tNotB, dTru, dBl, dAnd, dOr, dNot, dCall, dCallF, dCons, dVar, DEn.bind_run, R.bind_ok, R.toS_ok, dCst_run, dNil_run, truD_bl, blD_bl, DV.d2, isB, DV.isNon, lenF2, lenF, eqB_int, ea, isIntD]
    · have ne : ¬ ((ds.length : Int) = 2) := by omega
      rw [no (.inr fun a b z => by cases z; exact hl rfl)]
      exact seq_rt ((if_t (h1 := h) (by simp [tOrB, tAndB, tNotB, dTru, dBl, dAnd, dOr, dNot, dCall, dCallF, dCons, dVar, DEn.bind_run, R.bind_ok, R.toS_ok, dCst_run, dNil_run, truD_bl, blD_bl, DV.d2, isB, DV.isNon, lenF2, lenF, eqB_int, e1, ne, isTy])).trans (seq_rt (ret_rt dCst_run)))
  · have nt : isTy d "tuple" = false := by
      cases d <;> first | rfl | exact absurd ⟨_, rfl⟩ ht2
    rw [no (.inl nt)]
    rw [nt] at e1
    exact seq_rt ((if_t (h1 := h) (by simp [tOrB, tAndB, tNotB, dTru, dBl, dAnd, dOr, dNot, dCall, dCallF, dCons, dVar, DEn.bind_run, R.bind_ok, R.toS_ok, dCst_run, dNil_run, truD_bl, blD_bl, DV.d2, isB, DV.isNon, lenF2, lenF, eqB_int, e1])).trans (seq_rt (ret_rt dCst_run)))
def isLetsD : D → Bool
  | .str t => t.all fun c => decide (c ∈ letters)
  | _ => false
theorem f3 (k : Nat) {d : D} {h : DH} (hd : Tyd h d) (hs : ∀ t, d = .str t → t.length ≤ big) : ∃ x, cF (k + 1) 3 [d] h = .ok (.bl (isLetsD d)) (h ++ x) := by
  obtain ⟨t, ht⟩ := hd
  have e1 := isiF_run (c := "str") ht (by simp)
  by_cases hst : ∃ s, d = .str s
  · obtain ⟨s, rfl⟩ := hst
    have hl := hs s rfl
    refine ⟨[.lst ((chars s).map fun d => .bl (isLetD d))], ?_⟩
    rw [step_]
    refine run_rt rfl ?_
    show m3 (cF k) [some (.str s), none] h = _
    unfold m3
    refine seq_rt (ret_rt ?_)
    have key : lcS (aName 1) tYesD (DV.d2 (inB false) (dVar 1) (dCst c_LETTERS)) (wipeE [some (.str s), none] [1]) (chars s) h = .ok ((chars s).map fun d => .bl (isLetD d)) h := by
      have z := lcS_pure (g := aName 1) (tt := tYesD) (te := DV.d2 (inB false) (dVar 1) (dCst c_LETTERS)) (env := wipeE [some (.str s), none] [1]) (h := h) (e := fun d => [some (.str s), some d]) (p := fun _ => true) (q := fun d => .bl (isLetD d)) (ds := chars s) (fun d hd => by
        obtain ⟨c, hc, rfl⟩ : ∃ c, c ∈ s ∧ d = .str [c] := by simpa [chars, eq_comm] using hd
        refine ⟨rfl, rfl, fun _ => ?_⟩
        simp [tOrB, tAndB, tNotB, dTru, dBl, dAnd, dOr, dNot, dCall, dCallF, dCons, dVar, DEn.bind_run, R.bind_ok, R.toS_ok, dCst_run, dNil_run, truD_bl, blD_bl, DV.d2, isB, DV.isNon, lenF2, lenF, eqB_int, c_LETTERS, inB, negIf, isLetD, letters]
        exact decide_eq_decide.mpr Iff.rfl)
      rw [List.filter_eq_self.mpr (fun _ _ => rfl)] at z
      exact z
    have hlen : (([] : List D) ++ (chars s).map fun d => D.bl (isLetD d)).length ≤ big := by simpa [chars] using hl
    have hb : (bls ((chars s).map fun d => .bl (isLetD d))) = some ((chars s).map isLetD) := bls_all _
    have ha : ((chars s).map isLetD).all id = s.all fun c => decide (c ∈ letters) := by
      simp [chars, isLetD, List.all_map, Function.comp_def]
    have hi : iVal (dVar 0) [some (.str s), none] h = .ok (.items (chars s)) h := by
      simp [iVal, DEn.bind_run, dVar, R.bind_ok, hl]
    have hlc : dLc 100000 (iVal (dVar 0)) (aName 1) tYesD (DV.d2 (inB false) (dVar 1) (dCst c_LETTERS)) [1] [some (.str s), none] h = .ok (.ref h.length) (h ++ [.lst ((chars s).map fun d => .bl (isLetD d))]) := by
      unfold dLc
      rw [hi, R.bind_ok]
      show (lcS _ _ _ _ _ _).bind _ = _
      rw [key, R.bind_ok]
      unfold lcEnd
      rw [if_pos hlen, alloc_run]
      rfl
    rw [and_t (h1 := h) ((call_run (cons_run (var_run rfl) (cons_run dCst_run dNil_run))).trans (e1.trans rfl)), call_run (cons_run hlc dNil_run)]
    simp [allF, hb, ha, isLetsD]
  · have nt : isTy d "str" = false := by cases d <;> first | rfl | exact absurd ⟨_, rfl⟩ hst
    have er : isLetsD d = false := by cases d <;> first | rfl | exact absurd ⟨_, rfl⟩ hst
    rw [nt] at e1
    refine ⟨[], ?_⟩
    rw [step_, er, List.append_nil]
    refine run_rt rfl ?_
    show m3 (cF k) [some d, none] h = _
    unfold m3
    exact seq_rt (ret_rt (by simp [tOrB, tAndB, tNotB, dTru, dBl, dAnd, dOr, dNot, dCall, dCallF, dCons, dVar, DEn.bind_run, R.bind_ok, R.toS_ok, dCst_run, dNil_run, truD_bl, blD_bl, DV.d2, isB, DV.isNon, lenF2, lenF, eqB_int, e1]))
def isNamesD : D → Bool
  | .str t => isLetsD (.str t) && decide ((dedupD (chars t)).length = t.length)
  | _ => false
theorem chars_key (t : Txt) : (chars t).all isKey = true := by
  simp [chars, isKey, keyD]
theorem dedup_le : ∀ (ds l : List D), (ds.foldl addKd l).length ≤ l.length + ds.length
  | [], l => by simp
  | d :: ds, l => by
    rw [List.foldl_cons]
    refine Nat.le_trans (dedup_le ds _) ?_
    have z : (addKd l d).length ≤ l.length + 1 := by
      unfold addKd
      split <;> simp
    rw [List.length_cons]
    omega
theorem f4 (k : Nat) {d : D} {h : DH} (hd : Tyd h d) (hs : ∀ t, d = .str t → t.length < 4095) : ∃ x, cF (k + 2) 4 [d] h = .ok (.bl (isNamesD d)) (h ++ x) := by
  obtain ⟨x, e3⟩ := f3 k hd (fun t e => Nat.le_of_lt (Nat.lt_trans (hs t e) (by decide)))
  have c3 : dCallF (dCons (dVar 0) dNil) [] 1 (cF (k + 1) 3) [some d] h = .ok (.bl (isLetsD d)) (h ++ x) := by
    unfold dCallF
    rw [DEn.bind_run, cons_run (var_run rfl) dNil_run, R.bind_ok]
    exact e3
  rw [step_]
  by_cases hst : ∃ s, d = .str s
  · obtain ⟨s, rfl⟩ := hst
    have hl := hs s rfl
    cases hlt : isLetsD (.str s) with
    | false =>
      rw [hlt] at c3
      refine ⟨x, run_rt rfl ?_⟩
      show m4 (cF (k + 1)) [some (.str s)] h = _
      unfold m4
      refine seq_rt (ret_rt ((and_f c3).trans ?_))
      simp [isNamesD, hlt]
    | true =>
      rw [hlt] at c3
      have hb : s.length ≤ big := Nat.le_of_lt (Nat.lt_trans hl (by decide))
      have hd2 : (dedupD (chars s)).length < big := by
        have z := dedup_le (chars s) []
        have z2 : (chars s).length = s.length := by simp [chars]
        have z3 : (dedupD (chars s)).length ≤ s.length := by
          rw [← z2]
          simpa [dedupD] using z
        exact Nat.lt_of_le_of_lt z3 (Nat.lt_trans hl (by decide))
      refine ⟨x ++ [DO.lst (chars s), DO.set (dedupD (chars s))], run_rt rfl ?_⟩
      show m4 (cF (k + 1)) [some (.str s)] h = _
      unfold m4
      refine seq_rt (ret_rt ((and_t c3).trans ?_))
      have g1 : dCall (dCons (dVar 0) dNil) listF2 [some (.str s)] (h ++ x) = .ok (.ref (h ++ x).length) (h ++ x ++ [DO.lst (chars s)]) := by
        rw [call_run (cons_run (var_run rfl) dNil_run)]
        simp only [listF2]
        rw [if_pos hb]
        rfl
      have hch : (chars s).length < 4095 := by simpa [chars] using hl
      have g2 : dCall (dCons (dCall (dCons (dVar 0) dNil) listF2) dNil) setF [some (.str s)] (h ++ x) = .ok (.ref (h ++ x ++ [DO.lst (chars s)]).length) (h ++ x ++ [DO.lst (chars s)] ++ [DO.set (dedupD (chars s))]) := by
        rw [call_run (cons_run g1 dNil_run)]
        have e : (h ++ x ++ [DO.lst (chars s)])[(h ++ x).length]? = some (DO.lst (chars s)) := by simp
        simp only [setF, e]
        rw [if_pos ⟨chars_key s, hch⟩]
        rfl
      have g3 : dCall (dCons (dCall (dCons (dCall (dCons (dVar 0) dNil) listF2) dNil) setF) dNil) lenF2 [some (.str s)] (h ++ x) = .ok (.int (dedupD (chars s)).length) (h ++ x ++ [DO.lst (chars s)] ++ [DO.set (dedupD (chars s))]) := by
        rw [call_run (cons_run g2 dNil_run)]
        have e : (h ++ x ++ [DO.lst (chars s)] ++ [DO.set (dedupD (chars s))])[(h ++ x ++ [DO.lst (chars s)]).length]? = some (DO.set (dedupD (chars s))) := by simp
        simp only [lenF2, e]
        rw [if_pos hd2]
      unfold DV.d2
      rw [DEn.bind_run, g3, R.bind_ok, DEn.bind_run, call_run (cons_run (var_run rfl) dNil_run)]
      have g4 : ∀ h', lenF2 [.str s] h' = .ok (.int s.length) h' := fun h' => by
        simp only [lenF2, lenF]
        rw [if_pos hb]
      rw [g4, R.bind_ok, eqB_int]
      simp [isNamesD, hlt, List.append_assoc]
      exact ⟨fun z => by omega, fun z => by omega⟩
  · have nt : isLetsD d = false := by cases d <;> first | rfl | exact absurd ⟨_, rfl⟩ hst
    have er : isNamesD d = false := by cases d <;> first | rfl | exact absurd ⟨_, rfl⟩ hst
    rw [nt] at c3
    refine ⟨x, run_rt rfl ?_⟩
    show m4 (cF (k + 1)) [some d] h = _
    unfold m4
    rw [er]
    exact seq_rt (ret_rt (and_f c3))
/-- a value of moderate texts, of which isinstance can be asked -/
def Okd (h : DH) (d : D) : Prop := Tyd h d ∧ ∀ t, d = .str t → t.length < 4095
def isPartD (ds : List D) (s : Txt) : Bool := if s = tx "r" then isRngD (.tup ds) else match ds with
  | [d] => if s = tx "n" then isLetD d else isIntD d
  | _ => false
theorem f6 (k : Nat) {ds : List D} {s : Txt} {h : DH} (hd : ∀ d ∈ ds, Okd h d) : cF (k + 4) 6 [.tup ds, .str s] h = .ok (.bl (isPartD ds s)) h := by
  have ht : Tyd h (.tup ds) := ⟨"tuple", rfl⟩
  have e5 := f5 k ht (fun es e d m => by cases e; exact (hd d m).1)
  rw [step_]
  refine run_rt rfl ?_
  show m6 (cF (k + 3)) [some (.tup ds), some (.str s)] h = _
  unfold m6
  by_cases hr : s = tx "r"
  · have t1 : (dBl (DV.d2 (eqB false) (dVar 1) (dCst (.str (tx "r"))))) [some (.tup ds), some (.str s)] h = .ok true h := by
      simp [tOrB, tAndB, tNotB, dTru, dBl, dAnd, dOr, dNot, dCall, dCallF, dCons, dVar, DEn.bind_run, R.bind_ok, R.toS_ok, dCst_run, dNil_run, truD_bl, blD_bl, DV.d2, isB, DV.isNon, lenF2, lenF, eqB_int, eqB_str, hr]
    have er : isPartD ds s = isRngD (.tup ds) := by unfold isPartD; rw [if_pos hr]
    rw [er]
    refine seq_rt ((if_t t1).trans (seq_rt (ret_rt ?_)))
    simp [tOrB, tAndB, tNotB, dTru, dBl, dAnd, dOr, dNot, dCall, dCallF, dCons, dVar, DEn.bind_run, R.bind_ok, R.toS_ok, dCst_run, dNil_run, truD_bl, blD_bl, DV.d2, isB, DV.isNon, lenF2, lenF, eqB_int, e5]
  · have t1 : (dBl (DV.d2 (eqB false) (dVar 1) (dCst (.str (tx "r"))))) [some (.tup ds), some (.str s)] h = .ok false h := by
      simp [tOrB, tAndB, tNotB, dTru, dBl, dAnd, dOr, dNot, dCall, dCallF, dCons, dVar, DEn.bind_run, R.bind_ok, R.toS_ok, dCst_run, dNil_run, truD_bl, blD_bl, DV.d2, isB, DV.isNon, lenF2, lenF, eqB_int, eqB_str, hr]
    rw [seq_nx ((if_f t1).trans sNil_run)]
    match ds, hd with
    | [d], hd =>
      have hd1 := hd d (by simp)
      have e2 := f2 (k + 2) hd1.1 (fun t e => Nat.le_of_lt (Nat.lt_trans (hd1.2 t e) (by decide)))
      have e0 := f0 (k + 2) hd1.1
      rw [seq_nx ((if_f (h1 := h) (by simp [tOrB, tAndB, tNotB, dTru, dBl, dAnd, dOr, dNot, dCall, dCallF, dCons, dVar, DEn.bind_run, R.bind_ok, R.toS_ok, dCst_run, dNil_run, truD_bl, blD_bl, DV.d2, isB, DV.isNon, lenF2, lenF, eqB_int])).trans sNil_run)]
      refine seq_rt (ret_rt ?_)
      have ix : ∀ h', ixD (.tup [d]) (.int 0) h' = .ok d h' := fun h' => rfl
      by_cases hn : s = tx "n"
      · subst hn
        have er : isPartD [d] (tx "n") = isLetD d := by unfold isPartD; rw [if_neg hr]; rfl
        rw [er]
        simp only [dIte, DEn.bind_run]
        have t2 : (dBl (DV.d2 (eqB false) (dVar 1) (dCst (.str (tx "n"))))) [some (.tup [d]), some (.str (tx "n"))] h = .ok true h := by simp [tOrB, tAndB, tNotB, dTru, dBl, dAnd, dOr, dNot, dCall, dCallF, dCons, dVar, DEn.bind_run, R.bind_ok, R.toS_ok, dCst_run, dNil_run, truD_bl, blD_bl, DV.d2, isB, DV.isNon, lenF2, lenF, eqB_int, eqB_str]
        rw [t2, R.bind_ok, if_pos rfl]
        simp [tOrB, tAndB, tNotB, dTru, dBl, dAnd, dOr, dNot, dCall, dCallF, dCons, dVar, DEn.bind_run, R.bind_ok, R.toS_ok, dCst_run, dNil_run, truD_bl, blD_bl, DV.d2, isB, DV.isNon, lenF2, lenF, eqB_int, ix, e2]
      · have er : isPartD [d] s = isIntD d := by unfold isPartD; rw [if_neg hr]; exact if_neg hn
        rw [er]
        simp only [dIte, DEn.bind_run]
        have t2 : (dBl (DV.d2 (eqB false) (dVar 1) (dCst (.str (tx "n"))))) [some (.tup [d]), some (.str s)] h = .ok false h := by simp [tOrB, tAndB, tNotB, dTru, dBl, dAnd, dOr, dNot, dCall, dCallF, dCons, dVar, DEn.bind_run, R.bind_ok, R.toS_ok, dCst_run, dNil_run, truD_bl, blD_bl, DV.d2, isB, DV.isNon, lenF2, lenF, eqB_int, eqB_str, hn]
        rw [t2, R.bind_ok, if_neg (by decide)]
        simp [tOrB, tAndB, tNotB, dTru, dBl, dAnd, dOr, dNot, dCall, dCallF, dCons, dVar, DEn.bind_run, R.bind_ok, R.toS_ok, dCst_run, dNil_run, truD_bl, blD_bl, DV.d2, isB, DV.isNon, lenF2, lenF, eqB_int, ix, e0]
    | [], _ =>
      have er : isPartD [] s = false := by unfold isPartD; rw [if_neg hr]
      rw [er]
      exact seq_rt ((if_t (h1 := h) (by simp [tOrB, tAndB, tNotB, dTru, dBl, dAnd, dOr, dNot, dCall, dCallF, dCons, dVar, DEn.bind_run, R.bind_ok, R.toS_ok, dCst_run, dNil_run, truD_bl, blD_bl, DV.d2, isB, DV.isNon, lenF2, lenF, eqB_int])).trans (seq_rt (ret_rt dCst_run)))
    | a :: b :: r, _ =>
      have er : isPartD (a :: b :: r) s = false := by unfold isPartD; rw [if_neg hr]
      have ne : ¬ ((r.length : Int) + 1 + 1 = 1) := by omega
      rw [er]
      exact seq_rt ((if_t (h1 := h) (by simp [tOrB, tAndB, tNotB, dTru, dBl, dAnd, dOr, dNot, dCall, dCallF, dCons, dVar, DEn.bind_run, R.bind_ok, R.toS_ok, dCst_run, dNil_run, truD_bl, blD_bl, DV.d2, isB, DV.isNon, lenF2, lenF, eqB_int, ne])).trans (seq_rt (ret_rt dCst_run)))
end K65
namespace K65
open PySem DV L2
local macro_rules | `(tactic| simp_arith [$xs,*]) => `(tactic| simp only [wE_ok, wE_exc, wE_bad, wE_bind, wE_dbind, wE_if, wE_noX, ↓wS_seq, ↓wS_nil, ↓wS_pass, ↓wS_break, ↓wS_cont, ↓wS_expr, ↓wS_ret, ↓wS_retN, ↓wS_if, wG_some, wG_none, setAll, ↓wS_asg, ↓wS_par, ↓wS_set, ↓wS_raise, ↓wS_try, ↓wS_for, wS_nx, wS_rt, forI_items, forS_nil, ↓forS_cons, ↓u_varO, uO_some, ↓u_cst, ↓u_nil, ↓u_cons, ↓u_d2, ↓u_tru, ↓u_bl, ↓u_and, ↓u_or, ↓u_tand, ↓u_tor, ↓u_tnot, ↓u_not, ↓u_neg, ↓u_ite, ↓u_tup, ↓u_lst, ↓u_call, ↓u_callF, ↓u_meth, ↓u_sl, ↓u_pNone, ↓u_pSome, ↓u_rev, ↓u_dic0, ↓u_prs0, ↓u_prs, ↓u_dic, ↓u_iVal, ↓u_iEn, ↓u_iRng1, ↓u_lc, aName_run, List.set_cons_zero, List.set_cons_succ, List.getElem?_cons_zero, List.getElem?_cons_succ, List.append_nil, List.length_cons, List.length_nil, truD_bl, truD_non, truD_int, truD_tup, blD_bl, pInt, eqB_int, eqB_str, reduceIte, Nat.reduceAdd, Nat.zero_add, Nat.reduceLeDiff, true_and, and_true, Bool.not_true, Bool.not_false, Bool.false_eq_true, Bool.true_eq_false, decide_true, decide_false, isi_non_int, isi_non_bool, isi_non_str, isi_non_tuple, isi_non_list, isi_bl_int, isi_bl_bool, isi_bl_str, isi_bl_tuple, isi_bl_list, isi_int_int, isi_int_bool, isi_int_str, isi_int_tuple, isi_int_list, isi_str_int, isi_str_bool, isi_str_str, isi_str_tuple, isi_str_list, isi_tup_int, isi_tup_bool, isi_tup_str, isi_tup_tuple, isi_tup_list, isi_frz_int, isi_frz_bool, isi_frz_str, isi_frz_tuple, isi_frz_list, len_tup, len_frz, ix0, ix1, ix2, ix3, ix4, ix5, neg_int, add_int, sub_int, add_tup, is_non, in_cdt, in_chr, ord_int, mod_int, fdiv_int, int_int, DV.sl_tup, itV_tup, itV_frz, list_tup, lit_big, Int.cast_ofNat_Int, enK_tup, aPair, cast_succ0, $xs,*])
local macro_rules | `(tactic| simp_arith! [$xs,*]) => `(tactic| simp only [wE_ok, wE_exc, wE_bad, wE_bind, wE_dbind, wE_if, wE_noX, ↓wS_seq, ↓wS_nil, ↓wS_pass, ↓wS_break, ↓wS_cont, ↓wS_expr, ↓wS_ret, ↓wS_retN, wG_some, wG_none, setAll, ↓wS_asg, ↓wS_par, ↓wS_set, ↓wS_raise, ↓wS_try, wS_nx, wS_rt, forI_items, forS_nil, ↓u_varO, uO_some, ↓u_cst, ↓u_nil, ↓u_cons, ↓u_d2, ↓u_tru, ↓u_bl, ↓u_and, ↓u_or, ↓u_tand, ↓u_tor, ↓u_tnot, ↓u_not, ↓u_neg, ↓u_ite, ↓u_tup, ↓u_lst, ↓u_call, ↓u_callF, ↓u_meth, ↓u_sl, ↓u_pNone, ↓u_pSome, ↓u_rev, ↓u_dic0, ↓u_prs0, ↓u_prs, ↓u_dic, ↓u_iVal, ↓u_iEn, ↓u_iRng1, ↓u_lc, aName_run, List.set_cons_zero, List.set_cons_succ, List.getElem?_cons_zero, List.getElem?_cons_succ, List.append_nil, List.length_cons, List.length_nil, truD_bl, truD_non, truD_int, truD_tup, blD_bl, pInt, eqB_int, eqB_str, reduceIte, Nat.reduceAdd, Nat.zero_add, Nat.reduceLeDiff, true_and, and_true, Bool.not_true, Bool.not_false, Bool.false_eq_true, Bool.true_eq_false, decide_true, decide_false, isi_non_int, isi_non_bool, isi_non_str, isi_non_tuple, isi_non_list, isi_bl_int, isi_bl_bool, isi_bl_str, isi_bl_tuple, isi_bl_list, isi_int_int, isi_int_bool, isi_int_str, isi_int_tuple, isi_int_list, isi_str_int, isi_str_bool, isi_str_str, isi_str_tuple, isi_str_list, isi_tup_int, isi_tup_bool, isi_tup_str, isi_tup_tuple, isi_tup_list, isi_frz_int, isi_frz_bool, isi_frz_str, isi_frz_tuple, isi_frz_list, len_tup, len_frz, ix0, ix1, ix2, ix3, ix4, ix5, neg_int, add_int, sub_int, add_tup, is_non, in_cdt, in_chr, ord_int, mod_int, fdiv_int, int_int, DV.sl_tup, itV_tup, itV_frz, list_tup, lit_big, Int.cast_ofNat_Int, enK_tup, aPair, cast_succ0, $xs,*])
/-- the parts behind a step's word -/
def partsB : Txt → List D → Bool
  | [], _ => true
  | s :: ss, r => isPartD (r.take (if s = 114 then 2 else 1)) [s] && partsB ss (r.drop (if s = 114 then 2 else 1))
def width : Txt → Nat
  | [] => 0
  | s :: ss => (if s = 114 then 2 else 1) + width ss
def partsOf (w : Txt) : Option Txt := if tx "is" = w then some (tx "nr") else if tx "plus" = w then some (tx "nnc") else if tx "within" = w then some (tx "nnr") else if tx "when" = w then some (tx "nnrr") else none
def isStepD : D → Bool
  | .tup (.str w :: r) => match partsOf w with
    | some s => partsB s r && decide (width s = r.length)
    | none => false
  | _ => false
theorem look_parts (w : Txt) : lookT w [(tx "is", D.str (tx "nr")), (tx "plus", .str (tx "nnc")), (tx "within", .str (tx "nnr")), (tx "when", .str (tx "nnrr"))] = (partsOf w).map .str := by
  simp only [lookT, partsOf]
  by_cases h1 : tx "is" = w
  · simp [h1]
  · by_cases h2 : tx "plus" = w
    · simp [h1, h2]
    · by_cases h3 : tx "within" = w
      · simp [h1, h2, h3]
      · by_cases h4 : tx "when" = w <;> simp [h1, h2, h3, h4]
theorem tx_r : tx "r" = [114] := by decide +kernel
theorem f7loop (k : Nat) (L : List D) {h : DH} (hd : ∀ d ∈ L, Okd h d) {Q : PQ} : ∀ (s : Txt) (p : Nat) (x y : Option D), (∀ x y, partsB s (L.drop p) = true → Q.nx [some (.tup L), some (.int (p + width s : Nat)), x, y] h) → (partsB s (L.drop p) = false → Q.rt (.bl false) h) →
    wS (forS (aName 2) (sSeq (sAsg (dIte (dBl (DV.d2 (eqB false) (dVar 2) (dCst (.str (tx "r"))))) (dCst (.int (2))) (dCst (.int (1)))) (aName 3)) (sSeq (sIf (tNotB (dTru (dCallF (dCons (dSl (dVar 0) (pSome (dVar 1)) (pSome (DV.d2 addD (dVar 1) (dVar 3)))) (dCons (dVar 2) dNil)) [] 2 (cF (k + 4) 6)))) (sSeq (sRet (dCst (.bl false))) sNil) sNil) (sSeq (sAsg (DV.d2 addD (dVar 1) (dVar 3)) (aName 1)) sNil))) (chars s) [some (.tup L), some (.int (p : Nat)), x, y] h) Q ⟨⟩
  | [], p, x, y, a, b => by
    simp_arith [chars, List.map_nil]
    simpa [width] using a x y rfl
  | s :: ss, p, x, y, a, b => by
    have ih := f7loop k L hd (Q := Q) ss
    have f := fun (n : Nat) => f6 k (h := h) (ds := (L.drop p).take n) (s := [s]) (fun d m => hd d (List.mem_of_mem_drop (List.mem_of_mem_take m)))
    have hs : ([s] = tx "r") ↔ s = 114 := by rw [tx_r]; simp
    have go : ∀ (n : Nat), (s = 114 ∧ n = 2) ∨ (s ≠ 114 ∧ n = 1) → wS (forS (aName 2) (sSeq (sAsg (dIte (dBl (DV.d2 (eqB false) (dVar 2) (dCst (.str (tx "r"))))) (dCst (.int (2))) (dCst (.int (1)))) (aName 3)) (sSeq (sIf (tNotB (dTru (dCallF (dCons (dSl (dVar 0) (pSome (dVar 1)) (pSome (DV.d2 addD (dVar 1) (dVar 3)))) (dCons (dVar 2) dNil)) [] 2 (cF (k + 4) 6)))) (sSeq (sRet (dCst (.bl false))) sNil) sNil) (sSeq (sAsg (DV.d2 addD (dVar 1) (dVar 3)) (aName 1)) sNil))) (chars (s :: ss)) [some (.tup L), some (.int (p : Nat)), x, y] h) Q ⟨⟩ := by
      intro n hsn
      have hn : (if s = 114 then 2 else 1) = n := by
        rcases hsn with ⟨z, rfl⟩ | ⟨z, rfl⟩ <;> simp [z]
      have e1 : partsB (s :: ss) (L.drop p) = (isPartD ((L.drop p).take n) [s] && partsB ss (L.drop (p + n))) := by
        simp only [partsB, hn, List.drop_drop]
      have e2 : width (s :: ss) = n + width ss := by simp only [width, hn]
      rw [e1, e2] at a
      rw [e1] at b
      have sl : cut L (some (p : Int)) (some ((p : Int) + (n : Int))) = (L.drop p).take n := by
        have := cut_nn L p (p + n)
        rw [Nat.add_sub_cancel_left] at this
        simpa using this
      have fin : isPartD ((L.drop p).take n) [s] = true → wS (forS (aName 2) (sSeq (sAsg (dIte (dBl (DV.d2 (eqB false) (dVar 2) (dCst (.str (tx "r"))))) (dCst (.int (2))) (dCst (.int (1)))) (aName 3)) (sSeq (sIf (tNotB (dTru (dCallF (dCons (dSl (dVar 0) (pSome (dVar 1)) (pSome (DV.d2 addD (dVar 1) (dVar 3)))) (dCons (dVar 2) dNil)) [] 2 (cF (k + 4) 6)))) (sSeq (sRet (dCst (.bl false))) sNil) sNil) (sSeq (sAsg (DV.d2 addD (dVar 1) (dVar 3)) (aName 1)) sNil))) (chars ss) [some (.tup L), some (.int (p + n)), some (.str [s]), some (.int n)] h) Q ⟨⟩ := by
        intro hp
        rw [hp, Bool.true_and] at a b
        exact ih (p + n) (some (.str [s])) (some (.int (n : Nat))) (fun x y q => by
          have := a x y q
          rwa [← Nat.add_assoc] at this) b
      have bad : isPartD ((L.drop p).take n) [s] = false → Q.rt (.bl false) h := by
        intro hp
        rw [hp] at b
        exact b rfl
      have hz : (s = 114) = (n = 2) := by
        rcases hsn with ⟨z, rfl⟩ | ⟨z, rfl⟩ <;> simp [z]
      have f := f n
      rcases hsn with ⟨z, rfl⟩ | ⟨z, rfl⟩
      all_goals
        simp only [reduceCtorEq, Nat.reduceEqDiff, eq_self, Nat.reduceEqDiff] at hz
        have sl' := sl
        simp only [Int.cast_ofNat_Int] at sl' fin
        simp_arith [chars, List.map_cons, hs, hz, sl', f]
        cases hp : isPartD ((L.drop p).take _) [s] with
        | false =>
          simp_arith []
          exact bad hp
        | true =>
          simp_arith []
          exact fin hp
    exact go (if s = 114 then 2 else 1) (by by_cases z : s = 114 <;> simp [z])
theorem f7 (k : Nat) {d : D} {h : DH} (ht : Tyd h d) (hd : ∀ ds, d = .tup ds → ∀ e ∈ ds, Okd h e) : cF (k + 5) 7 [d] h = .ok (.bl (isStepD d)) h := by
  rw [step_]
  apply Ok.run
  refine (wE_run rfl).mpr ?_
  show wS (m7 (cF (k + 4)) [some d, none, none, none] h) _ _
  by_cases z : ∃ w r, d = .tup (.str w :: r)
  · obtain ⟨w, r, rfl⟩ := z
    cases hw : partsOf w with
    | none =>
      unfold m7
      simp_arith [c_STEP_PARTS, look_parts, hw, Option.map_none, Option.isSome_none, negIf]
      simp [isStepD, hw]
    | some s =>
      have l1 := look_parts w
      rw [hw] at l1
      have hs : (tx "is" = w ∧ s = tx "nr") ∨ (tx "plus" = w ∧ s = tx "nnc") ∨ (tx "within" = w ∧ s = tx "nnr") ∨ (tx "when" = w ∧ s = tx "nnrr") := by
        unfold partsOf at hw
        split at hw
        · rename_i q; exact .inl ⟨q, by simpa using hw.symm⟩
        · split at hw
          · rename_i q; exact .inr (.inl ⟨q, by simpa using hw.symm⟩)
          · split at hw
            · rename_i q; exact .inr (.inr (.inl ⟨q, by simpa using hw.symm⟩))
            · split at hw
              · rename_i q; exact .inr (.inr (.inr ⟨q, by simpa using hw.symm⟩))
              · cases hw
      have sl : s.length ≤ big := by
        rcases hs with ⟨_, rfl⟩ | ⟨_, rfl⟩ | ⟨_, rfl⟩ | ⟨_, rfl⟩ <;> decide +kernel
      unfold m7
      simp_arith [c_STEP_PARTS, look_parts, hw, Option.map_some, Option.isSome_some, negIf, ix_cdt l1, itV_str sl]
      refine f7loop k (.str w :: r) (hd _ rfl) s 1 none none ?_ ?_
      · intro x y q
        simp_arith []
        have : decide (((1 + width s : Nat) : Int) = ((r.length + 1 : Nat) : Int)) = decide (width s = r.length) := by
          apply decide_eq_decide.mpr
          omega
        simp only [List.drop_one, List.tail_cons] at q
        simp only [isStepD, hw, q, this, Bool.true_and]
      · intro q
        simp only [List.drop_one, List.tail_cons] at q
        simp [isStepD, hw, q]
  · have er : isStepD d = false := by
      match d, z with
      | .tup (.str w :: r), z => exact absurd ⟨w, r, rfl⟩ z
      | .tup [], _ => rfl
      | .tup (.non :: _), _ => rfl
      | .tup (.bl _ :: _), _ => rfl
      | .tup (.int _ :: _), _ => rfl
      | .tup (.tup _ :: _), _ => rfl
      | .tup (.frz _ :: _), _ => rfl
      | .tup (.ref _ :: _), _ => rfl
      | .tup (.cdt _ :: _), _ => rfl
      | .tup (.fn _ :: _), _ => rfl
      | .tup (.ty _ :: _), _ => rfl
      | .non, _ => rfl
      | .bl _, _ => rfl
      | .int _, _ => rfl
      | .str _, _ => rfl
      | .frz _, _ => rfl
      | .ref _, _ => rfl
      | .cdt _, _ => rfl
      | .fn _, _ => rfl
      | .ty _, _ => rfl
    rw [er]
    by_cases z2 : ∃ ds, d = .tup ds
    · obtain ⟨ds, rfl⟩ := z2
      match ds, hd _ rfl, z with
      | [], _, _ =>
        unfold m7
        simp_arith [Int.reduceEq]
      | a :: r, hd, z =>
        obtain ⟨t, ta⟩ := (hd a List.mem_cons_self).1
        have ia := isiF_run (c := "str") ta (by simp)
        have na : isTy a "str" = false := by
          cases a <;> first | rfl | exact absurd ⟨_, _, rfl⟩ z
        unfold m7
        simp_arith [ia, na]
    · obtain ⟨t, ta⟩ := ht
      have ia := isiF_run (c := "tuple") ta (by simp)
      have na : isTy d "tuple" = false := by
        cases d <;> first | rfl | exact absurd ⟨_, rfl⟩ z2
      unfold m7
      simp_arith [ia, na]
end K65
namespace K65
open PySem DV L2
local macro_rules | `(tactic| simp_arith [$xs,*]) => `(tactic| simp only [wE_ok, wE_exc, wE_bad, wE_bind, wE_dbind, wE_if, wE_noX, ↓wS_seq, ↓wS_nil, ↓wS_pass, ↓wS_break, ↓wS_cont, ↓wS_expr, ↓wS_ret, ↓wS_retN, ↓wS_if, wG_some, wG_none, setAll, ↓wS_asg, ↓wS_par, ↓wS_set, ↓wS_raise, ↓wS_try, ↓wS_for, wS_nx, wS_rt, forI_items, forS_nil, ↓forS_cons, ↓u_varO, uO_some, ↓u_cst, ↓u_nil, ↓u_cons, ↓u_d2, ↓u_tru, ↓u_bl, ↓u_and, ↓u_or, ↓u_tand, ↓u_tor, ↓u_tnot, ↓u_not, ↓u_neg, ↓u_ite, ↓u_tup, ↓u_lst, ↓u_call, ↓u_callF, ↓u_meth, ↓u_sl, ↓u_pNone, ↓u_pSome, ↓u_rev, ↓u_dic0, ↓u_prs0, ↓u_prs, ↓u_dic, ↓u_iVal, ↓u_iEn, ↓u_iRng1, ↓u_lc, aName_run, List.set_cons_zero, List.set_cons_succ, List.getElem?_cons_zero, List.getElem?_cons_succ, List.append_nil, List.length_cons, List.length_nil, truD_bl, truD_non, truD_int, truD_tup, blD_bl, pInt, eqB_int, eqB_str, reduceIte, Nat.reduceAdd, Nat.zero_add, Nat.reduceLeDiff, true_and, and_true, Bool.not_true, Bool.not_false, Bool.false_eq_true, Bool.true_eq_false, decide_true, decide_false, isi_non_int, isi_non_bool, isi_non_str, isi_non_tuple, isi_non_list, isi_bl_int, isi_bl_bool, isi_bl_str, isi_bl_tuple, isi_bl_list, isi_int_int, isi_int_bool, isi_int_str, isi_int_tuple, isi_int_list, isi_str_int, isi_str_bool, isi_str_str, isi_str_tuple, isi_str_list, isi_tup_int, isi_tup_bool, isi_tup_str, isi_tup_tuple, isi_tup_list, isi_frz_int, isi_frz_bool, isi_frz_str, isi_frz_tuple, isi_frz_list, len_tup, len_frz, ix0, ix1, ix2, ix3, ix4, ix5, neg_int, add_int, sub_int, add_tup, is_non, in_cdt, in_chr, ord_int, mod_int, fdiv_int, int_int, DV.sl_tup, itV_tup, itV_frz, list_tup, lit_big, Int.cast_ofNat_Int, enK_tup, aPair, cast_succ0, $xs,*])
local macro_rules | `(tactic| simp_arith! [$xs,*]) => `(tactic| simp only [wE_ok, wE_exc, wE_bad, wE_bind, wE_dbind, wE_if, wE_noX, ↓wS_seq, ↓wS_nil, ↓wS_pass, ↓wS_break, ↓wS_cont, ↓wS_expr, ↓wS_ret, ↓wS_retN, wG_some, wG_none, setAll, ↓wS_asg, ↓wS_par, ↓wS_set, ↓wS_raise, ↓wS_try, wS_nx, wS_rt, forI_items, forS_nil, ↓u_varO, uO_some, ↓u_cst, ↓u_nil, ↓u_cons, ↓u_d2, ↓u_tru, ↓u_bl, ↓u_and, ↓u_or, ↓u_tand, ↓u_tor, ↓u_tnot, ↓u_not, ↓u_neg, ↓u_ite, ↓u_tup, ↓u_lst, ↓u_call, ↓u_callF, ↓u_meth, ↓u_sl, ↓u_pNone, ↓u_pSome, ↓u_rev, ↓u_dic0, ↓u_prs0, ↓u_prs, ↓u_dic, ↓u_iVal, ↓u_iEn, ↓u_iRng1, ↓u_lc, aName_run, List.set_cons_zero, List.set_cons_succ, List.getElem?_cons_zero, List.getElem?_cons_succ, List.append_nil, List.length_cons, List.length_nil, truD_bl, truD_non, truD_int, truD_tup, blD_bl, pInt, eqB_int, eqB_str, reduceIte, Nat.reduceAdd, Nat.zero_add, Nat.reduceLeDiff, true_and, and_true, Bool.not_true, Bool.not_false, Bool.false_eq_true, Bool.true_eq_false, decide_true, decide_false, isi_non_int, isi_non_bool, isi_non_str, isi_non_tuple, isi_non_list, isi_bl_int, isi_bl_bool, isi_bl_str, isi_bl_tuple, isi_bl_list, isi_int_int, isi_int_bool, isi_int_str, isi_int_tuple, isi_int_list, isi_str_int, isi_str_bool, isi_str_str, isi_str_tuple, isi_str_list, isi_tup_int, isi_tup_bool, isi_tup_str, isi_tup_tuple, isi_tup_list, isi_frz_int, isi_frz_bool, isi_frz_str, isi_frz_tuple, isi_frz_list, len_tup, len_frz, ix0, ix1, ix2, ix3, ix4, ix5, neg_int, add_int, sub_int, add_tup, is_non, in_cdt, in_chr, ord_int, mod_int, fdiv_int, int_int, DV.sl_tup, itV_tup, itV_frz, list_tup, lit_big, Int.cast_ofNat_Int, enK_tup, aPair, cast_succ0, $xs,*])
def txtOf : D → Txt
  | .str t => t
  | _ => []
def namesT : D → Txt
  | .tup (.str w :: r) => ((r.take (if w = tx "is" then 1 else 2)).map txtOf).flatten
  | _ => []
def noStr : D → Bool
  | .non => true
  | .int _ => true
  | _ => false
theorem tx_e : tx "" = [] := by decide +kernel
theorem tx_n : tx "n" = [110] := by decide +kernel
theorem tx_nr : tx "nr" = [110, 114] := by decide +kernel
theorem tx_nnc : tx "nnc" = [110, 110, 99] := by decide +kernel
theorem tx_nnr : tx "nnr" = [110, 110, 114] := by decide +kernel
theorem tx_nnrr : tx "nnrr" = [110, 110, 114, 114] := by decide +kernel
theorem isLet_inv {d : D} (e : isLetD d = true) : ∃ c, d = .str [c] ∧ c ∈ letters := by
  match d, e with
  | .str [c], e => exact ⟨c, rfl, of_decide_eq_true e⟩
theorem isInt_inv {d : D} (e : isIntD d = true) : ∃ i, d = .int i := by
  match d, e with
  | .int i, _ => exact ⟨i, rfl⟩
theorem part_n {l : List D} (e : isPartD l [110] = true) : ∃ c, l = [.str [c]] ∧ c ∈ letters := by
  unfold isPartD at e
  rw [tx_r, tx_n] at e
  simp only [List.cons.injEq, and_true, Nat.reduceEqDiff, if_false] at e
  match l, e with
  | [d], e =>
    obtain ⟨c, rfl, m⟩ := isLet_inv (d := d) (by simpa using e)
    exact ⟨c, rfl, m⟩
theorem part_c {l : List D} (e : isPartD l [99] = true) : ∃ i, l = [.int i] := by
  unfold isPartD at e
  rw [tx_r, tx_n] at e
  simp only [List.cons.injEq, and_true, Nat.reduceEqDiff, if_false] at e
  match l, e with
  | [d], e =>
    obtain ⟨c, rfl⟩ := isInt_inv (d := d) (by simpa using e)
    exact ⟨c, rfl⟩
theorem part_r {l : List D} (e : isPartD l [114] = true) : ∃ a b, l = [a, b] ∧ noStr a = true ∧ noStr b = true := by
  unfold isPartD at e
  rw [tx_r] at e
  simp only [if_true] at e
  match l, e with
  | [a, b], e =>
    refine ⟨a, b, rfl, ?_⟩
    unfold isRngD at e
    simp only [Bool.and_eq_true] at e
    constructor
    · cases a <;> first | rfl | simp [isNonD, isIntD] at e
    · cases b <;> first | rfl | simp [isNonD, isIntD] at e
theorem parts_inv {w s : Txt} (e : partsOf w = some s) : (tx "is" = w ∧ s = [110, 114]) ∨ (tx "is" ≠ w ∧ (s = [110, 110, 99] ∨ s = [110, 110, 114] ∨ s = [110, 110, 114, 114])) := by
  unfold partsOf at e
  rw [tx_nr, tx_nnc, tx_nnr, tx_nnrr] at e
  split at e
  · rename_i q; exact .inl ⟨q, by simpa using e.symm⟩
  · rename_i q
    refine .inr ⟨q, ?_⟩
    split at e
    · exact .inl (by simpa using e.symm)
    · split at e
      · exact .inr (.inl (by simpa using e.symm))
      · split at e
        · exact .inr (.inr (by simpa using e.symm))
        · cases e
theorem isStep_inv {d : D} (e : isStepD d = true) : ∃ w s r, d = .tup (.str w :: r) ∧ partsOf w = some s ∧ partsB s r = true ∧ width s = r.length := by
  unfold isStepD at e
  split at e
  · rename_i w r
    split at e
    · rename_i s hs
      rw [Bool.and_eq_true] at e
      exact ⟨w, s, r, rfl, hs, e.1, of_decide_eq_true e.2⟩
    · cases e
  · cases e
theorem step_inv {d : D} (e : isStepD d = true) : ∃ (w : Txt) (ls : List Nat) (r : List D), d = .tup (.str w :: (chars ls ++ r)) ∧ ls.length = (if w = tx "is" then 1 else 2) ∧ (∀ c ∈ ls, c ∈ letters) ∧ (∀ x ∈ r, noStr x = true) := by
  obtain ⟨w, s, r, rfl, hs, hp, hw⟩ := isStep_inv e
  rcases parts_inv hs with ⟨h1, rfl⟩ | ⟨h1, rfl | rfl | rfl⟩ <;> simp only [partsB, Nat.reduceEqDiff, if_false, if_true, Bool.and_eq_true, and_true] at hp <;> simp only [width, Nat.reduceEqDiff, if_false, if_true, Nat.reduceAdd, Nat.add_zero] at hw
  · match r, hw, hp with
    | [a, b, c], _, ⟨p1, p2⟩ =>
      obtain ⟨x, q1, m1⟩ := part_n p1
      obtain ⟨y, z, q2, n1, n2⟩ := part_r p2
      simp at q1 q2
      obtain ⟨rfl, rfl⟩ := q2
      subst q1
      exact ⟨w, [x], [b, c], rfl, by simp [h1], by simpa using m1, by simp [n1, n2]⟩
  · match r, hw, hp with
    | [a, b, c], _, ⟨p1, p2, p3⟩ =>
      obtain ⟨x, q1, m1⟩ := part_n p1
      obtain ⟨y, q2, m2⟩ := part_n p2
      obtain ⟨i, q3⟩ := part_c p3
      simp at q1 q2 q3
      subst q1 q2 q3
      exact ⟨w, [x, y], [.int i], rfl, by rw [if_neg fun q => h1 q.symm]; rfl, by simp [m1, m2], by simp [noStr]⟩
  · match r, hw, hp with
    | [a, b, c, d], _, ⟨p1, p2, p3⟩ =>
      obtain ⟨x, q1, m1⟩ := part_n p1
      obtain ⟨y, q2, m2⟩ := part_n p2
      obtain ⟨u, v, q3, n1, n2⟩ := part_r p3
      simp at q1 q2 q3
      obtain ⟨rfl, rfl⟩ := q3
      subst q1 q2
      exact ⟨w, [x, y], [c, d], rfl, by rw [if_neg fun q => h1 q.symm]; rfl, by simp [m1, m2], by simp [n1, n2]⟩
  · match r, hw, hp with
    | [a, b, c, d, e, f], _, ⟨p1, p2, p3, p4⟩ =>
      obtain ⟨x, q1, m1⟩ := part_n p1
      obtain ⟨y, q2, m2⟩ := part_n p2
      obtain ⟨u, v, q3, n1, n2⟩ := part_r p3
      obtain ⟨u', v', q4, n3, n4⟩ := part_r p4
      simp at q1 q2 q3 q4
      obtain ⟨rfl, rfl⟩ := q3
      obtain ⟨rfl, rfl⟩ := q4
      subst q1 q2
      exact ⟨w, [x, y], [c, d, e, f], rfl, by rw [if_neg fun q => h1 q.symm]; rfl, by simp [m1, m2], by simp [n1, n2, n3, n4]⟩
theorem names_ls {w : Txt} {ls : List Nat} {r : List D} (hl : ls.length = (if w = tx "is" then 1 else 2)) : namesT (.tup (.str w :: (chars ls ++ r))) = ls := by
  have : ∀ ls : List Nat, ((chars ls).map txtOf).flatten = ls := fun ls => by
    induction ls with
    | nil => rfl
    | cons a l ih => simpa [chars, txtOf] using ih
  simp only [namesT]
  rw [← hl, List.take_append_of_le_length (by simp [chars]), List.take_of_length_le (by simp [chars]), this]
theorem f8 (k : Nat) {d : D} {h : DH} (e : isStepD d = true) : Ok (cF (k + 1) 8 [d] h) fun v h' => v = .str (namesT d) ∧ h <+: h' := by
  obtain ⟨w, ls, r, rfl, hl, _, _⟩ := step_inv e
  rw [names_ls hl, step_]
  refine (wE_run rfl).mpr ?_
  show wS (m8 (cF k) [some _] h) _ _
  unfold m8
  by_cases hw : w = tx "is"
  · rw [if_pos hw] at hl
    match ls, hl with
    | [a], _ =>
      simp_arith [hw, tx_e, tyD_str, cut12, chars, List.map_cons, List.map_nil, List.cons_append, List.take_succ_cons, List.take_zero]
      have j := join_ref (h := h ++ [DO.lst [.str [a]]]) (n := h.length) (t := []) (ts := [[a]]) app_get rfl (by simp)
      simp_arith [j]
      exact ⟨rfl, ⟨_, rfl⟩⟩
  · rw [if_neg hw] at hl
    match ls, hl with
    | [a, b], _ =>
      simp_arith [hw, tx_e, tyD_str, cut13, chars, List.map_cons, List.map_nil, List.cons_append, List.take_succ_cons, List.take_zero]
      have j := join_ref (h := h ++ [DO.lst [.str [a], .str [b]]]) (n := h.length) (t := []) (ts := [[a], [b]]) app_get rfl (by simp)
      simp_arith [j]
      exact ⟨rfl, ⟨_, rfl⟩⟩
theorem f9 (k : Nat) {ns ls : Txt} {h : DH} (hl : ls.length ≤ big) : Ok (cF (k + 1) 9 [.str ns, .str ls] h) fun v h' => v = .bl (ls.all fun c => decide (c ∈ ns)) ∧ h <+: h' := by
  rw [step_]
  refine (wE_run rfl).mpr ?_
  show wS (m9 (cF k) [some _, some _, none] h) _ _
  unfold m9
  simp_arith [itV_str hl]
  have wi : wipeE [some (D.str ns), some (D.str ls), none] [2] = [some (.str ns), some (.str ls), none] := rfl
  rw [wi, u_lcS_pure (fun d => [some (.str ns), some (.str ls), some d]) (fun _ => true) (fun d => .bl (match d with | .str [c] => decide (c ∈ ns) | _ => false)) ?_]
  · rw [List.filter_eq_self.mpr (fun _ _ => rfl)]
    refine ⟨by simpa [chars] using hl, ?_⟩
    simp_arith [all_ref app_get]
    refine ⟨?_, ⟨_, rfl⟩⟩
    simp [chars, List.all_map, Function.comp_def]
  · intro d m
    obtain ⟨c, hc, rfl⟩ : ∃ c, c ∈ ls ∧ d = .str [c] := by simpa [chars, eq_comm] using m
    refine ⟨rfl, rfl, fun _ => ?_⟩
    apply Ok.run
    simp_arith [negIf]
end K65
namespace K65
open PySem DV L2
local macro_rules | `(tactic| simp_arith [$xs,*]) => `(tactic| simp only [wE_ok, wE_exc, wE_bad, wE_bind, wE_dbind, wE_if, wE_noX, ↓wS_seq, ↓wS_nil, ↓wS_pass, ↓wS_break, ↓wS_cont, ↓wS_expr, ↓wS_ret, ↓wS_retN, ↓wS_if, wG_some, wG_none, setAll, ↓wS_asg, ↓wS_par, ↓wS_set, ↓wS_raise, ↓wS_try, ↓wS_for, wS_nx, wS_rt, forI_items, forS_nil, ↓forS_cons, ↓u_varO, uO_some, ↓u_cst, ↓u_nil, ↓u_cons, ↓u_d2, ↓u_tru, ↓u_bl, ↓u_and, ↓u_or, ↓u_tand, ↓u_tor, ↓u_tnot, ↓u_not, ↓u_neg, ↓u_ite, ↓u_tup, ↓u_lst, ↓u_call, ↓u_callF, ↓u_meth, ↓u_sl, ↓u_pNone, ↓u_pSome, ↓u_rev, ↓u_dic0, ↓u_prs0, ↓u_prs, ↓u_dic, ↓u_iVal, ↓u_iEn, ↓u_iRng1, ↓u_lc, aName_run, List.set_cons_zero, List.set_cons_succ, List.getElem?_cons_zero, List.getElem?_cons_succ, List.append_nil, List.length_cons, List.length_nil, truD_bl, truD_non, truD_int, truD_tup, blD_bl, pInt, eqB_int, eqB_str, reduceIte, Nat.reduceAdd, Nat.zero_add, Nat.reduceLeDiff, true_and, and_true, Bool.not_true, Bool.not_false, Bool.false_eq_true, Bool.true_eq_false, decide_true, decide_false, isi_non_int, isi_non_bool, isi_non_str, isi_non_tuple, isi_non_list, isi_bl_int, isi_bl_bool, isi_bl_str, isi_bl_tuple, isi_bl_list, isi_int_int, isi_int_bool, isi_int_str, isi_int_tuple, isi_int_list, isi_str_int, isi_str_bool, isi_str_str, isi_str_tuple, isi_str_list, isi_tup_int, isi_tup_bool, isi_tup_str, isi_tup_tuple, isi_tup_list, isi_frz_int, isi_frz_bool, isi_frz_str, isi_frz_tuple, isi_frz_list, len_tup, len_frz, ix0, ix1, ix2, ix3, ix4, ix5, neg_int, add_int, sub_int, add_tup, is_non, in_cdt, in_chr, ord_int, mod_int, fdiv_int, int_int, DV.sl_tup, itV_tup, itV_frz, list_tup, lit_big, Int.cast_ofNat_Int, enK_tup, aPair, cast_succ0, $xs,*])
local macro_rules | `(tactic| simp_arith! [$xs,*]) => `(tactic| simp only [wE_ok, wE_exc, wE_bad, wE_bind, wE_dbind, wE_if, wE_noX, ↓wS_seq, ↓wS_nil, ↓wS_pass, ↓wS_break, ↓wS_cont, ↓wS_expr, ↓wS_ret, ↓wS_retN, wG_some, wG_none, setAll, ↓wS_asg, ↓wS_par, ↓wS_set, ↓wS_raise, ↓wS_try, wS_nx, wS_rt, forI_items, forS_nil, ↓u_varO, uO_some, ↓u_cst, ↓u_nil, ↓u_cons, ↓u_d2, ↓u_tru, ↓u_bl, ↓u_and, ↓u_or, ↓u_tand, ↓u_tor, ↓u_tnot, ↓u_not, ↓u_neg, ↓u_ite, ↓u_tup, ↓u_lst, ↓u_call, ↓u_callF, ↓u_meth, ↓u_sl, ↓u_pNone, ↓u_pSome, ↓u_rev, ↓u_dic0, ↓u_prs0, ↓u_prs, ↓u_dic, ↓u_iVal, ↓u_iEn, ↓u_iRng1, ↓u_lc, aName_run, List.set_cons_zero, List.set_cons_succ, List.getElem?_cons_zero, List.getElem?_cons_succ, List.append_nil, List.length_cons, List.length_nil, truD_bl, truD_non, truD_int, truD_tup, blD_bl, pInt, eqB_int, eqB_str, reduceIte, Nat.reduceAdd, Nat.zero_add, Nat.reduceLeDiff, true_and, and_true, Bool.not_true, Bool.not_false, Bool.false_eq_true, Bool.true_eq_false, decide_true, decide_false, isi_non_int, isi_non_bool, isi_non_str, isi_non_tuple, isi_non_list, isi_bl_int, isi_bl_bool, isi_bl_str, isi_bl_tuple, isi_bl_list, isi_int_int, isi_int_bool, isi_int_str, isi_int_tuple, isi_int_list, isi_str_int, isi_str_bool, isi_str_str, isi_str_tuple, isi_str_list, isi_tup_int, isi_tup_bool, isi_tup_str, isi_tup_tuple, isi_tup_list, isi_frz_int, isi_frz_bool, isi_frz_str, isi_frz_tuple, isi_frz_list, len_tup, len_frz, ix0, ix1, ix2, ix3, ix4, ix5, neg_int, add_int, sub_int, add_tup, is_non, in_cdt, in_chr, ord_int, mod_int, fdiv_int, int_int, DV.sl_tup, itV_tup, itV_frz, list_tup, lit_big, Int.cast_ofNat_Int, enK_tup, aPair, cast_succ0, $xs,*])
theorem okd_of {h : DH} {d : D} (a : Any h d) : Okd h d := ⟨a.ty, fun t e => by subst e; exact Nat.lt_of_le_of_lt a.txt (by decide)⟩
def stepsF (ns : Txt) : Nat → List D → Option (Txt × Int)
  | _, [] => none
  | i, d :: ds => if isStepD d = true then (if ((namesT d).all fun c => decide (c ∈ ns)) = true then stepsF ns (i + 1) ds else some (tx "name", (i : Nat))) else some (tx "step", (i : Nat))
def faultD : D → Option (Txt × Int)
  | .tup [.str ns, .tup ds] => if isNamesD (.str ns) = true then stepsF ns 0 ds else some (tx "names", -1)
  | _ => some (tx "shape", -1)
theorem fault_pair {ns : Txt} {ds : List D} : faultD (.tup [.str ns, .tup ds]) = if isNamesD (.str ns) = true then stepsF ns 0 ds else some (tx "names", -1) := rfl
def lenD : D → Int
  | .tup [_, .tup ds] => ds.length
  | _ => 0
def pairsN (d : D) : Prop := ∃ ns ds, d = .tup [.str ns, .tup ds]
theorem fault_shape {d : D} (z : ¬ pairsN d) : faultD d = some (tx "shape", -1) := by
  unfold faultD
  split
  · exact absurd ⟨_, _, rfl⟩ z
  · rfl
theorem namesLen {d : D} (e : isStepD d = true) : (namesT d).length ≤ big := by
  obtain ⟨w, ls, r, rfl, hl, _⟩ := step_inv e
  rw [names_ls hl, hl]
  split <;> decide
abbrev Told (d : D) (h : DH) (r : R D) : Prop := wE r (fun v h' => faultD d = none ∧ v = .int (lenD d) ∧ h <+: h') (fun c a h' => c = 0 ∧ ∃ w i, faultD d = some (w, i) ∧ a = [.str w, .int i] ∧ h <+: h') ⟨⟩
theorem f10 (k : Nat) {d : D} {h : DH} (a : Any h d) : Told d h (cF (k + 6) 10 [d] h) := by
  rw [step_]
  refine (wE_run rfl).mpr ?_
  show wS (m10 (cF (k + 5)) [some d, none, none, none, none] h) _ _
  by_cases z : pairsN d
  · obtain ⟨ns, ds, rfl⟩ := z
    have an : Any h (.str ns) := a.mem (by simp)
    have as : Any h (.tup ds) := a.mem (by simp)
    obtain ⟨x, e4⟩ := f4 (k + 3) (okd_of an).1 (okd_of an).2
    cases hn : isNamesD (.str ns) with
    | false =>
      rw [hn] at e4
      unfold m10
      simp_arith [Int.reduceEq, e4]
      refine ⟨tx "names", -1, ?_, rfl, ⟨_, rfl⟩⟩
      rw [fault_pair, hn]
      rfl
    | true =>
      rw [hn] at e4
      unfold m10
      simp_arith [Int.reduceEq, e4]
      have ef : faultD (.tup [.str ns, .tup ds]) = stepsF ns 0 ds := by
        rw [fault_pair, hn]
        rfl
      refine wS_forS (fun i env h' => (∃ x y, env = [some (.tup [.str ns, .tup ds]), some (.str ns), some (.tup ds), x, y]) ∧ h <+: h' ∧ faultD (.tup [.str ns, .tup ds]) = stepsF ns i (ds.drop i)) ⟨⟨_, _, rfl⟩, ⟨_, rfl⟩, by rw [ef, List.drop_zero]⟩ ?_ ?_
      · rintro i q env h' hq ⟨⟨x, y, rfl⟩, pre, ff⟩
        obtain ⟨e, he, rfl⟩ := enum_get hq
        have lt : i < ds.length := (List.getElem?_eq_some_iff.mp he).1
        have dr : ds.drop i = e :: ds.drop (i + 1) := by
          rw [List.drop_eq_getElem_cons lt, (List.getElem?_eq_some_iff.mp he).2]
        have ae : Any h' e := (as.mem (List.mem_of_getElem? he)).kp (Kp.of_pre pre)
        have e7 := f7 k ae.ty (fun fs z f m => by subst z; exact okd_of (ae.mem m))
        rw [dr, stepsF] at ff
        refine ⟨_, aPair, ?_⟩
        cases hs : isStepD e with
        | false =>
          rw [hs] at e7 ff
          simp_arith [e7]
          exact ⟨tx "step", i, ff, rfl, pre⟩
        | true =>
          rw [hs, if_pos rfl] at ff
          rw [hs] at e7
          simp_arith [e7]
          refine wE_of (f8 (k + 4) hs) ?_
          rintro v h2 ⟨rfl, p2⟩
          simp_arith []
          refine wE_of (f9 (k + 4) (namesLen hs)) ?_
          rintro v h3 ⟨rfl, p3⟩
          cases ha : ((namesT e).all fun c => decide (c ∈ ns)) with
          | false =>
            rw [ha, if_neg (by decide)] at ff
            simp_arith []
            exact ⟨tx "name", i, ff, rfl, pre.trans (p2.trans p3)⟩
          | true =>
            rw [ha, if_pos rfl] at ff
            simp_arith []
            exact ⟨⟨_, _, rfl⟩, pre.trans (p2.trans p3), ff⟩
      · rintro env h' ⟨⟨x, y, rfl⟩, pre, ff⟩
        simp_arith []
        refine ⟨?_, rfl, pre⟩
        rw [ff, enum_len, List.drop_length]
        rfl
  · have fs := fault_shape z
    have fin : ∀ h', h <+: h' → (∃ w i, faultD d = some (w, i) ∧ [D.str (tx "shape"), D.int (-1)] = [.str w, .int i] ∧ h <+: h') := fun h' p => ⟨_, _, fs, rfl, p⟩
    by_cases z2 : ∃ u v, d = .tup [u, v]
    · obtain ⟨u, v, rfl⟩ := z2
      have au : Any h u := a.mem (by simp)
      have av : Any h v := a.mem (by simp)
      obtain ⟨tu, hu⟩ := au.ty
      obtain ⟨tv, hv⟩ := av.ty
      have iu := isiF_run (c := "str") hu (by simp)
      have iv := isiF_run (c := "tuple") hv (by simp)
      cases hs : isTy u "str" with
      | false =>
        rw [hs] at iu
        unfold m10
        simp_arith [Int.reduceEq, iu]
        exact fin h ⟨[], by simp⟩
      | true =>
        rw [hs] at iu
        have ns : isTy v "tuple" = false := by
          obtain ⟨s, rfl⟩ : ∃ s, u = .str s := by cases u <;> first | exact ⟨_, rfl⟩ | simp [isTy] at hs
          cases v <;> first | rfl | exact absurd ⟨_, _, rfl⟩ z
        rw [ns] at iv
        unfold m10
        simp_arith [Int.reduceEq, iu, iv]
        exact fin h ⟨[], by simp⟩
    · by_cases z3 : ∃ ds, d = .tup ds
      · obtain ⟨ds, rfl⟩ := z3
        have hl : ((ds.length : Int) = 2) = False := by
          apply eq_false
          intro q
          have q : ds.length = 2 := by omega
          match ds, q with
          | [u, v], _ => exact z2 ⟨u, v, rfl⟩
        unfold m10
        simp_arith [hl]
        exact fin h ⟨[], by simp⟩
      · obtain ⟨t, ht⟩ := a.ty
        have i1 := isiF_run (c := "tuple") ht (by simp)
        have n1 : isTy d "tuple" = false := by cases d <;> first | rfl | exact absurd ⟨_, rfl⟩ z3
        rw [n1] at i1
        unfold m10
        simp_arith [i1]
        exact fin h ⟨[], by simp⟩
end K65
namespace K65
open PySem DV L2
local macro_rules | `(tactic| simp_arith [$xs,*]) => `(tactic| simp only [wE_ok, wE_exc, wE_bad, wE_bind, wE_dbind, wE_if, wE_noX, ↓wS_seq, ↓wS_nil, ↓wS_pass, ↓wS_break, ↓wS_cont, ↓wS_expr, ↓wS_ret, ↓wS_retN, ↓wS_if, wG_some, wG_none, setAll, ↓wS_asg, ↓wS_par, ↓wS_set, ↓wS_raise, ↓wS_try, ↓wS_for, wS_nx, wS_rt, forI_items, forS_nil, ↓forS_cons, ↓u_varO, uO_some, ↓u_cst, ↓u_nil, ↓u_cons, ↓u_d2, ↓u_tru, ↓u_bl, ↓u_and, ↓u_or, ↓u_tand, ↓u_tor, ↓u_tnot, ↓u_not, ↓u_neg, ↓u_ite, ↓u_tup, ↓u_lst, ↓u_call, ↓u_callF, ↓u_meth, ↓u_sl, ↓u_pNone, ↓u_pSome, ↓u_rev, ↓u_dic0, ↓u_prs0, ↓u_prs, ↓u_dic, ↓u_iVal, ↓u_iEn, ↓u_iRng1, ↓u_lc, aName_run, List.set_cons_zero, List.set_cons_succ, List.getElem?_cons_zero, List.getElem?_cons_succ, List.append_nil, List.length_cons, List.length_nil, truD_bl, truD_non, truD_int, truD_tup, blD_bl, pInt, eqB_int, eqB_str, reduceIte, Nat.reduceAdd, Nat.zero_add, Nat.reduceLeDiff, true_and, and_true, Bool.not_true, Bool.not_false, Bool.false_eq_true, Bool.true_eq_false, decide_true, decide_false, isi_non_int, isi_non_bool, isi_non_str, isi_non_tuple, isi_non_list, isi_bl_int, isi_bl_bool, isi_bl_str, isi_bl_tuple, isi_bl_list, isi_int_int, isi_int_bool, isi_int_str, isi_int_tuple, isi_int_list, isi_str_int, isi_str_bool, isi_str_str, isi_str_tuple, isi_str_list, isi_tup_int, isi_tup_bool, isi_tup_str, isi_tup_tuple, isi_tup_list, isi_frz_int, isi_frz_bool, isi_frz_str, isi_frz_tuple, isi_frz_list, len_tup, len_frz, ix0, ix1, ix2, ix3, ix4, ix5, neg_int, add_int, sub_int, add_tup, is_non, in_cdt, in_chr, ord_int, mod_int, fdiv_int, int_int, DV.sl_tup, itV_tup, itV_frz, list_tup, lit_big, Int.cast_ofNat_Int, enK_tup, aPair, cast_succ0, $xs,*])
local macro_rules | `(tactic| simp_arith! [$xs,*]) => `(tactic| simp only [wE_ok, wE_exc, wE_bad, wE_bind, wE_dbind, wE_if, wE_noX, ↓wS_seq, ↓wS_nil, ↓wS_pass, ↓wS_break, ↓wS_cont, ↓wS_expr, ↓wS_ret, ↓wS_retN, wG_some, wG_none, setAll, ↓wS_asg, ↓wS_par, ↓wS_set, ↓wS_raise, ↓wS_try, wS_nx, wS_rt, forI_items, forS_nil, ↓u_varO, uO_some, ↓u_cst, ↓u_nil, ↓u_cons, ↓u_d2, ↓u_tru, ↓u_bl, ↓u_and, ↓u_or, ↓u_tand, ↓u_tor, ↓u_tnot, ↓u_not, ↓u_neg, ↓u_ite, ↓u_tup, ↓u_lst, ↓u_call, ↓u_callF, ↓u_meth, ↓u_sl, ↓u_pNone, ↓u_pSome, ↓u_rev, ↓u_dic0, ↓u_prs0, ↓u_prs, ↓u_dic, ↓u_iVal, ↓u_iEn, ↓u_iRng1, ↓u_lc, aName_run, List.set_cons_zero, List.set_cons_succ, List.getElem?_cons_zero, List.getElem?_cons_succ, List.append_nil, List.length_cons, List.length_nil, truD_bl, truD_non, truD_int, truD_tup, blD_bl, pInt, eqB_int, eqB_str, reduceIte, Nat.reduceAdd, Nat.zero_add, Nat.reduceLeDiff, true_and, and_true, Bool.not_true, Bool.not_false, Bool.false_eq_true, Bool.true_eq_false, decide_true, decide_false, isi_non_int, isi_non_bool, isi_non_str, isi_non_tuple, isi_non_list, isi_bl_int, isi_bl_bool, isi_bl_str, isi_bl_tuple, isi_bl_list, isi_int_int, isi_int_bool, isi_int_str, isi_int_tuple, isi_int_list, isi_str_int, isi_str_bool, isi_str_str, isi_str_tuple, isi_str_list, isi_tup_int, isi_tup_bool, isi_tup_str, isi_tup_tuple, isi_tup_list, isi_frz_int, isi_frz_bool, isi_frz_str, isi_frz_tuple, isi_frz_list, len_tup, len_frz, ix0, ix1, ix2, ix3, ix4, ix5, neg_int, add_int, sub_int, add_tup, is_non, in_cdt, in_chr, ord_int, mod_int, fdiv_int, int_int, DV.sl_tup, itV_tup, itV_frz, list_tup, lit_big, Int.cast_ofNat_Int, enK_tup, aPair, cast_succ0, $xs,*])
theorem f17 (k : Nat) {d : D} {h : DH} (hd : Tyd h d) : cF (k + 1) 17 [d] h = .ok (.bl (isIntD d)) h := by
  have e := f0 k hd
  rw [step_] at e ⊢
  exact e
theorem f18 (k : Nat) {d : D} {h : DH} (hd : Tyd h d) (hs : ∀ t, d = .str t → t.length ≤ big) : cF (k + 1) 18 [d] h = .ok (.bl (isLetD d)) h := by
  have e := f2 k hd hs
  rw [step_] at e ⊢
  exact e
theorem f18a (k : Nat) {d : D} {h : DH} (a : Any h d) : cF (k + 1) 18 [d] h = .ok (.bl (isLetD d)) h := f18 k a.ty fun t e => by
  subst e
  exact Nat.le_trans a.txt (by decide)
theorem rng_no {d : D} (z : ¬ ∃ a b, d = .tup [a, b]) : isRngD d = false := by
  match d, z with
  | .tup [a, b], z => exact absurd ⟨a, b, rfl⟩ z
  | .tup [], _ => rfl
  | .tup [_], _ => rfl
  | .tup (_ :: _ :: _ :: _), _ => rfl
  | .non, _ => rfl
  | .bl _, _ => rfl
  | .int _, _ => rfl
  | .str _, _ => rfl
  | .frz _, _ => rfl
  | .ref _, _ => rfl
  | .cdt _, _ => rfl
  | .fn _, _ => rfl
  | .ty _, _ => rfl
theorem isNon_eq (d : D) : DV.isNon d = isNonD d := by cases d <;> rfl
theorem in_non {a b : D} {h : DH} (ha : isNonD a = true ∨ isIntD a = true) (hb : isNonD b = true ∨ isIntD b = true) : inB false .non (.tup [a, b]) h = .ok (.bl (isNonD a || isNonD b)) h := by
  cases a <;> simp [isNonD, isIntD] at ha <;> cases b <;> simp [isNonD, isIntD] at hb <;> simp [inB, inSq, toPy, seqO, SeqAt.shaped, PyData.canLay0, PyData.canLayAll0, PyData.depth, PyData.depthAll, PyData.eqv, negIf, isNonD]
theorem f19 (k : Nat) {d : D} {h : DH} (a : Any h d) : ∃ x, cF (k + 2) 19 [d] h = .ok (.bl (isRngD d)) (h ++ x) := by
  suffices q : Ok (cF (k + 2) 19 [d] h) fun v h' => v = .bl (isRngD d) ∧ h <+: h' by
    obtain ⟨v, h', e, rfl, x, rfl⟩ := q.eq
    exact ⟨x, e⟩
  rw [step_]
  refine (wE_run rfl).mpr ?_
  show wS (m19 (cF (k + 1)) [some d, none] h) _ _
  by_cases z : ∃ u v, d = .tup [u, v]
  · obtain ⟨u, v, rfl⟩ := z
    have au : Any h u := a.mem (by simp)
    have av : Any h v := a.mem (by simp)
    obtain ⟨kk, ww, ps, l, hk, hw⟩ := a.list
    have bad : ∀ x ∈ [u, v], aName 1 x (wipeE [some (.tup [u, v]), none] [1]) = some [some (.tup [u, v]), some x] ∧ (tAndB (dBl (DV.d2 (isB true) (dVar 1) (dCst .non))) (tNotB (dTru (dCallF (dCons (dVar 1) dNil) [] 1 (cF (k + 1) 17))))) [some (.tup [u, v]), some x] h = .ok (!isNonD x && !isIntD x) h ∧ ((!isNonD x && !isIntD x) = true → (dVar 1) [some (.tup [u, v]), some x] h = .ok x h) := by
      intro x m
      have ax : Any h x := a.mem m
      have fx := f17 k ax.ty
      refine ⟨rfl, ?_, fun _ => rfl⟩
      apply Ok.run
      simp_arith [isNon_eq, fx]
      cases isNonD x <;> simp_arith [fx]
      all_goals simp
    obtain ⟨qs, lq⟩ := l.filter fun x => !isNonD x && !isIntD x
    unfold m19
    simp_arith [Int.reduceEq]
    rw [u_lcS_pure (fun d => [some (.tup [u, v]), some d]) (fun x => !isNonD x && !isIntD x) (fun x => x) bad, List.map_id']
    refine ⟨Nat.le_trans lq.length (Nat.le_trans hw (by decide)), ?_⟩
    simp_arith []
    have lq1 := lq.kp (Kp.app (h := h) (x := [DO.lst (List.filter (fun x => !isNonD x && !isIntD x) [u, v])] ++ [DO.lst []]))
    rw [← List.append_assoc] at lq1
    have e1 : (h ++ [DO.lst (List.filter (fun x => !isNonD x && !isIntD x) [u, v])] ++ [DO.lst []])[h.length]? = some (DO.lst (List.filter (fun x => !isNonD x && !isIntD x) [u, v])) := app_get2
    have e2 := eq_ref_nil (neg := true) e1 (app_get (h := h ++ [DO.lst (List.filter (fun x => !isNonD x && !isIntD x) [u, v])])) lq1 (by omega)
    simp_arith [e2]
    have pre : h <+: h ++ [DO.lst (List.filter (fun x => !isNonD x && !isIntD x) [u, v])] ++ [DO.lst []] := by
      rw [List.append_assoc]
      exact pre_app
    by_cases hg : (isNonD u = true ∨ isIntD u = true) ∧ (isNonD v = true ∨ isIntD v = true)
    · have en : (List.filter (fun x => !isNonD x && !isIntD x) [u, v]) = [] := by
        rw [List.filter_eq_nil_iff]
        intro x m
        simp at m
        rcases m with rfl | rfl
        · rcases hg.1 with q | q <;> simp [q]
        · rcases hg.2 with q | q <;> simp [q]
      rw [en] at pre ⊢
      simp_arith [List.isEmpty_nil, in_non hg.1 hg.2]
      cases u <;> simp [isNonD, isIntD] at hg <;> cases v <;> simp [isNonD, isIntD] at hg <;> simp_arith [isNonD, Bool.or_true, Bool.or_false, Bool.true_or, OrdK.z] <;> refine ⟨?_, by simp⟩ <;> simp [isRngD, isNonD, isIntD]
    · have en : (List.filter (fun x => !isNonD x && !isIntD x) [u, v]).isEmpty = false := by
        rw [Bool.eq_false_iff]
        intro q
        rw [List.isEmpty_iff, List.filter_eq_nil_iff] at q
        have q1 := q u (by simp)
        have q2 := q v (by simp)
        apply hg
        constructor
        · cases hu : isNonD u <;> cases hi : isIntD u <;> simp [hu, hi] at q1 ⊢
        · cases hu : isNonD v <;> cases hi : isIntD v <;> simp [hu, hi] at q2 ⊢
      have er : isRngD (.tup [u, v]) = false := by
        show ((isNonD u || isIntD u) && (isNonD v || isIntD v) && _) = false
        by_cases h1 : isNonD u = true ∨ isIntD u = true
        · have h2 : ¬ (isNonD v = true ∨ isIntD v = true) := fun q => hg ⟨h1, q⟩
          have : (isNonD v || isIntD v) = false := by
            cases hu : isNonD v <;> cases hi : isIntD v <;> simp [hu, hi] at h2 ⊢
          simp [this]
        · have : (isNonD u || isIntD u) = false := by
            cases hu : isNonD u <;> cases hi : isIntD u <;> simp [hu, hi] at h1 ⊢
          simp [this]
      rw [er, en]
      simp_arith []
      exact pre
  · rw [rng_no z]
    by_cases z3 : ∃ ds, d = .tup ds
    · obtain ⟨ds, rfl⟩ := z3
      have hl : ((ds.length : Int) = 2) = False := by
        apply eq_false
        intro q
        have q : ds.length = 2 := by omega
        match ds, q with
        | [u, v], _ => exact z ⟨u, v, rfl⟩
      unfold m19
      simp_arith [hl]
      exact ⟨[], by simp⟩
    · obtain ⟨t, ht⟩ := a.ty
      have i1 := isiF_run (c := "tuple") ht (by simp)
      have n1 : isTy d "tuple" = false := by cases d <;> first | rfl | exact absurd ⟨_, rfl⟩ z3
      rw [n1] at i1
      unfold m19
      simp_arith [i1]
      exact ⟨[], by simp⟩
end K65
namespace K65
open PySem DV L2
local macro_rules | `(tactic| simp_arith [$xs,*]) => `(tactic| simp only [wE_ok, wE_exc, wE_bad, wE_bind, wE_dbind, wE_if, wE_noX, ↓wS_seq, ↓wS_nil, ↓wS_pass, ↓wS_break, ↓wS_cont, ↓wS_expr, ↓wS_ret, ↓wS_retN, ↓wS_if, wG_some, wG_none, setAll, ↓wS_asg, ↓wS_par, ↓wS_set, ↓wS_raise, ↓wS_try, ↓wS_for, wS_nx, wS_rt, forI_items, forS_nil, ↓forS_cons, ↓u_varO, uO_some, ↓u_cst, ↓u_nil, ↓u_cons, ↓u_d2, ↓u_tru, ↓u_bl, ↓u_and, ↓u_or, ↓u_tand, ↓u_tor, ↓u_tnot, ↓u_not, ↓u_neg, ↓u_ite, ↓u_tup, ↓u_lst, ↓u_call, ↓u_callF, ↓u_meth, ↓u_sl, ↓u_pNone, ↓u_pSome, ↓u_rev, ↓u_dic0, ↓u_prs0, ↓u_prs, ↓u_dic, ↓u_iVal, ↓u_iEn, ↓u_iRng1, ↓u_lc, aName_run, List.set_cons_zero, List.set_cons_succ, List.getElem?_cons_zero, List.getElem?_cons_succ, List.append_nil, List.length_cons, List.length_nil, truD_bl, truD_non, truD_int, truD_tup, blD_bl, pInt, eqB_int, eqB_str, reduceIte, Nat.reduceAdd, Nat.zero_add, Nat.reduceLeDiff, true_and, and_true, Bool.not_true, Bool.not_false, Bool.false_eq_true, Bool.true_eq_false, decide_true, decide_false, isi_non_int, isi_non_bool, isi_non_str, isi_non_tuple, isi_non_list, isi_bl_int, isi_bl_bool, isi_bl_str, isi_bl_tuple, isi_bl_list, isi_int_int, isi_int_bool, isi_int_str, isi_int_tuple, isi_int_list, isi_str_int, isi_str_bool, isi_str_str, isi_str_tuple, isi_str_list, isi_tup_int, isi_tup_bool, isi_tup_str, isi_tup_tuple, isi_tup_list, isi_frz_int, isi_frz_bool, isi_frz_str, isi_frz_tuple, isi_frz_list, len_tup, len_frz, ix0, ix1, ix2, ix3, ix4, ix5, neg_int, add_int, sub_int, add_tup, is_non, in_cdt, in_chr, ord_int, mod_int, fdiv_int, int_int, DV.sl_tup, itV_tup, itV_frz, list_tup, lit_big, Int.cast_ofNat_Int, enK_tup, aPair, cast_succ0, $xs,*])
local macro_rules | `(tactic| simp_arith! [$xs,*]) => `(tactic| simp only [wE_ok, wE_exc, wE_bad, wE_bind, wE_dbind, wE_if, wE_noX, ↓wS_seq, ↓wS_nil, ↓wS_pass, ↓wS_break, ↓wS_cont, ↓wS_expr, ↓wS_ret, ↓wS_retN, wG_some, wG_none, setAll, ↓wS_asg, ↓wS_par, ↓wS_set, ↓wS_raise, ↓wS_try, wS_nx, wS_rt, forI_items, forS_nil, ↓u_varO, uO_some, ↓u_cst, ↓u_nil, ↓u_cons, ↓u_d2, ↓u_tru, ↓u_bl, ↓u_and, ↓u_or, ↓u_tand, ↓u_tor, ↓u_tnot, ↓u_not, ↓u_neg, ↓u_ite, ↓u_tup, ↓u_lst, ↓u_call, ↓u_callF, ↓u_meth, ↓u_sl, ↓u_pNone, ↓u_pSome, ↓u_rev, ↓u_dic0, ↓u_prs0, ↓u_prs, ↓u_dic, ↓u_iVal, ↓u_iEn, ↓u_iRng1, ↓u_lc, aName_run, List.set_cons_zero, List.set_cons_succ, List.getElem?_cons_zero, List.getElem?_cons_succ, List.append_nil, List.length_cons, List.length_nil, truD_bl, truD_non, truD_int, truD_tup, blD_bl, pInt, eqB_int, eqB_str, reduceIte, Nat.reduceAdd, Nat.zero_add, Nat.reduceLeDiff, true_and, and_true, Bool.not_true, Bool.not_false, Bool.false_eq_true, Bool.true_eq_false, decide_true, decide_false, isi_non_int, isi_non_bool, isi_non_str, isi_non_tuple, isi_non_list, isi_bl_int, isi_bl_bool, isi_bl_str, isi_bl_tuple, isi_bl_list, isi_int_int, isi_int_bool, isi_int_str, isi_int_tuple, isi_int_list, isi_str_int, isi_str_bool, isi_str_str, isi_str_tuple, isi_str_list, isi_tup_int, isi_tup_bool, isi_tup_str, isi_tup_tuple, isi_tup_list, isi_frz_int, isi_frz_bool, isi_frz_str, isi_frz_tuple, isi_frz_list, len_tup, len_frz, ix0, ix1, ix2, ix3, ix4, ix5, neg_int, add_int, sub_int, add_tup, is_non, in_cdt, in_chr, ord_int, mod_int, fdiv_int, int_int, DV.sl_tup, itV_tup, itV_frz, list_tup, lit_big, Int.cast_ofNat_Int, enK_tup, aPair, cast_succ0, $xs,*])
theorem tx_is : tx "is" = [105, 115] := by decide +kernel
theorem tx_plus : tx "plus" = [112, 108, 117, 115] := by decide +kernel
theorem tx_within : tx "within" = [119, 105, 116, 104, 105, 110] := by decide +kernel
theorem tx_when : tx "when" = [119, 104, 101, 110] := by decide +kernel
theorem tp1 : (tx "plus" = tx "is") = False := by simp [tx_is, tx_plus]
theorem tp2 : (tx "within" = tx "is") = False := by simp [tx_is, tx_within]
theorem tp3 : (tx "within" = tx "plus") = False := by simp [tx_plus, tx_within]
theorem tp4 : (tx "when" = tx "is") = False := by simp [tx_is, tx_when]
theorem tp5 : (tx "when" = tx "plus") = False := by simp [tx_plus, tx_when]
theorem tp6 : (tx "when" = tx "within") = False := by simp [tx_within, tx_when]
def szs : List (D × D) := [(.str (tx "is"), .int 4), (.str (tx "plus"), .int 4), (.str (tx "within"), .int 5), (.str (tx "when"), .int 7)]
theorem szs_eq : mergeD [] szs = szs := by
  simp [mergeD, szs, putD, keq, tx_is, tx_plus, tx_within, tx_when]
theorem szs_ok : keysOk szs = true := by simp [keysOk, szs, keyD]
theorem parts_none {w : Txt} (e : partsOf w = none) : tx "is" ≠ w ∧ tx "plus" ≠ w ∧ tx "within" ≠ w ∧ tx "when" ≠ w := by
  unfold partsOf at e
  split at e
  · cases e
  · split at e
    · cases e
    · split at e
      · cases e
      · split at e
        · cases e
        · exact ⟨‹_›, ‹_›, ‹_›, ‹_›⟩
theorem parts_some {w s : Txt} (e : partsOf w = some s) : (w = tx "is" ∧ s = [110, 114]) ∨ (w = tx "plus" ∧ s = [110, 110, 99]) ∨ (w = tx "within" ∧ s = [110, 110, 114]) ∨ (w = tx "when" ∧ s = [110, 110, 114, 114]) := by
  unfold partsOf at e
  rw [tx_nr, tx_nnc, tx_nnr, tx_nnrr] at e
  split at e
  · rename_i q; exact .inl ⟨q.symm, by simpa using e.symm⟩
  · split at e
    · rename_i q; exact .inr (.inl ⟨q.symm, by simpa using e.symm⟩)
    · split at e
      · rename_i q; exact .inr (.inr (.inl ⟨q.symm, by simpa using e.symm⟩))
      · split at e
        · rename_i q; exact .inr (.inr (.inr ⟨q.symm, by simpa using e.symm⟩))
        · cases e
theorem look_none {w : Txt} (e : partsOf w = none) : lookK (.str w) szs = none := by
  obtain ⟨h1, h2, h3, h4⟩ := parts_none e
  simp [lookK, szs, keq, h1, h2, h3, h4]
theorem pn1 {d : D} : isPartD [d] [110] = isLetD d := by
  unfold isPartD
  rw [tx_r, tx_n]
  rfl
theorem pc1 {d : D} : isPartD [d] [99] = isIntD d := by
  unfold isPartD
  rw [tx_r, tx_n]
  rfl
theorem pr1 {ds : List D} : isPartD ds [114] = isRngD (.tup ds) := by
  unfold isPartD
  rw [tx_r]
  rfl
theorem step_of {w s : Txt} {r : List D} (e : partsOf w = some s) : isStepD (.tup (.str w :: r)) = (partsB s r && decide (width s = r.length)) := by
  simp only [isStepD, e]
theorem dsz : [(D.str (tx "is"), D.int 4), (D.str (tx "plus"), D.int 4), (D.str (tx "within"), D.int 5), (D.str (tx "when"), D.int 7)] = szs := rfl
theorem szs_len : (szs.length ≤ 15) = True := eq_true (by decide)
theorem f20 (k : Nat) {d : D} {h : DH} (a : Any h d) : ∃ x, cF (k + 3) 20 [d] h = .ok (.bl (isStepD d)) (h ++ x) := by
  suffices q : Ok (cF (k + 3) 20 [d] h) fun v h' => v = .bl (isStepD d) ∧ h <+: h' by
    obtain ⟨v, h', e, rfl, x, rfl⟩ := q.eq
    exact ⟨x, e⟩
  rw [step_]
  refine (wE_run rfl).mpr ?_
  show wS (m20 (cF (k + 2)) [some d, none] h) _ _
  by_cases z : ∃ w r, d = .tup (.str w :: r)
  · obtain ⟨w, r, rfl⟩ := z
    obtain ⟨kk, ww, p, t, hk, hw⟩ := a
    have a : Any h (.tup (.str w :: r)) := t.any hk hw
    have en := eq_tup_nil (neg := false) t (by omega)
    have gd : (h ++ [DO.dct szs])[h.length]? = some (DO.dct szs) := by simp
    have a1 : Any (h ++ [DO.dct szs]) (.tup (.str w :: r)) := a.kp Kp.app
    have ps : h <+: h ++ [DO.dct szs] := pre_app
    cases hp : partsOf w with
    | none =>
      unfold m20
      simp_arith [en, List.isEmpty_cons, dsz, szs_eq, szs_ok, szs_len, in_dct gd, look_none hp, Option.isSome_none, negIf]
      exact ⟨by simp [isStepD, hp], ps⟩
    | some s =>
      have lk : ∀ n, lookK (.str w) szs = some (.int n) → ixD (.ref h.length) (.str w) (h ++ [DO.dct szs]) = .ok (.int n) (h ++ [DO.dct szs]) := fun n e => ix_dct gd e
      rw [step_of hp]
      rcases parts_some hp with ⟨rfl, rfl⟩ | ⟨rfl, rfl⟩ | ⟨rfl, rfl⟩ | ⟨rfl, rfl⟩
      · have l1 : lookK (.str (tx "is")) szs = some (.int 4) := by simp [lookK, szs, keq, tx_is, tx_plus, tx_within, tx_when]
        have i1 := lk 4 l1
        by_cases hl : r.length = 3
        · match r, hl with
          | [u, v, x], _ =>
            have f1 := f18a (k + 1) (a1.mem (d := u) (by simp))
            obtain ⟨y, f2⟩ := f19 k (a1.drop 2)
            simp only [List.drop_succ_cons, List.drop_zero] at f2
            unfold m20
            cases hu : isLetD u with
            | false =>
              rw [hu] at f1
              simp_arith [en, List.isEmpty_cons, dsz, szs_eq, szs_ok, szs_len, in_dct gd, l1, Option.isSome_some, negIf, i1, tp1, tp2, tp3, tp4, tp5, tp6, f1]
              exact ⟨by simp [partsB, width, pn1, hu], ps⟩
            | true =>
              rw [hu] at f1
              simp_arith [en, List.isEmpty_cons, dsz, szs_eq, szs_ok, szs_len, in_dct gd, l1, Option.isSome_some, negIf, i1, tp1, tp2, tp3, tp4, tp5, tp6, f1, cut2n, f2]
              exact ⟨by simp [partsB, width, pn1, pr1, hu], ps.trans pre_app⟩
        · have e1 : (((r.length + 1 : Nat) : Int) = 4) = False := by apply eq_false; omega
          unfold m20
          simp_arith [en, List.isEmpty_cons, dsz, szs_eq, szs_ok, szs_len, in_dct gd, l1, Option.isSome_some, negIf, i1, e1]
          refine ⟨?_, ps⟩
          have : (3 = r.length) = False := by apply eq_false; omega
          simp [width, this]
      · have l1 : lookK (.str (tx "plus")) szs = some (.int 4) := by simp [lookK, szs, keq, tx_is, tx_plus, tx_within, tx_when]
        have i1 := lk 4 l1
        by_cases hl : r.length = 3
        · match r, hl with
          | [u, v, x], _ =>
            have f1 := f18a (k + 1) (a1.mem (d := u) (by simp))
            have f2 := f18a (k + 1) (a1.mem (d := v) (by simp))
            have f3 := f17 (k + 1) (a1.mem (d := x) (by simp)).ty
            unfold m20
            cases hu : isLetD u with
            | false =>
              rw [hu] at f1
              simp_arith [en, List.isEmpty_cons, dsz, szs_eq, szs_ok, szs_len, in_dct gd, l1, Option.isSome_some, negIf, i1, tp1, tp2, tp3, tp4, tp5, tp6, f1]
              exact ⟨by simp [partsB, width, pn1, hu], ps⟩
            | true =>
              rw [hu] at f1
              cases hv : isLetD v with
              | false =>
                rw [hv] at f2
                simp_arith [en, List.isEmpty_cons, dsz, szs_eq, szs_ok, szs_len, in_dct gd, l1, Option.isSome_some, negIf, i1, tp1, tp2, tp3, tp4, tp5, tp6, f1, f2]
                exact ⟨by simp [partsB, width, pn1, hu, hv], ps⟩
              | true =>
                rw [hv] at f2
                simp_arith [en, List.isEmpty_cons, dsz, szs_eq, szs_ok, szs_len, in_dct gd, l1, Option.isSome_some, negIf, i1, tp1, tp2, tp3, tp4, tp5, tp6, f1, f2, f3]
                exact ⟨by simp [partsB, width, pn1, pc1, hu, hv], ps⟩
        · have e1 : (((r.length + 1 : Nat) : Int) = 4) = False := by apply eq_false; omega
          unfold m20
          simp_arith [en, List.isEmpty_cons, dsz, szs_eq, szs_ok, szs_len, in_dct gd, l1, Option.isSome_some, negIf, i1, e1]
          refine ⟨?_, ps⟩
          have : (3 = r.length) = False := by apply eq_false; omega
          simp [width, this]
      · have l1 : lookK (.str (tx "within")) szs = some (.int 5) := by simp [lookK, szs, keq, tx_is, tx_plus, tx_within, tx_when]
        have i1 := lk 5 l1
        by_cases hl : r.length = 4
        · match r, hl with
          | [u, v, x, y1], _ =>
            have f1 := f18a (k + 1) (a1.mem (d := u) (by simp))
            have f2 := f18a (k + 1) (a1.mem (d := v) (by simp))
            obtain ⟨y, f3⟩ := f19 k (a1.cut 3 2)
            simp only [List.drop_succ_cons, List.drop_zero, List.take_succ_cons, List.take_zero, List.take_nil] at f3
            unfold m20
            cases hu : isLetD u with
            | false =>
              rw [hu] at f1
              simp_arith [en, List.isEmpty_cons, dsz, szs_eq, szs_ok, szs_len, in_dct gd, l1, Option.isSome_some, negIf, i1, tp1, tp2, tp3, tp4, tp5, tp6, f1]
              exact ⟨by simp [partsB, width, pn1, hu], ps⟩
            | true =>
              rw [hu] at f1
              cases hv : isLetD v with
              | false =>
                rw [hv] at f2
                simp_arith [en, List.isEmpty_cons, dsz, szs_eq, szs_ok, szs_len, in_dct gd, l1, Option.isSome_some, negIf, i1, tp1, tp2, tp3, tp4, tp5, tp6, f1, f2]
                exact ⟨by simp [partsB, width, pn1, hu, hv], ps⟩
              | true =>
                rw [hv] at f2
                cases hx : isRngD (.tup [x, y1]) with
                | false =>
                  rw [hx] at f3
                  simp_arith [en, List.isEmpty_cons, dsz, szs_eq, szs_ok, szs_len, in_dct gd, l1, Option.isSome_some, negIf, i1, tp1, tp2, tp3, tp4, tp5, tp6, f1, f2, cut35, List.take_succ_cons, List.take_zero, List.take_nil, f3]
                  exact ⟨by simp [partsB, width, pn1, pr1, hu, hv, hx], ps.trans pre_app⟩
                | true =>
                  rw [hx] at f3
                  simp_arith [en, List.isEmpty_cons, dsz, szs_eq, szs_ok, szs_len, in_dct gd, l1, Option.isSome_some, negIf, i1, tp1, tp2, tp3, tp4, tp5, tp6, f1, f2, cut35, List.take_succ_cons, List.take_zero, List.take_nil, f3]
                  exact ⟨by simp [partsB, width, pn1, pr1, hu, hv, hx], ps.trans pre_app⟩
        · have e1 : (((r.length + 1 : Nat) : Int) = 5) = False := by apply eq_false; omega
          unfold m20
          simp_arith [en, List.isEmpty_cons, dsz, szs_eq, szs_ok, szs_len, in_dct gd, l1, Option.isSome_some, negIf, i1, e1]
          refine ⟨?_, ps⟩
          have : (4 = r.length) = False := by apply eq_false; omega
          simp [width, this]
      · have l1 : lookK (.str (tx "when")) szs = some (.int 7) := by simp [lookK, szs, keq, tx_is, tx_plus, tx_within, tx_when]
        have i1 := lk 7 l1
        by_cases hl : r.length = 6
        · match r, hl with
          | [u, v, x, y1, x2, y2], _ =>
            have f1 := f18a (k + 1) (a1.mem (d := u) (by simp))
            have f2 := f18a (k + 1) (a1.mem (d := v) (by simp))
            obtain ⟨y, f3⟩ := f19 k (a1.cut 3 2)
            simp only [List.drop_succ_cons, List.drop_zero, List.take_succ_cons, List.take_zero, List.take_nil] at f3
            obtain ⟨y', f4⟩ := f19 k ((a1.drop 5).kp (Kp.app (x := y)))
            simp only [List.drop_succ_cons, List.drop_zero] at f4
            unfold m20
            cases hu : isLetD u with
            | false =>
              rw [hu] at f1
              simp_arith [en, List.isEmpty_cons, dsz, szs_eq, szs_ok, szs_len, in_dct gd, l1, Option.isSome_some, negIf, i1, tp1, tp2, tp3, tp4, tp5, tp6, f1]
              exact ⟨by simp [partsB, width, pn1, hu], ps⟩
            | true =>
              rw [hu] at f1
              cases hv : isLetD v with
              | false =>
                rw [hv] at f2
                simp_arith [en, List.isEmpty_cons, dsz, szs_eq, szs_ok, szs_len, in_dct gd, l1, Option.isSome_some, negIf, i1, tp1, tp2, tp3, tp4, tp5, tp6, f1, f2]
                exact ⟨by simp [partsB, width, pn1, hu, hv], ps⟩
              | true =>
                rw [hv] at f2
                cases hx : isRngD (.tup [x, y1]) with
                | false =>
                  rw [hx] at f3
                  simp_arith [en, List.isEmpty_cons, dsz, szs_eq, szs_ok, szs_len, in_dct gd, l1, Option.isSome_some, negIf, i1, tp1, tp2, tp3, tp4, tp5, tp6, f1, f2, cut35, List.take_succ_cons, List.take_zero, List.take_nil, f3]
                  exact ⟨by simp [partsB, width, pn1, pr1, hu, hv, hx], ps.trans pre_app⟩
                | true =>
                  rw [hx] at f3
                  simp_arith [en, List.isEmpty_cons, dsz, szs_eq, szs_ok, szs_len, in_dct gd, l1, Option.isSome_some, negIf, i1, tp1, tp2, tp3, tp4, tp5, tp6, f1, f2, cut35, cut5n, List.take_succ_cons, List.take_zero, List.take_nil, f3, f4]
                  exact ⟨by simp [partsB, width, pn1, pr1, hu, hv, hx], (ps.trans pre_app).trans pre_app⟩
        · have e1 : (((r.length + 1 : Nat) : Int) = 7) = False := by apply eq_false; omega
          unfold m20
          simp_arith [en, List.isEmpty_cons, dsz, szs_eq, szs_ok, szs_len, in_dct gd, l1, Option.isSome_some, negIf, i1, e1]
          refine ⟨?_, ps⟩
          have : (6 = r.length) = False := by apply eq_false; omega
          simp [width, this]
  · have er : isStepD d = false := by
      cases hd : isStepD d with
      | false => rfl
      | true =>
        obtain ⟨w, s, r, rfl, _⟩ := isStep_inv hd
        exact absurd ⟨w, r, rfl⟩ z
    rw [er]
    by_cases z2 : ∃ ds, d = .tup ds
    · obtain ⟨ds, rfl⟩ := z2
      obtain ⟨kk, ww, p, t, hk, hw⟩ := a
      have a : Any h (.tup ds) := t.any hk hw
      have en := eq_tup_nil (neg := false) t (by omega)
      match ds, a, en, z with
      | [], _, en, _ =>
        unfold m20
        simp_arith [en, List.isEmpty_nil]
        exact ⟨[], by simp⟩
      | b :: r, a, en, z =>
        obtain ⟨t, ta⟩ := (a.mem (d := b) (by simp)).ty
        have ia := isiF_run (c := "str") ta (by simp)
        have na : isTy b "str" = false := by
          cases b <;> first | rfl | exact absurd ⟨_, _, rfl⟩ z
        unfold m20
        simp_arith [en, List.isEmpty_cons, ia, na]
        exact ⟨[], by simp⟩
    · obtain ⟨t, ta⟩ := a.ty
      have ia := isiF_run (c := "tuple") ta (by simp)
      have na : isTy d "tuple" = false := by
        cases d <;> first | rfl | exact absurd ⟨_, rfl⟩ z2
      unfold m20
      simp_arith [ia, na]
      exact ⟨[], by simp⟩
end K65
namespace K65
open PySem DV L2
local macro_rules | `(tactic| simp_arith [$xs,*]) => `(tactic| simp only [wE_ok, wE_exc, wE_bad, wE_bind, wE_dbind, wE_if, wE_noX, ↓wS_seq, ↓wS_nil, ↓wS_pass, ↓wS_break, ↓wS_cont, ↓wS_expr, ↓wS_ret, ↓wS_retN, ↓wS_if, wG_some, wG_none, setAll, ↓wS_asg, ↓wS_par, ↓wS_set, ↓wS_raise, ↓wS_try, ↓wS_for, wS_nx, wS_rt, forI_items, forS_nil, ↓forS_cons, ↓u_varO, uO_some, ↓u_cst, ↓u_nil, ↓u_cons, ↓u_d2, ↓u_tru, ↓u_bl, ↓u_and, ↓u_or, ↓u_tand, ↓u_tor, ↓u_tnot, ↓u_not, ↓u_neg, ↓u_ite, ↓u_tup, ↓u_lst, ↓u_call, ↓u_callF, ↓u_meth, ↓u_sl, ↓u_pNone, ↓u_pSome, ↓u_rev, ↓u_dic0, ↓u_prs0, ↓u_prs, ↓u_dic, ↓u_iVal, ↓u_iEn, ↓u_iRng1, ↓u_lc, aName_run, List.set_cons_zero, List.set_cons_succ, List.getElem?_cons_zero, List.getElem?_cons_succ, List.append_nil, List.length_cons, List.length_nil, truD_bl, truD_non, truD_int, truD_tup, blD_bl, pInt, eqB_int, eqB_str, reduceIte, Nat.reduceAdd, Nat.zero_add, Nat.reduceLeDiff, true_and, and_true, Bool.not_true, Bool.not_false, Bool.false_eq_true, Bool.true_eq_false, decide_true, decide_false, isi_non_int, isi_non_bool, isi_non_str, isi_non_tuple, isi_non_list, isi_bl_int, isi_bl_bool, isi_bl_str, isi_bl_tuple, isi_bl_list, isi_int_int, isi_int_bool, isi_int_str, isi_int_tuple, isi_int_list, isi_str_int, isi_str_bool, isi_str_str, isi_str_tuple, isi_str_list, isi_tup_int, isi_tup_bool, isi_tup_str, isi_tup_tuple, isi_tup_list, isi_frz_int, isi_frz_bool, isi_frz_str, isi_frz_tuple, isi_frz_list, len_tup, len_frz, ix0, ix1, ix2, ix3, ix4, ix5, neg_int, add_int, sub_int, add_tup, is_non, in_cdt, in_chr, ord_int, mod_int, fdiv_int, int_int, DV.sl_tup, itV_tup, itV_frz, list_tup, lit_big, Int.cast_ofNat_Int, enK_tup, aPair, cast_succ0, $xs,*])
local macro_rules | `(tactic| simp_arith! [$xs,*]) => `(tactic| simp only [wE_ok, wE_exc, wE_bad, wE_bind, wE_dbind, wE_if, wE_noX, ↓wS_seq, ↓wS_nil, ↓wS_pass, ↓wS_break, ↓wS_cont, ↓wS_expr, ↓wS_ret, ↓wS_retN, wG_some, wG_none, setAll, ↓wS_asg, ↓wS_par, ↓wS_set, ↓wS_raise, ↓wS_try, wS_nx, wS_rt, forI_items, forS_nil, ↓u_varO, uO_some, ↓u_cst, ↓u_nil, ↓u_cons, ↓u_d2, ↓u_tru, ↓u_bl, ↓u_and, ↓u_or, ↓u_tand, ↓u_tor, ↓u_tnot, ↓u_not, ↓u_neg, ↓u_ite, ↓u_tup, ↓u_lst, ↓u_call, ↓u_callF, ↓u_meth, ↓u_sl, ↓u_pNone, ↓u_pSome, ↓u_rev, ↓u_dic0, ↓u_prs0, ↓u_prs, ↓u_dic, ↓u_iVal, ↓u_iEn, ↓u_iRng1, ↓u_lc, aName_run, List.set_cons_zero, List.set_cons_succ, List.getElem?_cons_zero, List.getElem?_cons_succ, List.append_nil, List.length_cons, List.length_nil, truD_bl, truD_non, truD_int, truD_tup, blD_bl, pInt, eqB_int, eqB_str, reduceIte, Nat.reduceAdd, Nat.zero_add, Nat.reduceLeDiff, true_and, and_true, Bool.not_true, Bool.not_false, Bool.false_eq_true, Bool.true_eq_false, decide_true, decide_false, isi_non_int, isi_non_bool, isi_non_str, isi_non_tuple, isi_non_list, isi_bl_int, isi_bl_bool, isi_bl_str, isi_bl_tuple, isi_bl_list, isi_int_int, isi_int_bool, isi_int_str, isi_int_tuple, isi_int_list, isi_str_int, isi_str_bool, isi_str_str, isi_str_tuple, isi_str_list, isi_tup_int, isi_tup_bool, isi_tup_str, isi_tup_tuple, isi_tup_list, isi_frz_int, isi_frz_bool, isi_frz_str, isi_frz_tuple, isi_frz_list, len_tup, len_frz, ix0, ix1, ix2, ix3, ix4, ix5, neg_int, add_int, sub_int, add_tup, is_non, in_cdt, in_chr, ord_int, mod_int, fdiv_int, int_int, DV.sl_tup, itV_tup, itV_frz, list_tup, lit_big, Int.cast_ofNat_Int, enK_tup, aPair, cast_succ0, $xs,*])
def faultV (d : D) : D := match faultD d with
  | none => .non
  | some (w, i) => .tup [.str w, .int i]
theorem chars_mem {t : Txt} {d : D} (m : d ∈ chars t) : ∃ c, c ∈ t ∧ d = .str [c] := by simpa [chars, eq_comm] using m
theorem mem_chars {t : Txt} {c : Nat} (m : c ∈ t) : D.str [c] ∈ chars t := by simpa [chars] using m
def outD (ns : Txt) : D → Bool
  | .str [c] => !decide (c ∈ ns)
  | _ => false
theorem f21 (k : Nat) {d : D} {h : DH} (a : Any h d) : Ok (cF (k + 4) 21 [d] h) fun v h' => v = faultV d ∧ h <+: h' := by
  rw [step_]
  refine (wE_run rfl).mpr ?_
  show wS (m21 (cF (k + 3)) [some d, none, none, none, none, none] h) _ _
  by_cases z : pairsN d
  · obtain ⟨ns, ds, rfl⟩ := z
    have an : Any h (.str ns) := a.mem (by simp)
    have as : Any h (.tup ds) := a.mem (by simp)
    have nl : ns.length ≤ big := Nat.le_trans an.txt (by decide)
    obtain ⟨ps, cl⟩ := chars_th (h := h) an.chr
    have cl : ThL h 0 2000 (chars ns) ps := cl.up (Nat.le_refl _) (by have := an.txt; omega)
    obtain ⟨qs, cq⟩ := cl.filter fun x => !isLetD x
    have bad : ∀ x ∈ chars ns, aName 5 x (wipeE [some (.tup [.str ns, .tup ds]), some (.str ns), some (.tup ds), none, none, none] [5]) = some [some (.tup [.str ns, .tup ds]), some (.str ns), some (.tup ds), none, none, some x] ∧ (tNotB (dTru (dCallF (dCons (dVar 5) dNil) [] 1 (cF (k + 3) 18)))) [some (.tup [.str ns, .tup ds]), some (.str ns), some (.tup ds), none, none, some x] h = .ok (!isLetD x) h ∧ ((!isLetD x) = true → (dVar 5) [some (.tup [.str ns, .tup ds]), some (.str ns), some (.tup ds), none, none, some x] h = .ok x h) := by
      intro x m
      obtain ⟨c, mc, rfl⟩ := chars_mem m
      have ac : Any h (.str [c]) := by
        obtain ⟨p, t⟩ := cl.mem m
        exact t.any (by omega) (by omega)
      have fx := f18a (k + 2) ac
      refine ⟨rfl, ?_, fun _ => rfl⟩
      apply Ok.run
      simp_arith [fx]
    have ef : faultD (.tup [.str ns, .tup ds]) = if isNamesD (.str ns) = true then stepsF ns 0 ds else some (tx "names", -1) := fault_pair
    unfold m21
    simp_arith [Int.reduceEq, itV_str nl]
    rw [u_lcS_pure (fun d => [some (.tup [.str ns, .tup ds]), some (.str ns), some (.tup ds), none, none, some d]) (fun x => !isLetD x) (fun x => x) bad, List.map_id']
    refine ⟨Nat.le_trans cq.length (by decide), ?_⟩
    have e1 : (h ++ [DO.lst (List.filter (fun x => !isLetD x) (chars ns))] ++ [DO.lst []])[h.length]? = some (DO.lst (List.filter (fun x => !isLetD x) (chars ns))) := app_get2
    have lq1 := cq.kp (Kp.app (h := h) (x := [DO.lst (List.filter (fun x => !isLetD x) (chars ns))] ++ [DO.lst []]))
    rw [← List.append_assoc] at lq1
    have e2 := eq_ref_nil (neg := true) e1 (app_get (h := h ++ [DO.lst (List.filter (fun x => !isLetD x) (chars ns))])) lq1 (by omega)
    simp_arith [e2]
    generalize hh : h ++ [DO.lst (List.filter (fun x => !isLetD x) (chars ns))] ++ [DO.lst []] = H
    have pH : h <+: H := by
      rw [← hh, List.append_assoc]
      exact pre_app
    have hall : (List.filter (fun x => !isLetD x) (chars ns)).isEmpty = isLetsD (.str ns) := by
      rw [Bool.eq_iff_iff, List.isEmpty_iff, List.filter_eq_nil_iff]
      simp only [isLetsD, List.all_eq_true, Bool.not_eq_true', Bool.not_eq_false]
      constructor
      · intro q c m
        have := q _ (mem_chars m)
        simpa [isLetD] using this
      · intro q x m
        obtain ⟨c, mc, rfl⟩ := chars_mem m
        simpa [isLetD] using q c mc
    rw [hall]
    have fnames : isNamesD (.str ns) = false → ∀ h', h <+: h' → (D.tup [.str (tx "names"), .int (-1)] = faultV (.tup [.str ns, .tup ds]) ∧ h <+: h') := by
      intro q h' p
      rw [q] at ef
      unfold faultV
      rw [ef]
      exact ⟨rfl, p⟩
    cases hl : isLetsD (.str ns) with
    | false =>
      have : isNamesD (.str ns) = false := by simp [isNamesD, hl]
      simp_arith []
      exact fnames this H pH
    | true =>
      have ck : (chars ns).all isKey = true := chars_key ns
      have cl2 : (chars ns).length < 4095 := by
        have := an.txt
        have : (chars ns).length = ns.length := by simp [chars]
        omega
      have dl : (dedupD (chars ns)).length < big := by
        have z1 := dedup_le (chars ns) []
        have z2 : (dedupD (chars ns)).length ≤ (chars ns).length := by simpa [dedupD] using z1
        exact Nat.lt_of_le_of_lt z2 (Nat.lt_trans cl2 (by decide))
      have sr := set_ref (h := H ++ [DO.lst (chars ns)]) (n := H.length) app_get ck cl2
      have ls := len_set (h := H ++ [DO.lst (chars ns)] ++ [DO.set (dedupD (chars ns))]) (n := (H ++ [DO.lst (chars ns)]).length) app_getS dl
      simp_arith [list_str nl, sr, ls, len_str nl]
      generalize hH2 : H ++ [DO.lst (chars ns)] ++ [DO.set (dedupD (chars ns))] = H2
      have pH2 : h <+: H2 := by
        rw [← hH2, List.append_assoc]
        exact pH.trans pre_app
      have hn : isNamesD (.str ns) = decide ((dedupD (chars ns)).length = ns.length) := by simp [isNamesD, hl]
      have hn2 : decide (((dedupD (chars ns)).length : Int) = (ns.length : Int)) = isNamesD (.str ns) := by
        rw [hn]
        apply decide_eq_decide.mpr
        omega
      rw [hn2]
      cases hN : isNamesD (.str ns) with
      | false =>
        simp_arith []
        exact fnames hN H2 pH2
      | true =>
        simp_arith []
        rw [hN, if_pos rfl] at ef
        refine wS_forS (fun i env h' => (∃ x y, env = [some (.tup [.str ns, .tup ds]), some (.str ns), some (.tup ds), x, y, none]) ∧ h <+: h' ∧ faultD (.tup [.str ns, .tup ds]) = stepsF ns i (ds.drop i)) ⟨⟨_, _, rfl⟩, pH2, by rw [ef, List.drop_zero]⟩ ?_ ?_
        · rintro i q env h' hq ⟨⟨x, y, rfl⟩, pre, ff⟩
          obtain ⟨e, he, rfl⟩ := enum_get hq
          have lt : i < ds.length := (List.getElem?_eq_some_iff.mp he).1
          have dr : ds.drop i = e :: ds.drop (i + 1) := by
            rw [List.drop_eq_getElem_cons lt, (List.getElem?_eq_some_iff.mp he).2]
          have ae : Any h' e := (as.mem (List.mem_of_getElem? he)).kp (Kp.of_pre pre)
          obtain ⟨x7, e7⟩ := f20 k ae
          rw [dr, stepsF] at ff
          refine ⟨_, aPair, ?_⟩
          cases hs : isStepD e with
          | false =>
            rw [hs] at e7 ff
            simp_arith [e7]
            unfold faultV
            rw [ff]
            exact ⟨rfl, pre.trans pre_app⟩
          | true =>
            rw [hs, if_pos rfl] at ff
            rw [hs] at e7
            obtain ⟨w, ls', r, rfl, hll, hlet, hno⟩ := step_inv hs
            rw [names_ls hll] at ff
            have ae2 : Any (h' ++ x7) (.tup (chars ls' ++ r)) := (ae.drop 1).kp Kp.app
            obtain ⟨kk, ww, ps', l, hk, hw⟩ := ae2.list
            obtain ⟨qs', lq⟩ := l.filter (outD ns)
            simp_arith [e7, cut1]
            have bad2 : ∀ u ∈ chars ls' ++ r, aName 5 u (wipeE [some (.tup [.str ns, .tup ds]), some (.str ns), some (.tup ds), some (.int (i : Nat)), some (.tup (.str w :: (chars ls' ++ r))), none] [5]) = some [some (.tup [.str ns, .tup ds]), some (.str ns), some (.tup ds), some (.int (i : Nat)), some (.tup (.str w :: (chars ls' ++ r))), some u] ∧ (tAndB (dTru (dCall (dCons (dVar 5) (dCons (dCst (.ty "str")) dNil)) isiF)) (dBl (DV.d2 (inB true) (dVar 5) (dVar 1)))) [some (.tup [.str ns, .tup ds]), some (.str ns), some (.tup ds), some (.int (i : Nat)), some (.tup (.str w :: (chars ls' ++ r))), some u] (h' ++ x7) = .ok (outD ns u) (h' ++ x7) ∧ ((outD ns u) = true → (dVar 5) [some (.tup [.str ns, .tup ds]), some (.str ns), some (.tup ds), some (.int (i : Nat)), some (.tup (.str w :: (chars ls' ++ r))), some u] (h' ++ x7) = .ok u (h' ++ x7)) := by
              intro u m
              refine ⟨rfl, ?_, fun _ => rfl⟩
              apply Ok.run
              rcases List.mem_append.mp m with m | m
              · obtain ⟨c, mc, rfl⟩ := chars_mem m
                simp_arith [negIf, outD]
              · have := hno u m
                cases u <;> simp [noStr] at this <;> simp_arith [outD]
            rw [u_lcS_pure (fun u => [some (.tup [.str ns, .tup ds]), some (.str ns), some (.tup ds), some (.int (i : Nat)), some (.tup (.str w :: (chars ls' ++ r))), some u]) (outD ns) (fun x => x) bad2, List.map_id']
            refine ⟨Nat.le_trans lq.length (Nat.le_trans hw (by decide)), ?_⟩
            have e1 : (h' ++ x7 ++ [DO.lst (List.filter (outD ns) (chars ls' ++ r))] ++ [DO.lst []])[(h' ++ x7).length]? = some (DO.lst (List.filter (outD ns) (chars ls' ++ r))) := app_get2
            have lq1 := lq.kp (Kp.app (h := h' ++ x7) (x := [DO.lst (List.filter (outD ns) (chars ls' ++ r))] ++ [DO.lst []]))
            rw [← List.append_assoc] at lq1
            have e2 := eq_ref_nil (neg := true) e1 (app_get (h := h' ++ x7 ++ [DO.lst (List.filter (outD ns) (chars ls' ++ r))])) lq1 (by omega)
            have hal : (List.filter (outD ns) (chars ls' ++ r)).isEmpty = (ls'.all fun c => decide (c ∈ ns)) := by
              rw [Bool.eq_iff_iff, List.isEmpty_iff, List.filter_eq_nil_iff, List.all_eq_true]
              constructor
              · intro q c m
                have := q _ (List.mem_append_left _ (mem_chars m))
                simpa [outD] using this
              · intro q x m
                rcases List.mem_append.mp m with m | m
                · obtain ⟨c, mc, rfl⟩ := chars_mem m
                  have := q c mc
                  simpa [outD] using this
                · have := hno x m
                  cases x <;> simp [noStr] at this <;> simp [outD]
            have pl : h <+: h' ++ x7 ++ [DO.lst (List.filter (outD ns) (chars ls' ++ r))] ++ [DO.lst []] := by
              rw [List.append_assoc, List.append_assoc]
              exact pre.trans pre_app
            simp_arith [e2, hal]
            cases ha : (ls'.all fun c => decide (c ∈ ns)) with
            | false =>
              rw [ha, if_neg (by decide)] at ff
              simp_arith []
              unfold faultV
              rw [ff]
              exact ⟨rfl, pl⟩
            | true =>
              rw [ha, if_pos rfl] at ff
              simp_arith []
              exact ⟨⟨_, _, rfl⟩, pl, ff⟩
        · rintro env h' ⟨⟨x, y, rfl⟩, pre, ff⟩
          simp_arith []
          refine ⟨?_, pre⟩
          unfold faultV
          rw [ff, enum_len, List.drop_length]
          rfl
  · have fs := fault_shape z
    have fin : ∀ h', h <+: h' → (D.tup [.str (tx "shape"), .int (-1)] = faultV d ∧ h <+: h') := fun h' p => by
      unfold faultV
      rw [fs]
      exact ⟨rfl, p⟩
    by_cases z2 : ∃ u v, d = .tup [u, v]
    · obtain ⟨u, v, rfl⟩ := z2
      have au : Any h u := a.mem (by simp)
      have av : Any h v := a.mem (by simp)
      obtain ⟨tu, hu⟩ := au.ty
      obtain ⟨tv, hv⟩ := av.ty
      have iu := isiF_run (c := "str") hu (by simp)
      have iv := isiF_run (c := "tuple") hv (by simp)
      cases hs : isTy u "str" with
      | false =>
        rw [hs] at iu
        unfold m21
        simp_arith [Int.reduceEq, iu]
        exact fin h ⟨[], by simp⟩
      | true =>
        rw [hs] at iu
        have ns : isTy v "tuple" = false := by
          obtain ⟨s, rfl⟩ : ∃ s, u = .str s := by cases u <;> first | exact ⟨_, rfl⟩ | simp [isTy] at hs
          cases v <;> first | rfl | exact absurd ⟨_, _, rfl⟩ z
        rw [ns] at iv
        unfold m21
        simp_arith [Int.reduceEq, iu, iv]
        exact fin h ⟨[], by simp⟩
    · by_cases z3 : ∃ ds, d = .tup ds
      · obtain ⟨ds, rfl⟩ := z3
        have hl : ((ds.length : Int) = 2) = False := by
          apply eq_false
          intro q
          have q : ds.length = 2 := by omega
          match ds, q with
          | [u, v], _ => exact z2 ⟨u, v, rfl⟩
        unfold m21
        simp_arith [hl]
        exact fin h ⟨[], by simp⟩
      · obtain ⟨t, ht⟩ := a.ty
        have i1 := isiF_run (c := "tuple") ht (by simp)
        have n1 : isTy d "tuple" = false := by cases d <;> first | rfl | exact absurd ⟨_, rfl⟩ z3
        rw [n1] at i1
        unfold m21
        simp_arith [i1]
        exact fin h ⟨[], by simp⟩
end K65
namespace K65
open PySem DV L2
local macro_rules | `(tactic| simp_arith [$xs,*]) => `(tactic| simp only [wE_ok, wE_exc, wE_bad, wE_bind, wE_dbind, wE_if, wE_noX, ↓wS_seq, ↓wS_nil, ↓wS_pass, ↓wS_break, ↓wS_cont, ↓wS_expr, ↓wS_ret, ↓wS_retN, ↓wS_if, wG_some, wG_none, setAll, ↓wS_asg, ↓wS_par, ↓wS_set, ↓wS_raise, ↓wS_try, ↓wS_for, wS_nx, wS_rt, forI_items, forS_nil, ↓forS_cons, ↓u_varO, uO_some, ↓u_cst, ↓u_nil, ↓u_cons, ↓u_d2, ↓u_tru, ↓u_bl, ↓u_and, ↓u_or, ↓u_tand, ↓u_tor, ↓u_tnot, ↓u_not, ↓u_neg, ↓u_ite, ↓u_tup, ↓u_lst, ↓u_call, ↓u_callF, ↓u_meth, ↓u_sl, ↓u_pNone, ↓u_pSome, ↓u_rev, ↓u_dic0, ↓u_prs0, ↓u_prs, ↓u_dic, ↓u_iVal, ↓u_iEn, ↓u_iRng1, ↓u_lc, aName_run, List.set_cons_zero, List.set_cons_succ, List.getElem?_cons_zero, List.getElem?_cons_succ, List.append_nil, List.length_cons, List.length_nil, truD_bl, truD_non, truD_int, truD_tup, blD_bl, pInt, eqB_int, eqB_str, reduceIte, Nat.reduceAdd, Nat.zero_add, Nat.reduceLeDiff, true_and, and_true, Bool.not_true, Bool.not_false, Bool.false_eq_true, Bool.true_eq_false, decide_true, decide_false, isi_non_int, isi_non_bool, isi_non_str, isi_non_tuple, isi_non_list, isi_bl_int, isi_bl_bool, isi_bl_str, isi_bl_tuple, isi_bl_list, isi_int_int, isi_int_bool, isi_int_str, isi_int_tuple, isi_int_list, isi_str_int, isi_str_bool, isi_str_str, isi_str_tuple, isi_str_list, isi_tup_int, isi_tup_bool, isi_tup_str, isi_tup_tuple, isi_tup_list, isi_frz_int, isi_frz_bool, isi_frz_str, isi_frz_tuple, isi_frz_list, len_tup, len_frz, ix0, ix1, ix2, ix3, ix4, ix5, neg_int, add_int, sub_int, add_tup, is_non, in_cdt, in_chr, ord_int, mod_int, fdiv_int, int_int, DV.sl_tup, itV_tup, itV_frz, list_tup, lit_big, Int.cast_ofNat_Int, enK_tup, aPair, cast_succ0, $xs,*])
local macro_rules | `(tactic| simp_arith! [$xs,*]) => `(tactic| simp only [wE_ok, wE_exc, wE_bad, wE_bind, wE_dbind, wE_if, wE_noX, ↓wS_seq, ↓wS_nil, ↓wS_pass, ↓wS_break, ↓wS_cont, ↓wS_expr, ↓wS_ret, ↓wS_retN, wG_some, wG_none, setAll, ↓wS_asg, ↓wS_par, ↓wS_set, ↓wS_raise, ↓wS_try, wS_nx, wS_rt, forI_items, forS_nil, ↓u_varO, uO_some, ↓u_cst, ↓u_nil, ↓u_cons, ↓u_d2, ↓u_tru, ↓u_bl, ↓u_and, ↓u_or, ↓u_tand, ↓u_tor, ↓u_tnot, ↓u_not, ↓u_neg, ↓u_ite, ↓u_tup, ↓u_lst, ↓u_call, ↓u_callF, ↓u_meth, ↓u_sl, ↓u_pNone, ↓u_pSome, ↓u_rev, ↓u_dic0, ↓u_prs0, ↓u_prs, ↓u_dic, ↓u_iVal, ↓u_iEn, ↓u_iRng1, ↓u_lc, aName_run, List.set_cons_zero, List.set_cons_succ, List.getElem?_cons_zero, List.getElem?_cons_succ, List.append_nil, List.length_cons, List.length_nil, truD_bl, truD_non, truD_int, truD_tup, blD_bl, pInt, eqB_int, eqB_str, reduceIte, Nat.reduceAdd, Nat.zero_add, Nat.reduceLeDiff, true_and, and_true, Bool.not_true, Bool.not_false, Bool.false_eq_true, Bool.true_eq_false, decide_true, decide_false, isi_non_int, isi_non_bool, isi_non_str, isi_non_tuple, isi_non_list, isi_bl_int, isi_bl_bool, isi_bl_str, isi_bl_tuple, isi_bl_list, isi_int_int, isi_int_bool, isi_int_str, isi_int_tuple, isi_int_list, isi_str_int, isi_str_bool, isi_str_str, isi_str_tuple, isi_str_list, isi_tup_int, isi_tup_bool, isi_tup_str, isi_tup_tuple, isi_tup_list, isi_frz_int, isi_frz_bool, isi_frz_str, isi_frz_tuple, isi_frz_list, len_tup, len_frz, ix0, ix1, ix2, ix3, ix4, ix5, neg_int, add_int, sub_int, add_tup, is_non, in_cdt, in_chr, ord_int, mod_int, fdiv_int, int_int, DV.sl_tup, itV_tup, itV_frz, list_tup, lit_big, Int.cast_ofNat_Int, enK_tup, aPair, cast_succ0, $xs,*])
def toldV (d : D) : D := match faultD d with
  | none => .tup [.str (tx "told"), .int (lenD d)]
  | some (w, i) => .tup [.str (tx "paper"), .str w, .int i]
theorem f23 (k : Nat) {d : D} {h : DH} (a : Any h d) : Ok (cF (k + 7) 23 [d] h) fun v h' => v = toldV d ∧ h <+: h' := by
  rw [step_]
  refine (wE_run rfl).mpr ?_
  show wS (m23 (cF (k + 6)) [some d, none] h) _ _
  unfold m23
  simp_arith []
  refine wE_mono (f10 k a) ?_ ?_
  · rintro v h' ⟨hf, rfl, p⟩
    simp_arith []
    unfold toldV
    rw [hf]
    exact ⟨rfl, p⟩
  · rintro c as h' ⟨rfl, w, i, hf, rfl, p⟩
    refine ⟨by decide, ?_⟩
    rw [if_pos rfl]
    refine ⟨_, rfl, by simp [big], rfl, by simp, ?_, p⟩
    unfold toldV
    rw [hf]
    rfl
/-- where the numbers come from -/
def srcD (s r c : Int) : DO := .dct [(.str (tx "cells"), .ref 1), (.str (tx "spot"), .int s), (.str (tx "rest"), .int r), (.str (tx "count"), .int c)]
def Src (h : DH) : Prop := ∃ (cells : List Int) (s r c : Int), h[1]? = some (.lst (cells.map .int)) ∧ h[2]? = some (srcD s r c)
theorem tx_cells : tx "cells" = [99, 101, 108, 108, 115] := by decide +kernel
theorem tx_spot : tx "spot" = [115, 112, 111, 116] := by decide +kernel
theorem tx_rest : tx "rest" = [114, 101, 115, 116] := by decide +kernel
theorem tx_count : tx "count" = [99, 111, 117, 110, 116] := by decide +kernel
section
variable {h : DH} {s r c v : Int}
theorem ix_cells (e : h[2]? = some (srcD s r c)) : ixD (.ref 2) (.str (tx "cells")) h = .ok (.ref 1) h := ix_dct e (by simp [lookK, keq])
theorem ix_spot (e : h[2]? = some (srcD s r c)) : ixD (.ref 2) (.str (tx "spot")) h = .ok (.int s) h := ix_dct e (by simp [lookK, keq, tx_cells, tx_spot])
theorem ix_rest (e : h[2]? = some (srcD s r c)) : ixD (.ref 2) (.str (tx "rest")) h = .ok (.int r) h := ix_dct e (by simp [lookK, keq, tx_cells, tx_spot, tx_rest])
theorem ix_count (e : h[2]? = some (srcD s r c)) : ixD (.ref 2) (.str (tx "count")) h = .ok (.int c) h := ix_dct e (by simp [lookK, keq, tx_cells, tx_spot, tx_rest, tx_count])
theorem set_spot (e : h[2]? = some (srcD s r c)) : setD (.ref 2) (.str (tx "spot")) (.int v) h = .ok () (h.set 2 (srcD v r c)) := by
  rw [set_dct e (by simp [big])]
  simp [putD, keq, tx_cells, tx_spot, srcD]
theorem set_rest (e : h[2]? = some (srcD s r c)) : setD (.ref 2) (.str (tx "rest")) (.int v) h = .ok () (h.set 2 (srcD s v c)) := by
  rw [set_dct e (by simp [big])]
  simp [putD, keq, tx_cells, tx_spot, tx_rest, srcD]
theorem set_count (e : h[2]? = some (srcD s r c)) : setD (.ref 2) (.str (tx "count")) (.int v) h = .ok () (h.set 2 (srcD s r v)) := by
  rw [set_dct e (by simp [big])]
  simp [putD, keq, tx_cells, tx_spot, tx_rest, tx_count, srcD]
/-- writing the source leaves the lists -/
theorem src_set {s' r' c' : Int} (e : h[2]? = some (srcD s r c)) : Kp h (h.set 2 (srcD s' r' c')) ∧ (h.set 2 (srcD s' r' c'))[2]? = some (srcD s' r' c') ∧ (h.set 2 (srcD s' r' c'))[1]? = h[1]? :=
  ⟨Kp.refl.set (by intro ds q; rw [e] at q; cases q), get_set (by rw [e]; rfl), List.getElem?_set_ne (by decide)⟩
end
theorem f12 (k : Nat) {many : Int} {h : DH} (src : Src h) (m0 : 0 < many) (m1 : many < 1073741824) : Ok (cF (k + 1) 12 [.ref 2, .int many] h) fun v h' => ∃ j : Nat, v = .int (j : Nat) ∧ (j : Int) < many ∧ Src h' ∧ Kp h h' := by
  obtain ⟨cells, s, r, c, hc, hs⟩ := src
  rw [step_]
  refine (wE_run rfl).mpr ?_
  show wS (m12 (cF k) [some (.ref 2), some (.int many), none, none, none, none, none] h) _ _
  unfold m12
  have res : ∀ x : Int, ∃ j : Nat, D.int (x % many) = .int (j : Nat) ∧ (j : Int) < many := fun x => by
    have h1 := Int.emod_nonneg x (show many ≠ 0 by omega)
    have h2 := Int.emod_lt_of_pos x m0
    exact ⟨(x % many).toNat, by rw [Int.toNat_of_nonneg h1], by rw [Int.toNat_of_nonneg h1]; exact h2⟩
  simp_arith [ix_count hs, set_count hs]
  obtain ⟨k1, s1, c1⟩ := src_set (s' := s) (r' := r) (c' := c + 1) hs
  rw [hc] at c1
  generalize hh1 : h.set 2 (srcD s r (c + 1)) = h1 at k1 s1 c1
  simp_arith [ix_rest s1, OrdK.z]
  by_cases hr : 0 < r
  · simp_arith [hr, ix_rest s1, mod_int m0, fdiv_int ⟨m0, m1⟩, set_rest s1]
    obtain ⟨k2, s2, c2⟩ := src_set (s' := s) (r' := r / many) (c' := c + 1) s1
    rw [c1] at c2
    obtain ⟨j, e1, e2⟩ := res r
    exact ⟨j, e1, e2, ⟨_, _, _, _, c2, s2⟩, k1.trans k2⟩
  · obtain ⟨k2, s2, c2⟩ := src_set (s' := s + 1) (r' := r) (c' := c + 1) s1
    rw [c1] at c2
    have gz := fun (z : Bool) => eq_ints_nil (neg := true) (n := 1) (m := (h1.set 2 (srcD (s + 1) r (c + 1))).length) (app_l (x := [DO.lst []]) c2) app_get
    simp_arith [hr, ix_cells s1, ix_spot s1, set_spot s1, gz true, Bool.not_eq_true']
    generalize hh2 : h1.set 2 (srcD (s + 1) r (c + 1)) ++ [DO.lst []] = h2
    have s3 : h2[2]? = some (srcD (s + 1) r (c + 1)) := by rw [← hh2]; exact app_l s2
    have c3 : h2[1]? = some (DO.lst (cells.map D.int)) := by rw [← hh2]; exact app_l c2
    have k3 : Kp h h2 := by rw [← hh2]; exact (k1.trans k2).trans Kp.app
    have hcell : ∃ cell : Int, ((!cells.isEmpty) = true → ixD (.ref 1) (.int (s % (cells.length : Nat))) h2 = .ok (.int cell) h2) ∧ ((!cells.isEmpty) = true → (0 : Int) < (cells.length : Nat)) := by
      cases cells with
      | nil => exact ⟨0, by simp, by simp⟩
      | cons a l =>
        have l0 : (0 : Int) < ((a :: l).length : Nat) := by rw [List.length_cons]; omega
        have h1' := Int.emod_nonneg s (show (((a :: l).length : Nat) : Int) ≠ 0 by omega)
        have h2' := Int.emod_lt_of_pos s l0
        obtain ⟨j, hj⟩ : ∃ j : Nat, s % (((a :: l).length : Nat) : Int) = (j : Int) := ⟨_, (Int.toNat_of_nonneg h1').symm⟩
        have lt : j < (a :: l).length := by omega
        refine ⟨(a :: l)[j], fun _ => ?_, fun _ => l0⟩
        rw [hj]
        exact ix_ref c3 (by rw [List.getElem?_map, List.getElem?_eq_getElem lt]; rfl)
    obtain ⟨cell, g1, g2⟩ := hcell
    have pw := fun i j (e : 0 ≤ j ∧ j ≤ 1000000 ∧ i.natAbs < 2 ^ 64) h => pow_int (i := i) (j := j) (h := h) e
    have p10 : powD (.int 10) (.int 18) h2 = .ok (.int 1000000000000000000) h2 := pw 10 18 (by decide) h2
    have p3 : ∀ (i : Int) (h : DH), i.natAbs < 2 ^ 64 → powD (.int i) (.int 3) h = .ok (.int (i ^ 3)) h := fun i h e => pw i 3 ⟨by decide, by decide, e⟩ h
    have ml : ∀ (i j : Int) (h : DH), i.natAbs < 2 ^ 64 → mulD (.int i) (.int j) h = .ok (.int (i * j)) h := fun i j h e => mul_l e
    have ln := len_ref c3
    rw [List.length_map] at ln
    cases he : cells.isEmpty
    case' true =>
      simp_arith []
      generalize (6007 : Int) = cell
    case' false =>
      rw [he] at g1 g2
      simp_arith [ln, mod_int (g2 rfl), g1 rfl]
    all_goals
      simp_arith [p10, OrdK.z, ln]
      by_cases q : 1000000000000000000 ≤ cell ∧ s < (cells.length : Nat)
      · simp_arith [q,  fdiv_int ⟨m0, m1⟩, mod_int m0, set_rest s3]
        obtain ⟨k4, s4, c4⟩ := src_set (s' := s + 1) (r' := cell / many) (c' := c + 1) s3
        rw [c3] at c4
        obtain ⟨j, e1, e2⟩ := res cell
        exact ⟨j, e1, e2, ⟨_, _, _, _, c4, s4⟩, k3.trans k4⟩
      · have qq : ∀ A B : Prop, (if decide (1000000000000000000 ≤ cell) = true then (if decide (s < (cells.length : Nat)) = true then A else B) else B) = B := by
          intro A B
          by_cases q1 : 1000000000000000000 ≤ cell
          · have q2 : ¬ s < (cells.length : Nat) := fun z => q ⟨q1, z⟩
            simp [q1, q2]
          · simp [q1]
        rw [qq]
        simp_arith [mod_int (show (0 : Int) < 998244353 by decide), mod_int (show (0 : Int) < 2147483629 by decide), ix_count s3, ml 90001 _ _ (by decide)]
        generalize hv : (cell % 998244353 + 90001 * (c + 1) + 31) % 2147483629 = v1
        have b1 : v1.natAbs < 2 ^ 64 := by omega
        simp_arith [p3 v1 _ b1, mod_int (show (0 : Int) < 2147483587 by decide), ix_count s3, ml 6700417 _ _ (by decide)]
        generalize hw : (v1 ^ 3 + 6700417 * (c + 1) + 97) % 2147483587 = v2
        have b2 : v2.natAbs < 2 ^ 64 := by omega
        simp_arith [p3 v2 _ b2, mod_int (show (0 : Int) < 2147483579 by decide), ml 521 _ _ (by decide)]
        generalize hx : (v2 ^ 3 + 521 * v2) % 2147483579 = v3
        simp_arith [fdiv_int (show (0 : Int) < 64 ∧ (64 : Int) < 1073741824 by decide), mod_int m0]
        obtain ⟨j, e1, e2⟩ := res (v3 / 64)
        exact ⟨j, e1, e2, ⟨_, _, _, _, c3, s3⟩, k3⟩
end K65
namespace K65
open PySem DV L2
local macro_rules | `(tactic| simp_arith [$xs,*]) => `(tactic| simp only [wE_ok, wE_exc, wE_bad, wE_bind, wE_dbind, wE_if, wE_noX, ↓wS_seq, ↓wS_nil, ↓wS_pass, ↓wS_break, ↓wS_cont, ↓wS_expr, ↓wS_ret, ↓wS_retN, ↓wS_if, wG_some, wG_none, setAll, ↓wS_asg, ↓wS_par, ↓wS_set, ↓wS_raise, ↓wS_try, ↓wS_for, wS_nx, wS_rt, forI_items, forS_nil, ↓forS_cons, ↓u_varO, uO_some, ↓u_cst, ↓u_nil, ↓u_cons, ↓u_d2, ↓u_tru, ↓u_bl, ↓u_and, ↓u_or, ↓u_tand, ↓u_tor, ↓u_tnot, ↓u_not, ↓u_neg, ↓u_ite, ↓u_tup, ↓u_lst, ↓u_call, ↓u_callF, ↓u_meth, ↓u_sl, ↓u_pNone, ↓u_pSome, ↓u_rev, ↓u_dic0, ↓u_prs0, ↓u_prs, ↓u_dic, ↓u_iVal, ↓u_iEn, ↓u_iRng1, ↓u_lc, aName_run, List.set_cons_zero, List.set_cons_succ, List.getElem?_cons_zero, List.getElem?_cons_succ, List.append_nil, List.length_cons, List.length_nil, truD_bl, truD_non, truD_int, truD_tup, blD_bl, pInt, eqB_int, eqB_str, reduceIte, Nat.reduceAdd, Nat.zero_add, Nat.reduceLeDiff, true_and, and_true, Bool.not_true, Bool.not_false, Bool.false_eq_true, Bool.true_eq_false, decide_true, decide_false, isi_non_int, isi_non_bool, isi_non_str, isi_non_tuple, isi_non_list, isi_bl_int, isi_bl_bool, isi_bl_str, isi_bl_tuple, isi_bl_list, isi_int_int, isi_int_bool, isi_int_str, isi_int_tuple, isi_int_list, isi_str_int, isi_str_bool, isi_str_str, isi_str_tuple, isi_str_list, isi_tup_int, isi_tup_bool, isi_tup_str, isi_tup_tuple, isi_tup_list, isi_frz_int, isi_frz_bool, isi_frz_str, isi_frz_tuple, isi_frz_list, len_tup, len_frz, ix0, ix1, ix2, ix3, ix4, ix5, neg_int, add_int, sub_int, add_tup, is_non, in_cdt, in_chr, ord_int, mod_int, fdiv_int, int_int, DV.sl_tup, itV_tup, itV_frz, list_tup, lit_big, Int.cast_ofNat_Int, enK_tup, aPair, cast_succ0, $xs,*])
local macro_rules | `(tactic| simp_arith! [$xs,*]) => `(tactic| simp only [wE_ok, wE_exc, wE_bad, wE_bind, wE_dbind, wE_if, wE_noX, ↓wS_seq, ↓wS_nil, ↓wS_pass, ↓wS_break, ↓wS_cont, ↓wS_expr, ↓wS_ret, ↓wS_retN, wG_some, wG_none, setAll, ↓wS_asg, ↓wS_par, ↓wS_set, ↓wS_raise, ↓wS_try, wS_nx, wS_rt, forI_items, forS_nil, ↓u_varO, uO_some, ↓u_cst, ↓u_nil, ↓u_cons, ↓u_d2, ↓u_tru, ↓u_bl, ↓u_and, ↓u_or, ↓u_tand, ↓u_tor, ↓u_tnot, ↓u_not, ↓u_neg, ↓u_ite, ↓u_tup, ↓u_lst, ↓u_call, ↓u_callF, ↓u_meth, ↓u_sl, ↓u_pNone, ↓u_pSome, ↓u_rev, ↓u_dic0, ↓u_prs0, ↓u_prs, ↓u_dic, ↓u_iVal, ↓u_iEn, ↓u_iRng1, ↓u_lc, aName_run, List.set_cons_zero, List.set_cons_succ, List.getElem?_cons_zero, List.getElem?_cons_succ, List.append_nil, List.length_cons, List.length_nil, truD_bl, truD_non, truD_int, truD_tup, blD_bl, pInt, eqB_int, eqB_str, reduceIte, Nat.reduceAdd, Nat.zero_add, Nat.reduceLeDiff, true_and, and_true, Bool.not_true, Bool.not_false, Bool.false_eq_true, Bool.true_eq_false, decide_true, decide_false, isi_non_int, isi_non_bool, isi_non_str, isi_non_tuple, isi_non_list, isi_bl_int, isi_bl_bool, isi_bl_str, isi_bl_tuple, isi_bl_list, isi_int_int, isi_int_bool, isi_int_str, isi_int_tuple, isi_int_list, isi_str_int, isi_str_bool, isi_str_str, isi_str_tuple, isi_str_list, isi_tup_int, isi_tup_bool, isi_tup_str, isi_tup_tuple, isi_tup_list, isi_frz_int, isi_frz_bool, isi_frz_str, isi_frz_tuple, isi_frz_list, len_tup, len_frz, ix0, ix1, ix2, ix3, ix4, ix5, neg_int, add_int, sub_int, add_tup, is_non, in_cdt, in_chr, ord_int, mod_int, fdiv_int, int_int, DV.sl_tup, itV_tup, itV_frz, list_tup, lit_big, Int.cast_ofNat_Int, enK_tup, aPair, cast_succ0, $xs,*])
/-- what a drawing function leaves -/
def Dr (h h' : DH) : Prop := Src h' ∧ Kp h h' ∧ h.length ≤ h'.length
theorem src_len {h : DH} (s : Src h) : 2 < h.length := by
  obtain ⟨_, _, _, _, _, e⟩ := s
  exact (List.getElem?_eq_some_iff.mp e).1
theorem f13L (k : Nat) {n : Nat} {ds : List D} {h : DH} (src : Src h) (e : h[n]? = some (.lst ds)) (l0 : 0 < ds.length) (l1 : ds.length < 1073741824) : Ok (cF (k + 2) 13 [.ref 2, .ref n] h) fun v h' => v ∈ ds ∧ Src h' ∧ Kp h h' := by
  rw [step_]
  refine (wE_run rfl).mpr ?_
  show wS (m13 (cF (k + 1)) [some (.ref 2), some (.ref n)] h) _ _
  unfold m13
  simp_arith [len_ref e]
  refine wE_of (f12 k src (by omega) (by omega)) ?_
  rintro v h' ⟨j, rfl, lt, s1, k1⟩
  have lt : j < ds.length := by omega
  have e1 := k1 n ds e
  have ix := ix_ref (i := j) e1 (List.getElem?_eq_getElem lt)
  simp_arith [ix]
  exact ⟨List.getElem_mem lt, s1, k1⟩
theorem f13T (k : Nat) {t : Txt} {h : DH} (src : Src h) (l0 : 0 < t.length) (l1 : t.length ≤ big) : Ok (cF (k + 2) 13 [.ref 2, .str t] h) fun v h' => (∃ c, v = .str [c] ∧ c ∈ t) ∧ Src h' ∧ Kp h h' := by
  rw [step_]
  refine (wE_run rfl).mpr ?_
  show wS (m13 (cF (k + 1)) [some (.ref 2), some (.str t)] h) _ _
  unfold m13
  have l2 : t.length ≤ 16777216 := l1
  simp_arith [len_str l1]
  refine wE_of (f12 k src (by omega) (by omega)) ?_
  rintro v h' ⟨j, rfl, lt, s1, k1⟩
  have lt : j < t.length := by omega
  have ix := ix_chr (i := j) (h := h') l1 (List.getElem?_eq_getElem lt)
  simp_arith [ix]
  exact ⟨⟨_, rfl, List.getElem_mem lt⟩, s1, k1⟩
/-- an end of a drawn range -/
def smE : D → Bool
  | .non => true
  | .int i => decide (i.natAbs < 100)
  | _ => false
def Rg (v : D) : Prop := ∃ a b, v = .tup [a, b] ∧ isRngD v = true ∧ smE a = true ∧ smE b = true
theorem f14 (k : Nat) {h : DH} (src : Src h) : Ok (cF (k + 3) 14 [.ref 2] h) fun v h' => Rg v ∧ Src h' ∧ Kp h h' := by
  rw [step_]
  refine (wE_run rfl).mpr ?_
  show wS (m14 (cF (k + 2)) [some (.ref 2), none, none] h) _ _
  unfold m14
  simp_arith []
  generalize hl : [D.tup [D.non, D.non], D.tup [D.int 0, D.int 0], D.tup [D.int 5, D.int 5], D.tup [D.int (-3), D.int 4], D.tup [D.non, D.int 7], D.tup [D.int 2, D.non], D.tup [D.int 1, D.int 9], D.tup [D.int (-8), D.int (-2)], D.tup [D.int 6, D.int 12], D.tup [D.non, D.int (-1)]] = L
  have hL : ∀ v ∈ L, Rg v := by
    rw [← hl]
    intro v m
    simp only [List.mem_cons, List.not_mem_nil, or_false] at m
    rcases m with rfl | rfl | rfl | rfl | rfl | rfl | rfl | rfl | rfl | rfl <;> exact ⟨_, _, rfl, by decide, by decide, by decide⟩
  have lL : L.length = 10 := by rw [← hl]; rfl
  have s0 : Src (h ++ [DO.lst L]) := by
    obtain ⟨a, b, c, d, e1, e2⟩ := src
    exact ⟨a, b, c, d, app_l e1, app_l e2⟩
  have g0 : (h ++ [DO.lst L])[h.length]? = some (DO.lst L) := app_get
  refine wE_of (f12 (k + 1) s0 (by decide) (by decide)) ?_
  rintro v h1 ⟨j, rfl, lt, s1, k1⟩
  simp_arith []
  refine wE_of (f12 (k + 1) s1 (by decide) (by decide)) ?_
  rintro v h2 ⟨i, rfl, lt2, s2, k2⟩
  have g2 := (k1.trans k2) _ _ g0
  simp_arith []
  generalize hM : [D.tup [D.int ((j : Int) - 4), D.int ((j : Int) - 4 + (i : Int))], D.tup [D.int ((j : Int) - 4), D.int ((j : Int) - 4)]] = M
  have hM2 : ∀ v ∈ M, Rg v := by
    rw [← hM]
    intro v m
    simp only [List.mem_cons, List.not_mem_nil, or_false] at m
    rcases m with rfl | rfl
    · refine ⟨_, _, rfl, ?_, ?_, ?_⟩
      · simp [isRngD, isNonD, isIntD]
        omega
      · exact decide_eq_true (by omega)
      · exact decide_eq_true (by omega)
    · refine ⟨_, _, rfl, ?_, ?_, ?_⟩
      · simp [isRngD, isNonD, isIntD]
      · exact decide_eq_true (by omega)
      · exact decide_eq_true (by omega)
  have lM : M.length = 2 := by rw [← hM]; rfl
  have ad := add_lst (h := h2 ++ [DO.lst M]) (app_l g2) (app_get (h := h2)) (by rw [lL, lM]; decide)
  simp_arith [ad]
  have s3 : Src (h2 ++ [DO.lst M] ++ [DO.lst (L ++ M)]) := by
    obtain ⟨a, b, c, d, e1, e2⟩ := s2
    exact ⟨a, b, c, d, app_l (app_l e1), app_l (app_l e2)⟩
  refine wE_of (f13L k s3 (app_get (h := h2 ++ [DO.lst M])) (by simp [lL, lM]) (by simp [lL, lM])) ?_
  rintro v h3 ⟨m, s4, k4⟩
  refine ⟨(List.mem_append.mp m).elim (hL v) (hM2 v), s4, ?_⟩
  exact ((Kp.app.trans (k1.trans k2)).trans (Kp.app.trans Kp.app)).trans k4
def Stp (ls : Txt) (v : D) : Prop := isStepD v = true ∧ ((namesT v).all fun c => decide (c ∈ ls)) = true ∧ ∃ es, v = .tup es ∧ es.length ≤ 7 ∧ ∀ e ∈ es, elB e = true
theorem let_lt : ∀ c ∈ letters, c < 1114112 := by decide +kernel
theorem el_chr {c : Nat} (m : c ∈ letters) : elB (.str [c]) = true := by simp [elB, let_lt c m]
theorem el_sm {e : D} (s : smE e = true) : elB e = true := by
  cases e <;> simp [smE] at s <;> simp [elB]
  omega
theorem parts_is : partsOf (tx "is") = some [110, 114] := by simp [partsOf, tx_nr]
theorem parts_plus : partsOf (tx "plus") = some [110, 110, 99] := by simp [partsOf, tx_nnc, tx_is, tx_plus]
theorem parts_within : partsOf (tx "within") = some [110, 110, 114] := by simp [partsOf, tx_nnr, tx_is, tx_plus, tx_within]
theorem parts_when : partsOf (tx "when") = some [110, 110, 114, 114] := by simp [partsOf, tx_nnrr, tx_is, tx_plus, tx_within, tx_when]
theorem el_is : elB (.str (tx "is")) = true := by simp [elB, tx_is]
theorem el_plus : elB (.str (tx "plus")) = true := by simp [elB, tx_plus]
theorem el_within : elB (.str (tx "within")) = true := by simp [elB, tx_within]
theorem el_when : elB (.str (tx "when")) = true := by simp [elB, tx_when]
section
variable {ls : Txt} {c c2 : Nat} {r r2 : D} {i : Int} (hls : ∀ x ∈ ls, x ∈ letters)
include hls
theorem mk_is (m : c ∈ ls) {a b : D} (hr : Rg (.tup [a, b])) : Stp ls (.tup [.str (tx "is"), .str [c], a, b]) := by
  obtain ⟨a', b', e, g, s1, s2⟩ := hr
  cases e
  refine ⟨?_, ?_, _, rfl, by simp, ?_⟩
  · rw [step_of parts_is]
    simp [partsB, pn1, pr1, width, g, isLetD, hls c m]
  · simp [namesT, txtOf, m]
  · simp [el_is, el_chr (hls c m), el_sm s1, el_sm s2]
theorem mk_plus (m : c ∈ ls) (m2 : c2 ∈ ls) (hi : i.natAbs < 100) : Stp ls (.tup [.str (tx "plus"), .str [c], .str [c2], .int i]) := by
  refine ⟨?_, ?_, _, rfl, by simp, ?_⟩
  · rw [step_of parts_plus]
    simp [partsB, pn1, pc1, width, isLetD, isIntD, hls c m, hls c2 m2]
  · simp [namesT, txtOf, m, m2, tp1]
  · have : elB (.int i) = true := el_sm (by simp [smE, hi])
    simp [el_plus, el_chr (hls c m), el_chr (hls c2 m2), this]
theorem mk_within (m : c ∈ ls) (m2 : c2 ∈ ls) {a b : D} (hr : Rg (.tup [a, b])) : Stp ls (.tup [.str (tx "within"), .str [c], .str [c2], a, b]) := by
  obtain ⟨a', b', e, g, s1, s2⟩ := hr
  cases e
  refine ⟨?_, ?_, _, rfl, by simp, ?_⟩
  · rw [step_of parts_within]
    simp [partsB, pn1, pr1, width, g, isLetD, hls c m, hls c2 m2]
  · simp [namesT, txtOf, m, m2, tp2]
  · simp [el_within, el_chr (hls c m), el_chr (hls c2 m2), el_sm s1, el_sm s2]
theorem mk_when (m : c ∈ ls) (m2 : c2 ∈ ls) {a b x y : D} (hr : Rg (.tup [a, b])) (hr2 : Rg (.tup [x, y])) : Stp ls (.tup [.str (tx "when"), .str [c], .str [c2], a, b, x, y]) := by
  obtain ⟨a', b', e, g, s1, s2⟩ := hr
  cases e
  obtain ⟨x', y', e, g2, s3, s4⟩ := hr2
  cases e
  refine ⟨?_, ?_, _, rfl, by simp, ?_⟩
  · rw [step_of parts_when]
    simp [partsB, pn1, pr1, width, g, g2, isLetD, hls c m, hls c2 m2]
  · simp [namesT, txtOf, m, m2, tp4]
  · simp [el_when, el_chr (hls c m), el_chr (hls c2 m2), el_sm s1, el_sm s2, el_sm s3, el_sm s4]
theorem f15 (k : Nat) {h : DH} (src : Src h) (l0 : 0 < ls.length) (l1 : ls.length ≤ big) : Ok (cF (k + 4) 15 [.ref 2, .str ls] h) fun v h' => Stp ls v ∧ Src h' ∧ Kp h h' := by
  rw [step_]
  refine (wE_run rfl).mpr ?_
  show wS (m15 (cF (k + 3)) [some (.ref 2), some (.str ls), none, none, none] h) _ _
  unfold m15
  simp_arith []
  refine wE_of (f13T (k + 1) src l0 l1) ?_
  rintro v h1 ⟨⟨a, rfl, ma⟩, s1, k1⟩
  simp_arith []
  refine wE_of (f13T (k + 1) s1 l0 l1) ?_
  rintro v h2 ⟨⟨b, rfl, mb⟩, s2, k2⟩
  simp_arith []
  refine wE_of (f12 (k + 2) s2 (by decide) (by decide)) ?_
  rintro v h3 ⟨j, rfl, lt, s3, k3⟩
  have k03 := (k1.trans k2).trans k3
  simp_arith [OrdK.z]
  by_cases j2 : (j : Int) < 2
  · simp_arith [j2]
    refine wE_of (f14 k s3) ?_
    rintro v h4 ⟨hr, s4, k4⟩
    obtain ⟨x, y, rfl, _⟩ := id hr
    simp_arith [List.cons_append, List.nil_append]
    exact ⟨mk_is hls ma hr, s4, k03.trans k4⟩
  · by_cases j4 : (j : Int) < 4
    · simp_arith [j2, j4]
      have s3a : Src (h3 ++ [DO.lst [.int 1, .int 2, .int 3, .int (-1), .int (-2), .int 0, .int 7, .int 1]]) := by
        obtain ⟨a, b, c, d, e1, e2⟩ := s3
        exact ⟨a, b, c, d, app_l e1, app_l e2⟩
      refine wE_of (f13L (k + 1) s3a app_get (by decide) (by decide)) ?_
      rintro v h4 ⟨m, s4, k4⟩
      simp_arith []
      refine ⟨?_, s4, (k03.trans Kp.app).trans k4⟩
      simp only [List.mem_cons, List.not_mem_nil, or_false] at m
      rcases m with rfl | rfl | rfl | rfl | rfl | rfl | rfl | rfl <;> exact mk_plus hls ma mb (by decide)
    · by_cases j6 : (j : Int) < 6
      · simp_arith [j2, j4, j6]
        refine wE_of (f14 k s3) ?_
        rintro v h4 ⟨hr, s4, k4⟩
        obtain ⟨x, y, rfl, _⟩ := id hr
        simp_arith [List.cons_append, List.nil_append]
        exact ⟨mk_within hls ma mb hr, s4, k03.trans k4⟩
      · simp_arith [j2, j4, j6]
        refine wE_of (f14 k s3) ?_
        rintro v h4 ⟨hr, s4, k4⟩
        obtain ⟨x, y, rfl, _⟩ := id hr
        simp_arith [List.cons_append, List.nil_append]
        refine wE_of (f14 k s4) ?_
        rintro v h5 ⟨hr2, s5, k5⟩
        obtain ⟨x2, y2, rfl, _⟩ := id hr2
        simp_arith [List.cons_append, List.nil_append]
        exact ⟨mk_when hls ma mb hr hr2, s5, (k03.trans k4).trans k5⟩
end
end K65
namespace K65
open PySem DV L2
local macro_rules | `(tactic| simp_arith [$xs,*]) => `(tactic| simp only [wE_ok, wE_exc, wE_bad, wE_bind, wE_dbind, wE_if, wE_noX, ↓wS_seq, ↓wS_nil, ↓wS_pass, ↓wS_break, ↓wS_cont, ↓wS_expr, ↓wS_ret, ↓wS_retN, ↓wS_if, wG_some, wG_none, setAll, ↓wS_asg, ↓wS_par, ↓wS_set, ↓wS_raise, ↓wS_try, ↓wS_for, wS_nx, wS_rt, forI_items, forS_nil, ↓forS_cons, ↓u_varO, uO_some, ↓u_cst, ↓u_nil, ↓u_cons, ↓u_d2, ↓u_tru, ↓u_bl, ↓u_and, ↓u_or, ↓u_tand, ↓u_tor, ↓u_tnot, ↓u_not, ↓u_neg, ↓u_ite, ↓u_tup, ↓u_lst, ↓u_call, ↓u_callF, ↓u_meth, ↓u_sl, ↓u_pNone, ↓u_pSome, ↓u_rev, ↓u_dic0, ↓u_prs0, ↓u_prs, ↓u_dic, ↓u_iVal, ↓u_iEn, ↓u_iRng1, ↓u_lc, aName_run, List.set_cons_zero, List.set_cons_succ, List.getElem?_cons_zero, List.getElem?_cons_succ, List.append_nil, List.length_cons, List.length_nil, truD_bl, truD_non, truD_int, truD_tup, blD_bl, pInt, eqB_int, eqB_str, reduceIte, Nat.reduceAdd, Nat.zero_add, Nat.reduceLeDiff, true_and, and_true, Bool.not_true, Bool.not_false, Bool.false_eq_true, Bool.true_eq_false, decide_true, decide_false, isi_non_int, isi_non_bool, isi_non_str, isi_non_tuple, isi_non_list, isi_bl_int, isi_bl_bool, isi_bl_str, isi_bl_tuple, isi_bl_list, isi_int_int, isi_int_bool, isi_int_str, isi_int_tuple, isi_int_list, isi_str_int, isi_str_bool, isi_str_str, isi_str_tuple, isi_str_list, isi_tup_int, isi_tup_bool, isi_tup_str, isi_tup_tuple, isi_tup_list, isi_frz_int, isi_frz_bool, isi_frz_str, isi_frz_tuple, isi_frz_list, len_tup, len_frz, ix0, ix1, ix2, ix3, ix4, ix5, neg_int, add_int, sub_int, add_tup, is_non, in_cdt, in_chr, ord_int, mod_int, fdiv_int, int_int, DV.sl_tup, itV_tup, itV_frz, list_tup, lit_big, Int.cast_ofNat_Int, enK_tup, aPair, cast_succ0, $xs,*])
local macro_rules | `(tactic| simp_arith! [$xs,*]) => `(tactic| simp only [wE_ok, wE_exc, wE_bad, wE_bind, wE_dbind, wE_if, wE_noX, ↓wS_seq, ↓wS_nil, ↓wS_pass, ↓wS_break, ↓wS_cont, ↓wS_expr, ↓wS_ret, ↓wS_retN, wG_some, wG_none, setAll, ↓wS_asg, ↓wS_par, ↓wS_set, ↓wS_raise, ↓wS_try, wS_nx, wS_rt, forI_items, forS_nil, ↓u_varO, uO_some, ↓u_cst, ↓u_nil, ↓u_cons, ↓u_d2, ↓u_tru, ↓u_bl, ↓u_and, ↓u_or, ↓u_tand, ↓u_tor, ↓u_tnot, ↓u_not, ↓u_neg, ↓u_ite, ↓u_tup, ↓u_lst, ↓u_call, ↓u_callF, ↓u_meth, ↓u_sl, ↓u_pNone, ↓u_pSome, ↓u_rev, ↓u_dic0, ↓u_prs0, ↓u_prs, ↓u_dic, ↓u_iVal, ↓u_iEn, ↓u_iRng1, ↓u_lc, aName_run, List.set_cons_zero, List.set_cons_succ, List.getElem?_cons_zero, List.getElem?_cons_succ, List.append_nil, List.length_cons, List.length_nil, truD_bl, truD_non, truD_int, truD_tup, blD_bl, pInt, eqB_int, eqB_str, reduceIte, Nat.reduceAdd, Nat.zero_add, Nat.reduceLeDiff, true_and, and_true, Bool.not_true, Bool.not_false, Bool.false_eq_true, Bool.true_eq_false, decide_true, decide_false, isi_non_int, isi_non_bool, isi_non_str, isi_non_tuple, isi_non_list, isi_bl_int, isi_bl_bool, isi_bl_str, isi_bl_tuple, isi_bl_list, isi_int_int, isi_int_bool, isi_int_str, isi_int_tuple, isi_int_list, isi_str_int, isi_str_bool, isi_str_str, isi_str_tuple, isi_str_list, isi_tup_int, isi_tup_bool, isi_tup_str, isi_tup_tuple, isi_tup_list, isi_frz_int, isi_frz_bool, isi_frz_str, isi_frz_tuple, isi_frz_list, len_tup, len_frz, ix0, ix1, ix2, ix3, ix4, ix5, neg_int, add_int, sub_int, add_tup, is_non, in_cdt, in_chr, ord_int, mod_int, fdiv_int, int_int, DV.sl_tup, itV_tup, itV_frz, list_tup, lit_big, Int.cast_ofNat_Int, enK_tup, aPair, cast_succ0, $xs,*])
structure PT (t : Txt) : Prop where
  nm : isNamesD (.str t) = true
  l0 : 0 < t.length
  l5 : t.length ≤ 5
  ct : cut t none (some 5) = t
  ls : ∀ x ∈ t, x ∈ letters
  up : elB (.str (upperT t)) = true
  a0 : (atI t 0).isSome = true
  a1 : (atI t (-1)).isSome = true
  a2 : (atI t ((t.length : Nat) / 2)).isSome = true
def pts : List Txt := [tx "fgw", tx "wgf", tx "ab", tx "ba", tx "x", tx "zka", tx "qwert", tx "hi"]
theorem pts_ok : ∀ t ∈ pts, PT t := by
  intro t m
  simp only [pts, List.mem_cons, List.not_mem_nil, or_false] at m
  rcases m with rfl | rfl | rfl | rfl | rfl | rfl | rfl | rfl <;> exact ⟨by decide +kernel, by decide +kernel, by decide +kernel, by decide +kernel, by decide +kernel, by decide +kernel, by decide +kernel, by decide +kernel, by decide +kernel⟩
def Plan (v : D) : Prop := ∃ ls ds, v = .tup [.str ls, .tup ds] ∧ PT ls ∧ 0 < ds.length ∧ ds.length ≤ 8 ∧ ∀ s ∈ ds, Stp ls s
theorem rgs {a b : D} (e : isRngD (.tup [a, b]) = true) (h1 : smE a = true) (h2 : smE b = true) : Rg (.tup [a, b]) := ⟨a, b, rfl, e, h1, h2⟩
/-- a fresh list under work -/
structure Wk (h0 h : DH) (n : Nat) (ls : Txt) (m : Nat) : Prop where
  ds : ∃ ds, h[n]? = some (.lst ds) ∧ 0 < ds.length ∧ ds.length ≤ m ∧ ∀ s ∈ ds, Stp ls s
  ge : h0.length ≤ n
  src : Src h
  kp : Kp h0 h
theorem Wk.of {h0 h : DH} {ls : Txt} {m : Nat} {ds : List D} (s : Src h) (k : Kp h0 h) (g : h0.length ≤ h.length) (l0 : 0 < ds.length) (l : ds.length ≤ m) (a : ∀ s ∈ ds, Stp ls s) : Wk h0 (h ++ [DO.lst ds]) h.length ls m := ⟨⟨ds, app_get, l0, l, a⟩, g, by
  obtain ⟨a, b, c, d, e1, e2⟩ := s
  exact ⟨a, b, c, d, app_l e1, app_l e2⟩, k.trans Kp.app⟩
theorem Src.app {h x : DH} (s : Src h) : Src (h ++ x) := by
  obtain ⟨a, b, c, d, e1, e2⟩ := s
  exact ⟨a, b, c, d, app_l e1, app_l e2⟩
theorem Wk.step {h0 h h1 : DH} {n : Nat} {ls : Txt} {m : Nat} (w : Wk h0 h n ls m) (s : Src h1) (k : Kp h h1) : Wk h0 h1 n ls m := by
  obtain ⟨ds, e, a⟩ := w.ds
  exact ⟨⟨ds, k _ _ e, a⟩, w.ge, s, w.kp.trans k⟩
theorem Wk.up {h0 h : DH} {n : Nat} {ls : Txt} {m m1 : Nat} (w : Wk h0 h n ls m) (l : m ≤ m1) : Wk h0 h n ls m1 := by
  obtain ⟨ds, e, a, b, c⟩ := w.ds
  exact ⟨⟨ds, e, a, by omega, c⟩, w.ge, w.src, w.kp⟩
theorem Wk.put {h0 h : DH} {n : Nat} {ls : Txt} {m : Nat} {v : D} {ds : List D} (h2 : 2 < h0.length) (w : Wk h0 h n ls m) (e : h[n]? = some (.lst ds)) (hv : Stp ls v) : Wk h0 (h.set n (.lst (ds ++ [v]))) n ls (m + 1) := by
  obtain ⟨ds', e', a, b, c⟩ := w.ds
  rw [e] at e'
  cases e'
  have ge := w.ge
  refine ⟨⟨ds ++ [v], get_set (by rw [e]; rfl), by simp, by simp; omega, ?_⟩, ge, ?_, ?_⟩
  · intro s m
    rcases List.mem_append.mp m with m | m
    · exact c s m
    · simp at m
      rw [m]
      exact hv
  · obtain ⟨x, y, z, u, e1, e2⟩ := w.src
    exact ⟨x, y, z, u, by rw [get_ne (by omega)]; exact e1, by rw [get_ne (by omega)]; exact e2⟩
  · refine w.kp.set ?_
    intro ds' q
    have := (List.getElem?_eq_some_iff.mp q).1
    omega
theorem f16 (k : Nat) {h : DH} (src : Src h) : Ok (cF (k + 5) 16 [.ref 2, .int 5] h) fun v h' => Plan v ∧ Src h' ∧ Kp h h' := by
  rw [step_]
  refine (wE_run rfl).mpr ?_
  show wS (m16 (cF (k + 4)) [some (.ref 2), some (.int 5), none, none, none, none, none, none, none, none, none, none] h) _ _
  unfold m16
  simp_arith []
  have h2 := src_len src
  refine wE_of (f13L (k + 2) src.app app_get (by decide) (by decide)) ?_
  rintro v h1 ⟨mv, s1, k1⟩
  obtain ⟨t, rfl, pt⟩ : ∃ t, v = .str t ∧ PT t := by
    simp only [List.mem_cons, List.not_mem_nil, or_false] at mv
    have z : ∃ t ∈ pts, v = .str t := by
      rcases mv with rfl | rfl | rfl | rfl | rfl | rfl | rfl | rfl <;> exact ⟨_, by simp [pts], rfl⟩
    obtain ⟨t, m, rfl⟩ := z
    exact ⟨t, rfl, pts_ok t m⟩
  have tb : t.length ≤ big := Nat.le_trans pt.l5 (by decide)
  obtain ⟨a, ea⟩ := Option.isSome_iff_exists.mp pt.a0
  obtain ⟨b, eb⟩ := Option.isSome_iff_exists.mp pt.a1
  obtain ⟨c, ec⟩ := Option.isSome_iff_exists.mp pt.a2
  have ma := atI_mem ea
  have mb := atI_mem eb
  have mc := atI_mem ec
  have hls := pt.ls
  simp_arith [sl_str tb, pt.ct, ix_txt tb ea, ix_txt tb eb, ix_txt tb ec, len_str tb, fdiv_int (show (0 : Int) < 2 ∧ (2 : Int) < 1073741824 by decide)]
  refine wE_of (f12 (k + 3) s1 (by decide) (by decide)) ?_
  rintro v h3 ⟨n, rfl, ltn, s3, k3⟩
  simp_arith []
  refine wE_of (f12 (k + 3) s3 (by decide) (by decide)) ?_
  rintro v h4 ⟨w, rfl, ltw, s4, k4⟩
  simp_arith []
  refine wE_of (f12 (k + 3) s4 (by decide) (by decide)) ?_
  rintro v h5 ⟨q, rfl, ltq, s5, k5⟩
  have k05 : Kp h h5 := ((Kp.app.trans k1).trans (k3.trans k4)).trans k5
  have g5 : h.length ≤ h5.length := k05.len
  simp_arith! []
  have eq0 : ∀ i j : Int, eqB false (.int i) (.int j) = fun h => .ok (.bl (decide (i = j))) h := fun i j => funext fun h => by rw [eqB_int]; rfl
  refine wS_cut (fun env h' => ∃ r u v, env = [some (.ref 2), some (.int 5), some (.str t), some (.str [a]), some (.str [b]), some (.str [c]), some (.int n), some (.int w), some (.int (1 + (q : Int))), some (.ref r), u, v] ∧ Wk h h' r t 5) ?_ ?_
  · have base : Wk h (h5 ++ [DO.lst [.tup [.str (tx "is"), .str [a], .int n, .int n]]]) h5.length t 1 := Wk.of s5 k05 g5 (by simp) (by simp) (by
      intro s m
      simp only [List.mem_cons, List.not_mem_nil, or_false] at m
      rw [m]
      exact mk_is hls ma (rgs (by simp [isRngD, isNonD, isIntD]) (by simp [smE]; omega) (by simp [smE]; omega)))
    obtain ⟨bs, be, bl0, bl1, ball⟩ := base.ds
    rw [app_get] at be
    cases be
    have add : ∀ M : List D, (∀ s ∈ M, Stp t s) → M.length ≤ 4 → Wk h (h5 ++ [DO.lst [.tup [.str (tx "is"), .str [a], .int n, .int n]]] ++ [DO.lst M] ++ [DO.lst ([.tup [.str (tx "is"), .str [a], .int n, .int n]] ++ M)]) (h5 ++ [DO.lst [.tup [.str (tx "is"), .str [a], .int n, .int n]]] ++ [DO.lst M]).length t 5 := fun M hM lM => Wk.of s5.app.app ((k05.trans Kp.app).trans Kp.app) (by have := g5; simp; omega) (by simp) (by simp; omega) (by
      intro s m
      rcases List.mem_append.mp m with m | m
      · exact ball s m
      · exact hM s m)
    have ad := fun (M : List D) (l : M.length ≤ 4) => add_lst (h := h5 ++ [DO.lst [.tup [.str (tx "is"), .str [a], .int n, .int n]]] ++ [DO.lst M]) (app_l (app_get (h := h5))) (app_get (h := h5 ++ [DO.lst [.tup [.str (tx "is"), .str [a], .int n, .int n]]])) (by show 1 + M.length ≤ big; have : big = 16777216 := rfl; omega)
    have w5 : w = 0 ∨ w = 1 ∨ w = 2 ∨ w = 3 ∨ w = 4 := by omega
    rcases w5 with rfl | rfl | rfl | rfl | rfl
    · simp_arith [ad]
      refine ⟨_, _, _, rfl, add _ ?_ (by simp)⟩
      intro s m
      simp only [List.mem_cons, List.not_mem_nil, or_false] at m
      rcases m with rfl | rfl
      · exact mk_plus hls mb ma (by omega)
      · exact mk_within hls ma mb (rgs (by simp [isRngD, isNonD, isIntD]) (by simp [smE]) (by simp [smE]; omega))
    · simp_arith [ad, Int.reduceEq]
      refine ⟨_, _, _, rfl, add _ ?_ (by simp)⟩
      intro s m
      simp only [List.mem_cons, List.not_mem_nil, or_false] at m
      rcases m with rfl | rfl | rfl
      · exact mk_plus hls ma ma (by omega)
      · exact mk_within hls mb ma (rgs (by simp [isRngD, isNonD, isIntD]) (by simp [smE]) (by simp [smE]))
      · exact mk_when hls mc ma (rgs (by simp [isRngD, isNonD, isIntD]) (by simp [smE]) (by simp [smE])) (rgs (by simp [isRngD, isNonD, isIntD]) (by simp [smE]) (by simp [smE]))
    · have w4 : Wk h (h5 ++ [DO.lst [.tup [.str (tx "is"), .str [a], .int n, .int n]]] ++ [DO.lst [.tup [.str (tx "is"), .str [a], .int 5, .int 5], .tup [.str (tx "plus"), .str [c], .str [a], .int 2], .tup [.str (tx "is"), .str [b], .int 0, .int 0], .tup [.str (tx "within"), .str [b], .str [a], .non, .non]]]) (h5 ++ [DO.lst [.tup [.str (tx "is"), .str [a], .int n, .int n]]]).length t 4 := Wk.of s5.app (k05.trans Kp.app) (by have := g5; simp; omega) (by simp) (by simp) (by
        intro s m
        simp only [List.mem_cons, List.not_mem_nil, or_false] at m
        rcases m with rfl | rfl | rfl | rfl
        · exact mk_is hls ma (rgs (by simp [isRngD, isNonD, isIntD]) (by simp [smE]) (by simp [smE]))
        · exact mk_plus hls mc ma (by decide)
        · exact mk_is hls mb (rgs (by simp [isRngD, isNonD, isIntD]) (by simp [smE]) (by simp [smE]))
        · exact mk_within hls mb ma (rgs (by simp [isRngD, isNonD, isIntD]) (by simp [smE]) (by simp [smE])))
      have ap := fun d => append_ref (d := d) (h := h5 ++ [DO.lst [.tup [.str (tx "is"), .str [a], .int n, .int n]]] ++ [DO.lst [.tup [.str (tx "is"), .str [a], .int 5, .int 5], .tup [.str (tx "plus"), .str [c], .str [a], .int 2], .tup [.str (tx "is"), .str [b], .int 0, .int 0], .tup [.str (tx "within"), .str [b], .str [a], .non, .non]]]) app_get (by simp [big])
      have td := tyD_lst (h := h5 ++ [DO.lst [.tup [.str (tx "is"), .str [a], .int n, .int n]]] ++ [DO.lst [.tup [.str (tx "is"), .str [a], .int 5, .int 5], .tup [.str (tx "plus"), .str [c], .str [a], .int 2], .tup [.str (tx "is"), .str [b], .int 0, .int 0], .tup [.str (tx "within"), .str [b], .str [a], .non, .non]]]) app_get
      simp_arith [Int.reduceEq, td, ap]
      exact ⟨_, _, _, rfl, w4.put h2 app_get (mk_within hls mb mc (rgs (by simp [isRngD, isNonD, isIntD]) (by simp [smE]) (by simp [smE])))⟩
    · by_cases n0 : (n : Int) = 0
      · have d0 : decide ((n : Int) = 0) = true := decide_eq_true n0
        simp_arith [ad, Int.reduceEq, d0]
        refine ⟨_, _, _, rfl, add _ ?_ (by simp)⟩
        intro s m
        simp only [List.mem_cons, List.not_mem_nil, or_false] at m
        rcases m with rfl | rfl | rfl
        · exact mk_plus hls ma mb (by omega)
        · exact mk_plus hls mb ma (by omega)
        · exact mk_is hls mb (rgs (by simp [isRngD, isNonD, isIntD]) (by simp [smE]) (by simp [smE]))
      · simp_arith [ad, Int.reduceEq, n0]
        refine ⟨_, _, _, rfl, add _ ?_ (by simp)⟩
        intro s m
        simp only [List.mem_cons, List.not_mem_nil, or_false] at m
        rcases m with rfl | rfl | rfl
        · exact mk_plus hls ma mb (by omega)
        · exact mk_plus hls mb ma (by omega)
        · exact mk_is hls mb (rgs (by simp [isRngD, isNonD, isIntD]) (by simp [smE]) (by simp [smE]))
    · simp_arith [Int.reduceEq]
      exact ⟨_, _, _, rfl, base.up (by omega)⟩
  · rintro env h' ⟨r, u, v, rfl, wk⟩
    simp_arith []
    refine wE_of (f12 (k + 3) wk.src (by decide) (by decide)) ?_
    rintro _ h7 ⟨i, rfl, lti, s7, k7⟩
    have wk7 := wk.step s7 k7
    simp_arith []
    refine ⟨_, rfl, by simp [sm62]; omega, ?_⟩
    refine wS_forS (fun l env h'' => (∃ x y, env = [some (.ref 2), some (.int 5), some (.str t), some (.str [a]), some (.str [b]), some (.str [c]), some (.int n), some (.int w), some (.int (1 + (q : Int))), some (.ref r), x, y]) ∧ Wk h h'' r t (5 + l)) ⟨⟨_, _, rfl⟩, wk7⟩ ?_ ?_
    · rintro l d env h'' hd ⟨⟨x, y, rfl⟩, wl⟩
      refine ⟨_, rfl, ?_⟩
      obtain ⟨ds, e, _⟩ := wl.ds
      have td := tyD_lst e
      simp_arith [td]
      refine wE_of (f15 hls k wl.src pt.l0 tb) ?_
      rintro v h8 ⟨sv, s8, k8⟩
      have w8 := wl.step s8 k8
      have e8 := k8 _ _ e
      have lt8 : ds.length < big := by
        obtain ⟨ds', e', _, l5, _⟩ := w8.ds
        rw [e8] at e'
        cases e'
        have : l < i := by
          have := (List.getElem?_eq_some_iff.mp hd).1
          rw [rng_len] at this
          omega
        have : big = 16777216 := rfl
        omega
      simp_arith [append_ref e8 lt8]
      exact ⟨⟨_, _, rfl⟩, w8.put h2 e8 sv⟩
    · rintro env h'' ⟨⟨x, y, rfl⟩, wl⟩
      rw [rng_len] at wl
      obtain ⟨ds, e, l0, l1, hs⟩ := wl.ds
      have lb : ds.length ≤ 8 := by omega
      simp_arith [len_ref e]
      refine wE_of (f12 (k + 3) wl.src (by omega) (by omega)) ?_
      rintro v h9 ⟨m, rfl, ltm, s9, k9⟩
      have e9 := k9 _ _ e
      have c1 := sl_ref (h := h9) (lo := some (m : Int)) (hi := none) e9
      have c2 := sl_ref (h := h9 ++ [DO.lst (cut ds (some (m : Int)) none)]) (lo := none) (hi := some (m : Int)) (app_l e9)
      rw [cut_n] at c1
      rw [cut_n, cut_0n] at c2
      have ad := add_lst (h := h9 ++ [DO.lst (ds.drop m)] ++ [DO.lst (ds.take m)]) (app_l (app_get (h := h9))) (app_get (h := h9 ++ [DO.lst (ds.drop m)])) (by have : big = 16777216 := rfl; simp; omega)
      simp_arith [c1, c2, ad, tuple_ref app_get]
      refine ⟨⟨t, _, rfl, pt, by simp; omega, by simp; omega, ?_⟩, s9.app.app.app, ((wl.kp.trans k9).trans Kp.app).trans (Kp.app.trans Kp.app)⟩
      intro s ms
      rcases List.mem_append.mp ms with ms | ms
      · exact hs s (List.mem_of_mem_drop ms)
      · exact hs s (List.mem_of_mem_take ms)
end K65
namespace K65
open PySem DV L2
local macro_rules | `(tactic| simp_arith [$xs,*]) => `(tactic| simp only [wE_ok, wE_exc, wE_bad, wE_bind, wE_dbind, wE_if, wE_noX, ↓wS_seq, ↓wS_nil, ↓wS_pass, ↓wS_break, ↓wS_cont, ↓wS_expr, ↓wS_ret, ↓wS_retN, ↓wS_if, wG_some, wG_none, setAll, ↓wS_asg, ↓wS_par, ↓wS_set, ↓wS_raise, ↓wS_try, ↓wS_for, wS_nx, wS_rt, forI_items, forS_nil, ↓forS_cons, ↓u_varO, uO_some, ↓u_cst, ↓u_nil, ↓u_cons, ↓u_d2, ↓u_tru, ↓u_bl, ↓u_and, ↓u_or, ↓u_tand, ↓u_tor, ↓u_tnot, ↓u_not, ↓u_neg, ↓u_ite, ↓u_tup, ↓u_lst, ↓u_call, ↓u_callF, ↓u_meth, ↓u_sl, ↓u_pNone, ↓u_pSome, ↓u_rev, ↓u_dic0, ↓u_prs0, ↓u_prs, ↓u_dic, ↓u_iVal, ↓u_iEn, ↓u_iRng1, ↓u_lc, aName_run, List.set_cons_zero, List.set_cons_succ, List.getElem?_cons_zero, List.getElem?_cons_succ, List.append_nil, List.length_cons, List.length_nil, truD_bl, truD_non, truD_int, truD_tup, blD_bl, pInt, eqB_int, eqB_str, reduceIte, Nat.reduceAdd, Nat.zero_add, Nat.reduceLeDiff, true_and, and_true, Bool.not_true, Bool.not_false, Bool.false_eq_true, Bool.true_eq_false, decide_true, decide_false, isi_non_int, isi_non_bool, isi_non_str, isi_non_tuple, isi_non_list, isi_bl_int, isi_bl_bool, isi_bl_str, isi_bl_tuple, isi_bl_list, isi_int_int, isi_int_bool, isi_int_str, isi_int_tuple, isi_int_list, isi_str_int, isi_str_bool, isi_str_str, isi_str_tuple, isi_str_list, isi_tup_int, isi_tup_bool, isi_tup_str, isi_tup_tuple, isi_tup_list, isi_frz_int, isi_frz_bool, isi_frz_str, isi_frz_tuple, isi_frz_list, len_tup, len_frz, ix0, ix1, ix2, ix3, ix4, ix5, neg_int, add_int, sub_int, add_tup, is_non, in_cdt, in_chr, ord_int, mod_int, fdiv_int, int_int, DV.sl_tup, itV_tup, itV_frz, list_tup, lit_big, Int.cast_ofNat_Int, enK_tup, aPair, cast_succ0, $xs,*])
local macro_rules | `(tactic| simp_arith! [$xs,*]) => `(tactic| simp only [wE_ok, wE_exc, wE_bad, wE_bind, wE_dbind, wE_if, wE_noX, ↓wS_seq, ↓wS_nil, ↓wS_pass, ↓wS_break, ↓wS_cont, ↓wS_expr, ↓wS_ret, ↓wS_retN, wG_some, wG_none, setAll, ↓wS_asg, ↓wS_par, ↓wS_set, ↓wS_raise, ↓wS_try, wS_nx, wS_rt, forI_items, forS_nil, ↓u_varO, uO_some, ↓u_cst, ↓u_nil, ↓u_cons, ↓u_d2, ↓u_tru, ↓u_bl, ↓u_and, ↓u_or, ↓u_tand, ↓u_tor, ↓u_tnot, ↓u_not, ↓u_neg, ↓u_ite, ↓u_tup, ↓u_lst, ↓u_call, ↓u_callF, ↓u_meth, ↓u_sl, ↓u_pNone, ↓u_pSome, ↓u_rev, ↓u_dic0, ↓u_prs0, ↓u_prs, ↓u_dic, ↓u_iVal, ↓u_iEn, ↓u_iRng1, ↓u_lc, aName_run, List.set_cons_zero, List.set_cons_succ, List.getElem?_cons_zero, List.getElem?_cons_succ, List.append_nil, List.length_cons, List.length_nil, truD_bl, truD_non, truD_int, truD_tup, blD_bl, pInt, eqB_int, eqB_str, reduceIte, Nat.reduceAdd, Nat.zero_add, Nat.reduceLeDiff, true_and, and_true, Bool.not_true, Bool.not_false, Bool.false_eq_true, Bool.true_eq_false, decide_true, decide_false, isi_non_int, isi_non_bool, isi_non_str, isi_non_tuple, isi_non_list, isi_bl_int, isi_bl_bool, isi_bl_str, isi_bl_tuple, isi_bl_list, isi_int_int, isi_int_bool, isi_int_str, isi_int_tuple, isi_int_list, isi_str_int, isi_str_bool, isi_str_str, isi_str_tuple, isi_str_list, isi_tup_int, isi_tup_bool, isi_tup_str, isi_tup_tuple, isi_tup_list, isi_frz_int, isi_frz_bool, isi_frz_str, isi_frz_tuple, isi_frz_list, len_tup, len_frz, ix0, ix1, ix2, ix3, ix4, ix5, neg_int, add_int, sub_int, add_tup, is_non, in_cdt, in_chr, ord_int, mod_int, fdiv_int, int_int, DV.sl_tup, itV_tup, itV_frz, list_tup, lit_big, Int.cast_ofNat_Int, enK_tup, aPair, cast_succ0, $xs,*])
def odds : List D := [.non, .bl true, .bl false, .int 0, .int (-1), .int 7, .str (tx ""), .str (tx "f"), .str (tx "fg"), .str (tx "is"), .str (tx "plus"), .str (tx "when"), .str (tx "A"), .tup [], .tup [.int 1, .int 0], .str (tx "ff"), .int (10 ^ 59)]
theorem odds_ok {h : DH} {k w : Nat} : ∀ v ∈ odds, ∃ q, Th h (k + 1) (w + 402) v q := by
  intro v m
  have el : ∀ v, elB v = true → ∃ q, Th h (k + 1) (w + 402) v q := fun v e => by
    obtain ⟨q, t⟩ := el_th (h := h) e
    exact ⟨q, t.up (by omega) (by omega)⟩
  simp only [odds, List.mem_cons, List.not_mem_nil, or_false] at m
  rcases m with rfl | rfl | rfl | rfl | rfl | rfl | rfl | rfl | rfl | rfl | rfl | rfl | rfl | rfl | rfl | rfl | rfl
  · exact el _ (by decide +kernel)
  · exact el _ (by decide +kernel)
  · exact el _ (by decide +kernel)
  · exact el _ (by decide +kernel)
  · exact el _ (by decide +kernel)
  · exact el _ (by decide +kernel)
  · exact el _ (by decide +kernel)
  · exact el _ (by decide +kernel)
  · exact el _ (by decide +kernel)
  · exact el _ (by decide +kernel)
  · exact el _ (by decide +kernel)
  · exact el _ (by decide +kernel)
  · exact el _ (by decide +kernel)
  · obtain ⟨q, t⟩ := row_th (h := h) (ds := []) (by simp)
    exact ⟨q, t.up (by omega) (by simp)⟩
  · obtain ⟨q, t⟩ := row_th (h := h) (ds := [.int 1, .int 0]) (by decide +kernel)
    exact ⟨q, t.up (by omega) (by simp)⟩
  · exact el _ (by decide +kernel)
  · exact el _ (by decide +kernel)
def BQ (h : DH) (k w : Nat) (v : D) (h' : DH) : Prop := (∃ q, Th h' (k + 1) (2 * w + 402) v q) ∧ Src h' ∧ Kp h h'
/-- a value is a tuple or isn't -/
theorem tup_or {h : DH} {k w : Nat} {d : D} {p : PyData} (a : Th h k w d p) : (∃ ds, d = .tup ds) ∨ (isiF [d, .ty "tuple"] h = .ok (.bl false) h) := by
  by_cases z : ∃ ds, d = .tup ds
  · exact .inl z
  · obtain ⟨t, ta⟩ := a.ty
    have ia := isiF_run (c := "tuple") ta (by simp)
    have na : isTy d "tuple" = false := by
      cases d <;> first | rfl | exact absurd ⟨_, rfl⟩ z
    rw [na] at ia
    exact .inr ia
theorem f22 : ∀ (k L : Nat) {w : Nat} {h : DH} {d : D} {p : PyData}, Th h k w d p → Src h → w ≤ 50000 → k ≤ 20 → k + 4 ≤ L → Ok (cF L 22 [.ref 2, d] h) (BQ h k w) := by
  intro k
  induction k with
  | zero => ?_
  | succ k ih => ?_
  all_goals
    intro L w h d p a src hw hk hL
    obtain ⟨m, rfl⟩ : ∃ m, L = m + 4 := ⟨L - 4, by omega⟩
    rw [step_]
    refine (wE_run rfl).mpr ?_
    show wS (m22 (cF (m + 3)) [some (.ref 2), some d, none, none, none] h) _ _
    unfold m22
    simp_arith! []
    refine wS_cut (fun env h' => ∃ u, env = [some (.ref 2), some d, u, none, none] ∧ Src h' ∧ Kp h h') ?_ ?_
  case zero.refine_1 =>
    rcases tup_or a with ⟨ds, rfl⟩ | ia
    · obtain ⟨ps, j, e, _⟩ := a.tup_inv
      cases e
    · simp_arith [ia]
      exact ⟨_, rfl, src, Kp.refl⟩
  case succ.refine_1 =>
    rcases tup_or a with ⟨ds, rfl⟩ | ia
    · obtain ⟨ps, j, e, rfl, l⟩ := a.tup_inv
      cases e
      have en := eq_tup_nil (neg := true) a (by omega)
      cases he : ds.isEmpty with
      | true =>
        rw [he] at en
        simp_arith [en]
        exact ⟨_, rfl, src, Kp.refl⟩
      | false =>
        rw [he] at en
        simp_arith [en]
        refine wE_of (f12 (m + 2) src (by decide) (by decide)) ?_
        rintro v h1 ⟨i, rfl, lti, s1, k1⟩
        simp_arith [OrdK.z]
        by_cases i0 : (0 : Int) < i
        · simp_arith [i0]
          have ll := l.length
          have l0 : 0 < ds.length := by
            cases ds with
            | nil => cases he
            | cons _ _ => simp
          refine wE_of (f12 (m + 2) s1 (by omega) (by omega)) ?_
          rintro v h2 ⟨at_, rfl, lta, s2, k2⟩
          have lta : at_ < ds.length := by omega
          obtain ⟨q, p1, p2, w1, w2, we, t1, t2, t3, wl⟩ := l.split (List.getElem?_eq_getElem lta)
          have k02 := k1.trans k2
          have ix := ix_at (h := h2) (ds := ds) (i := at_) (List.getElem?_eq_getElem lta)
          simp_arith [cut_0n, ix]
          refine wE_of (ih (m + 3) (t2.kp k02) s2 (by omega) (by omega) (by omega)) ?_
          rintro v h3 ⟨⟨q', t'⟩, s3, k3⟩
          have cn : cut ds (some ((at_ : Int) + 1)) none = ds.drop (at_ + 1) := cut_n ds (at_ + 1)
          have tt : ThL h3 (k + 1) (w1 + (2 * we + 402 + 1 + w2)) (ds.take at_ ++ v :: ds.drop (at_ + 1)) (p1 ++ q' :: p2) := ((t1.kp (k02.trans k3)).up (by omega) (Nat.le_refl _)).app (ThL.cons t' ((t3.kp (k02.trans k3)).up (by omega) (Nat.le_refl _)))
          have hb : big = 16777216 := rfl
          have lb1 : (List.take at_ ds).length + (0 + 1) ≤ big := by simp; omega
          have lb2 : (List.take at_ ds ++ [v]).length + (List.drop (at_ + 1) ds).length ≤ big := by simp; omega
          simp_arith [cn, lb1, lb2]
          simp only [List.append_assoc, List.cons_append, List.nil_append]
          exact ⟨⟨_, (Th.tup tt).up (by omega) (by omega)⟩, s3, k02.trans k3⟩
        · simp_arith [i0]
          exact ⟨_, rfl, s1, k1⟩
    · simp_arith [ia]
      exact ⟨_, rfl, src, Kp.refl⟩
  all_goals
    rintro env h1 ⟨u, rfl, s1, k1⟩
    simp_arith! []
    refine wE_of (f12 (m + 2) s1 (by decide) (by decide)) ?_
    rintro v h2 ⟨way, rfl, ltw, s2, k2⟩
    have k02 := k1.trans k2
    simp_arith! []
    refine wS_cut (fun env h' => env = [some (.ref 2), some d, u, some (.int way), none] ∧ h' = h2) ?_ ?_
    · rcases tup_or (a.kp k02) with ⟨ds, rfl⟩ | ia
      · obtain ⟨ps, j, e, rfl, l⟩ := a.tup_inv
        have ll := l.length
        have hb : big = 16777216 := rfl
        have lb : ds.length + (ds.drop (ds.length - 1)).length ≤ big := by simp; omega
        simp_arith [OrdK.z]
        by_cases w5 : (way : Int) < 5
        · simp_arith [w5, cut1n, cut_0m1, cut_m1, lb, rev_tup]
          generalize hL : [D.tup (ds.drop 1), D.tup (ds.take (ds.length - 1)), D.tup (ds ++ ds.drop (ds.length - 1)), D.tup ds.reverse, D.ref h2.length] = LL
          have lL : LL.length = 5 := by rw [← hL]; rfl
          have ltl : way < LL.length := by omega
          have ix := ix_ref (h := h2 ++ [DO.lst ds] ++ [DO.lst LL]) (n := (h2 ++ [DO.lst ds]).length) (i := way) app_get (List.getElem?_eq_getElem ltl)
          simp_arith [ix]
          have mv : LL[way] ∈ LL := List.getElem_mem ltl
          have kk : Kp h (h2 ++ [DO.lst ds] ++ [DO.lst LL]) := (k02.trans Kp.app).trans Kp.app
          have l' := l.kp kk
          have fin : ∀ K q, j + 1 ≤ K + 1 → Th (h2 ++ [DO.lst ds] ++ [DO.lst LL]) (j + 1) (2 * w + 402) LL[way] q → BQ h K w LL[way] (h2 ++ [DO.lst ds] ++ [DO.lst LL]) := fun K q z t => ⟨⟨q, t.up z (Nat.le_refl _)⟩, s2.app.app, kk⟩
          generalize LL[way] = v at mv fin
          rw [← hL] at mv
          simp only [List.mem_cons, List.not_mem_nil, or_false] at mv
          rcases mv with rfl | rfl | rfl | rfl | rfl
          · exact fin _ _ (by omega) ((Th.tup (l'.drop 1)).up (Nat.le_refl _) (by omega))
          · exact fin _ _ (by omega) ((Th.tup (l'.take _)).up (Nat.le_refl _) (by omega))
          · exact fin _ _ (by omega) ((Th.tup (l'.app (l'.drop _))).up (Nat.le_refl _) (by omega))
          · exact fin _ _ (by omega) ((Th.tup l'.rev).up (Nat.le_refl _) (by omega))
          · exact fin _ _ (by omega) ((Th.ref (app_l app_get) l').up (Nat.le_refl _) (by omega))
        · simp_arith [w5]
      · simp_arith [ia]
    · rintro env h2 ⟨rfl, rfl⟩
      have pw : powD (.int 10) (.int 59) h2 = .ok (.int (10 ^ 59)) h2 := pow_int (by decide)
      have eo : [D.non, D.bl true, D.bl false, D.int 0, D.int (-1), D.int 7, D.str (tx ""), D.str (tx "f"), D.str (tx "fg"), D.str (tx "is"), D.str (tx "plus"), D.str (tx "when"), D.str (tx "A"), D.tup [], D.tup [D.int 1, D.int 0], D.str (tx "ff"), D.int (10 ^ 59)] = odds := rfl
      simp_arith [pw, eo]
      have lo : odds.length = 17 := rfl
      have ob : odds.length ≤ big := by rw [lo]; decide
      refine wE_of (f13L (m + 1) s2.app app_get (by decide) (by decide)) ?_
      rintro v h3 ⟨mv, s3, k3⟩
      obtain ⟨q, t⟩ := odds_ok (h := h3) (w := 2 * w) v mv
      exact ⟨⟨q, t⟩, s3, (k02.trans Kp.app).trans k3⟩
end K65
namespace K65
open PySem DV L2
local macro_rules | `(tactic| simp_arith [$xs,*]) => `(tactic| simp only [wE_ok, wE_exc, wE_bad, wE_bind, wE_dbind, wE_if, wE_noX, ↓wS_seq, ↓wS_nil, ↓wS_pass, ↓wS_break, ↓wS_cont, ↓wS_expr, ↓wS_ret, ↓wS_retN, ↓wS_if, wG_some, wG_none, setAll, ↓wS_asg, ↓wS_par, ↓wS_set, ↓wS_raise, ↓wS_try, ↓wS_for, wS_nx, wS_rt, forI_items, forS_nil, ↓forS_cons, ↓u_varO, uO_some, ↓u_cst, ↓u_nil, ↓u_cons, ↓u_d2, ↓u_tru, ↓u_bl, ↓u_and, ↓u_or, ↓u_tand, ↓u_tor, ↓u_tnot, ↓u_not, ↓u_neg, ↓u_ite, ↓u_tup, ↓u_lst, ↓u_call, ↓u_callF, ↓u_meth, ↓u_sl, ↓u_pNone, ↓u_pSome, ↓u_rev, ↓u_dic0, ↓u_prs0, ↓u_prs, ↓u_dic, ↓u_iVal, ↓u_iEn, ↓u_iRng1, ↓u_lc, aName_run, List.set_cons_zero, List.set_cons_succ, List.getElem?_cons_zero, List.getElem?_cons_succ, List.append_nil, List.length_cons, List.length_nil, truD_bl, truD_non, truD_int, truD_tup, blD_bl, pInt, eqB_int, eqB_str, reduceIte, Nat.reduceAdd, Nat.zero_add, Nat.reduceLeDiff, true_and, and_true, Bool.not_true, Bool.not_false, Bool.false_eq_true, Bool.true_eq_false, decide_true, decide_false, isi_non_int, isi_non_bool, isi_non_str, isi_non_tuple, isi_non_list, isi_bl_int, isi_bl_bool, isi_bl_str, isi_bl_tuple, isi_bl_list, isi_int_int, isi_int_bool, isi_int_str, isi_int_tuple, isi_int_list, isi_str_int, isi_str_bool, isi_str_str, isi_str_tuple, isi_str_list, isi_tup_int, isi_tup_bool, isi_tup_str, isi_tup_tuple, isi_tup_list, isi_frz_int, isi_frz_bool, isi_frz_str, isi_frz_tuple, isi_frz_list, len_tup, len_frz, ix0, ix1, ix2, ix3, ix4, ix5, neg_int, add_int, sub_int, add_tup, is_non, in_cdt, in_chr, ord_int, mod_int, fdiv_int, int_int, DV.sl_tup, itV_tup, itV_frz, list_tup, lit_big, Int.cast_ofNat_Int, enK_tup, aPair, cast_succ0, $xs,*])
local macro_rules | `(tactic| simp_arith! [$xs,*]) => `(tactic| simp only [wE_ok, wE_exc, wE_bad, wE_bind, wE_dbind, wE_if, wE_noX, ↓wS_seq, ↓wS_nil, ↓wS_pass, ↓wS_break, ↓wS_cont, ↓wS_expr, ↓wS_ret, ↓wS_retN, wG_some, wG_none, setAll, ↓wS_asg, ↓wS_par, ↓wS_set, ↓wS_raise, ↓wS_try, wS_nx, wS_rt, forI_items, forS_nil, ↓u_varO, uO_some, ↓u_cst, ↓u_nil, ↓u_cons, ↓u_d2, ↓u_tru, ↓u_bl, ↓u_and, ↓u_or, ↓u_tand, ↓u_tor, ↓u_tnot, ↓u_not, ↓u_neg, ↓u_ite, ↓u_tup, ↓u_lst, ↓u_call, ↓u_callF, ↓u_meth, ↓u_sl, ↓u_pNone, ↓u_pSome, ↓u_rev, ↓u_dic0, ↓u_prs0, ↓u_prs, ↓u_dic, ↓u_iVal, ↓u_iEn, ↓u_iRng1, ↓u_lc, aName_run, List.set_cons_zero, List.set_cons_succ, List.getElem?_cons_zero, List.getElem?_cons_succ, List.append_nil, List.length_cons, List.length_nil, truD_bl, truD_non, truD_int, truD_tup, blD_bl, pInt, eqB_int, eqB_str, reduceIte, Nat.reduceAdd, Nat.zero_add, Nat.reduceLeDiff, true_and, and_true, Bool.not_true, Bool.not_false, Bool.false_eq_true, Bool.true_eq_false, decide_true, decide_false, isi_non_int, isi_non_bool, isi_non_str, isi_non_tuple, isi_non_list, isi_bl_int, isi_bl_bool, isi_bl_str, isi_bl_tuple, isi_bl_list, isi_int_int, isi_int_bool, isi_int_str, isi_int_tuple, isi_int_list, isi_str_int, isi_str_bool, isi_str_str, isi_str_tuple, isi_str_list, isi_tup_int, isi_tup_bool, isi_tup_str, isi_tup_tuple, isi_tup_list, isi_frz_int, isi_frz_bool, isi_frz_str, isi_frz_tuple, isi_frz_list, len_tup, len_frz, ix0, ix1, ix2, ix3, ix4, ix5, neg_int, add_int, sub_int, add_tup, is_non, in_cdt, in_chr, ord_int, mod_int, fdiv_int, int_int, DV.sl_tup, itV_tup, itV_frz, list_tup, lit_big, Int.cast_ofNat_Int, enK_tup, aPair, cast_succ0, $xs,*])
theorem f11 (k : Nat) {ns : List Int} (hn : ns.length ≤ 63) : Ok (cF (k + 1) 11 [.frz (ns.map .int)] []) fun v h' => v = .ref 2 ∧ ∃ a, h' = [a, .lst (ns.map .int), srcD 0 0 0] := by
  rw [step_]
  refine (wE_run rfl).mpr ?_
  show wS (m11 (cF k) [some (.frz (ns.map .int)), none] []) _ _
  unfold m11
  have ct : cut (ns.map D.int) none (some 63) = ns.map D.int := by
    have := cut_0n (ns.map D.int) 63
    rw [List.take_of_length_le (by simpa using hn)] at this
    exact this
  have sl : slD (.frz (ns.map D.int)) none (some 63) [] = .ok (.ref 0) [DO.lst (ns.map D.int)] := by
    simp only [slD, ct]
    rfl
  have iv : itV (.ref 0) [DO.lst (ns.map D.int)] = .ok (.lst 0) [DO.lst (ns.map D.int)] := rfl
  simp_arith [sl, iv]
  rw [u_lcR_pure (fun d => [some (.frz (ns.map D.int)), some d]) (fun _ => true) (fun d => d) (ds := ns.map D.int) rfl (by simp; omega) ?_]
  · rw [List.filter_eq_self.mpr (fun _ _ => rfl), List.map_id']
    refine ⟨by have : big = 16777216 := rfl; simp; omega, ?_⟩
    simp_arith []
    have ks : keysOk [(D.str (tx "cells"), D.ref (List.length [DO.lst (ns.map D.int)])), (D.str (tx "spot"), D.int 0), (D.str (tx "rest"), D.int 0), (D.str (tx "count"), D.int 0)] = true := by simp [keysOk, keyD]
    refine ⟨ks, rfl, DO.lst (ns.map D.int), ?_⟩
    simp [mergeD, putD, keq, tx_cells, tx_spot, tx_rest, tx_count, srcD]
  · intro d m
    obtain ⟨i, _, rfl⟩ := List.mem_map.mp m
    refine ⟨rfl, rfl, fun _ => ?_⟩
    apply Ok.run
    simp_arith []
def heapOf : R D → DH
  | .ok _ h => h
  | _ => []
theorem f24 (u0 u1 u2 : DO) : cF 39 24 [] [u0, u1, u2] = .ok (.bl true) (u0 :: u1 :: u2 :: (heapOf (cF 39 24 [] [u0, u1, u2])).drop 3) := by
  rw [cF_eq]
  kernel_rfl
theorem el_letters {ls : Txt} (p : PT ls) : elB (.str ls) = true := by
  simp only [elB, Bool.and_eq_true, List.all_eq_true, decide_eq_true_eq]
  exact ⟨fun c m => let_lt c (p.ls c m), Nat.le_trans p.l5 (by decide)⟩
theorem stp_th {h : DH} {ls : Txt} {v : D} (s : Stp ls v) : ∃ p, Th h 1 1407 v p := by
  obtain ⟨_, _, es, rfl, l, e⟩ := s
  obtain ⟨p, t⟩ := row_th (h := h) e
  exact ⟨p, t.up (Nat.le_refl _) (by omega)⟩
theorem steps_th {h : DH} {ls : Txt} {ds : List D} (l : ds.length ≤ 8) (s : ∀ v ∈ ds, Stp ls v) : ∃ ps, ThL h 1 11264 ds ps := by
  obtain ⟨ps, t⟩ := thL_of (h := h) (k := 1) (w := 1407) fun v m => stp_th (s v m)
  exact ⟨ps, t.up (Nat.le_refl _) (by omega)⟩
theorem plan_th {h : DH} {v : D} (p : Plan v) : ∃ q, Th h 3 11500 v q := by
  obtain ⟨ls, ds, rfl, pt, _, l, s⟩ := p
  obtain ⟨ps, t⟩ := steps_th (h := h) l s
  obtain ⟨q, u⟩ := el_th (h := h) (el_letters pt)
  exact ⟨_, (Th.tup (ThL.cons (u.up (Nat.zero_le 2) (Nat.le_refl _)) (ThL.cons (Th.tup t) ThL.nil (w1 := 0)))).up (Nat.le_refl _) (by omega)⟩
theorem steps_ok {ls : Txt} : ∀ {ds : List D} (i : Nat), (∀ v ∈ ds, Stp ls v) → stepsF ls i ds = none
  | [], _, _ => rfl
  | d :: ds, i, s => by
    obtain ⟨a, b, _⟩ := s d List.mem_cons_self
    rw [stepsF, if_pos a, if_pos b]
    exact steps_ok (i + 1) fun v m => s v (List.mem_cons_of_mem _ m)
theorem plan_ok {v : D} (p : Plan v) : faultD v = none := by
  obtain ⟨ls, ds, rfl, pt, _, l, s⟩ := p
  rw [fault_pair, pt.nm, if_pos rfl]
  exact steps_ok 0 s
theorem stepsF_some {ns : Txt} {w : Txt} {j : Int} : ∀ {ds : List D} {i : Nat}, stepsF ns i ds = some (w, j) → (w = tx "step" ∨ w = tx "name") ∧ j.natAbs ≤ i + ds.length
  | [], _, e => by cases e
  | d :: ds, i, e => by
    rw [stepsF] at e
    split at e
    · split at e
      · have := stepsF_some e
        exact ⟨this.1, by have := this.2; rw [List.length_cons]; omega⟩
      · cases e
        exact ⟨.inr rfl, by rw [List.length_cons]; omega⟩
    · cases e
      exact ⟨.inl rfl, by rw [List.length_cons]; omega⟩
theorem el_word {w : Txt} (e : w = tx "shape" ∨ w = tx "names" ∨ w = tx "step" ∨ w = tx "name" ∨ w = tx "told" ∨ w = tx "paper") : elB (.str w) = true := by
  rcases e with rfl | rfl | rfl | rfl | rfl | rfl <;> decide +kernel
theorem fault_el {h : DH} {d : D} (a : Any h d) {w : Txt} {i : Int} (e : faultD d = some (w, i)) : elB (.str w) = true ∧ elB (.int i) = true := by
  have m1 : elB (.int (-1)) = true := by decide +kernel
  unfold faultD at e
  split at e
  · rename_i ns ds
    split at e
    · obtain ⟨e1, e2⟩ := stepsF_some e
      obtain ⟨k, w', ps, l, _, hw⟩ := (a.mem (d := .tup ds) (by simp)).list
      have := l.length
      refine ⟨el_word (by rcases e1 with q | q <;> simp [q]), ?_⟩
      simp only [elB]
      exact decide_eq_true (by omega)
    · cases e
      exact ⟨el_word (by simp), m1⟩
  · cases e
    exact ⟨el_word (by simp), m1⟩
theorem told_th {h : DH} {d : D} (a : Any h d) : ∃ p, Th h 1 603 (toldV d) p := by
  unfold toldV
  cases e : faultD d with
  | none =>
    have el : elB (.int (lenD d)) = true := by
      unfold lenD
      split
      · rename_i x ds
        obtain ⟨k, w', ps, l, _, hw⟩ := (a.mem (d := .tup ds) (by simp)).list
        have := l.length
        simp only [elB]
        exact decide_eq_true (by omega)
      · decide +kernel
    obtain ⟨p, t⟩ := row_th (h := h) (ds := [.str (tx "told"), .int (lenD d)]) (by
      intro x m
      simp at m
      rcases m with rfl | rfl
      · exact el_word (by simp)
      · exact el)
    exact ⟨p, t.up (Nat.le_refl _) (by simp)⟩
  | some q =>
    obtain ⟨w, i⟩ := q
    obtain ⟨e1, e2⟩ := fault_el a e
    obtain ⟨p, t⟩ := row_th (h := h) (ds := [.str (tx "paper"), .str w, .int i]) (by
      intro x m
      simp at m
      rcases m with rfl | rfl | rfl
      · exact el_word (by simp)
      · exact e1
      · exact e2)
    exact ⟨p, t.up (Nat.le_refl _) (by simp)⟩
end K65
namespace K65
open PySem DV L2
local macro_rules | `(tactic| simp_arith [$xs,*]) => `(tactic| simp only [wE_ok, wE_exc, wE_bad, wE_bind, wE_dbind, wE_if, wE_noX, ↓wS_seq, ↓wS_nil, ↓wS_pass, ↓wS_break, ↓wS_cont, ↓wS_expr, ↓wS_ret, ↓wS_retN, ↓wS_if, wG_some, wG_none, setAll, ↓wS_asg, ↓wS_par, ↓wS_set, ↓wS_raise, ↓wS_try, ↓wS_for, wS_nx, wS_rt, forI_items, forS_nil, ↓forS_cons, ↓u_varO, uO_some, ↓u_cst, ↓u_nil, ↓u_cons, ↓u_d2, ↓u_tru, ↓u_bl, ↓u_and, ↓u_or, ↓u_tand, ↓u_tor, ↓u_tnot, ↓u_not, ↓u_neg, ↓u_ite, ↓u_tup, ↓u_lst, ↓u_call, ↓u_callF, ↓u_meth, ↓u_sl, ↓u_pNone, ↓u_pSome, ↓u_rev, ↓u_dic0, ↓u_prs0, ↓u_prs, ↓u_dic, ↓u_iVal, ↓u_iEn, ↓u_iRng1, ↓u_lc, aName_run, List.set_cons_zero, List.set_cons_succ, List.getElem?_cons_zero, List.getElem?_cons_succ, List.append_nil, List.length_cons, List.length_nil, truD_bl, truD_non, truD_int, truD_tup, blD_bl, pInt, eqB_int, eqB_str, reduceIte, Nat.reduceAdd, Nat.zero_add, Nat.reduceLeDiff, true_and, and_true, Bool.not_true, Bool.not_false, Bool.false_eq_true, Bool.true_eq_false, decide_true, decide_false, isi_non_int, isi_non_bool, isi_non_str, isi_non_tuple, isi_non_list, isi_bl_int, isi_bl_bool, isi_bl_str, isi_bl_tuple, isi_bl_list, isi_int_int, isi_int_bool, isi_int_str, isi_int_tuple, isi_int_list, isi_str_int, isi_str_bool, isi_str_str, isi_str_tuple, isi_str_list, isi_tup_int, isi_tup_bool, isi_tup_str, isi_tup_tuple, isi_tup_list, isi_frz_int, isi_frz_bool, isi_frz_str, isi_frz_tuple, isi_frz_list, len_tup, len_frz, ix0, ix1, ix2, ix3, ix4, ix5, neg_int, add_int, sub_int, add_tup, is_non, in_cdt, in_chr, ord_int, mod_int, fdiv_int, int_int, DV.sl_tup, itV_tup, itV_frz, list_tup, lit_big, Int.cast_ofNat_Int, enK_tup, aPair, cast_succ0, $xs,*])
local macro_rules | `(tactic| simp_arith! [$xs,*]) => `(tactic| simp only [wE_ok, wE_exc, wE_bad, wE_bind, wE_dbind, wE_if, wE_noX, ↓wS_seq, ↓wS_nil, ↓wS_pass, ↓wS_break, ↓wS_cont, ↓wS_expr, ↓wS_ret, ↓wS_retN, wG_some, wG_none, setAll, ↓wS_asg, ↓wS_par, ↓wS_set, ↓wS_raise, ↓wS_try, wS_nx, wS_rt, forI_items, forS_nil, ↓u_varO, uO_some, ↓u_cst, ↓u_nil, ↓u_cons, ↓u_d2, ↓u_tru, ↓u_bl, ↓u_and, ↓u_or, ↓u_tand, ↓u_tor, ↓u_tnot, ↓u_not, ↓u_neg, ↓u_ite, ↓u_tup, ↓u_lst, ↓u_call, ↓u_callF, ↓u_meth, ↓u_sl, ↓u_pNone, ↓u_pSome, ↓u_rev, ↓u_dic0, ↓u_prs0, ↓u_prs, ↓u_dic, ↓u_iVal, ↓u_iEn, ↓u_iRng1, ↓u_lc, aName_run, List.set_cons_zero, List.set_cons_succ, List.getElem?_cons_zero, List.getElem?_cons_succ, List.append_nil, List.length_cons, List.length_nil, truD_bl, truD_non, truD_int, truD_tup, blD_bl, pInt, eqB_int, eqB_str, reduceIte, Nat.reduceAdd, Nat.zero_add, Nat.reduceLeDiff, true_and, and_true, Bool.not_true, Bool.not_false, Bool.false_eq_true, Bool.true_eq_false, decide_true, decide_false, isi_non_int, isi_non_bool, isi_non_str, isi_non_tuple, isi_non_list, isi_bl_int, isi_bl_bool, isi_bl_str, isi_bl_tuple, isi_bl_list, isi_int_int, isi_int_bool, isi_int_str, isi_int_tuple, isi_int_list, isi_str_int, isi_str_bool, isi_str_str, isi_str_tuple, isi_str_list, isi_tup_int, isi_tup_bool, isi_tup_str, isi_tup_tuple, isi_tup_list, isi_frz_int, isi_frz_bool, isi_frz_str, isi_frz_tuple, isi_frz_list, len_tup, len_frz, ix0, ix1, ix2, ix3, ix4, ix5, neg_int, add_int, sub_int, add_tup, is_non, in_cdt, in_chr, ord_int, mod_int, fdiv_int, int_int, DV.sl_tup, itV_tup, itV_frz, list_tup, lit_big, Int.cast_ofNat_Int, enK_tup, aPair, cast_succ0, $xs,*])
def LotI (hs : DH) (script plan : D) (c : Nat) (env : DV.Env) (h : DH) : Prop := ∃ x2 n L x5 x6 x7 x8 x9 x10 x11 x12, env = [some script, some (.ref 2), x2, some plan, some (.ref n), x5, x6, x7, x8, x9, x10, x11, x12] ∧ h[n]? = some (.lst L) ∧ L.length ≤ c ∧ (∀ d ∈ L, Any h d) ∧ Src h ∧ Kp hs h
theorem pair_th {h : DH} {a b : D} {w : Nat} {q : PyData} (e : elB a = true) (t : Th h 2 w b q) : ∃ p, Th h 3 (w + 202) (.tup [a, b]) p := by
  obtain ⟨p, u⟩ := el_th (h := h) e
  exact ⟨_, (Th.tup (ThL.cons (u.up (Nat.zero_le 2) (Nat.le_refl _)) (ThL.cons t ThL.nil (w1 := 0)))).up (Nat.le_refl _) (by omega)⟩
theorem el_any {h : DH} {a : D} (e : elB a = true) : Any h a := by
  obtain ⟨p, u⟩ := el_th (h := h) e
  exact u.any (by omega) (by omega)
theorem any_grow {h h' : DH} {L M : List D} (k : Kp h h') (a : ∀ d ∈ L, Any h d) (b : ∀ d ∈ M, Any h' d) : ∀ d ∈ L ++ M, Any h' d := fun d m => (List.mem_append.mp m).elim (fun m => (a d m).kp k) (b d)
theorem el_app {s t : Txt} (e1 : elB (.str s) = true) (e2 : elB (.str t) = true) (l : s.length + t.length ≤ 100) : elB (.str (s ++ t)) = true := by
  simp only [elB, Bool.and_eq_true, List.all_eq_true, decide_eq_true_eq] at e1 e2 ⊢
  exact ⟨fun c m => (List.mem_append.mp m).elim (e1.1 c) (e2.1 c), by simpa using l⟩
theorem el_take {s : Txt} (n : Nat) (e1 : elB (.str s) = true) : elB (.str (s.take n)) = true := by
  simp only [elB, Bool.and_eq_true, List.all_eq_true, decide_eq_true_eq] at e1 ⊢
  exact ⟨fun c m => e1.1 c (List.mem_of_mem_take m), by simp; omega⟩
theorem el_drop {s : Txt} (n : Nat) (e1 : elB (.str s) = true) : elB (.str (s.drop n)) = true := by
  simp only [elB, Bool.and_eq_true, List.all_eq_true, decide_eq_true_eq] at e1 ⊢
  exact ⟨fun c m => e1.1 c (List.mem_of_mem_drop m), by simp; omega⟩
theorem f25 (k : Nat) (h24 : ∀ u0 u1 u2 : DO, Ok (cF (k + 14) 24 [] [u0, u1, u2]) fun v h => v = .bl true ∧ ∃ x, h = u0 :: u1 :: u2 :: x) {ns : List Int} (hn : ns.length ≤ 63) : Ok (cF (k + 15) 25 [.frz (ns.map .int)] []) fun v _ => v = .bl true := by
  rw [step_]
  refine (wE_run rfl).mpr ?_
  show wS (m25 (cF (k + 14)) [some (.frz (ns.map .int)), none, none, none, none, none, none, none, none, none, none, none, none] []) _ _
  unfold m25
  generalize cF (k + 14) 24 = g24 at h24 ⊢
  simp_arith! []
  refine wE_of (f11 (k + 13) hn) ?_
  rintro v h0 ⟨rfl, a, rfl⟩
  generalize hS : D.frz (ns.map .int) = script
  simp_arith []
  refine wE_of (h24 a (.lst (ns.map .int)) (srcD 0 0 0)) ?_
  rintro v h0 ⟨rfl, x, rfl⟩
  have s0 : Src (a :: .lst (ns.map .int) :: srcD 0 0 0 :: x) := ⟨ns, 0, 0, 0, rfl, rfl⟩
  simp_arith []
  generalize a :: DO.lst (ns.map .int) :: srcD 0 0 0 :: x = h0 at s0
  refine ⟨2, rfl, by decide, ?_⟩
  refine wS_forS (fun i env h' => (∃ x2 x3 x4 x5 x6 x7 x8 x9 x10 x11 x12, env = [some script, some (.ref 2), x2, x3, x4, x5, x6, x7, x8, x9, x10, x11, x12]) ∧ Src h') ⟨⟨_, _, _, _, _, _, _, _, _, _, _, rfl⟩, s0⟩ ?_ ?_
  · rintro lap d env hA _ ⟨⟨x2, x3, x4, x5, x6, x7, x8, x9, x10, x11, x12, rfl⟩, sA⟩
    refine ⟨_, rfl, ?_⟩
    rw [wS_seq, wS_asg]
    simp_arith! []
    refine wE_of (f16 (k + 9) sA) ?_
    rintro plan h1 ⟨pv, s1, k1⟩
    obtain ⟨ls, ds, hp, pt, dl0, dl8, st⟩ := id pv
    have lb : ls.length ≤ big := Nat.le_trans pt.l5 (by decide)
    have hb : big = 16777216 := rfl
    have el := el_letters pt
    have stT : ∀ h, ∃ q, Th h 2 11264 (.tup ds) q := fun h => by
      obtain ⟨ps, t⟩ := steps_th (h := h) dl8 st
      exact ⟨_, Th.tup t⟩
    have prs : ∀ h a, elB a = true → Any h (.tup [a, .tup ds]) := fun h a e => by
      obtain ⟨q, t⟩ := stT h
      obtain ⟨p, u⟩ := pair_th e t
      exact u.any (by omega) (by omega)
    have plA : ∀ h, Any h plan := fun h => by
      obtain ⟨q, t⟩ := plan_th (h := h) pv
      exact t.any (by omega) (by omega)
    simp only [aName_run, wG_some, List.set_cons_succ, List.set_cons_zero]
    rw [wS_seq]
    refine wS_cut (LotI h1 script plan 5) ?_ ?_
    · subst hp
      have a1 := add_str_ok (s := ls) (t := ls.take 1) (h := h1) (by have := pt.l5; simp; omega)
      have c1 : cut ls none (some 1) = ls.take 1 := cut_0n ls 1
      simp_arith [sl_str lb, c1, a1, cut1n]
      refine ⟨_, _, _, _, _, _, _, _, _, _, _, rfl, app_get, by simp, ?_, s1.app.app.app, (Kp.app.trans Kp.app).trans Kp.app⟩
      intro d m
      simp only [List.mem_cons, List.not_mem_nil, or_false] at m
      rcases m with rfl | rfl | rfl | rfl | rfl
      · exact plA _
      · exact prs _ _ (el_app el (el_take 1 el) (by have := pt.l5; simp; omega))
      · exact prs _ _ (el_drop 1 el)
      · obtain ⟨q, u⟩ := el_th (h := h1 ++ [DO.lst [D.str ls, D.tup ds]] ++ [DO.lst ds] ++ [DO.lst [D.tup [D.str ls, D.tup ds], D.tup [D.str (ls ++ List.take 1 ls), D.tup ds], D.tup [D.str (List.drop 1 ls), D.tup ds], D.ref (List.length h1), D.tup [D.str ls, D.ref (List.length (h1 ++ [DO.lst [D.str ls, D.tup ds]]))]]]) el
        obtain ⟨q2, t⟩ := stT (h1 ++ [DO.lst [D.str ls, D.tup ds]] ++ [DO.lst ds] ++ [DO.lst [D.tup [D.str ls, D.tup ds], D.tup [D.str (ls ++ List.take 1 ls), D.tup ds], D.tup [D.str (List.drop 1 ls), D.tup ds], D.ref (List.length h1), D.tup [D.str ls, D.ref (List.length (h1 ++ [DO.lst [D.str ls, D.tup ds]]))]]])
        exact (Th.ref (app_l (app_l app_get)) (ThL.cons (u.up (Nat.zero_le 2) (Nat.le_refl _)) (ThL.cons t ThL.nil (w1 := 0)))).any (by omega) (by omega)
      · obtain ⟨ps, t⟩ := steps_th (h := h1 ++ [DO.lst [D.str ls, D.tup ds]] ++ [DO.lst ds] ++ [DO.lst [D.tup [D.str ls, D.tup ds], D.tup [D.str (ls ++ List.take 1 ls), D.tup ds], D.tup [D.str (List.drop 1 ls), D.tup ds], D.ref (List.length h1), D.tup [D.str ls, D.ref (List.length (h1 ++ [DO.lst [D.str ls, D.tup ds]]))]]]) dl8 st
        obtain ⟨p, u⟩ := pair_th el (Th.ref (app_l app_get) t)
        exact u.any (by omega) (by omega)
    rintro env h2 ⟨y2, n2, L2, y5, y6, y7, y8, y9, y10, y11, y12, rfl, e2, l2, a2, s2, k2⟩
    show wS _ _ ⟨⟩
    rw [wS_seq]
    refine wS_cut (LotI h1 script plan 9) ?_ ?_
    · subst hp
      simp_arith [list_str lb, tuple_str lb, tyD_str, upper_run (show ls.length ≤ 5592405 by have := pt.l5; omega)]
      refine wE_add (app_l (app_l e2)) app_get (by simp; omega) ?_
      simp_arith []
      refine ⟨_, _, _, _, _, _, _, _, _, _, _, rfl, app_get, by simp; omega, ?_, s2.app.app.app, k2.trans ((Kp.app.trans Kp.app).trans Kp.app)⟩
      refine any_grow ((Kp.app.trans Kp.app).trans Kp.app) a2 ?_
      intro d m
      obtain ⟨cp, ct⟩ := chars_th (h := h2 ++ [DO.lst (chars ls)] ++ [DO.lst [D.tup [D.ref (List.length h2), D.tup ds], D.tup [D.tup (chars ls), D.tup ds], D.tup ([D.str ls, D.tup ds] ++ [D.tup []]), D.tup [D.str (upperT ls), D.tup ds]]] ++ [DO.lst (L2 ++ [D.tup [D.ref (List.length h2), D.tup ds], D.tup [D.tup (chars ls), D.tup ds], D.tup ([D.str ls, D.tup ds] ++ [D.tup []]), D.tup [D.str (upperT ls), D.tup ds]])]) (t := ls) (fun c m => let_lt c (pt.ls c m))
      have l5 := pt.l5
      obtain ⟨q2, t⟩ := stT (h2 ++ [DO.lst (chars ls)] ++ [DO.lst [D.tup [D.ref (List.length h2), D.tup ds], D.tup [D.tup (chars ls), D.tup ds], D.tup ([D.str ls, D.tup ds] ++ [D.tup []]), D.tup [D.str (upperT ls), D.tup ds]]] ++ [DO.lst (L2 ++ [D.tup [D.ref (List.length h2), D.tup ds], D.tup [D.tup (chars ls), D.tup ds], D.tup ([D.str ls, D.tup ds] ++ [D.tup []]), D.tup [D.str (upperT ls), D.tup ds]])])
      simp only [List.mem_cons, List.not_mem_nil, or_false] at m
      rcases m with rfl | rfl | rfl | rfl
      · exact (Th.tup (ThL.cons ((Th.ref (app_l (app_l app_get)) ct).up (show 0 + 1 ≤ 2 by omega) (Nat.le_refl _)) (ThL.cons t ThL.nil (w1 := 0)))).any (by omega) (by omega)
      · exact (Th.tup (ThL.cons ((Th.tup ct).up (show 0 + 1 ≤ 2 by omega) (Nat.le_refl _)) (ThL.cons t ThL.nil (w1 := 0)))).any (by omega) (by omega)
      · obtain ⟨q, u⟩ := el_th (h := h2 ++ [DO.lst (chars ls)] ++ [DO.lst [D.tup [D.ref (List.length h2), D.tup ds], D.tup [D.tup (chars ls), D.tup ds], D.tup ([D.str ls, D.tup ds] ++ [D.tup []]), D.tup [D.str (upperT ls), D.tup ds]]] ++ [DO.lst (L2 ++ [D.tup [D.ref (List.length h2), D.tup ds], D.tup [D.tup (chars ls), D.tup ds], D.tup ([D.str ls, D.tup ds] ++ [D.tup []]), D.tup [D.str (upperT ls), D.tup ds]])]) el
        exact (Th.tup (ThL.cons (u.up (Nat.zero_le 2) (Nat.le_refl _)) (ThL.cons t (ThL.cons ((Th.tup ThL.nil (k := 0) (w := 0)).up (by omega) (Nat.le_refl _)) ThL.nil (w1 := 0))))).any (by omega) (by omega)
      · exact prs _ _ pt.up
    rintro env h3 ⟨y2, n3, L3, y5, y6, y7, y8, y9, y10, y11, y12, rfl, e3, l3, a3, s3, k3⟩
    show wS _ _ ⟨⟩
    rw [wS_seq]
    refine wS_cut (LotI h1 script plan 15) ?_ ?_
    · subst hp
      have t1 : (tx "1").length = 1 := by decide +kernel
      have a1 := add_str_ok (s := ls) (t := tx "1") (h := h3) (by have := pt.l5; omega)
      have dne : ds ≠ [] := by
        intro z
        rw [z] at dl0
        exact absurd dl0 (by decide)
      have mt := mul_tup (ds := ds) (i := 5) (h := h3) ⟨dne, by decide, by decide, by omega⟩
      simp_arith [a1, mt]
      refine wE_add (app_l e3) app_get (by simp; omega) ?_
      simp_arith []
      refine ⟨_, _, _, _, _, _, _, _, _, _, _, rfl, app_get, by simp; omega, ?_, s3.app.app, k3.trans (Kp.app.trans Kp.app)⟩
      refine any_grow (Kp.app.trans Kp.app) a3 ?_
      intro d m
      have nt : ∀ h a, elB a = true → Any h (.tup [a, .tup []]) := fun h a e => by
        obtain ⟨p, u⟩ := pair_th (h := h) e ((Th.tup ThL.nil (k := 0) (w := 0)).up (show 0 + 1 ≤ 2 by omega) (Nat.le_refl _))
        exact u.any (by omega) (by omega)
      simp only [List.mem_cons, List.not_mem_nil, or_false] at m
      rcases m with rfl | rfl | rfl | rfl | rfl | rfl
      · exact el_any rfl
      · exact nt _ _ el
      · exact nt _ _ (by decide +kernel)
      · exact prs _ _ (el_app el (by decide +kernel) (by have := pt.l5; omega))
      · obtain ⟨ps, t⟩ := steps_th (h := h3 ++ [DO.lst [D.non, D.tup [D.str ls, D.tup []], D.tup [D.int 3, D.tup []], D.tup [D.str (ls ++ tx "1"), D.tup ds], D.tup [D.str ls, D.tup (List.replicate (5 : Int).toNat ds).flatten], D.tup [D.str (tx ""), D.tup []]]] ++ [DO.lst (L3 ++ [D.non, D.tup [D.str ls, D.tup []], D.tup [D.int 3, D.tup []], D.tup [D.str (ls ++ tx "1"), D.tup ds], D.tup [D.str ls, D.tup (List.replicate (5 : Int).toNat ds).flatten], D.tup [D.str (tx ""), D.tup []]])]) dl8 st
        have fl : (List.replicate (5 : Int).toNat ds).flatten = ds ++ (ds ++ (ds ++ (ds ++ ds))) := by
          show (List.replicate 5 ds).flatten = _
          simp [List.replicate]
        rw [fl] at t ⊢
        obtain ⟨p, u⟩ := pair_th el (Th.tup (t.app (t.app (t.app (t.app t)))))
        exact u.any (by omega) (by omega)
      · exact nt _ _ (by decide +kernel)
    rintro env h4 ⟨y2, n4, L4, y5, y6, y7, y8, y9, y10, y11, y12, rfl, e4, l4, a4, s4, k4⟩
    show wS _ _ ⟨⟩
    rw [wS_seq]
    refine wS_cut (LotI h1 script plan 18) ?_ ?_
    · subst hp
      simp_arith []
      refine wE_add (app_l e4) app_get (by simp; omega) ?_
      simp_arith []
      refine ⟨_, _, _, _, _, _, _, _, _, _, _, rfl, app_get, by simp; omega, ?_, s4.app.app, k4.trans (Kp.app.trans Kp.app)⟩
      refine any_grow (Kp.app.trans Kp.app) a4 ?_
      intro d m
      simp only [List.mem_cons, List.not_mem_nil, or_false] at m
      rcases m with rfl | rfl | rfl
      · obtain ⟨q, t⟩ := stT (h4 ++ [DO.lst [D.tup ds, D.tup [D.str (tx "abcdefghijk"), D.tup ds], D.tup [D.str (tx ""), D.tup ds]]] ++ [DO.lst (L4 ++ [D.tup ds, D.tup [D.str (tx "abcdefghijk"), D.tup ds], D.tup [D.str (tx ""), D.tup ds]])])
        exact t.any (by omega) (by omega)
      · exact prs _ _ (by decide +kernel)
      · exact prs _ _ (by decide +kernel)
    rintro env h5 li5
    show wS _ _ ⟨⟩
    rw [wS_seq]
    refine wS_cut (LotI h1 script plan 42) ?_ ?_
    · obtain ⟨y2, n5, L5, y5, y6, y7, y8, y9, y10, y11, y12, rfl, e5, l5, a5, s5, k5⟩ := li5
      simp_arith []
      refine ⟨12, rfl, by decide, ?_⟩
      refine wS_forS (fun i env h' => LotI h1 script plan (18 + 2 * i) env h') ⟨y2, n5, L5, y5, y6, y7, y8, y9, y10, y11, y12, rfl, e5, l5, a5, s5, k5⟩ ?_ ?_
      · rintro i d env hB hd ⟨y2, n5, L5, y5, y6, y7, y8, y9, y10, y11, y12, rfl, e5, l5, a5, s5, k5⟩
        have li : i < 12 := by
          have := (List.getElem?_eq_some_iff.mp hd).1
          rw [rng_len] at this
          exact this
        refine ⟨_, rfl, ?_⟩
        simp_arith []
        obtain ⟨q, tp⟩ := plan_th (h := hB) pv
        refine wE_of (f22 3 (k + 14) tp s5 (by omega) (by omega) (by omega)) ?_
        rintro once h6 ⟨⟨q6, t6⟩, s6, k6⟩
        simp_arith []
        refine wE_of (f22 4 (k + 14) t6 s6 (by omega) (by omega) (by omega)) ?_
        rintro two h7 ⟨⟨q7, t7⟩, s7, k7⟩
        simp_arith []
        have e7 := k7 _ _ (k6 _ _ e5)
        refine wE_add (app_l e7) app_get (by simp; omega) ?_
        simp_arith []
        refine ⟨_, _, _, _, _, _, _, _, _, _, _, rfl, app_get, by simp; omega, ?_, s7.app.app, (k5.trans (k6.trans k7)).trans (Kp.app.trans Kp.app)⟩
        refine any_grow ((k6.trans k7).trans (Kp.app.trans Kp.app)) a5 ?_
        intro d m
        simp only [List.mem_cons, List.not_mem_nil, or_false] at m
        rcases m with rfl | rfl
        · exact (t6.kp (k7.trans (Kp.app.trans Kp.app))).any (by omega) (by omega)
        · exact (t7.kp (Kp.app.trans Kp.app)).any (by omega) (by omega)
      · intro env h' li
        exact li
    rintro env h6 ⟨y2, n6, L6, y5, y6, y7, y8, y9, y10, y11, y12, rfl, e6, l6, a6, s6, k6⟩
    show wS _ _ ⟨⟩
    rw [wS_seq]
    refine wS_cut (fun env h' => (∃ x2 x4 x5 x6 x7 x8 x9 x10 x11 x12, env = [some script, some (.ref 2), x2, some plan, x4, x5, x6, x7, x8, x9, x10, x11, x12]) ∧ Src h') ?_ ?_
    · simp_arith [itV_ref e6]
      refine wS_forR (fun i env h' => (∃ x7 x8 x9 x10, env = [some script, some (.ref 2), y2, some plan, some (.ref n6), y5, y6, x7, x8, x9, x10, y11, y12]) ∧ Src h' ∧ Kp h6 h') (by omega) ⟨⟨_, _, _, _, rfl⟩, s6, Kp.refl⟩ (fun i env h' I => I.2.2 _ _ e6) ?_ ?_
      · rintro i d env hB hd ⟨⟨x7, x8, x9, x10, rfl⟩, sB, kB⟩
        have ad : Any hB d := (a6 d (List.mem_of_getElem? hd)).kp kB
        refine ⟨_, rfl, ?_⟩
        simp_arith []
        refine wE_of (f21 (k + 10) ad) ?_
        rintro v hC ⟨rfl, pC⟩
        have kC := Kp.of_pre pC
        have aC := ad.kp kC
        have tC := aC
        obtain ⟨kk, ww, p, td, hk, hw⟩ := tC
        have r1 := td.repr (by omega) hw
        have sC : Src hC := by
          obtain ⟨y, rfl⟩ := pC
          exact sB.app
        cases ef : faultD d with
        | none =>
          have fv : faultV d = .non := by unfold faultV; rw [ef]
          have hpn : pairsN d := by
            by_cases z : pairsN d
            · exact z
            · rw [fault_shape z] at ef
              cases ef
          obtain ⟨ms, es, rfl⟩ := hpn
          have tv : toldV (.tup [.str ms, .tup es]) = .tup [.str (tx "told"), .int (es.length : Nat)] := by unfold toldV; rw [ef]; rfl
          simp_arith [r1, fv, DV.isNon]
          refine wE_of (f23 (k + 7) aC) ?_
          rintro v hD ⟨rfl, pD⟩
          have kD := Kp.of_pre pD
          obtain ⟨p2, t2⟩ := told_th (aC.kp kD)
          have r2 := t2.repr (by omega) (by omega)
          have r3 := (td.kp kD).repr (by omega) hw
          rw [tv] at r2
          simp_arith [tv, r2, r3]
          refine ⟨⟨_, _, _, _, rfl⟩, ?_, kB.trans (kC.trans kD)⟩
          obtain ⟨y, rfl⟩ := pD
          exact sC.app
        | some wi =>
          obtain ⟨fw, fi⟩ := wi
          have fv : faultV d = .tup [.str fw, .int fi] := by unfold faultV; rw [ef]
          have tv : toldV d = .tup [.str (tx "paper"), .str fw, .int fi] := by unfold toldV; rw [ef]
          simp_arith [r1, fv, DV.isNon]
          refine wE_of (f23 (k + 7) aC) ?_
          rintro v hD ⟨rfl, pD⟩
          have kD := Kp.of_pre pD
          obtain ⟨p2, t2⟩ := told_th (aC.kp kD)
          have r2 := t2.repr (by omega) (by omega)
          have r3 := (td.kp kD).repr (by omega) hw
          rw [tv] at r2
          simp_arith [tv, r2, r3]
          refine ⟨⟨_, _, _, _, rfl⟩, ?_, kB.trans (kC.trans kD)⟩
          obtain ⟨y, rfl⟩ := pD
          exact sC.app
      · rintro env h' ⟨⟨x7, x8, x9, x10, rfl⟩, sB, kB⟩
        exact ⟨⟨_, _, _, _, _, _, _, _, _, _, rfl⟩, sB⟩
    rintro env h7 ⟨⟨x2, x4, x5, x6, x7, x8, x9, x10, x11, x12, rfl⟩, s7⟩
    show wS _ _ ⟨⟩
    rw [wS_seq]
    refine wS_cut (fun env h' => (∃ x2 x4 x5 x6 x7 x8 x9 x10 x11 x12, env = [some script, some (.ref 2), x2, some plan, x4, x5, x6, x7, x8, x9, x10, x11, x12]) ∧ Src h') ?_ ?_
    · simp_arith []
      refine ⟨8, rfl, by decide, ?_⟩
      refine wS_forS (fun i env h' => (∃ x2 x4 x5 x6 x7 x8 x9 x10 x11 x12, env = [some script, some (.ref 2), x2, some plan, x4, x5, x6, x7, x8, x9, x10, x11, x12]) ∧ Src h') ⟨⟨_, _, _, _, _, _, _, _, _, _, rfl⟩, s7⟩ ?_ ?_
      · rintro i d env hB hd ⟨⟨x2, x4, x5, x6, x7, x8, x9, x10, x11, x12, rfl⟩, sB⟩
        refine ⟨_, rfl, ?_⟩
        simp_arith []
        refine wE_of (f14 (k + 11) sB) ?_
        rintro v1 g1 ⟨rg, t1, j1⟩
        obtain ⟨p1, th1⟩ : ∃ p, Th g1 1 402 v1 p := by
          obtain ⟨a, b, rfl, _, sa, sb⟩ := rg
          obtain ⟨p, u⟩ := row_th (h := g1) (ds := [a, b]) (by
            intro x m
            simp at m
            rcases m with rfl | rfl
            · exact el_sm sa
            · exact el_sm sb)
          exact ⟨p, u.up (Nat.le_refl _) (by simp)⟩
        simp_arith []
        refine wE_of (f22 1 (k + 14) th1 t1 (by omega) (by omega) (by omega)) ?_
        rintro one g2 ⟨⟨q2, th2⟩, t2, j2⟩
        have fg : ∀ x ∈ tx "fg", x ∈ letters := by decide +kernel
        simp_arith []
        refine wE_of (f15 fg (k + 10) t2 (by decide +kernel) (by decide +kernel)) ?_
        rintro v3 g3 ⟨sv, t3, j3⟩
        obtain ⟨p3, th3⟩ := stp_th (h := g3) sv
        simp_arith []
        refine wE_of (f22 1 (k + 14) th3 t3 (by omega) (by omega) (by omega)) ?_
        rintro two g4 ⟨⟨q4, th4⟩, t4, j4⟩
        have a1 : Any g4 one := (th2.kp (j3.trans j4)).any (by omega) (by omega)
        have a2 : Any g4 two := th4.any (by omega) (by omega)
        have e5 := f5 (k + 11) a1.ty (fun ds e x m => by subst e; exact (a1.mem m).ty)
        have e7 := f7 (k + 9) a2.ty (fun ds e x m => by subst e; exact okd_of (a2.mem m))
        have bb : ∀ (h : DH) (a b : Bool), ∃ ps, ThL h 0 2 [.bl a, .bl b] ps := fun h a b => ⟨_, (ThL.cons (Th.bl (w := 0)) (ThL.cons (Th.bl (w := 0)) ThL.nil (w1 := 0))).up (Nat.le_refl _) (by omega)⟩
        simp_arith [e5, e7]
        obtain ⟨bp, bt⟩ := bb (g4 ++ [DO.lst [.bl (isRngD one), .bl (isStepD two)]]) (isRngD one) (isStepD two)
        have r1 := (Th.ref app_get bt).repr (by omega) (by omega)
        simp_arith [r1]
        have a1' := a1.kp (Kp.app (x := [DO.lst [.bl (isRngD one), .bl (isStepD two)]]))
        obtain ⟨y1, e19⟩ := f19 (k + 12) a1'
        have a2' := (a2.kp (Kp.app (x := [DO.lst [.bl (isRngD one), .bl (isStepD two)]]))).kp (Kp.app (x := y1))
        obtain ⟨y2, e20⟩ := f20 (k + 11) a2'
        simp_arith [e19, e20]
        have bt2 : ThL (g4 ++ [DO.lst [.bl (isRngD one), .bl (isStepD two)]] ++ y1 ++ y2 ++ [DO.lst [.bl (isRngD one), .bl (isStepD two)]]) 0 2 [.bl (isRngD one), .bl (isStepD two)] bp := bt.kp ((Kp.app.trans Kp.app).trans Kp.app)
        have r2 := (Th.ref app_get bt2).repr (by omega) (by omega)
        simp_arith [r2]
        exact ⟨⟨_, _, _, _, _, _, _, _, _, _, rfl⟩, t4.app.app.app.app⟩
      · rintro env h' ⟨⟨x2, x4, x5, x6, x7, x8, x9, x10, x11, x12, rfl⟩, sB⟩
        exact ⟨⟨_, _, _, _, _, _, _, _, _, _, rfl⟩, sB⟩
    rintro env h8 ⟨⟨x2, x4, x5, x6, x7, x8, x9, x10, x11, x12, rfl⟩, s8⟩
    simp_arith []
    refine wE_of (f14 (k + 11) s8) ?_
    rintro v1 g1 ⟨rg, t1, j1⟩
    obtain ⟨p1, th1⟩ : ∃ p, Th g1 1 402 v1 p := by
      obtain ⟨a, b, rfl, _, sa, sb⟩ := rg
      obtain ⟨p, u⟩ := row_th (h := g1) (ds := [a, b]) (by
        intro x m
        simp at m
        rcases m with rfl | rfl
        · exact el_sm sa
        · exact el_sm sb)
      exact ⟨p, u.up (Nat.le_refl _) (by simp)⟩
    have a1 : Any g1 v1 := th1.any (by omega) (by omega)
    have e5 := f5 (k + 11) a1.ty (fun ds e x m => by subst e; exact (a1.mem m).ty)
    have rt : isRngD v1 = true := by
      obtain ⟨a, b, _, e, _⟩ := rg
      exact e
    rw [rt] at e5
    have ib : ∀ h, isB true (.bl true) (.bl true) h = .ok (.bl false) h := fun h => rfl
    simp_arith [e5, ib]
    refine wE_mono (f10 (k + 8) (plA g1)) ?_ ?_
    · rintro v g2 ⟨_, rfl, pG⟩
      have ld : lenD plan = (ds.length : Nat) := by rw [hp]; rfl
      have ix : ixD plan (.int 1) g2 = .ok (.tup ds) g2 := by rw [hp]; exact ix1
      simp_arith [ix, ld]
      refine ⟨⟨_, _, _, _, _, _, _, _, _, _, _, rfl⟩, ?_⟩
      obtain ⟨y, rfl⟩ := pG
      exact t1.app
    · rintro c as g2 ⟨_, w, i, ff, _⟩
      rw [plan_ok pv] at ff
      cases ff
  · rintro env h' ⟨⟨x2, x3, x4, x5, x6, x7, x8, x9, x10, x11, x12, rfl⟩, sA⟩
    simp_arith []
theorem f24p (u0 u1 u2 : DO) : ∃ x, cF 39 24 [] [u0, u1, u2] = .ok (.bl true) (u0 :: u1 :: u2 :: x) := Exists.intro _ (f24 u0 u1 u2)
theorem ok_of_ex {r : R D} {u0 u1 u2 : DO} (e : ∃ x, r = .ok (.bl true) (u0 :: u1 :: u2 :: x)) : Ok r fun v h => v = .bl true ∧ ∃ x, h = u0 :: u1 :: u2 :: x := by
  obtain ⟨x, rfl⟩ := e
  exact ⟨rfl, x, rfl⟩
theorem f24o : ∀ (u0 u1 u2 : DO), Ok (cF (25 + 14) 24 [] [u0, u1, u2]) fun v h => v = .bl true ∧ ∃ x, h = u0 :: u1 :: u2 :: x := by
  intro u0 u1 u2
  apply ok_of_ex
  exact f24p u0 u1 u2
theorem hmain (ns : List Int) (hn : ns.length ≤ 63) : ∃ h', callF 40 25 [.frz (ns.map D.int)] [] = .ok (.bl true) h' := by
  have z := (f25 25 f24o hn).eq
  rw [cF_eq] at z
  obtain ⟨v, h', e1, e2⟩ := z
  rw [e2] at e1
  exact ⟨h', e1⟩
end K65
namespace K65
open PySem PySem.Spec PyProof.Rows L2 DV
def loose : List Str := ([("__name__" : Str), ("ClimbError" : Str), ("PaperError" : Str), ("InvalidPaper" : Str), ("is_integer" : Str), ("is_end" : Str), ("LETTERS" : Str), ("STEP_PARTS" : Str), ("is_letter" : Str), ("is_letters" : Str), ("is_names" : Str), ("is_range" : Str), ("is_part" : Str), ("is_step" : Str), ("step_names" : Str), ("are_names_of" : Str), ("lets_names" : Str), ("_law_source" : Str), ("_law_pick" : Str), ("_law_any" : Str), ("_law_range" : Str), ("_law_step" : Str), ("_law_plan" : Str), ("_law_is_int" : Str), ("_law_is_letter" : Str), ("_law_is_range" : Str), ("_law_is_step" : Str), ("_law_fault" : Str), ("_law_bent" : Str), ("_law_told" : Str)] : List Str) ++ ([("_law_by_hand" : Str)] : List Str)
abbrev Rr : PySem.W.OpenRow := PySem.W.OpenLaw.row PySem.Challenge.rw_endclimbs_k65_programs_by_form
abbrev hk : PySem.W.Hook := hookV 4 fa fn ts ini ex
def ob (s : PySem.W.SharedT) : AlV := obV fa fn ts ini ex (frV 4 (HandSHeadRun.getT s))
theorem ob_eq (s : PySem.W.SharedT) : ob s = hk.obs s.abs := obV_eq (HandSHeadRun.getT_eq s)
theorem run (w : World) : HandSHeadRun.RunEq Rr (PySem.W.view Rr.prog [34]) hk ob 20000 loose w :=
  PySem.W.byRow2 "special-get-raises" (P := fun w => HandSHeadRun.RunEq Rr (PySem.W.view Rr.prog [34]) hk ob 20000 loose w) (fun w os => by kernel_rfl) (fun w os => by kernel_rfl) w
theorem ends (hmain : ∀ ns : List Int, ns.length ≤ 63 → ∃ h', callF 40 25 [.frz (ns.map D.int)] [] = .ok (.bl true) h') : PySem.Challenge.rw_endclimbs_k65_programs_by_form.Holds := by
  w_on; o_law
  refine HandSHeadRun.head_any (r := PySem.W.OpenLaw.row PySem.Challenge.rw_endclimbs_k65_programs_by_form) (q := PySem.W.view (PySem.W.OpenLaw.row PySem.Challenge.rw_endclimbs_k65_programs_by_form).prog [34]) (H := hk) (ob := ob) (M := 20000) (loose := loose) (d := HandSHeadRun.topDef (PySem.W.OpenLaw.row PySem.Challenge.rw_endclimbs_k65_programs_by_form).prog 34) (kwd := []) ob_eq
    (by kernel_rfl) (fun s => by kernel_rfl) run (by kernel_rfl) (by kernel_rfl) (by kernel_rfl) (by rfl) (by first | assumption | decide +kernel) (by decide +kernel) ⟨rfl, rfl, rfl, rfl, rfl, by decide +kernel⟩ ?hw ?hc
  case hw => w_witness2
  case hc =>
    refine walk_G (CXx := fun _ _ _ _ _ _ => False) (l := PySem.Challenge.rw_endclimbs_k65_programs_by_form) (n := 63) (k := 40) (x := ("_law_script" : Str)) rfl (by decide) (by kernel_rfl) ⟨rfl, by decide, by decide⟩ ?_
    intro w mg fa_ h Y G hmg0
    obtain ⟨K, KX, s⟩ := Y
    have hmg : mg ("law" : Str) = some (.ref fa_) := by
      have e : (HandSHeadRun.topDef (PySem.W.OpenLaw.row PySem.Challenge.rw_endclimbs_k65_programs_by_form).prog 34).name = ("law" : Str) := by kernel_rfl
      rw [← e]
      exact hmg0
    obtain ⟨fd, FD⟩ := s.d.def_ 25 (d := df25) rfl
    have FD : FunD K df25.name df25.qual df25.params df25.body df25.scope [] [] (He.fAd K df25.at_) fd := FD
    have ef := hmg.symm.trans (He.glo_ok KX G (s.d.fact 25 (f := .glo ("law" : Str)) rfl))
    cases ef
    refine ⟨K, fd, spF tabs ⟨K, w, P⟩ 1 (callF 40 25), CX P w, KX, bindA FD ("_law_script" : Str) (fun _ _ _ _ _ _ us hl => match us, hl with | [_], _ => rfl), fun H a ns hl _ hS => ?_, fun base hKb hGb => ?_, ?_⟩
    · obtain ⟨h', e⟩ := hmain ns hl
      exact sp_law hS e
    · exact fn_d (base := base) FD S25 fun cdv A outer s_ H E W wx b => b25 (fx_of KX G s (cals KX G s 39)) b
    · exact cx_no
end K65
theorem PySem.Challenge.cw_endclimbs_k65_programs_by_form_holds : PySem.Challenge.rw_endclimbs_k65_programs_by_form.Holds := by
  exact K65.ends K65.hmain
