import PyProof.Rows.All
import Wide.All
import OpenK.AllK
import Wide.FinOn
import HandS.Base
import HandS.Call
import HandS.List
import HandS.Comp
import HandS.Exc
import HandS.Words
import HandS.WordsExc
import HandS.TryOnly
import HandS.Lambda
import HandS.Wide
import HandS.TupAny
import HandS.TupMul
import HandS.Deep
import HandS.Conv
import HandS.More
import HandS.IsInst
import HandS.Dict
import HandS.Iter
import HandS.Text
import HandS.Style
import HandS.Rev
import HandS.Zip
import HandS.Codes
import HandS.Defaults
import HandS.MakeKwOnly
import HandS.HeadWalk
import KE.KExcSuper
import HandS.HeadHook1
import HandS.HeadHook2
import HandS.HeadHook3
import HandS.HeadHook4
import HandS.Head0
import HandS.Head1
import HandS.Head2
import HandS.HeadEnd
import HandS.EndTab
import HandS.GenList
import HandS.AnyAll
import KE.KRevSl
import PySem.Challenge.RW_raydrawer_k03_whole_matrices
set_option Elab.async false
set_option linter.all false
set_option maxRecDepth 100000
set_option maxHeartbeats 4000000
/-! A layer of plain data over the hand layer: values without addresses, a heap of what may change, denotations; each rule shown once. -/
namespace DL
open PySem PySem.Spec PyProof.Rows L2

/-- a value as data: tuples by their items, what may change by its number, a list that is only read by its items -/
inductive D where
  | non | bl (b : Bool) | int (i : Int) | str (x : Str) | tup (xs : List D) | rol (xs : List D) | obj (n : Nat)
/-- what may change -/
inductive MO where
  | lst (xs : List D)
  | dic (kvs : List (Str × D))
  | ins (c : Nat) (fs : List (Str × D))
abbrev DH := List MO
/-- an answer: a value and the heap behind it, an exception (its class by number, its field), or nothing is said -/
inductive Rs (α : Type) where
  | ok (a : α) (h : DH)
  | ex (c : Nat) (d : D) (h : DH)
  | bad
def Rs.bind {α β : Type} (r : Rs α) (k : α → DH → Rs β) : Rs β :=
  match r with
  | .ok a h => k a h
  | .ex c d h => .ex c d h
  | .bad => .bad
abbrev En := List (Option D)
abbrev De := En → DH → Rs D
abbrev Da := En → DH → Rs (List D)
/-- a statement's end -/
inductive Ss where
  | nx (ρ : En) (h : DH)
  | rt (d : D) (h : DH)
  | bk (ρ : En) (h : DH)
  | ct (ρ : En) (h : DH)
  | ex (c : Nat) (d : D) (h : DH)
  | bad
abbrev Ds := En → DH → Ss

/-- what is fixed: the written part, the tables of code objects, the classes of errors with their one field, the classes of instances -/
structure Gx where
  K : PySem.W.Frag
  tabs : List (Addr × Str)
  excs : List (Addr × Str)
  clss : List Addr

/-- a list that nobody writes -/
def RoL (K : PySem.W.Frag) (H : Hp) (a : Addr) (vs : List V) : Prop :=
  (∃ (o : Obj) (its : Array Value) (n : Nat), K.lookup a = some o ∧ o.cls = .type "list" ∧ o.dict = none ∧ o.data = .seq its n ∧ its.size ≤ sizeLine ∧ Vals vs its.toList) ∨ ∃ o, H a = some (.frz o (.lst vs))
theorem RoL.sq {K : PySem.W.Frag} {H : Hp} {a : Addr} {vs : List V} (h : RoL K H a vs) : SqL K H a vs := by
  rcases h with h | ⟨o, h⟩
  · exact .inr h
  · exact .inl (.inr ⟨o, h⟩)

mutual
def Rep (G : Gx) (A : List Addr) (H : Hp) : D → V → Prop
  | .non, v => v = .non
  | .bl b, v => v = .bl b
  | .int i, v => v = .int i
  | .str x, v => v = .str x
  | .tup ds, v => ∃ a vs, v = .ref a ∧ SqT G.K H a vs ∧ RepL G A H ds vs
  | .rol ds, v => ∃ a vs, v = .ref a ∧ RoL G.K H a vs ∧ RepL G A H ds vs
  | .obj n, v => ∃ a, A[n]? = some a ∧ v = .ref a
def RepL (G : Gx) (A : List Addr) (H : Hp) : List D → List V → Prop
  | [], vs => vs = []
  | d :: ds, vs => ∃ v r, vs = v :: r ∧ Rep G A H d v ∧ RepL G A H ds r
end

/-- what grows -/
structure Ex0 (G : Gx) (A : List Addr) (H : Hp) (A' : List Addr) (H' : Hp) : Prop where
  pre : ∃ B, A' = A ++ B
  tup : ∀ a vs, SqT G.K H a vs → SqT G.K H' a vs
  rol : ∀ a vs, RoL G.K H a vs → RoL G.K H' a vs
structure Ext (G : Gx) (A : List Addr) (H : Hp) (A' : List Addr) (H' : Hp) : Prop extends Ex0 G A H A' H' where
  own : ∀ a vs, H a = some (.lst vs) → a ∉ A → H' a = some (.lst vs) ∧ a ∉ A'
theorem Ext.refl {G : Gx} {A : List Addr} {H : Hp} : Ext G A H A H := ⟨⟨⟨[], by simp⟩, fun _ _ h => h, fun _ _ h => h⟩, fun _ _ h z => ⟨h, z⟩⟩
theorem Ext.trans {G : Gx} {A A1 A2 : List Addr} {H H1 H2 : Hp} (a : Ext G A H A1 H1) (b : Ext G A1 H1 A2 H2) : Ext G A H A2 H2 := by
  refine ⟨⟨?_, fun c vs h => b.tup c vs (a.tup c vs h), fun c vs h => b.rol c vs (a.rol c vs h)⟩, fun c vs h z => let ⟨h1, z1⟩ := a.own c vs h z; b.own c vs h1 z1⟩
  obtain ⟨B, rfl⟩ := a.pre
  obtain ⟨B', rfl⟩ := b.pre
  exact ⟨B ++ B', by simp⟩
theorem Ex0.at {G : Gx} {A A1 : List Addr} {H H1 : Hp} (e : Ex0 G A H A1 H1) {n : Nat} {a : Addr} (h : A[n]? = some a) : A1[n]? = some a := by
  obtain ⟨B, rfl⟩ := e.pre
  have hn := (List.getElem?_eq_some_iff.mp h).1
  rw [List.getElem?_append_left hn]
  exact h
mutual
theorem Rep.mono {G : Gx} {A A1 : List Addr} {H H1 : Hp} (e : Ex0 G A H A1 H1) : ∀ {d : D} {v : V}, Rep G A H d v → Rep G A1 H1 d v
  | .non, _, h => by simpa only [Rep] using h
  | .bl _, _, h => by simpa only [Rep] using h
  | .int _, _, h => by simpa only [Rep] using h
  | .str _, _, h => by simpa only [Rep] using h
  | .tup ds, v, h => by
    simp only [Rep] at h ⊢
    obtain ⟨a, vs, rfl, q, r⟩ := h
    exact ⟨a, vs, rfl, e.tup _ _ q, RepL.mono e r⟩
  | .rol ds, v, h => by
    simp only [Rep] at h ⊢
    obtain ⟨a, vs, rfl, q, r⟩ := h
    exact ⟨a, vs, rfl, e.rol _ _ q, RepL.mono e r⟩
  | .obj n, v, h => by
    simp only [Rep] at h ⊢
    obtain ⟨a, h1, rfl⟩ := h
    exact ⟨a, e.at h1, rfl⟩
theorem RepL.mono {G : Gx} {A A1 : List Addr} {H H1 : Hp} (e : Ex0 G A H A1 H1) : ∀ {ds : List D} {vs : List V}, RepL G A H ds vs → RepL G A1 H1 ds vs
  | [], _, h => by simpa only [RepL] using h
  | d :: ds, _, h => by
    simp only [RepL] at h ⊢
    obtain ⟨v, r, rfl, q, t⟩ := h
    exact ⟨v, r, rfl, Rep.mono e q, RepL.mono e t⟩
end
section
variable {G : Gx} {A : List Addr} {H : Hp}
theorem RepL.length : ∀ {ds : List D} {vs : List V}, RepL G A H ds vs → ds.length = vs.length
  | [], _, h => by simp only [RepL] at h; subst h; rfl
  | d :: ds, _, h => by
    simp only [RepL] at h
    obtain ⟨v, r, rfl, q, t⟩ := h
    simp only [List.length_cons, RepL.length t]
theorem RepL.get : ∀ {ds : List D} {vs : List V} {i : Nat} {d : D}, RepL G A H ds vs → ds[i]? = some d → ∃ v, vs[i]? = some v ∧ Rep G A H d v
  | [], _, _, _, _, e => by simp at e
  | d :: ds, _, i, d', h, e => by
    simp only [RepL] at h
    obtain ⟨v, r, rfl, q, t⟩ := h
    cases i with
    | zero =>
      simp only [List.getElem?_cons_zero, Option.some.injEq] at e
      subst e
      exact ⟨v, rfl, q⟩
    | succ i =>
      obtain ⟨w, e1, e2⟩ := RepL.get (i := i) t (by simpa using e)
      exact ⟨w, by simpa using e1, e2⟩
theorem RepL.nil : RepL G A H [] [] := by simp only [RepL]
theorem RepL.cons {d : D} {ds : List D} {v : V} {vs : List V} (h : Rep G A H d v) (t : RepL G A H ds vs) : RepL G A H (d :: ds) (v :: vs) := by
  simp only [RepL]
  exact ⟨v, vs, rfl, h, t⟩
theorem RepL.append : ∀ {ds es : List D} {vs ws : List V}, RepL G A H ds vs → RepL G A H es ws → RepL G A H (ds ++ es) (vs ++ ws)
  | [], _, _, _, h, t => by
    simp only [RepL] at h
    subst h
    simpa using t
  | d :: ds, _, _, _, h, t => by
    simp only [RepL] at h
    obtain ⟨v, r, rfl, q, u⟩ := h
    exact RepL.cons q (RepL.append u t)
theorem RepL.take : ∀ {ds : List D} {vs : List V} (n : Nat), RepL G A H ds vs → RepL G A H (ds.take n) (vs.take n)
  | [], _, _, h => by
    simp only [RepL] at h
    subst h
    simpa using RepL.nil
  | d :: ds, _, 0, h => by simpa using RepL.nil
  | d :: ds, _, n + 1, h => by
    simp only [RepL] at h
    obtain ⟨v, r, rfl, q, u⟩ := h
    exact RepL.cons q (RepL.take n u)
theorem RepL.drop : ∀ {ds : List D} {vs : List V} (n : Nat), RepL G A H ds vs → RepL G A H (ds.drop n) (vs.drop n)
  | [], _, _, h => by
    simp only [RepL] at h
    subst h
    simpa using RepL.nil
  | d :: ds, _, 0, h => by simpa using h
  | d :: ds, _, n + 1, h => by
    simp only [RepL] at h
    obtain ⟨v, r, rfl, q, u⟩ := h
    simpa using RepL.drop n u
theorem RepL.set {d : D} {v : V} (hd : Rep G A H d v) : ∀ {ds : List D} {vs : List V} (i : Nat), RepL G A H ds vs → RepL G A H (ds.set i d) (vs.set i v)
  | [], _, _, h => by
    simp only [RepL] at h
    subst h
    simpa using RepL.nil
  | e :: ds, _, 0, h => by
    simp only [RepL] at h
    obtain ⟨w, r, rfl, q, u⟩ := h
    exact RepL.cons hd u
  | e :: ds, _, i + 1, h => by
    simp only [RepL] at h
    obtain ⟨w, r, rfl, q, u⟩ := h
    exact RepL.cons q (RepL.set hd i u)
theorem RepL.reverse : ∀ {ds : List D} {vs : List V}, RepL G A H ds vs → RepL G A H ds.reverse vs.reverse
  | [], _, h => by
    simp only [RepL] at h
    subst h
    simpa using RepL.nil
  | e :: ds, _, h => by
    simp only [RepL] at h
    obtain ⟨w, r, rfl, q, u⟩ := h
    rw [List.reverse_cons, List.reverse_cons]
    exact RepL.append (RepL.reverse u) (RepL.cons q RepL.nil)
end

/-- an object that may change, at a -/
def MOk (G : Gx) (A : List Addr) (H : Hp) (a : Addr) : MO → Prop
  | .lst ds => ∃ vs, H a = some (.lst vs) ∧ RepL G A H ds vs
  | .dic kvs => ∃ vs, H a = some (.dK (kvs.map (·.1) |>.map Sum.inr |>.zip vs)) ∧ RepL G A H (kvs.map (·.2)) vs
  | .ins c fs => ∃ C dx vs, G.clss[c]? = some C ∧ H a = some (.ins C dx ((fs.map (·.1)).zip vs)) ∧ RepL G A H (fs.map (·.2)) vs
structure SimH (G : Gx) (A : List Addr) (h : DH) (H : Hp) : Prop where
  len : A.length = h.length
  nd : A.Nodup
  «at» : ∀ (n : Nat) (o : MO) (a : Addr), h[n]? = some o → A[n]? = some a → MOk G A H a o
  tabs : LamX.Tabs G.tabs H
def SimE (G : Gx) (A : List Addr) (H : Hp) (ρ : En) (σ : L2.St) : Prop :=
  ρ.length = σ.length ∧ ∀ (i : Nat) (d : D), ρ[i]? = some (some d) → ∃ v, σ[i]? = some (some v) ∧ Rep G A H d v
theorem SimE.mono {G : Gx} {A A1 : List Addr} {H H1 : Hp} {ρ : En} {σ : L2.St} (e : Ex0 G A H A1 H1) (h : SimE G A H ρ σ) : SimE G A1 H1 ρ σ :=
  ⟨h.1, fun i d q => let ⟨v, e1, e2⟩ := h.2 i d q; ⟨v, e1, e2.mono e⟩⟩
theorem SimE.set {G : Gx} {A : List Addr} {H : Hp} {ρ : En} {σ : L2.St} {d : D} {v : V} (i : Nat) (h : SimE G A H ρ σ) (r : Rep G A H d v) : SimE G A H (ρ.set i (some d)) (σ.set i (some v)) := by
  refine ⟨by rw [List.length_set, List.length_set]; exact h.1, fun j e q => ?_⟩
  by_cases hj : j = i
  · subst hj
    by_cases hl : j < ρ.length
    · rw [List.getElem?_set_self hl] at q
      cases q
      exact ⟨v, by rw [List.getElem?_set_self (by rw [← h.1]; exact hl)], r⟩
    · rw [List.getElem?_eq_none (by simp; omega)] at q
      cases q
  · rw [List.getElem?_set_ne (Ne.symm hj)] at q
    rw [List.getElem?_set_ne (Ne.symm hj)]
    exact h.2 j e q
/-- the exception c with the field d -/
def IsEx (G : Gx) (A : List Addr) (H : Hp) (c : Nat) (d : D) (cls : Value) (da : Option Addr) : Prop :=
  ∃ C f a v, G.excs[c]? = some (C, f) ∧ cls = .ref C ∧ da = some a ∧ H a = some (.xd [(f, v)]) ∧ Rep G A H d v

/-- the wish behind an answer -/
def Post {α β : Type} (G : Gx) (R : List Addr → Hp → α → β → Prop) (E : XK) (A : List Addr) (H : Hp) (r : Rs α) (Q : β → Hp → Prop) : Prop :=
  match r with
  | .ok a h => ∀ A' v H', Ext G A H A' H' → SimH G A' h H' → R A' H' a v → Q v H'
  | .ex c d h => ∀ A' cls da H', Ext G A H A' H' → SimH G A' h H' → IsEx G A' H' c d cls da → E cls da H'
  | .bad => False
section
variable {α β α' β' : Type} {G : Gx} {R : List Addr → Hp → α → β → Prop} {R' : List Addr → Hp → α' → β' → Prop} {E : XK} {A A1 : List Addr} {H H1 : Hp}
theorem Post.ext {r : Rs α} {Q : β → Hp → Prop} (e : Ext G A H A1 H1) (h : Post G R E A H r Q) : Post G R E A1 H1 r Q := by
  cases r with
  | ok a k => exact fun A' v H' e' => h A' v H' (e.trans e')
  | ex c d k => exact fun A' cls da H' e' => h A' cls da H' (e.trans e')
  | bad => exact h
theorem Post.mono {r : Rs α} {Q Q' : β → Hp → Prop} (m : ∀ v H, Q v H → Q' v H) (h : Post G R E A H r Q) : Post G R E A H r Q' := by
  cases r with
  | ok a k => exact fun A' v H' e s q => m _ _ (h A' v H' e s q)
  | ex c d k => exact h
  | bad => exact h
theorem Post.bind {r : Rs α} {k : α → DH → Rs α'} {Q : β' → Hp → Prop} (h : Post G R' E A H (r.bind k) Q) :
    Post G R E A H r fun v H1 => ∃ A1 h1 a, Ext G A H A1 H1 ∧ SimH G A1 h1 H1 ∧ R A1 H1 a v ∧ Post G R' E A1 H1 (k a h1) Q := by
  cases r with
  | ok a h1 => exact fun A' v H' e s q => ⟨A', h1, a, e, s, q, Post.ext e h⟩
  | ex c d k => exact h
  | bad => exact h
/-- the answer is had -/
theorem Post.now {a : α} {v : β} {h : DH} {Q : β → Hp → Prop} (s : SimH G A h H) (r : R A H a v) (p : Post G R E A H (.ok a h) Q) : Q v H := p A v H .refl s r
end

/-- the reading of a denotation -/
def TD (G : Gx) (E : XK) (f : De) : TE := fun σ H Q => ∃ A ρ h, SimH G A h H ∧ SimE G A H ρ σ ∧ Post G (Rep G) E A H (f ρ h) Q
def TDa (G : Gx) (E : XK) (f : Da) : TA := fun σ H Q => ∃ A ρ h, SimH G A h H ∧ SimE G A H ρ σ ∧ Post G (RepL G) E A H (f ρ h) Q
/-- a test's: the value is True or False -/
def asB (d : D) (h : DH) : Rs Bool := match d with
  | .bl b => .ok b h
  | _ => .bad
def RB (_ : List Addr) (_ : Hp) (a b : Bool) : Prop := b = a
def TDt (G : Gx) (E : XK) (f : De) : TT := fun σ H Q => ∃ A ρ h, SimH G A h H ∧ SimE G A H ρ σ ∧ Post G RB E A H ((f ρ h).bind asB) Q
def PostS (G : Gx) (E : XK) (A : List Addr) (H : Hp) (r : Ss) (W : Ends) : Prop :=
  match r with
  | .nx ρ h => ∀ A' σ' H', Ext G A H A' H' → SimH G A' h H' → SimE G A' H' ρ σ' → W.nx σ' H'
  | .rt d h => ∀ A' v H', Ext G A H A' H' → SimH G A' h H' → Rep G A' H' d v → W.rt v H'
  | .bk ρ h => ∀ A' σ' H', Ext G A H A' H' → SimH G A' h H' → SimE G A' H' ρ σ' → W.bk σ' H'
  | .ct ρ h => ∀ A' σ' H', Ext G A H A' H' → SimH G A' h H' → SimE G A' H' ρ σ' → W.ct σ' H'
  | .ex c d h => ∀ A' cls da H', Ext G A H A' H' → SimH G A' h H' → IsEx G A' H' c d cls da → E cls da H'
  | .bad => False
theorem PostS.ext {G : Gx} {E : XK} {A A1 : List Addr} {H H1 : Hp} {r : Ss} {W : Ends} (e : Ext G A H A1 H1) (h : PostS G E A H r W) : PostS G E A1 H1 r W := by
  cases r with
  | nx ρ k => exact fun A' v H' e' => h A' v H' (e.trans e')
  | rt ρ k => exact fun A' v H' e' => h A' v H' (e.trans e')
  | bk ρ k => exact fun A' v H' e' => h A' v H' (e.trans e')
  | ct ρ k => exact fun A' v H' e' => h A' v H' (e.trans e')
  | ex c d k => exact fun A' cls da H' e' => h A' cls da H' (e.trans e')
  | bad => exact h
def TDs (G : Gx) (E : XK) (g : Ds) : TS := fun W σ H => ∃ A ρ h, SimH G A h H ∧ SimE G A H ρ σ ∧ PostS G E A H (g ρ h) W

/-- the judgements -/
def DE (G : Gx) (E : XK) (X : Cx) (e : Expr) (f : De) : Prop := PE X e (TD G E f)
def DT (G : Gx) (E : XK) (X : Cx) (e : Expr) (f : De) : Prop := PT X e (TDt G E f)
def DA (G : Gx) (E : XK) (X : Cx) (es : List Expr) (f : Da) : Prop := PA X es (TDa G E f)
def DS (G : Gx) (E : XK) (X : Cx) (st : Stmt) (g : Ds) : Prop := PS X st (TDs G E g)
def DB (G : Gx) (E : XK) (X : Cx) (st : List Stmt) (g : Ds) : Prop := PSs X st (TDs G E g)
theorem pe_mono {X : Cx} {e : Expr} {t t' : TE} (h : PE X e t) (m : ∀ σ H Q, t' σ H Q → t σ H Q) : PE X e t' := ⟨fun pins s σ H Q I q => h.run pins s σ H Q I (m _ _ _ q)⟩
theorem pt_mono {X : Cx} {e : Expr} {t t' : TT} (h : PT X e t) (m : ∀ σ H Q, t' σ H Q → t σ H Q) : PT X e t' := ⟨fun pins s σ H Q I q => h.run pins s σ H Q I (m _ _ _ q)⟩
theorem pa_mono {X : Cx} {e : List Expr} {t t' : TA} (h : PA X e t) (m : ∀ σ H Q, t' σ H Q → t σ H Q) : PA X e t' := ⟨fun pos pins s σ H Q I q => h.run pos pins s σ H Q I (m _ _ _ q)⟩
theorem ps_mono {X : Cx} {e : Stmt} {t t' : TS} (h : PS X e t) (m : ∀ W σ H, t' W σ H → t W σ H) : PS X e t' := ⟨fun pins s σ H W I q => h.run pins s σ H W I (m _ _ _ q)⟩
theorem pss_mono {X : Cx} {e : List Stmt} {t t' : TS} (h : PSs X e t) (m : ∀ W σ H, t' W σ H → t W σ H) : PSs X e t' := ⟨fun pins s σ H W I q => h.run pins s σ H W I (m _ _ _ q)⟩
end DL
namespace DL
open PySem PySem.Spec PyProof.Rows L2
/-! ### heaps that grow, objects that are written -/
theorem sqT_grow {K : PySem.W.Frag} {H H' : Hp} (k : ∀ b o, H b = some o → H' b = some o) {a : Addr} {vs : List V} (h : SqT K H a vs) : SqT K H' a vs := by
  rcases h with (h | ⟨o, h⟩) | h
  · exact .inl (.inl (k _ _ h))
  · exact .inl (.inr ⟨o, k _ _ h⟩)
  · exact .inr h
theorem roL_grow {K : PySem.W.Frag} {H H' : Hp} (k : ∀ b o, H b = some o → H' b = some o) {a : Addr} {vs : List V} (h : RoL K H a vs) : RoL K H' a vs := by
  rcases h with h | ⟨o, h⟩
  · exact .inl h
  · exact .inr ⟨o, k _ _ h⟩
section
variable {G : Gx} {A : List Addr} {H H' : Hp} {h : DH} {p : Addr}
theorem Ext.grow (k : ∀ b o, H b = some o → H' b = some o) : Ext G A H A H' := ⟨⟨⟨[], by simp⟩, fun _ _ q => sqT_grow k q, fun _ _ q => roL_grow k q⟩, fun _ _ q z => ⟨k _ _ q, z⟩⟩
theorem MOk.grow {A' : List Addr} {o : MO} {a : Addr} (e : Ex0 G A H A' H') (k : ∀ o, H a = some o → H' a = some o) (q : MOk G A H a o) : MOk G A' H' a o := by
  cases o with
  | lst ds =>
    obtain ⟨vs, h1, h2⟩ := q
    exact ⟨vs, k _ h1, h2.mono e⟩
  | dic kvs =>
    obtain ⟨vs, h1, h2⟩ := q
    exact ⟨vs, k _ h1, h2.mono e⟩
  | ins c fs =>
    obtain ⟨C, dx, vs, h0, h1, h2⟩ := q
    exact ⟨C, dx, vs, h0, k _ h1, h2.mono e⟩
theorem SimH.grow (s : SimH G A h H) (k : ∀ b o, H b = some o → H' b = some o) : SimH G A h H' :=
  ⟨s.len, s.nd, fun n o a h1 h2 => (s.at n o a h1 h2).grow (Ext.grow k).toEx0 (k a), s.tabs.ext k⟩
theorem upd_grow {o : HO} (hp : H p = none) : ∀ b u, H b = some u → upd H p o b = some u := fun b u e => by
  rw [upd_ne (ne_of_none e hp)]
  exact e
/-- what stands at a number's address is tracked, of a kind that may be written -/
def isM : HO → Bool
  | .lst _ => true
  | .dK _ => true
  | .ins _ _ _ => true
  | _ => false
theorem MOk.tracked {o : MO} {a : Addr} (q : MOk G A H a o) : ∃ u, H a = some u ∧ isM u = true := by
  cases o with
  | lst ds => obtain ⟨vs, h1, _⟩ := q; exact ⟨_, h1, rfl⟩
  | dic kvs => obtain ⟨vs, h1, _⟩ := q; exact ⟨_, h1, rfl⟩
  | ins c fs => obtain ⟨C, dx, vs, _, h1, _⟩ := q; exact ⟨_, h1, rfl⟩
theorem SimH.tracked (s : SimH G A h H) {a : Addr} (ha : a ∈ A) : ∃ u, H a = some u ∧ isM u = true := by
  obtain ⟨n, hn⟩ := List.getElem?_of_mem ha
  have hl : n < h.length := by rw [← s.len]; exact (List.getElem?_eq_some_iff.mp hn).1
  exact (s.at n h[n] a (List.getElem?_eq_getElem hl) hn).tracked
theorem SimH.fresh (s : SimH G A h H) (hp : H p = none) : p ∉ A := fun z => by
  obtain ⟨u, e, _⟩ := s.tracked z
  rw [hp] at e
  cases e
/-- a new object of a number of its own -/
theorem SimH.push (s : SimH G A h H) (hp : H p = none) {o : MO} {u : HO} (hm : Ext G A H (A ++ [p]) (upd H p u) → MOk G (A ++ [p]) (upd H p u) p o) :
    Ext G A H (A ++ [p]) (upd H p u) ∧ SimH G (A ++ [p]) (h ++ [o]) (upd H p u) := by
  have e : Ext G A H (A ++ [p]) (upd H p u) := ⟨⟨⟨[p], rfl⟩, fun _ _ q => sqT_grow (upd_grow hp) q, fun _ _ q => roL_grow (upd_grow hp) q⟩, fun a vs q z => ⟨upd_grow hp _ _ q, fun w => by
    rcases List.mem_append.mp w with w | w
    · exact z w
    · simp only [List.mem_singleton] at w
      rw [w, hp] at q
      cases q⟩⟩
  refine ⟨e, ⟨by simp [s.len], ?_, fun n o' a h1 h2 => ?_, s.tabs.ext (upd_grow hp)⟩⟩
  · rw [List.nodup_append]
    refine ⟨s.nd, by simp, fun a ha b hb z => ?_⟩
    simp only [List.mem_singleton] at hb
    rw [hb] at z
    rw [z] at ha
    exact s.fresh hp ha
  · by_cases hn : n < A.length
    · rw [List.getElem?_append_left (by rw [← s.len]; exact hn)] at h1
      rw [List.getElem?_append_left hn] at h2
      exact (s.at n o' a h1 h2).grow e.toEx0 fun u' q => upd_grow hp _ _ q
    · have hl := (List.getElem?_eq_some_iff.mp h2).1
      rw [List.length_append, List.length_singleton] at hl
      have en : n = A.length := by omega
      subst en
      rw [List.getElem?_append_right (Nat.le_refl _), Nat.sub_self] at h2
      rw [s.len, List.getElem?_append_right (Nat.le_refl _), Nat.sub_self] at h1
      cases h1
      cases h2
      exact hm e
/-- an object is written -/
theorem SimH.put (s : SimH G A h H) {n : Nat} {a : Addr} (ha : A[n]? = some a) {o : MO} {u : HO} (hu : isM u = true) (hm : Ext G A H A (upd H a u) → MOk G A (upd H a u) a o) :
    Ext G A H A (upd H a u) ∧ SimH G A (h.set n o) (upd H a u) := by
  have hmem : a ∈ A := List.mem_of_getElem? ha
  obtain ⟨u0, e0, m0⟩ := s.tracked hmem
  have k : ∀ b w, H b = some w → isM w = false → upd H a u b = some w := fun b w e z => by
    rw [upd_ne fun q => ?_]
    · exact e
    · rw [q, e0] at e
      cases e
      rw [m0] at z
      cases z
  have e : Ext G A H A (upd H a u) := by
    refine ⟨⟨⟨[], by simp⟩, fun b vs q => ?_, fun b vs q => ?_⟩, fun b vs q z => ⟨by rw [upd_ne fun w => z (by rw [w]; exact hmem)]; exact q, z⟩⟩
    · rcases q with (q | ⟨w, q⟩) | q
      · exact .inl (.inl (k _ _ q rfl))
      · exact .inl (.inr ⟨w, k _ _ q rfl⟩)
      · exact .inr q
    · rcases q with q | ⟨w, q⟩
      · exact .inl q
      · exact .inr ⟨w, k _ _ q rfl⟩
  refine ⟨e, ⟨by simp [s.len], s.nd, fun m o' b h1 h2 => ?_, fun p hp => ?_⟩⟩
  · by_cases hmn : m = n
    · subst hmn
      rw [ha] at h2
      cases h2
      have hl : m < h.length := by rw [← s.len]; exact (List.getElem?_eq_some_iff.mp ha).1
      rw [List.getElem?_set_self hl] at h1
      cases h1
      exact hm e
    · rw [List.getElem?_set_ne (Ne.symm hmn)] at h1
      have hb : b ≠ a := fun z => hmn (by
        obtain ⟨l1, e1⟩ := List.getElem?_eq_some_iff.mp h2
        obtain ⟨l2, e2⟩ := List.getElem?_eq_some_iff.mp ha
        exact (List.getElem_inj s.nd).mp (e1.trans (z.trans e2.symm)))
      exact (s.at m o' b h1 h2).grow e.toEx0 fun w q => by rw [upd_ne hb]; exact q
  · obtain ⟨ps, t1, t2, t3⟩ := s.tabs p hp
    refine ⟨ps, k _ _ t1 rfl, t2, fun pos cv hc => ?_⟩
    obtain ⟨c, c1, c2⟩ := t3 pos cv hc
    exact ⟨c, c1, k _ _ c2 rfl⟩
end

/-! ### reading what is wished -/
section
variable {G : Gx} {E : XK} {A : List Addr} {H : Hp} {h : DH} {p : Addr}
/-- a new tuple -/
theorem post_tup (s : SimH G A h H) {ds : List D} {vs : List V} (r : RepL G A H ds vs) (hp : H p = none) {Q : VK} (q : Post G (Rep G) E A H (.ok (.tup ds) h) Q) : Q (.ref p) (upd H p (.tup vs)) := by
  have k := upd_grow (o := .tup vs) hp
  refine q A _ _ (.grow k) (s.grow k) ?_
  simp only [Rep]
  exact ⟨p, vs, rfl, .inl (.inl upd_same), r.mono (Ext.grow k).toEx0⟩
def alloc (o : MO) (h : DH) : Rs D := .ok (.obj h.length) (h ++ [o])
/-- a new list -/
theorem post_lst (s : SimH G A h H) {ds : List D} {vs : List V} (r : RepL G A H ds vs) (hp : H p = none) {Q : VK} (q : Post G (Rep G) E A H (alloc (.lst ds) h) Q) : Q (.ref p) (upd H p (.lst vs)) := by
  obtain ⟨e, s'⟩ := s.push hp (o := .lst ds) (u := .lst vs) fun e => ⟨vs, upd_same, r.mono e.toEx0⟩
  refine q _ _ _ e s' ?_
  simp only [Rep]
  refine ⟨p, ?_, rfl⟩
  rw [← s.len, List.getElem?_append_right (Nat.le_refl _), Nat.sub_self]
  rfl
/-- a list written; the answer is no object -/
theorem post_put (s : SimH G A h H) {n : Nat} {a : Addr} (ha : A[n]? = some a) {ds : List D} {vs : List V} (r : RepL G A H ds vs) {x : D} {v : V} {Q : VK} (hx : Ext G A H A (upd H a (.lst vs)) → Rep G A (upd H a (.lst vs)) x v)
    (q : Post G (Rep G) E A H (.ok x (h.set n (.lst ds))) Q) : Q v (upd H a (.lst vs)) := by
  obtain ⟨e, s'⟩ := s.put ha (o := .lst ds) (u := .lst vs) rfl fun e => ⟨vs, upd_same, r.mono e.toEx0⟩
  exact q _ _ _ e s' (hx e)
/-- a list, looked at -/
theorem SimH.lst (s : SimH G A h H) {n : Nat} {ds : List D} {v : V} (hn : h[n]? = some (.lst ds)) (r : Rep G A H (.obj n) v) : ∃ a vs, v = .ref a ∧ A[n]? = some a ∧ H a = some (.lst vs) ∧ RepL G A H ds vs := by
  simp only [Rep] at r
  obtain ⟨a, e, rfl⟩ := r
  obtain ⟨vs, h1, h2⟩ := s.at n _ a hn e
  exact ⟨a, vs, rfl, e, h1, h2⟩
theorem Rep.tup_ {ds : List D} {v : V} (r : Rep G A H (.tup ds) v) : ∃ a vs, v = .ref a ∧ SqT G.K H a vs ∧ RepL G A H ds vs := by simpa only [Rep] using r
theorem Rep.rol_ {ds : List D} {v : V} (r : Rep G A H (.rol ds) v) : ∃ a vs, v = .ref a ∧ RoL G.K H a vs ∧ RepL G A H ds vs := by simpa only [Rep] using r
theorem Rep.int_ {i : Int} {v : V} (r : Rep G A H (.int i) v) : v = .int i := by simpa only [Rep] using r
theorem Rep.bl_ {i : Bool} {v : V} (r : Rep G A H (.bl i) v) : v = .bl i := by simpa only [Rep] using r
theorem Rep.str_ {i : Str} {v : V} (r : Rep G A H (.str i) v) : v = .str i := by simpa only [Rep] using r
theorem Rep.non_ {v : V} (r : Rep G A H .non v) : v = .non := by simpa only [Rep] using r
theorem rep_int {i : Int} : Rep G A H (.int i) (.int i) := by simp only [Rep]
theorem rep_bl {i : Bool} : Rep G A H (.bl i) (.bl i) := by simp only [Rep]
theorem rep_str {i : Str} : Rep G A H (.str i) (.str i) := by simp only [Rep]
theorem rep_non : Rep G A H .non .non := by simp only [Rep]
/-- the items of what is read by places: a list, a tuple, a read-only list -/
def seqOf (d : D) (h : DH) : Option (List D) := match d with
  | .tup xs => some xs
  | .rol xs => some xs
  | .obj n => (match h[n]? with
    | some (.lst xs) => some xs
    | _ => none)
  | _ => none
theorem SimH.seq (s : SimH G A h H) {d : D} {v : V} {xs : List D} (r : Rep G A H d v) (e : seqOf d h = some xs) : ∃ a vs, v = .ref a ∧ (SqL G.K H a vs ∨ SqT G.K H a vs) ∧ RepL G A H xs vs := by
  cases d with
  | tup ds =>
    cases e
    obtain ⟨a, vs, rfl, q, t⟩ := r.tup_
    exact ⟨a, vs, rfl, .inr q, t⟩
  | rol ds =>
    cases e
    obtain ⟨a, vs, rfl, q, t⟩ := r.rol_
    exact ⟨a, vs, rfl, .inl q.sq, t⟩
  | obj n =>
    simp only [seqOf] at e
    split at e
    · rename_i ys hn
      cases e
      obtain ⟨a, vs, rfl, _, q, t⟩ := s.lst hn r
      exact ⟨a, vs, rfl, .inl (.inl (.inl q)), t⟩
    · cases e
  | _ => cases e
end

/-! ### one part, two parts -/
def eUn (o : D → DH → Rs D) (f : De) : De := fun ρ h => (f ρ h).bind o
def eBin (o : D → D → DH → Rs D) (f g : De) : De := fun ρ h => (f ρ h).bind fun x h1 => (g ρ h1).bind fun y h2 => o x y h2
def Op1 (G : Gx) (E : XK) (o : D → DH → Rs D) (x : V) (H : Hp) (Q : VK) : Prop := ∃ A h d, SimH G A h H ∧ Rep G A H d x ∧ Post G (Rep G) E A H (o d h) Q
def Op2 (G : Gx) (E : XK) (o : D → D → DH → Rs D) (x y : V) (H : Hp) (Q : VK) : Prop := ∃ A h d e, SimH G A h H ∧ Rep G A H d x ∧ Rep G A H e y ∧ Post G (Rep G) E A H (o d e h) Q
section
variable {G : Gx} {E : XK} {X : Cx} {a b e : Expr} {f g : De} {pos : Pos} {σ : L2.St} {H : Hp}
theorem td1 {o : D → DH → Rs D} {Q : VK} (t : TD G E (eUn o f) σ H Q) : TD G E f σ H fun x H1 => Op1 G E o x H1 Q := by
  obtain ⟨A, ρ, h, s, e, p⟩ := t
  refine ⟨A, ρ, h, s, e, Post.mono ?_ (Post.bind (R := Rep G) p)⟩
  rintro v H1 ⟨A1, h1, d, e1, s1, r1, p1⟩
  exact ⟨A1, h1, d, s1, r1, p1⟩
theorem td2 {o : D → D → DH → Rs D} {Q : VK} (t : TD G E (eBin o f g) σ H Q) : TD G E f σ H fun x H1 => TD G E g σ H1 fun y H2 => Op2 G E o x y H2 Q := by
  obtain ⟨A, ρ, h, s, e, p⟩ := t
  refine ⟨A, ρ, h, s, e, Post.mono ?_ (Post.bind (R := Rep G) p)⟩
  rintro v H1 ⟨A1, h1, d, e1, s1, r1, p1⟩
  refine ⟨A1, ρ, h1, s1, e.mono e1.toEx0, Post.mono ?_ (Post.bind (R := Rep G) p1)⟩
  rintro u H2 ⟨A2, h2, d2, e2, s2, r2, p2⟩
  exact ⟨A2, h2, d, d2, s2, r1.mono e2.toEx0, r2, p2⟩
theorem de_op {op : Operator} {r : R2} {o : D → D → DH → Rs D} (ho : OpR X (binaryOp op) r) (m : ∀ x y H Q, Op2 G E o x y H Q → r x y H Q) (ha : DE G E X a f) (hb : DE G E X b g) : DE G E X (.BinOp a op b pos) (eBin o f g) := by
  refine pe_mono (pe_op ho ha hb) fun σ H Q t => ?_
  obtain ⟨A, ρ, h, s, e, p⟩ := td2 t
  refine ⟨A, ρ, h, s, e, Post.mono (fun v H1 q => ?_) p⟩
  obtain ⟨A, ρ, h, s, e, p⟩ := q
  exact ⟨A, ρ, h, s, e, Post.mono (fun u H2 q => m _ _ _ _ q) p⟩
theorem de_cmp {op : CmpOp} {r : R2} {o : D → D → DH → Rs D} (ho : OpR X (compareOp op) r) (m : ∀ x y H Q, Op2 G E o x y H Q → r x y H Q) (hm : behindInMarks op b = false) (ha : DE G E X a f) (hb : DE G E X b g) : DE G E X (.Compare a [op] [b] pos) (eBin o f g) := by
  refine pe_mono (pe_cmpR ho ha hb hm) fun σ H Q t => ?_
  obtain ⟨A, ρ, h, s, e, p⟩ := td2 t
  refine ⟨A, ρ, h, s, e, Post.mono (fun v H1 q => ?_) p⟩
  obtain ⟨A, ρ, h, s, e, p⟩ := q
  exact ⟨A, ρ, h, s, e, Post.mono (fun u H2 q => m _ _ _ _ q) p⟩
end

/-! ### names, constants -/
def eVar (i : Nat) : De := fun ρ h => match ρ[i]? with
  | some (some d) => .ok d h
  | _ => .bad
def eC (d : D) : De := fun _ h => .ok d h
section
variable {G : Gx} {E : XK} {X : Cx} {pos : Pos}
theorem de_var (i : Nat) {x : Str} (hN : X.N[i]? = some x := by rfl) (hv : Vis X.env.scope x := by first | exact Or.inl rfl | exact Or.inr (Or.inl rfl) | exact Or.inr (Or.inr rfl)) (hd : (x == ("__debug__" : Str)) = false := by decide)
    (hcd : (x == ("__classdict__" : Str)) = false := by decide) : DE G E X (.Name x pos) (eVar i) := by
  refine pe_mono (pe_var hN hv hd hcd) fun σ H Q t => ?_
  obtain ⟨A, ρ, h, s, e, p⟩ := t
  unfold eVar at p
  split at p
  · rename_i d hd
    obtain ⟨v, e1, r⟩ := e.2 i d hd
    exact ⟨v, e1, p.now s r⟩
  · exact p.elim
theorem de_k {e : Expr} {v : V} {d : D} (h : PE X e (tC v)) (hr : ∀ A H, Rep G A H d v) : DE G E X e (eC d) := by
  refine pe_mono h fun σ H Q t => ?_
  obtain ⟨A, ρ, h, s, e, p⟩ := t
  exact p.now s (hr A H)
theorem de_int {i : Int} {j} : DE G E X (.Constant (.int i) j pos) (eC (.int i)) := de_k pe_int fun _ _ => rep_int
theorem de_bl {b : Bool} {j} : DE G E X (.Constant (.bool b) j pos) (eC (.bl b)) := de_k pe_bl fun _ _ => rep_bl
theorem de_non {j} : DE G E X (.Constant .none j pos) (eC .non) := de_k pe_non fun _ _ => rep_non
theorem de_str {x : Str} {j} : DE G E X (.Constant (.str x) j pos) (eC (.str x)) := de_k pe_str fun _ _ => rep_str
/-- a constant of the module -/
theorem de_glob {x : Str} {v : V} {u : Value} {d : D} (hm : X.mg x = some u) (r : RelV v u) (hr : ∀ A H, Rep G A H d v) (hg : Gl X x := by rfl) (hd : (x == ("__debug__" : Str)) = false := by decide) : DE G E X (.Name x pos) (eC d) := de_k (pe_glob hg hm r hd) hr
end

/-! ### arithmetic -/
/-- how large numbers may be -/
def big (i : Int) : Prop := i.natAbs.log2 < 400000
instance (i : Int) : Decidable (big i) := inferInstanceAs (Decidable (_ < _))
def lim : Nat := 1000000
def oAdd (x y : D) (h : DH) : Rs D := match x, y with
  | .int i, .int j => .ok (.int (i + j)) h
  | .str a, .str b => if a.length + b.length ≤ lim then .ok (.str (a ++ b)) h else .bad
  | .tup a, .tup b => if a.length + b.length ≤ lim then .ok (.tup (a ++ b)) h else .bad
  | .obj m, .obj n => (match h[m]?, h[n]? with
    | some (.lst a), some (.lst b) => if a.length + b.length ≤ lim then alloc (.lst (a ++ b)) h else .bad
    | _, _ => .bad)
  | _, _ => .bad
def oSub (x y : D) (h : DH) : Rs D := match x, y with
  | .int i, .int j => .ok (.int (i - j)) h
  | _, _ => .bad
def oMul (x y : D) (h : DH) : Rs D := match x, y with
  | .int i, .int j => if big i ∧ big j then .ok (.int (i * j)) h else .bad
  | .tup xs, .int k => if xs ≠ [] ∧ 2 ≤ k ∧ k ≤ 1000 ∧ xs.length ≤ 1000 then .ok (.tup (List.replicate k.toNat xs).flatten) h else .bad
  | _, _ => .bad
def oDiv (x y : D) (h : DH) : Rs D := match x, y with
  | .int i, .int j => if 0 < j ∧ j.natAbs.log2 < 9000 then .ok (.int (i / j)) h else .bad
  | _, _ => .bad
def oMod (x y : D) (h : DH) : Rs D := match x, y with
  | .int i, .int j => if 0 < j then .ok (.int (i % j)) h else .bad
  | _, _ => .bad
def oPow (x y : D) (h : DH) : Rs D := match x, y with
  | .int i, .int j => if 0 ≤ j ∧ j ≤ 1000 ∧ i.natAbs < 1000 then .ok (.int (i ^ j.toNat)) h else .bad
  | _, _ => .bad
theorem lim_le : lim ≤ sizeLine := by decide
theorem repL_rep {G : Gx} {A : List Addr} {H : Hp} {ds : List D} {vs : List V} (r : RepL G A H ds vs) : ∀ n : Nat, RepL G A H (List.replicate n ds).flatten (List.replicate n vs).flatten
  | 0 => by simpa using RepL.nil
  | n + 1 => by
    rw [List.replicate_succ, List.replicate_succ, List.flatten_cons, List.flatten_cons]
    exact r.append (repL_rep r n)
section
variable {G : Gx} {E : XK} {X : Cx} {a b : Expr} {f g : De} {pos : Pos}
theorem de_add (hK : X.K = G.K) (ha : DE G E X a f) (hb : DE G E X b g) : DE G E X (.BinOp a .Add b pos) (eBin oAdd f g) := by
  refine de_op (OpR.or (OpR.or op_add op_add_str) (OpR.or op_catA op_cat)) (fun x y H Q t => ?_) ha hb
  obtain ⟨A, h, d, e, s, r1, r2, p⟩ := t
  unfold oAdd at p
  split at p
  · rw [r1.int_, r2.int_]
    exact .inl (.inl ⟨_, _, rfl, rfl, p.now s rep_int⟩)
  · rw [r1.str_, r2.str_]
    split at p
    · rename_i hl
      exact .inl (.inr ⟨_, _, rfl, rfl, Nat.le_trans hl lim_le, p.now s rep_str⟩)
    · exact p.elim
  · obtain ⟨a1, vs, rfl, q1, t1⟩ := r1.tup_
    obtain ⟨a2, ws, rfl, q2, t2⟩ := r2.tup_
    split at p
    · rename_i hl
      rw [t1.length, t2.length] at hl
      refine .inr (.inl ⟨a1, a2, vs, ws, rfl, rfl, hK ▸ q1, hK ▸ q2, Nat.le_trans hl lim_le, fun ev => ?_, fun nv ew => ?_, fun nv nw c hc => ?_⟩)
      · subst ev
        refine p.now s ?_
        have e0 := t1.length
        have e1 := List.eq_nil_of_length_eq_zero (e0.trans rfl)
        subst e1
        rw [List.nil_append]
        exact r2
      · subst ew
        refine p.now s ?_
        have e0 := t2.length
        have e1 := List.eq_nil_of_length_eq_zero (e0.trans rfl)
        subst e1
        rw [List.append_nil]
        exact r1
      · exact post_tup s (t1.append t2) hc p
    · exact p.elim
  · split at p
    · rename_i h1 h2
      split at p
      · rename_i hl
        obtain ⟨a1, vs, rfl, _, q1, t1⟩ := s.lst h1 r1
        obtain ⟨a2, ws, rfl, _, q2, t2⟩ := s.lst h2 r2
        rw [t1.length, t2.length] at hl
        exact .inr (.inr ⟨a1, a2, vs, ws, rfl, rfl, q1, q2, Nat.le_trans hl lim_le, fun c hc => post_lst s (t1.append t2) hc p⟩)
      · exact p.elim
    · exact p.elim
  · exact p.elim
theorem de_sub (ha : DE G E X a f) (hb : DE G E X b g) : DE G E X (.BinOp a .Sub b pos) (eBin oSub f g) := by
  refine de_op op_sub (fun x y H Q t => ?_) ha hb
  obtain ⟨A, h, d, e, s, r1, r2, p⟩ := t
  unfold oSub at p
  split at p
  · rw [r1.int_, r2.int_]
    exact ⟨_, _, rfl, rfl, p.now s rep_int⟩
  · exact p.elim
theorem de_mul (hK : X.K = G.K) (ha : DE G E X a f) (hb : DE G E X b g) : DE G E X (.BinOp a .Mult b pos) (eBin oMul f g) := by
  refine de_op (OpR.or op_mulW op_repT) (fun x y H Q t => ?_) ha hb
  obtain ⟨A, h, d, e, s, r1, r2, p⟩ := t
  unfold oMul at p
  split at p
  · rw [r1.int_, r2.int_]
    split at p
    · rename_i hl
      exact .inl ⟨_, _, rfl, rfl, (by unfold CMulW; have h1 := hl.1; have h2 := hl.2; unfold big at h1 h2; omega), p.now s rep_int⟩
    · exact p.elim
  · rw [r2.int_]
    split at p
    · rename_i hl
      obtain ⟨l1, l2, l3, l4⟩ := hl
      obtain ⟨a1, vs, rfl, q1, t1⟩ := r1.tup_
      refine .inr ⟨a1, _, vs, rfl, rfl, hK ▸ q1, fun z => l1 ?_, l2, l3, by rw [← t1.length]; exact l4, fun c hc => post_tup s (repL_rep t1 _) hc p⟩
      subst z
      exact List.eq_nil_of_length_eq_zero (t1.length.trans rfl)
    · exact p.elim
  · exact p.elim
theorem de_div (ha : DE G E X a f) (hb : DE G E X b g) : DE G E X (.BinOp a .FloorDiv b pos) (eBin oDiv f g) := by
  refine de_op op_fdivW (fun x y H Q t => ?_) ha hb
  obtain ⟨A, h, d, e, s, r1, r2, p⟩ := t
  unfold oDiv at p
  split at p
  · rw [r1.int_, r2.int_]
    split at p
    · rename_i hl
      exact ⟨_, _, rfl, rfl, hl, p.now s rep_int⟩
    · exact p.elim
  · exact p.elim
theorem de_mod (ha : DE G E X a f) (hb : DE G E X b g) : DE G E X (.BinOp a .Mod b pos) (eBin oMod f g) := by
  refine de_op op_mod (fun x y H Q t => ?_) ha hb
  obtain ⟨A, h, d, e, s, r1, r2, p⟩ := t
  unfold oMod at p
  split at p
  · rw [r1.int_, r2.int_]
    split at p
    · rename_i hl
      exact ⟨_, _, rfl, rfl, hl, p.now s rep_int⟩
    · exact p.elim
  · exact p.elim
theorem de_pow (ha : DE G E X a f) (hb : DE G E X b g) : DE G E X (.BinOp a .Pow b pos) (eBin oPow f g) := by
  refine de_op op_pow (fun x y H Q t => ?_) ha hb
  obtain ⟨A, h, d, e, s, r1, r2, p⟩ := t
  unfold oPow at p
  split at p
  · rw [r1.int_, r2.int_]
    split at p
    · rename_i hl
      obtain ⟨l1, l2, l3⟩ := hl
      exact ⟨_, _, rfl, rfl, ⟨l1, by omega, by omega⟩, p.now s rep_int⟩
    · exact p.elim
  · exact p.elim
def oNeg (x : D) (h : DH) : Rs D := match x with
  | .int i => .ok (.int (-i)) h
  | _ => .bad
theorem de_neg (ha : DE G E X a f) : DE G E X (.UnaryOp .USub a pos) (eUn oNeg f) := by
  refine pe_mono (pe_un un_neg ha) fun σ H Q t => ?_
  obtain ⟨A, ρ, h, s, e, p⟩ := td1 t
  refine ⟨A, ρ, h, s, e, Post.mono (fun v H1 q => ?_) p⟩
  obtain ⟨A, h, d, s, r, p⟩ := q
  unfold oNeg at p
  split at p
  · rw [r.int_]
    exact ⟨_, rfl, p.now s rep_int⟩
  · exact p.elim
end
end DL
namespace DL
open PySem PySem.Spec PyProof.Rows L2
/-! ### data compared -/
def pyAll (f : D → Option PyData) : List D → Option (List PyData)
  | [] => some []
  | x :: xs => match f x, pyAll f xs with
    | some p, some ps => some (p :: ps)
    | _, _ => none
def pyOf (h : DH) : Nat → D → Option PyData
  | 0, _ => none
  | _ + 1, .non => some .none
  | _ + 1, .bl b => some (.bool b)
  | _ + 1, .int i => some (.int i)
  | _ + 1, .str x => some (.str x)
  | n + 1, .tup xs => (pyAll (pyOf h n) xs).map .tuple
  | n + 1, .rol xs => (pyAll (pyOf h n) xs).map .list
  | n + 1, .obj k => match h[k]? with
    | some (.lst xs) => (pyAll (pyOf h n) xs).map .list
    | _ => none
section
variable {G : Gx} {E : XK} {A : List Addr} {H : Hp} {h : DH}
theorem dp_all {f : D → Option PyData} (hf : ∀ d p v, f d = some p → Rep G A H d v → Dp G.K H v p) : ∀ {ds : List D} {ps : List PyData} {vs : List V}, pyAll f ds = some ps → RepL G A H ds vs → DpAll G.K H vs ps
  | [], _, _, e, r => by
    simp only [RepL] at r
    subst r
    cases e
    exact .nil
  | d :: ds, _, _, e, r => by
    simp only [RepL] at r
    obtain ⟨v, w, rfl, r1, r2⟩ := r
    unfold pyAll at e
    split at e
    · rename_i p ps e1 e2
      cases e
      exact .cons (hf _ _ _ e1 r1) (dp_all hf e2 r2)
    · cases e
theorem rep_py (s : SimH G A h H) : ∀ (n : Nat) (d : D) (p : PyData) (v : V), pyOf h n d = some p → Rep G A H d v → Dp G.K H v p
  | 0, _, _, _, e, _ => by simp [pyOf] at e
  | n + 1, .non, _, _, e, r => by
    simp only [pyOf, Option.some.injEq] at e
    rw [r.non_, ← e]
    exact .non
  | n + 1, .bl b, _, _, e, r => by
    simp only [pyOf, Option.some.injEq] at e
    rw [r.bl_, ← e]
    exact .bl b
  | n + 1, .int b, _, _, e, r => by
    simp only [pyOf, Option.some.injEq] at e
    rw [r.int_, ← e]
    exact .int b
  | n + 1, .str b, _, _, e, r => by
    simp only [pyOf, Option.some.injEq] at e
    rw [r.str_, ← e]
    exact .str b
  | n + 1, .tup xs, _, _, e, r => by
    simp only [pyOf] at e
    obtain ⟨ps, e1, rfl⟩ := Option.map_eq_some_iff.mp e
    obtain ⟨a, vs, rfl, q, t⟩ := r.tup_
    exact .tup q (dp_all (fun d p v z w => rep_py s n d p v z w) e1 t)
  | n + 1, .rol xs, _, _, e, r => by
    simp only [pyOf] at e
    obtain ⟨ps, e1, rfl⟩ := Option.map_eq_some_iff.mp e
    obtain ⟨a, vs, rfl, q, t⟩ := r.rol_
    exact .lst q.sq (dp_all (fun d p v z w => rep_py s n d p v z w) e1 t)
  | n + 1, .obj k, _, _, e, r => by
    simp only [pyOf] at e
    split at e
    · rename_i xs hk
      obtain ⟨ps, e1, rfl⟩ := Option.map_eq_some_iff.mp e
      obtain ⟨a, vs, rfl, _, q, t⟩ := s.lst hk r
      exact .lst (.inl (.inl q)) (dp_all (fun d p v z w => rep_py s n d p v z w) e1 t)
    · cases e
end
/-- a comparison by values -/
structure Cm (G : Gx) (E : XK) (X : Cx) (op : CmpOp) (o : D → D → DH → Rs D) : Prop where
  ex : ∃ r : R2, OpR X (compareOp op) r ∧ ∀ x y H Q, Op2 G E o x y H Q → r x y H Q
theorem asB_ok {G : Gx} {E : XK} {A : List Addr} {H : Hp} {h : DH} {d : D} {v : V} {Q : Bool → Hp → Prop} (s : SimH G A h H) (r : Rep G A H d v) (p : Post G RB E A H (asB d h) Q) : ∃ c, v = .bl c ∧ Q c H := by
  unfold asB at p
  split at p
  · exact ⟨_, r.bl_, p.now s rfl⟩
  · exact p.elim
theorem tdt_td {G : Gx} {E : XK} {f : De} {σ : L2.St} {H : Hp} {Q : Bool → Hp → Prop} (t : TDt G E f σ H Q) : TD G E f σ H fun v H1 => ∃ c, v = .bl c ∧ Q c H1 := by
  obtain ⟨A, ρ, h, s, e, p⟩ := t
  refine ⟨A, ρ, h, s, e, Post.mono ?_ (Post.bind (R := Rep G) p)⟩
  rintro v H1 ⟨A1, h1, d, e1, s1, r1, p1⟩
  exact asB_ok s1 r1 p1
theorem td_op {G : Gx} {E : XK} {f g : De} {σ : L2.St} {H : Hp} {Q : VK} {o : D → D → DH → Rs D} {r : R2} (m : ∀ x y H Q, Op2 G E o x y H Q → r x y H Q) (t : TD G E (eBin o f g) σ H Q) : tOp r (TD G E f) (TD G E g) σ H Q := by
  obtain ⟨A, ρ, h, s, e, p⟩ := td2 t
  refine ⟨A, ρ, h, s, e, Post.mono (fun v H1 q => ?_) p⟩
  obtain ⟨A, ρ, h, s, e, p⟩ := q
  exact ⟨A, ρ, h, s, e, Post.mono (fun u H2 q => m _ _ _ _ q) p⟩
section
variable {G : Gx} {E : XK} {X : Cx} {a b c : Expr} {f g : De} {pos : Pos} {op : CmpOp} {o : D → D → DH → Rs D}
theorem de_c (m : Cm G E X op o) (ha : DE G E X a f) (hb : DE G E X b g) (hm : behindInMarks op b = false := by first | exact nobehind _ (by decide) (by decide) | rfl) : DE G E X (.Compare a [op] [b] pos) (eBin o f g) := by
  obtain ⟨r, ho, m⟩ := m.ex
  exact pe_mono (pe_cmpR ho ha hb hm) fun σ H Q t => td_op m t
theorem dt_c (m : Cm G E X op o) (ha : DE G E X a f) (hb : DE G E X b g) (hm : behindInMarks op b = false := by first | exact nobehind _ (by decide) (by decide) | rfl) : DT G E X (.Compare a [op] [b] pos) (eBin o f g) := by
  obtain ⟨r, ho, m⟩ := m.ex
  exact pt_mono (pt_cmpR ho ha hb hm) fun σ H Q t => td_op m (tdt_td t)
end
/-- how deep it is looked -/
def deep : Nat := 20
def eqD (h : DH) (x y : D) : Option Bool := match x, y with
  | .int a, .int b => some (decide (a = b))
  | .str a, .str b => some (decide (a = b))
  | .bl a, .bl b => some (decide (a = b))
  | .non, .non => some true
  | .non, .str _ => some false
  | .str _, .non => some false
  | x, y => (match pyOf h deep x, pyOf h deep y with
    | some p, some q => if SeqAt.shaped p = true ∧ SeqAt.shaped q = true then some (PyData.eqv p q) else none
    | _, _ => none)
def oEq (x y : D) (h : DH) : Rs D := match eqD h x y with
  | some b => .ok (.bl b) h
  | none => .bad
def oNe (x y : D) (h : DH) : Rs D := match eqD h x y with
  | some b => .ok (.bl (!b)) h
  | none => .bad
section
variable {G : Gx} {E : XK} {X : Cx} {a b c : Expr} {f g : De} {pos : Pos}
theorem eqD_ok {A : List Addr} {H : Hp} {h : DH} {x y : D} {v w : V} {k : Bool} (s : SimH G A h H) (r1 : Rep G A H x v) (r2 : Rep G A H y w) (e : eqD h x y = some k) :
    (scal v w = true ∧ k = decide (v = w)) ∨ ∃ d e, Dp G.K H v d ∧ Dp G.K H w e ∧ SeqAt.shaped d = true ∧ SeqAt.shaped e = true ∧ k = PyData.eqv d e := by
  unfold eqD at e
  split at e
  · rw [r1.int_, r2.int_]
    cases e
    refine .inl ⟨rfl, ?_⟩
    rename_i i j
    by_cases z : i = j
    · subst z; simp
    · rw [decide_eq_false z, decide_eq_false (fun q => z (V.int.inj q))]
  · rw [r1.str_, r2.str_]
    cases e
    refine .inl ⟨rfl, ?_⟩
    rename_i i j
    by_cases z : i = j
    · subst z; simp
    · rw [decide_eq_false z, decide_eq_false (fun q => z (V.str.inj q))]
  · rw [r1.bl_, r2.bl_]
    cases e
    refine .inl ⟨rfl, ?_⟩
    rename_i i j
    by_cases z : i = j
    · subst z; simp
    · rw [decide_eq_false z, decide_eq_false (fun q => z (V.bl.inj q))]
  · rw [r1.non_, r2.non_]
    cases e
    exact .inl ⟨rfl, rfl⟩
  · rw [r1.non_, r2.str_]
    cases e
    exact .inl ⟨rfl, rfl⟩
  · rw [r1.str_, r2.non_]
    cases e
    exact .inl ⟨rfl, rfl⟩
  · split at e
    · rename_i p q e1 e2
      split at e
      · rename_i hs
        cases e
        exact .inr ⟨p, q, rep_py s _ _ _ _ e1 r1, rep_py s _ _ _ _ e2 r2, hs.1, hs.2, rfl⟩
      · cases e
    · cases e
theorem cm_eq (hK : X.K = G.K) (hu : X.A.units + 64 < cLine) : Cm G E X .Eq oEq := by
  refine ⟨_, OpR.or op_eq (op_eqD hu), fun x y H Q t => ?_⟩
  obtain ⟨A, h, d, e, s, r1, r2, p⟩ := t
  unfold oEq at p
  split at p
  · rename_i k hk
    rcases eqD_ok s r1 r2 hk with ⟨z, rfl⟩ | ⟨d, e, z1, z2, z3, z4, rfl⟩
    · exact .inl ⟨z, p.now s rep_bl⟩
    · exact .inr ⟨d, e, hK ▸ z1, hK ▸ z2, z3, z4, p.now s rep_bl⟩
  · exact p.elim
theorem cm_ne (hK : X.K = G.K) (hu : X.A.units + 64 < cLine) : Cm G E X .NotEq oNe := by
  refine ⟨_, OpR.or op_ne (op_neD hu), fun x y H Q t => ?_⟩
  obtain ⟨A, h, d, e, s, r1, r2, p⟩ := t
  unfold oNe at p
  split at p
  · rename_i k hk
    rcases eqD_ok s r1 r2 hk with ⟨z, rfl⟩ | ⟨d, e, z1, z2, z3, z4, rfl⟩
    · exact .inl ⟨z, p.now s rep_bl⟩
    · exact .inr ⟨d, e, hK ▸ z1, hK ▸ z2, z3, z4, p.now s rep_bl⟩
  · exact p.elim
/-! ints in order -/
def oCmp (q : Int → Int → Bool) (x y : D) (h : DH) : Rs D := match x, y with
  | .int i, .int j => .ok (.bl (q i j)) h
  | _, _ => .bad
abbrev oLt := oCmp fun i j => decide (i < j)
abbrev oLe := oCmp fun i j => decide (i ≤ j)
abbrev oGt := oCmp fun i j => decide (j < i)
abbrev oGe := oCmp fun i j => decide (j ≤ i)
theorem oCmp_ok {q : Int → Int → Bool} {x y : V} {H : Hp} {Q : VK} (t : Op2 G E (oCmp q) x y H Q) : rI0 (fun i j => .bl (q i j)) x y H Q := by
  obtain ⟨A, h, d, e, s, r1, r2, p⟩ := t
  unfold oCmp at p
  split at p
  · rw [r1.int_, r2.int_]
    exact ⟨_, _, rfl, rfl, p.now s rep_bl⟩
  · exact p.elim
theorem cm_lt : Cm G E X .Lt oLt := ⟨_, op_lt, fun _ _ _ _ t => oCmp_ok t⟩
theorem cm_le : Cm G E X .LtE oLe := ⟨_, op_le, fun _ _ _ _ t => oCmp_ok t⟩
theorem cm_gt : Cm G E X .Gt oGt := ⟨_, op_gt, fun _ _ _ _ t => oCmp_ok t⟩
theorem cm_ge : Cm G E X .GtE oGe := ⟨_, op_ge, fun _ _ _ _ t => oCmp_ok t⟩
/-! is None -/
def isNonD : D → Bool
  | .non => true
  | _ => false
def oIs (x y : D) (h : DH) : Rs D := match y with
  | .non => .ok (.bl (isNonD x)) h
  | _ => .bad
def oIsNot (x y : D) (h : DH) : Rs D := match y with
  | .non => .ok (.bl (!isNonD x)) h
  | _ => .bad
theorem isNon_rep {A : List Addr} {H : Hp} {d : D} {v : V} (r : Rep G A H d v) : isNonD d = decide (v = .non) := by
  cases d with
  | non => rw [r.non_]; rfl
  | bl _ => rw [r.bl_]; rfl
  | int _ => rw [r.int_]; rfl
  | str _ => rw [r.str_]; rfl
  | tup _ => obtain ⟨a, _, rfl, _⟩ := r.tup_; rfl
  | rol _ => obtain ⟨a, _, rfl, _⟩ := r.rol_; rfl
  | obj n =>
    simp only [Rep] at r
    obtain ⟨a, _, rfl⟩ := r
    rfl
theorem cm_is : Cm G E X .Is oIs := by
  refine ⟨_, op_isN, fun x y H Q t => ?_⟩
  obtain ⟨A, h, d, e, s, r1, r2, p⟩ := t
  unfold oIs at p
  split at p
  · refine ⟨r2.non_, ?_⟩
    rw [← isNon_rep r1]
    exact p.now s rep_bl
  · exact p.elim
theorem cm_isNot : Cm G E X .IsNot oIsNot := by
  refine ⟨_, op_notN, fun x y H Q t => ?_⟩
  obtain ⟨A, h, d, e, s, r1, r2, p⟩ := t
  unfold oIsNot at p
  split at p
  · refine ⟨r2.non_, ?_⟩
    rw [← isNon_rep r1]
    exact p.now s rep_bl
  · exact p.elim
/-! in a list, a tuple -/
def rInT (K : PySem.W.Frag) (neg : Bool) : R2 := fun x y H Q => ∃ d ds, Dp K H x d ∧ Dp K H y (.tuple ds) ∧ SeqAt.shaped d = true ∧ SeqAt.shaped (.tuple ds) = true ∧ Q (.bl (if neg then !ds.any fun z => PyData.eqv z d else ds.any fun z => PyData.eqv z d)) H
theorem op_inT (hu : X.A.units + 65 < cLine) : OpR X (compareOp .In) (rInT X.K false) := by
  intro pins s σ H x y v u Q I rx ry h
  obtain ⟨d, ds, hd, he, sd, se, q⟩ := h
  obtain ⟨as, r1⟩ := Dp.reads I d x v hd rx
  obtain ⟨bs, r2⟩ := Dp.reads I (.tuple ds) y u he ry
  exact SeqAt.in_tuple_reads r2 r1 (by have := SeqAt.canLay_of_shaped se; simpa only [PyData.canLay0] using this) (SeqAt.canLay_of_shaped sd) (room_in_shaped sd hu) ⟨.bl _, H, I, rfl, q⟩
theorem op_notInT (hu : X.A.units + 65 < cLine) : OpR X (compareOp .NotIn) (rInT X.K true) := by
  intro pins s σ H x y v u Q I rx ry h
  obtain ⟨d, ds, hd, he, sd, se, q⟩ := h
  obtain ⟨as, r1⟩ := Dp.reads I d x v hd rx
  obtain ⟨bs, r2⟩ := Dp.reads I (.tuple ds) y u he ry
  exact SeqAt.notIn_tuple_reads r2 r1 (by have := SeqAt.canLay_of_shaped se; simpa only [PyData.canLay0] using this) (SeqAt.canLay_of_shaped sd) (room_in_shaped sd hu) ⟨.bl _, H, I, rfl, q⟩
def inD (h : DH) (x y : D) : Option Bool := match pyOf h deep x, pyOf h deep y with
  | some d, some (.list ds) => if SeqAt.shaped d = true ∧ SeqAt.shaped (.list ds) = true then some (ds.any fun z => PyData.eqv z d) else none
  | some d, some (.tuple ds) => if SeqAt.shaped d = true ∧ SeqAt.shaped (.tuple ds) = true then some (ds.any fun z => PyData.eqv z d) else none
  | some (.str c), some (.str z) => if c.cps.size = 1 then some (decide (c.cps.getD 0 0 ∈ z.cps.toList)) else none
  | _, _ => none
def oIn (x y : D) (h : DH) : Rs D := match inD h x y with
  | some b => .ok (.bl b) h
  | none => .bad
def oNotIn (x y : D) (h : DH) : Rs D := match inD h x y with
  | some b => .ok (.bl (!b)) h
  | none => .bad
theorem str_one {c : Str} (h : c.cps.size = 1) : c = ⟨#[c.cps.getD 0 0]⟩ := by
  obtain ⟨⟨l⟩⟩ := c
  match l, h with
  | [x], _ => rfl
theorem inD_ok {A : List Addr} {H : Hp} {h : DH} {x y : D} {v w : V} {k : Bool} (s : SimH G A h H) (r1 : Rep G A H x v) (r2 : Rep G A H y w) (e : inD h x y = some k) :
    (∃ d ds, Dp G.K H v d ∧ Dp G.K H w (.list ds) ∧ SeqAt.shaped d = true ∧ SeqAt.shaped (.list ds) = true ∧ k = ds.any fun z => PyData.eqv z d) ∨
    (∃ d ds, Dp G.K H v d ∧ Dp G.K H w (.tuple ds) ∧ SeqAt.shaped d = true ∧ SeqAt.shaped (.tuple ds) = true ∧ k = ds.any fun z => PyData.eqv z d) ∨
    (∃ (c : Nat) (z : Str), v = .str ⟨#[c]⟩ ∧ w = .str z ∧ k = decide (c ∈ z.cps.toList)) := by
  unfold inD at e
  split at e
  · rename_i d ds e1 e2
    split at e
    · rename_i hs
      cases e
      exact .inl ⟨d, ds, rep_py s _ _ _ _ e1 r1, rep_py s _ _ _ _ e2 r2, hs.1, hs.2, rfl⟩
    · cases e
  · rename_i d ds e1 e2
    split at e
    · rename_i hs
      cases e
      exact .inr (.inl ⟨d, ds, rep_py s _ _ _ _ e1 r1, rep_py s _ _ _ _ e2 r2, hs.1, hs.2, rfl⟩)
    · cases e
  · rename_i c z e1 e2
    split at e
    · rename_i hs
      cases e
      have d1 := rep_py s _ _ _ _ e1 r1
      have d2 := rep_py s _ _ _ _ e2 r2
      cases d1
      cases d2
      exact .inr (.inr ⟨_, z, congrArg V.str (str_one hs), rfl, rfl⟩)
    · cases e
  · cases e
theorem cm_in (hK : X.K = G.K) (hu : X.A.units + 65 < cLine) : Cm G E X .In oIn := by
  refine ⟨_, OpR.or (op_inD hu) (OpR.or (op_inT hu) op_in_sign), fun x y H Q t => ?_⟩
  obtain ⟨A, h, d, e, s, r1, r2, p⟩ := t
  unfold oIn at p
  split at p
  · rename_i k hk
    rcases inD_ok s r1 r2 hk with ⟨d, ds, z1, z2, z3, z4, rfl⟩ | ⟨d, ds, z1, z2, z3, z4, rfl⟩ | ⟨c, z, rfl, rfl, rfl⟩
    · exact .inl ⟨d, ds, hK ▸ z1, hK ▸ z2, z3, z4, p.now s rep_bl⟩
    · exact .inr (.inl ⟨d, ds, hK ▸ z1, hK ▸ z2, z3, z4, p.now s rep_bl⟩)
    · exact .inr (.inr ⟨c, z, rfl, rfl, p.now s rep_bl⟩)
  · exact p.elim
theorem cm_notIn (hK : X.K = G.K) (hu : X.A.units + 65 < cLine) : Cm G E X .NotIn oNotIn := by
  refine ⟨_, OpR.or (op_notInD hu) (OpR.or (op_notInT hu) op_notIn_sign), fun x y H Q t => ?_⟩
  obtain ⟨A, h, d, e, s, r1, r2, p⟩ := t
  unfold oNotIn at p
  split at p
  · rename_i k hk
    rcases inD_ok s r1 r2 hk with ⟨d, ds, z1, z2, z3, z4, rfl⟩ | ⟨d, ds, z1, z2, z3, z4, rfl⟩ | ⟨c, z, rfl, rfl, rfl⟩
    · exact .inl ⟨d, ds, hK ▸ z1, hK ▸ z2, z3, z4, p.now s rep_bl⟩
    · exact .inr (.inl ⟨d, ds, hK ▸ z1, hK ▸ z2, z3, z4, p.now s rep_bl⟩)
    · exact .inr (.inr ⟨c, z, rfl, rfl, p.now s rep_bl⟩)
  · exact p.elim
/-! a chain of two -/
def eChain (q r : Int → Int → Bool) (f g k : De) : De := fun ρ h => (f ρ h).bind fun x h1 => (g ρ h1).bind fun y h2 => (oCmp q x y h2).bind fun z h3 => match z with
  | .bl true => (k ρ h3).bind fun w h4 => oCmp r y w h4
  | _ => .ok (.bl false) h3
theorem td_chain {k : De} {q r : Int → Int → Bool} {σ : L2.St} {H : Hp} {Q : VK} (t : TD G E (eChain q r f g k) σ H Q) : tChain (rI0 fun i j => .bl (q i j)) (rI0 fun i j => .bl (r i j)) (TD G E f) (TD G E g) (TD G E k) σ H Q := by
  obtain ⟨A, ρ, h, s, e, p⟩ := t
  refine ⟨A, ρ, h, s, e, Post.mono ?_ (Post.bind (R := Rep G) p)⟩
  rintro v H1 ⟨A1, h1, d, e1, s1, r1, p1⟩
  refine ⟨A1, ρ, h1, s1, e.mono e1.toEx0, Post.mono ?_ (Post.bind (R := Rep G) p1)⟩
  rintro u H2 ⟨A2, h2, d2, e2, s2, r2, p2⟩
  unfold oCmp at p2
  split at p2
  · rename_i i j
    have r1' := (r1.mono e2.toEx0).int_
    subst r1'
    have r2' := r2.int_
    subst r2'
    refine ⟨i, j, rfl, rfl, _, rfl, ?_⟩
    change Post G (Rep G) E A2 H2 (match (D.bl (q i j)) with | .bl true => (k ρ h2).bind fun w h4 => oCmp r (.int j) w h4 | _ => .ok (.bl false) h2) Q at p2
    cases hq : q i j with
    | true =>
      rw [hq] at p2
      rw [if_pos rfl]
      refine ⟨A2, ρ, h2, s2, (e.mono e1.toEx0).mono e2.toEx0, Post.mono ?_ (Post.bind (R := Rep G) p2)⟩
      rintro w H3 ⟨A3, h3, d3, e3, s3, r3, p3⟩
      exact oCmp_ok ⟨A3, h3, .int j, d3, s3, rep_int, r3, p3⟩
    | false =>
      rw [hq] at p2
      rw [if_neg Bool.false_ne_true]
      exact p2.now s2 rep_bl
  · exact p2.elim
theorem de_chain {k : De} {op op' : CmpOp} {q r : Int → Int → Bool} (ho : OpR X (compareOp op) (rI0 fun i j => .bl (q i j))) (ho' : OpR X (compareOp op') (rI0 fun i j => .bl (r i j))) (ha : DE G E X a f) (hb : DE G E X b g) (hc : DE G E X c k)
    (hm : lastMarks [op, op'] [b, c] = false := by with_unfolding_all rfl) : DE G E X (.Compare a [op, op'] [b, c] pos) (eChain q r f g k) := pe_mono (pe_chain ho ho' ha hb hc hm) fun σ H Q t => td_chain t
theorem dt_chain {k : De} {op op' : CmpOp} {q r : Int → Int → Bool} (ho : OpR X (compareOp op) (rI0 fun i j => .bl (q i j))) (ho' : OpR X (compareOp op') (rI0 fun i j => .bl (r i j))) (ha : DE G E X a f) (hb : DE G E X b g) (hc : DE G E X c k)
    (hm : lastMarks [op, op'] [b, c] = false := by with_unfolding_all rfl) : DT G E X (.Compare a [op, op'] [b, c] pos) (eChain q r f g k) := pt_mono (pt_chain ho ho' ha hb hc hm) fun σ H Q t => td_chain (tdt_td t)
end

/-! ### truth -/
def eAnd (f g : De) : De := fun ρ h => (f ρ h).bind fun x h1 => match x with
  | .bl true => g ρ h1
  | .bl false => .ok (.bl false) h1
  | _ => .bad
def eOr (f g : De) : De := fun ρ h => (f ρ h).bind fun x h1 => match x with
  | .bl true => .ok (.bl true) h1
  | .bl false => g ρ h1
  | _ => .bad
def oNot (x : D) (h : DH) : Rs D := match x with
  | .bl b => .ok (.bl (!b)) h
  | _ => .bad
def eIf (c f g : De) : De := fun ρ h => (c ρ h).bind fun x h1 => match x with
  | .bl true => f ρ h1
  | .bl false => g ρ h1
  | _ => .bad
theorem Rs.bind_assoc {α β γ : Type} (r : Rs α) (f : α → DH → Rs β) (g : β → DH → Rs γ) : (r.bind f).bind g = r.bind fun a h => (f a h).bind g := by
  cases r <;> rfl
section
variable {G : Gx} {E : XK} {X : Cx} {a b c e : Expr} {rest : List Expr} {f g k : De} {pos : Pos}
theorem de_one {op} (h : DE G E X a f) : DE G E X (.BoolOp op [a] pos) f := pe_one h
theorem de_and (ha : DE G E X a f) (hb : DE G E X (.BoolOp .And (b :: rest) pos) g) : DE G E X (.BoolOp .And (a :: b :: rest) pos) (eAnd f g) := by
  refine pe_mono (pe_and ha hb) fun σ H Q t => ?_
  obtain ⟨A, ρ, h, s, e, p⟩ := t
  refine ⟨A, ρ, h, s, e, Post.mono ?_ (Post.bind (R := Rep G) p)⟩
  rintro v H1 ⟨A1, h1, d, e1, s1, r1, p1⟩
  split at p1
  · refine ⟨true, r1.bl_, ?_⟩
    rw [if_pos rfl]
    exact ⟨A1, ρ, h1, s1, e.mono e1.toEx0, p1⟩
  · refine ⟨false, r1.bl_, ?_⟩
    rw [if_neg Bool.false_ne_true]
    exact p1.now s1 rep_bl
  · exact p1.elim
theorem de_or (ha : DE G E X a f) (hb : DE G E X (.BoolOp .Or (b :: rest) pos) g) : DE G E X (.BoolOp .Or (a :: b :: rest) pos) (eOr f g) := by
  refine pe_mono (pe_or ha hb) fun σ H Q t => ?_
  obtain ⟨A, ρ, h, s, e, p⟩ := t
  refine ⟨A, ρ, h, s, e, Post.mono ?_ (Post.bind (R := Rep G) p)⟩
  rintro v H1 ⟨A1, h1, d, e1, s1, r1, p1⟩
  split at p1
  · refine ⟨true, r1.bl_, ?_⟩
    rw [if_pos rfl]
    exact p1.now s1 rep_bl
  · refine ⟨false, r1.bl_, ?_⟩
    rw [if_neg Bool.false_ne_true]
    exact ⟨A1, ρ, h1, s1, e.mono e1.toEx0, p1⟩
  · exact p1.elim
theorem de_not (ha : DE G E X a f) : DE G E X (.UnaryOp .Not a pos) (eUn oNot f) := by
  refine pe_mono (pe_not ha) fun σ H Q t => ?_
  obtain ⟨A, ρ, h, s, e, p⟩ := td1 t
  refine ⟨A, ρ, h, s, e, Post.mono (fun v H1 q => ?_) p⟩
  obtain ⟨A, h, d, s, r, p⟩ := q
  unfold oNot at p
  split at p
  · exact ⟨_, r.bl_, p.now s rep_bl⟩
  · exact p.elim
theorem dt_val (ha : DE G E X e f) (he : ∀ whole, isTrue e X.env whole = (do let v ← whole; standAt e.pos; holding [v] (truthy v)) := by intro _; rfl) : DT G E X e f := pt_mono (pt_val ha he) fun σ H Q t => tdt_td t
/-- a chain of and, or as a test -/
def DW (G : Gx) (E : XK) (X : Cx) (e : Expr) (f : De) : Prop := PW X e (TDt G E f)
theorem DW.dt (h : DW G E X e f) : DT G E X e f := PW.pt h
theorem pw_mono {X : Cx} {e : Expr} {t t' : TT} (h : PW X e t) (m : ∀ σ H Q, t' σ H Q → t σ H Q) : PW X e t' := ⟨fun wh pins s σ H Q I q => h.run wh pins s σ H Q I (m _ _ _ q)⟩
theorem dw_and1 (ha : DT G E X a f) : DW G E X (.BoolOp .And [a] pos) f := pw_and1 ha
theorem dw_or1 (ha : DT G E X a f) : DW G E X (.BoolOp .Or [a] pos) f := pw_or1 ha
theorem dw_and (ha : DT G E X a f) (hb : DW G E X (.BoolOp .And (b :: rest) pos) g) : DW G E X (.BoolOp .And (a :: b :: rest) pos) (eAnd f g) := by
  refine pw_mono (pw_and ha hb) fun σ H Q t => ?_
  obtain ⟨A, ρ, h, s, e, p⟩ := t
  refine ⟨A, ρ, h, s, e, ?_⟩
  unfold eAnd at p
  rw [Rs.bind_assoc] at p
  cases hf : f ρ h with
  | ok d h1 =>
    rw [hf] at p
    change Post G RB E A H (Rs.bind (match d with
      | .bl true => g ρ h1
      | .bl false => .ok (.bl false) h1
      | _ => .bad) asB) Q at p
    split at p
    · intro A' v H' e' s' r'
      cases r'
      rw [if_pos rfl]
      exact ⟨A', ρ, h1, s', e.mono e'.toEx0, Post.ext e' p⟩
    · intro A' v H' e' s' r'
      cases r'
      rw [if_neg Bool.false_ne_true]
      exact (Post.ext e' p).now s' rfl
    · exact p.elim
  | ex c d h1 =>
    rw [hf] at p
    exact p
  | bad =>
    rw [hf] at p
    exact p.elim
theorem dw_or (ha : DT G E X a f) (hb : DW G E X (.BoolOp .Or (b :: rest) pos) g) : DW G E X (.BoolOp .Or (a :: b :: rest) pos) (eOr f g) := by
  refine pw_mono (pw_or ha hb) fun σ H Q t => ?_
  obtain ⟨A, ρ, h, s, e, p⟩ := t
  refine ⟨A, ρ, h, s, e, ?_⟩
  unfold eOr at p
  rw [Rs.bind_assoc] at p
  cases hf : f ρ h with
  | ok d h1 =>
    rw [hf] at p
    change Post G RB E A H (Rs.bind (match d with
      | .bl true => .ok (.bl true) h1
      | .bl false => g ρ h1
      | _ => .bad) asB) Q at p
    split at p
    · intro A' v H' e' s' r'
      cases r'
      rw [if_pos rfl]
      exact (Post.ext e' p).now s' rfl
    · intro A' v H' e' s' r'
      cases r'
      rw [if_neg Bool.false_ne_true]
      exact ⟨A', ρ, h1, s', e.mono e'.toEx0, Post.ext e' p⟩
    · exact p.elim
  | ex c d h1 =>
    rw [hf] at p
    exact p
  | bad =>
    rw [hf] at p
    exact p.elim
theorem dt_not (ha : DT G E X a f) : DT G E X (.UnaryOp .Not a pos) (eUn oNot f) := by
  refine pt_mono (pt_not ha) fun σ H Q t => ?_
  obtain ⟨A, ρ, h, s, e, p⟩ := t
  refine ⟨A, ρ, h, s, e, ?_⟩
  unfold eUn at p
  rw [Rs.bind_assoc] at p
  cases hf : f ρ h with
  | ok d h1 =>
    rw [hf] at p
    change Post G RB E A H ((oNot d h1).bind asB) Q at p
    unfold oNot at p
    split at p
    · intro A' v H' e' s' r'
      cases r'
      exact (Post.ext e' p).now s' rfl
    · exact p.elim
  | ex c d h1 =>
    rw [hf] at p
    exact p
  | bad =>
    rw [hf] at p
    exact p.elim
theorem de_if (hc : DT G E X c k) (ha : DE G E X a f) (hb : DE G E X b g) : DE G E X (.IfExp c a b pos) (eIf k f g) := by
  refine pe_mono (pe_ifExp hc ha hb) fun σ H Q t => ?_
  obtain ⟨A, ρ, h, s, e, p⟩ := t
  refine ⟨A, ρ, h, s, e, ?_⟩
  unfold eIf at p
  cases hf : k ρ h with
  | ok d h1 =>
    rw [hf] at p
    dsimp only [Rs.bind] at p
    split at p
    · intro A' v H' e' s' r'
      cases r'
      rw [if_pos rfl]
      exact ⟨A', ρ, h1, s', e.mono e'.toEx0, Post.ext e' p⟩
    · intro A' v H' e' s' r'
      cases r'
      rw [if_neg Bool.false_ne_true]
      exact ⟨A', ρ, h1, s', e.mono e'.toEx0, Post.ext e' p⟩
    · exact p.elim
  | ex c d h1 =>
    rw [hf] at p
    exact p
  | bad =>
    rw [hf] at p
    exact p.elim
end
end DL
namespace DL
open PySem PySem.Spec PyProof.Rows L2
/-! ### arguments, displays -/
def aNil : Da := fun _ h => .ok [] h
def aCons (f : De) (fs : Da) : Da := fun ρ h => (f ρ h).bind fun x h1 => (fs ρ h1).bind fun xs h2 => .ok (x :: xs) h2
def eTup (fs : Da) : De := fun ρ h => (fs ρ h).bind fun xs h1 => if xs.length ≤ lim then .ok (.tup xs) h1 else .bad
def eLst (fs : Da) : De := fun ρ h => (fs ρ h).bind fun xs h1 => if xs.length ≤ lim then alloc (.lst xs) h1 else .bad
section
variable {G : Gx} {E : XK} {X : Cx} {a b c e : Expr} {es : List Expr} {f g k : De} {fs : Da} {pos : Pos}
theorem da_nil : DA G E X [] aNil := by
  refine pa_mono pa_nil fun σ H Q t => ?_
  obtain ⟨A, ρ, h, s, e, p⟩ := t
  exact Post.now s RepL.nil p
theorem da_cons (ha : DE G E X e f) (hb : DA G E X es fs) (hs : starEach (e :: es) X.env = (false, eval e X.env) :: starEach es X.env := by rfl) : DA G E X (e :: es) (aCons f fs) := by
  refine pa_mono (pa_cons ha hb hs) fun σ H Q t => ?_
  obtain ⟨A, ρ, h, s, e, p⟩ := t
  refine ⟨A, ρ, h, s, e, Post.mono ?_ (Post.bind (R := Rep G) p)⟩
  rintro v H1 ⟨A1, h1, d, e1, s1, r1, p1⟩
  refine ⟨A1, ρ, h1, s1, e.mono e1.toEx0, Post.mono ?_ (Post.bind (R := RepL G) p1)⟩
  rintro u H2 ⟨A2, h2, d2, e2, s2, r2, p2⟩
  exact Post.now s2 (RepL.cons (r1.mono e2.toEx0) r2) p2
theorem de_tup {x1} (ha : DA G E X es fs) : DE G E X (.Tuple es x1 pos) (eTup fs) := by
  refine pe_mono (pe_tup ha) fun σ H Q t => ?_
  obtain ⟨A, ρ, h, s, e, p⟩ := t
  refine ⟨A, ρ, h, s, e, Post.mono ?_ (Post.bind (R := RepL G) p)⟩
  rintro v H1 ⟨A1, h1, d, e1, s1, r1, p1⟩
  split at p1
  · rename_i hl
    exact ⟨by rw [← r1.length]; exact Nat.le_trans hl lim_le, fun c hc => post_tup s1 r1 hc p1⟩
  · exact p1.elim
theorem de_lst (ha : DA G E X es fs) : DE G E X (.List es pos) (eLst fs) := by
  refine pe_mono (pe_lst ha) fun σ H Q t => ?_
  obtain ⟨A, ρ, h, s, e, p⟩ := t
  refine ⟨A, ρ, h, s, e, Post.mono ?_ (Post.bind (R := RepL G) p)⟩
  rintro v H1 ⟨A1, h1, d, e1, s1, r1, p1⟩
  split at p1
  · rename_i hl
    exact ⟨by rw [← r1.length]; exact Nat.le_trans hl lim_le, fun c hc => post_lst s1 r1 hc p1⟩
  · exact p1.elim
end

/-! ### subscripts -/
def oIx (x y : D) (h : DH) : Rs D := match y with
  | .int i => (match x with
    | .str z => if z.length ≤ lim then (match atI z.cps.toList i with
      | some c => .ok (.str ⟨#[c]⟩) h
      | none => .bad) else .bad
    | x => (match (seqOf x h).bind fun xs => atI xs i with
      | some d => .ok d h
      | none => .bad))
  | _ => .bad
theorem atI_rep {G : Gx} {A : List Addr} {H : Hp} {xs : List D} {vs : List V} {i : Int} {d : D} (r : RepL G A H xs vs) (e : atI xs i = some d) : ∃ v, atI vs i = some v ∧ Rep G A H d v := by
  unfold atI at e ⊢
  rw [← r.length]
  obtain ⟨j, e1, e2⟩ := Option.bind_eq_some_iff.mp e
  obtain ⟨v, e3, e4⟩ := r.get e2
  exact ⟨v, by rw [e1]; exact e3, e4⟩
section
variable {G : Gx} {E : XK} {X : Cx} {a b c e : Expr} {es : List Expr} {f g k : De} {fs : Da} {pos : Pos}
theorem ix_ok {A : List Addr} {H : Hp} {h : DH} {x : D} {i : Int} {d : D} {v : V} {Q : VK} (s : SimH G A h H) (r : Rep G A H x v) (e : ((seqOf x h).bind fun xs => atI xs i) = some d) (p : Post G (Rep G) E A H (.ok d h) Q) : rIx G.K v (.int i) H Q := by
  obtain ⟨xs, e1, e2⟩ := Option.bind_eq_some_iff.mp e
  obtain ⟨a, vs, rfl, q, t⟩ := s.seq r e1
  obtain ⟨w, e3, r3⟩ := atI_rep t e2
  rcases q with q | q
  · exact .inl ⟨a, vs, i, w, rfl, rfl, q, e3, p.now s r3⟩
  · exact .inr (.inl ⟨a, vs, i, w, rfl, rfl, q, e3, p.now s r3⟩)
theorem de_ix (hK : X.K = G.K) (ha : DE G E X a f) (hb : DE G E X b g) (hs : PlainIx b := by exact fun _ _ => rfl) : DE G E X (.Subscript a b pos) (eBin oIx f g) := by
  refine pe_mono (pe_ix ix_seq ha hb hs) fun σ H Q t => td_op (fun x y H Q t => ?_) t
  obtain ⟨A, h, d, e, s, r1, r2, p⟩ := t
  rw [hK]
  unfold oIx at p
  split at p
  · rw [r2.int_]
    split at p
    · split at p
      · rename_i hl
        split at p
        · rename_i c hc
          exact .inr (.inr ⟨_, _, c, r1.str_, rfl, Nat.le_trans hl lim_le, hc, p.now s rep_str⟩)
        · exact p.elim
      · exact p.elim
    · split at p
      · rename_i d' hd
        exact ix_ok s r1 hd p
      · exact p.elim
  · exact p.elim
end

/-! ### slices -/
def ePart (l : Option De) (ρ : En) (h : DH) : Rs (Option Int) := match l with
  | none => .ok none h
  | some f => (f ρ h).bind fun d h1 => match d with
    | .int i => .ok (some i) h1
    | _ => .bad
def cutL {α : Type} (xs : List α) (lo hi : Option Int) : List α := (xs.drop (HT.sIx xs.length 0 lo)).take (HT.sIx xs.length xs.length hi - HT.sIx xs.length 0 lo)
def oSl (x : D) (lo hi : Option Int) (h : DH) : Rs D := match x with
  | .tup xs => .ok (.tup (cutL xs lo hi)) h
  | .rol xs => alloc (.lst (cutL xs lo hi)) h
  | .str z => if z.length ≤ lim then .ok (.str (cutS z lo hi)) h else .bad
  | .obj n => (match h[n]? with
    | some (.lst xs) => alloc (.lst (cutL xs lo hi)) h
    | _ => .bad)
  | _ => .bad
def eSl (f : De) (l u : Option De) : De := fun ρ h => (f ρ h).bind fun x h1 => (ePart l ρ h1).bind fun lo h2 => (ePart u ρ h2).bind fun hi h3 => oSl x lo hi h3
def RO (_ : List Addr) (_ : Hp) (a b : Option Int) : Prop := b = a
def TDo (G : Gx) (E : XK) (l : Option De) : TO := fun σ H Q => ∃ A ρ h, SimH G A h H ∧ SimE G A H ρ σ ∧ Post G RO E A H (ePart l ρ h) Q
def DO (G : Gx) (E : XK) (X : Cx) (e : Option Expr) (l : Option De) : Prop := PO X e (TDo G E l)
theorem po_mono {X : Cx} {e : Option Expr} {t t' : TO} (h : PO X e t) (m : ∀ σ H Q, t' σ H Q → t σ H Q) : PO X e t' := ⟨fun pins s σ H Q I q => h.run pins s σ H Q I (m _ _ _ q)⟩
theorem cutL_rep {G : Gx} {A : List Addr} {H : Hp} {xs : List D} {vs : List V} (lo hi : Option Int) (r : RepL G A H xs vs) : RepL G A H (cutL xs lo hi) (cutV vs lo hi) := by
  unfold cutL cutV
  rw [← r.length]
  exact (r.drop _).take _
theorem cutL_all {α : Type} {xs : List α} {lo hi : Option Int} (h : HT.sIx xs.length 0 lo = 0 ∧ HT.sIx xs.length xs.length hi = xs.length) : cutL xs lo hi = xs := by
  unfold cutL
  rw [h.1, h.2]
  simp
section
variable {G : Gx} {E : XK} {X : Cx} {a b c e : Expr} {es : List Expr} {f g k : De} {fs : Da} {pos : Pos} {lo hi : Option Expr} {l u : Option De}
theorem do_none : DO G E X none none := by
  refine po_mono po_none fun σ H Q t => ?_
  obtain ⟨A, ρ, h, s, e, p⟩ := t
  exact Post.now s rfl p
theorem do_some (h : DE G E X e f) : DO G E X (some e) (some f) := by
  refine po_mono (po_some h) fun σ H Q t => ?_
  obtain ⟨A, ρ, h, s, e, p⟩ := t
  refine ⟨A, ρ, h, s, e, Post.mono ?_ (Post.bind (R := Rep G) p)⟩
  rintro v H1 ⟨A1, h1, d, e1, s1, r1, p1⟩
  split at p1
  · exact ⟨_, r1.int_, Post.now s1 rfl p1⟩
  · exact p1.elim
theorem de_sl {p2} (hK : X.K = G.K) (ha : DE G E X e f) (hl : DO G E X lo l) (hu : DO G E X hi u) : DE G E X (.Subscript e (.Slice lo hi none p2) pos) (eSl f l u) := by
  refine pe_mono (pe_slice (SlR.or sl_list (SlR.or sl_tupA sl_str)) ha hl hu) fun σ H Q t => ?_
  obtain ⟨A, ρ, h, s, e, p⟩ := t
  refine ⟨A, ρ, h, s, e, Post.mono ?_ (Post.bind (R := Rep G) p)⟩
  rintro v H1 ⟨A1, h1, d, e1, s1, r1, p1⟩
  refine ⟨A1, ρ, h1, s1, e.mono e1.toEx0, Post.mono ?_ (Post.bind (R := RO) p1)⟩
  rintro x H2 ⟨A2, h2, d2, e2, s2, r2, p2⟩
  refine ⟨A2, ρ, h2, s2, (e.mono e1.toEx0).mono e2.toEx0, Post.mono ?_ (Post.bind (R := RO) p2)⟩
  rintro y H3 ⟨A3, h3, d3, e3, s3, r3, p3⟩
  cases r2
  cases r3
  have r := (r1.mono e2.toEx0).mono e3.toEx0
  unfold oSl at p3
  split at p3
  · obtain ⟨t, vs, rfl, q, w⟩ := r.tup_
    refine .inr (.inl ⟨t, vs, rfl, hK ▸ q, fun z => ?_, fun z c hc => post_tup s3 (cutL_rep _ _ w) hc p3⟩)
    rw [← w.length] at z
    rw [cutL_all z] at p3
    exact p3.now s3 r
  · obtain ⟨t, vs, rfl, q, w⟩ := r.rol_
    exact .inl ⟨t, vs, rfl, hK ▸ q.sq, fun c hc => post_lst s3 (cutL_rep _ _ w) hc p3⟩
  · split at p3
    · rename_i hz
      exact .inr (.inr ⟨_, r.str_, Nat.le_trans hz lim_le, p3.now s3 rep_str⟩)
    · exact p3.elim
  · split at p3
    · rename_i xs hn
      obtain ⟨t, vs, rfl, _, q, w⟩ := s3.lst hn r
      exact .inl ⟨t, vs, rfl, .inl (.inl q), fun c hc => post_lst s3 (cutL_rep _ _ w) hc p3⟩
    · exact p3.elim
  · exact p3.elim
end

/-! ### what is left behind a def -/
mutual
def D.bel (n : Nat) : D → Bool
  | .tup xs => D.belL n xs
  | .rol xs => D.belL n xs
  | .obj k => decide (k < n)
  | _ => true
def D.belL (n : Nat) : List D → Bool
  | [] => true
  | x :: xs => D.bel n x && D.belL n xs
end
def MO.bel (n : Nat) : MO → Bool
  | .lst xs => D.belL n xs
  | .dic kvs => D.belL n (kvs.map (·.2))
  | .ins _ fs => D.belL n (fs.map (·.2))
mutual
theorem Rep.bel {G : Gx} {A : List Addr} {H : Hp} : ∀ {d : D} {v : V}, Rep G A H d v → D.bel A.length d = true
  | .non, _, _ => by simp only [D.bel]
  | .bl _, _, _ => by simp only [D.bel]
  | .int _, _, _ => by simp only [D.bel]
  | .str _, _, _ => by simp only [D.bel]
  | .tup ds, v, h => by
    simp only [Rep] at h
    obtain ⟨a, vs, rfl, q, r⟩ := h
    simp only [D.bel]
    exact RepL.bel r
  | .rol ds, v, h => by
    simp only [Rep] at h
    obtain ⟨a, vs, rfl, q, r⟩ := h
    simp only [D.bel]
    exact RepL.bel r
  | .obj n, v, h => by
    simp only [Rep] at h
    obtain ⟨a, h1, rfl⟩ := h
    simp only [D.bel]
    exact decide_eq_true (List.getElem?_eq_some_iff.mp h1).1
theorem RepL.bel {G : Gx} {A : List Addr} {H : Hp} : ∀ {ds : List D} {vs : List V}, RepL G A H ds vs → D.belL A.length ds = true
  | [], _, _ => by simp only [D.belL]
  | d :: ds, _, h => by
    simp only [RepL] at h
    obtain ⟨v, r, rfl, q, t⟩ := h
    simp only [D.belL, Bool.and_eq_true]
    exact ⟨Rep.bel q, RepL.bel t⟩
end
mutual
theorem Rep.cut {G : Gx} {A B : List Addr} {H : Hp} : ∀ {d : D} {v : V}, D.bel A.length d = true → Rep G (A ++ B) H d v → Rep G A H d v
  | .non, _, _, h => by simpa only [Rep] using h
  | .bl _, _, _, h => by simpa only [Rep] using h
  | .int _, _, _, h => by simpa only [Rep] using h
  | .str _, _, _, h => by simpa only [Rep] using h
  | .tup ds, v, b, h => by
    simp only [Rep] at h ⊢
    simp only [D.bel] at b
    obtain ⟨a, vs, rfl, q, r⟩ := h
    exact ⟨a, vs, rfl, q, RepL.cut b r⟩
  | .rol ds, v, b, h => by
    simp only [Rep] at h ⊢
    simp only [D.bel] at b
    obtain ⟨a, vs, rfl, q, r⟩ := h
    exact ⟨a, vs, rfl, q, RepL.cut b r⟩
  | .obj n, v, b, h => by
    simp only [Rep] at h ⊢
    simp only [D.bel] at b
    obtain ⟨a, h1, rfl⟩ := h
    have hn := of_decide_eq_true b
    rw [List.getElem?_append_left hn] at h1
    exact ⟨a, h1, rfl⟩
theorem RepL.cut {G : Gx} {A B : List Addr} {H : Hp} : ∀ {ds : List D} {vs : List V}, D.belL A.length ds = true → RepL G (A ++ B) H ds vs → RepL G A H ds vs
  | [], _, _, h => by simpa only [RepL] using h
  | d :: ds, _, b, h => by
    simp only [RepL] at h ⊢
    simp only [D.belL, Bool.and_eq_true] at b
    obtain ⟨v, r, rfl, q, t⟩ := h
    exact ⟨v, r, rfl, Rep.cut b.1 q, RepL.cut b.2 t⟩
end
theorem MOk.bel {G : Gx} {A : List Addr} {H : Hp} {a : Addr} {o : MO} (h : MOk G A H a o) : MO.bel A.length o = true := by
  cases o with
  | lst ds => obtain ⟨vs, _, r⟩ := h; exact r.bel
  | dic kvs => obtain ⟨vs, _, r⟩ := h; exact r.bel
  | ins c fs => obtain ⟨C, dx, vs, _, _, r⟩ := h; exact r.bel
theorem MOk.cut {G : Gx} {A B : List Addr} {H : Hp} {a : Addr} {o : MO} (b : MO.bel A.length o = true) (h : MOk G (A ++ B) H a o) : MOk G A H a o := by
  cases o with
  | lst ds => obtain ⟨vs, e, r⟩ := h; exact ⟨vs, e, r.cut b⟩
  | dic kvs => obtain ⟨vs, e, r⟩ := h; exact ⟨vs, e, r.cut b⟩
  | ins c fs => obtain ⟨C, dx, vs, e0, e, r⟩ := h; exact ⟨C, dx, vs, e0, e, r.cut b⟩
/-- nothing of what was there ahead names what is newer -/
def Shut (h0 h1 : DH) : Prop := h0.length ≤ h1.length ∧ ∀ (i : Nat) (o : MO), i < h0.length → h1[i]? = some o → h0[i]? = some o ∨ MO.bel h0.length o = true
open Classical in
/-- what is new is thrown away where nothing that stays names it -/
noncomputable def drop (h0 : DH) (d : D) (h1 : DH) : DH := if D.bel h0.length d = true ∧ Shut h0 h1 then h1.take h0.length else h1
noncomputable def finish (h0 : DH) : Ss → Rs D
  | .nx _ h => .ok .non (drop h0 .non h)
  | .rt d h => .ok d (drop h0 d h)
  | .ex c d h => .ex c d (drop h0 d h)
  | _ => .bad
theorem drop_same {h0 h1 : DH} {d : D} (h : h1.length = h0.length) : drop h0 d h1 = h1 := by
  unfold drop
  split
  · rw [← h, List.take_length]
  · rfl
theorem drop_app {h0 j : DH} {d : D} (hd : D.bel h0.length d = true) : drop h0 d (h0 ++ j) = h0 := by
  unfold drop
  rw [if_pos, List.take_left']
  · rfl
  · refine ⟨hd, by simp, fun i o hi e => .inl ?_⟩
    rw [List.getElem?_append_left hi] at e
    exact e
theorem drop_set {h0 j : DH} {d : D} {k : Nat} {o : MO} (hd : D.bel h0.length d = true) (ho : MO.bel h0.length o = true) : drop h0 d (h0.set k o ++ j) = h0.set k o := by
  unfold drop
  rw [if_pos]
  · rw [List.take_left']
    simp
  · refine ⟨hd, by simp, fun i q hi e => ?_⟩
    rw [List.getElem?_append_left (by simpa using hi)] at e
    by_cases z : k = i
    · subst z
      rw [List.getElem?_set_self hi] at e
      cases e
      exact .inr ho
    · rw [List.getElem?_set_ne z] at e
      exact .inl e
section
variable {G : Gx} {E : XK} {A A' : List Addr} {H H' : Hp} {h0 h1 : DH}
theorem drop_ok (s0 : SimH G A h0 H) (e : Ext G A H A' H') (s1 : SimH G A' h1 H') {d : D} : ∃ A2, Ext G A H A2 H' ∧ SimH G A2 (drop h0 d h1) H' ∧ (∀ d' v, (d' = d ∨ D.bel h0.length d' = true) → Rep G A' H' d' v → Rep G A2 H' d' v) := by
  unfold drop
  split
  · rename_i c
    obtain ⟨c1, c2, c3⟩ := c
    obtain ⟨B, rfl⟩ := e.pre
    refine ⟨A, ⟨⟨⟨[], by simp⟩, e.tup, e.rol⟩, fun a vs q z => ⟨(e.own a vs q z).1, z⟩⟩, ⟨?_, s0.nd, fun i o a h1' h2 => ?_, s1.tabs⟩, fun d' v z r => Rep.cut ?_ r⟩
    · rw [List.length_take, s0.len]
      omega
    · have hi : i < h0.length := by rw [← s0.len]; exact (List.getElem?_eq_some_iff.mp h2).1
      rw [List.getElem?_take_of_lt hi] at h1'
      have m := s1.at i o a h1' (by rw [List.getElem?_append_left (by rw [s0.len]; exact hi)]; exact h2)
      refine MOk.cut ?_ m
      rcases c3 i o hi h1' with z | z
      · exact (s0.at i o a z h2).bel
      · rw [s0.len]; exact z
    · rw [s0.len]
      rcases z with rfl | z
      · exact c1
      · exact z
  · exact ⟨A', e, s1, fun _ _ _ r => r⟩
theorem post_finish (s0 : SimH G A h0 H) {r : Ss} {Q : VK} (p : Post G (Rep G) E A H (finish h0 r) Q) : PostS G E A H r { nx := fun _ H' => Q .non H', rt := Q } := by
  cases r with
  | nx ρ h =>
    intro A' σ' H' e s1 _
    obtain ⟨A2, e2, s2, c⟩ := drop_ok s0 e s1 (d := .non)
    exact p A2 .non H' e2 s2 rep_non
  | rt d h =>
    intro A' v H' e s1 r1
    obtain ⟨A2, e2, s2, c⟩ := drop_ok s0 e s1 (d := d)
    exact p A2 v H' e2 s2 (c _ _ (.inl rfl) r1)
  | bk ρ h => exact p.elim
  | ct ρ h => exact p.elim
  | ex n d h =>
    intro A' cls da H' e s1 r1
    obtain ⟨A2, e2, s2, c⟩ := drop_ok s0 e s1 (d := d)
    obtain ⟨C, f, a, v, q1, q2, q3, q4, q5⟩ := r1
    exact p A2 cls da H' e2 s2 ⟨C, f, a, v, q1, q2, q3, q4, c _ _ (.inl rfl) q5⟩
  | bad => exact p.elim
end

/-! ### calls of defs -/
abbrev Fn := List D → DH → Rs D
def spD (G : Gx) (n : Nat) (F : Fn) : Sp := fun vs H Q E => vs.length = n ∧ ∃ A ds h, SimH G A h H ∧ RepL G A H ds vs ∧ Post G (Rep G) E A H (F ds h) Q
theorem spD_len {G : Gx} {n : Nat} {F : Fn} {vs : List V} {H : Hp} {Q : VK} {E : XK} (h : spD G n F vs H Q E) : vs.length = n := h.1
/-- the function that a def's body is -/
noncomputable def fnD (m : Nat) (g : Ds) : Fn := fun ds h => finish h (g (ds.map some ++ List.replicate (m - ds.length) none) h)
/-- what a wish of a context takes -/
abbrev Tk (X : Cx) (E : XK) : Prop := Takes X fun c d _ H => E c d H
def eCall (F : Fn) (n : Nat) (dvs : List D) (fs : Da) : De := fun ρ h => (fs ρ h).bind fun xs h1 => if (xs ++ dvs).length = n then F (xs ++ dvs) h1 else .bad
section
variable {G : Gx} {E : XK} {X : Cx} {k n : Nat} {f : Addr} {fd : FuncData} {ps : List Str} {F : Fn} {dvs : List D} {vvs : List V} {ds : List Value} {x : Str} {p pos : Pos} {e : Expr} {es : List Expr} {fs : Da}
theorem td_call (hr : ∀ A H, RepL G A H dvs vvs) {σ : L2.St} {H : Hp} {Q : VK} (t : TD G E (eCall F n dvs fs) σ H Q) : tCall (spD G n F) vvs E (TDa G E fs) σ H Q := by
  obtain ⟨A, ρ, h, s, e, p⟩ := t
  refine ⟨A, ρ, h, s, e, Post.mono ?_ (Post.bind (R := RepL G) p)⟩
  rintro vs H1 ⟨A1, h1, d, e1, s1, r1, p1⟩
  split at p1
  · rename_i hl
    have r2 := r1.append (hr A1 H1)
    exact ⟨by rw [← r2.length]; exact hl, A1, d ++ dvs, h1, s1, r2, p1⟩
  · exact p1.elim
theorem de_call (Fk : FnOk X.prog X.w X.K X.mg X.base (L2.CX X.prog X.w) k f fd ps (spD G n F)) (hr : Room k X.A) (hm : X.mg x = some (.ref f)) (hk : PySem.W.keepIn X.K (.ref f) = true) (hb : Binds X.K fd ps ds) (hd : Vals vvs ds) (hv : ∀ A H, RepL G A H dvs vvs) (tk : Tk X E)
    (ha : DA G E X (e :: es) fs) (hg : Gl X x := by rfl) (hdb : (x == ("__debug__" : Str)) = false := by decide) (he : starEach (e :: es) X.env = (false, eval e X.env) :: starEach es X.env := by rfl) (hpl : (backTo pos (starEach es X.env)).any (·.1) = false := by rfl) :
    DE G E X (.Call (.Name x p) (e :: es) [] pos) (eCall F n dvs fs) :=
  pe_mono (pe_call Fk hr hg hm hk hb hd (passes_call tk fun _ _ _ _ z => z) ha hdb he hpl) fun σ H Q t => td_call hv t
theorem de_call0 (Fk : FnOk X.prog X.w X.K X.mg X.base (L2.CX X.prog X.w) k f fd ps (spD G n F)) (hr : Room k X.A) (hm : X.mg x = some (.ref f)) (hk : PySem.W.keepIn X.K (.ref f) = true) (hb : Binds X.K fd ps ds) (hd : Vals vvs ds) (hv : ∀ A H, RepL G A H dvs vvs) (tk : Tk X E)
    (hg : Gl X x := by rfl) (hdb : (x == ("__debug__" : Str)) = false := by decide) : DE G E X (.Call (.Name x p) [] [] pos) (eCall F n dvs aNil) := by
  refine pe_mono (pe_call0 Fk hr hg hm hk hb hd (passes_call tk fun _ _ _ _ z => z) hdb) fun σ H Q t => ?_
  obtain ⟨A, ρ, h, s, e, p⟩ := td_call hv t
  exact Post.now s RepL.nil p
end
/-- the rule of a def -/
theorem fn_ok {P : Program} {w : World} {K : PySem.W.Frag} {mg : Str → Option Value} {base : Heap} {x qual : Str} {params : Arguments} {body : List Stmt} {scope : Scope} {dvs : List V} {kws : List (Str × V)} {f : Addr} {fd : FuncData} {N ps : List Str} {k n : Nat} {G : Gx} {g : Ds}
    (F : FunD K x qual params body scope dvs kws f fd) (S : FnScope N ps scope) (hn : ps.length = n) (hN : n ≤ N.length)
    (hb : ∀ (cdv : Value) (A : Around) (outer : List Env) (s : Shared) (H : Hp) (E : XK), Room k (A.deeper (envOfC qual scope s.heap.objs.size f cdv)) → Tk (cxOf (L2.CX P w) P w K mg base N qual scope f cdv A outer s H E) E → DB G E (cxOf (L2.CX P w) P w K mg base N qual scope f cdv A outer s H E) body g) :
    FnOk P w K mg base (L2.CX P w) (k + 1) f fd ps (spD G n (fnD N.length g)) := by
  refine F.ok S (fun vs H Q E h => h.1.trans hn.symm) fun cdv A outer s H vs Q E hr hsp => ?_
  refine ⟨TDs G E g, hb cdv A outer s H E hr (takes_of rfl rfl rfl rfl), ?_⟩
  obtain ⟨hl, A1, ds, h, s1, r, p⟩ := hsp
  refine ⟨A1, _, h, s1, ⟨?_, fun i d hi => ?_⟩, post_finish s1 p⟩
  · unfold L2.start
    simp only [List.length_append, List.length_map, List.length_replicate, r.length]
  · have hi' : i < ds.length := by
      by_cases q : i < ds.length
      · exact q
      · rw [List.getElem?_append_right (by simpa using q), List.getElem?_replicate] at hi
        split at hi <;> cases hi
    rw [List.getElem?_append_left (by simpa using hi'), List.getElem?_map] at hi
    cases hd : ds[i]? with
    | none => rw [hd] at hi; cases hi
    | some d' =>
      rw [hd] at hi
      cases hi
      obtain ⟨v, e1, e2⟩ := r.get hd
      refine ⟨v, ?_, e2⟩
      unfold L2.start
      rw [List.getElem?_append_left (by rw [List.length_map, ← r.length]; exact hi'), List.getElem?_map, e1]
      rfl
end DL
namespace DL
open PySem PySem.Spec PyProof.Rows L2
/-! ### statements -/
def ofR {α : Type} (r : Rs α) (k : α → DH → Ss) : Ss := match r with
  | .ok a h => k a h
  | .ex c d h => .ex c d h
  | .bad => .bad
theorem PostS.ofR {α β : Type} {G : Gx} {R : List Addr → Hp → α → β → Prop} {E : XK} {A : List Addr} {H : Hp} {r : Rs α} {k : α → DH → Ss} {W : Ends} (h : PostS G E A H (DL.ofR r k) W) :
    Post G R E A H r fun v H1 => ∃ A1 h1 a, Ext G A H A1 H1 ∧ SimH G A1 h1 H1 ∧ R A1 H1 a v ∧ PostS G E A1 H1 (k a h1) W := by
  cases r with
  | ok a h1 => exact fun A' v H' e s q => ⟨A', h1, a, e, s, q, PostS.ext e h⟩
  | ex c d k => exact h
  | bad => exact h
def gNx : Ds := fun ρ h => .nx ρ h
def gSeq (f g : Ds) : Ds := fun ρ h => match f ρ h with
  | .nx ρ' h' => g ρ' h'
  | .rt d h' => .rt d h'
  | .bk ρ' h' => .bk ρ' h'
  | .ct ρ' h' => .ct ρ' h'
  | .ex c d h' => .ex c d h'
  | .bad => .bad
def gExpr (f : De) : Ds := fun ρ h => ofR (f ρ h) fun _ h1 => .nx ρ h1
def gRet (f : De) : Ds := fun ρ h => ofR (f ρ h) fun d h1 => .rt d h1
def gRetN : Ds := fun _ h => .rt .non h
def gBk : Ds := fun ρ h => .bk ρ h
def gCt : Ds := fun ρ h => .ct ρ h
def gIf (c : De) (f g : Ds) : Ds := fun ρ h => ofR (c ρ h) fun d h1 => match d with
  | .bl true => f ρ h1
  | .bl false => g ρ h1
  | _ => .bad
section
variable {G : Gx} {E : XK} {X : Cx} {a b c e : Expr} {es : List Expr} {f k : De} {st : Stmt} {rest sa sb : List Stmt} {g g1 g2 : Ds} {pos : Pos}
theorem PostS.mono_nx {A : List Addr} {H : Hp} {r : Ss} {W W' : Ends} (h : PostS G E A H r W) (h1 : ∀ σ H, W.nx σ H → W'.nx σ H) (h2 : ∀ v H, W.rt v H → W'.rt v H) (h3 : ∀ σ H, W.bk σ H → W'.bk σ H) (h4 : ∀ σ H, W.ct σ H → W'.ct σ H) : PostS G E A H r W' := by
  cases r with
  | nx ρ k => exact fun A' v H' e s q => h1 _ _ (h A' v H' e s q)
  | rt ρ k => exact fun A' v H' e s q => h2 _ _ (h A' v H' e s q)
  | bk ρ k => exact fun A' v H' e s q => h3 _ _ (h A' v H' e s q)
  | ct ρ k => exact fun A' v H' e s q => h4 _ _ (h A' v H' e s q)
  | ex c d k => exact h
  | bad => exact h
theorem db_nil : DB G E X [] gNx := by
  refine pss_mono pss_nil fun W σ H t => ?_
  obtain ⟨A, ρ, h, s, e, p⟩ := t
  exact p A σ H .refl s e
theorem db_one (h : DS G E X st g) : DB G E X [st] g := pss_one h
theorem db_cons (ha : DS G E X st g1) (hb : DB G E X rest g2) : DB G E X (st :: rest) (gSeq g1 g2) := by
  refine pss_mono (pss_cons ha hb) fun W σ H t => ?_
  obtain ⟨A, ρ, h, s, e, p⟩ := t
  refine ⟨A, ρ, h, s, e, ?_⟩
  unfold gSeq at p
  split at p
  · rename_i ρ' h' hg
    rw [hg]
    exact fun A' σ' H' e' s' q' => ⟨A', ρ', h', s', q', PostS.ext e' p⟩
  all_goals
    rename_i hg
    rw [hg]
    exact p
theorem ds_pass : DS G E X (.Pass pos) gNx := by
  refine ps_mono ps_pass fun W σ H t => ?_
  obtain ⟨A, ρ, h, s, e, p⟩ := t
  exact p A σ H .refl s e
theorem ds_break : DS G E X (.Break pos) gBk := by
  refine ps_mono ps_break fun W σ H t => ?_
  obtain ⟨A, ρ, h, s, e, p⟩ := t
  exact p A σ H .refl s e
theorem ds_continue : DS G E X (.Continue pos) gCt := by
  refine ps_mono ps_continue fun W σ H t => ?_
  obtain ⟨A, ρ, h, s, e, p⟩ := t
  exact p A σ H .refl s e
theorem ds_expr (h : DE G E X e f) (hs : swapsWith e none pos.line X.env = pure false := by rfl) : DS G E X (.Expr e pos) (gExpr f) := by
  refine ps_mono (ps_expr h hs) fun W σ H t => ?_
  obtain ⟨A, ρ, h, s, e, p⟩ := t
  refine ⟨A, ρ, h, s, e, Post.mono ?_ (PostS.ofR (R := Rep G) p)⟩
  rintro v H1 ⟨A1, h1, d, e1, s1, r1, p1⟩
  exact p1 A1 σ H1 .refl s1 (e.mono e1.toEx0)
theorem ds_ret (h : DE G E X e f) : DS G E X (.Return (some e) pos) (gRet f) := by
  refine ps_mono (ps_ret h) fun W σ H t => ?_
  obtain ⟨A, ρ, h, s, e, p⟩ := t
  refine ⟨A, ρ, h, s, e, Post.mono ?_ (PostS.ofR (R := Rep G) p)⟩
  rintro v H1 ⟨A1, h1, d, e1, s1, r1, p1⟩
  exact p1 A1 v H1 .refl s1 r1
theorem ds_retN : DS G E X (.Return none pos) gRetN := by
  refine ps_mono ps_retN fun W σ H t => ?_
  obtain ⟨A, ρ, h, s, e, p⟩ := t
  exact p A .non H .refl s rep_non
theorem ds_if (hc : DT G E X c k) (ha : DB G E X sa g1) (hb : DB G E X sb g2) : DS G E X (.If c sa sb pos) (gIf k g1 g2) := by
  refine ps_mono (ps_if hc ha hb) fun W σ H t => ?_
  obtain ⟨A, ρ, h, s, e, p⟩ := t
  refine ⟨A, ρ, h, s, e, ?_⟩
  unfold gIf at p
  cases hf : k ρ h with
  | ok d h1 =>
    rw [hf] at p
    dsimp only [DL.ofR] at p
    split at p
    · intro A' v H' e' s' r'
      cases r'
      rw [if_pos rfl]
      exact ⟨A', ρ, h1, s', e.mono e'.toEx0, PostS.ext e' p⟩
    · intro A' v H' e' s' r'
      cases r'
      rw [if_neg Bool.false_ne_true]
      exact ⟨A', ρ, h1, s', e.mono e'.toEx0, PostS.ext e' p⟩
    · exact p.elim
  | ex c d h1 =>
    rw [hf] at p
    exact p
  | bad =>
    rw [hf] at p
    exact p.elim
end

/-! ### targets -/
abbrev Dg := D → En → DH → Rs En
abbrev Dgs := List D → En → DH → Rs En
def RE (G : Gx) (A : List Addr) (H : Hp) (ρ : En) (σ : L2.St) : Prop := SimE G A H ρ σ
def TDg (G : Gx) (E : XK) (γ : Dg) : TG := fun v σ H Q => ∃ A ρ h d, SimH G A h H ∧ SimE G A H ρ σ ∧ Rep G A H d v ∧ Post G (RE G) E A H (γ d ρ h) Q
def TDgs (G : Gx) (E : XK) (γ : Dgs) : TGs := fun v σ H Q => ∃ A ρ h d, SimH G A h H ∧ SimE G A H ρ σ ∧ RepL G A H d v ∧ Post G (RE G) E A H (γ d ρ h) Q
def DG (G : Gx) (E : XK) (X : Cx) (e : Expr) (γ : Dg) : Prop := PG X e (TDg G E γ)
def DGs (G : Gx) (E : XK) (X : Cx) (es : List Expr) (γ : Dgs) : Prop := PGs X es (TDgs G E γ)
theorem pg_mono {X : Cx} {e : Expr} {t t' : TG} (h : PG X e t) (m : ∀ v σ H Q, t' v σ H Q → t v σ H Q) : PG X e t' := ⟨fun pins s σ H v u Q I r q => h.run pins s σ H v u Q I r (m _ _ _ _ q)⟩
theorem pgs_mono {X : Cx} {e : List Expr} {t t' : TGs} (h : PGs X e t) (m : ∀ v σ H Q, t' v σ H Q → t v σ H Q) : PGs X e t' := ⟨fun pins s σ H v u Q I r q => h.run pins s σ H v u Q I r (m _ _ _ _ q)⟩
theorem pg_or {X : Cx} {e : Expr} {t t' : TG} (h : PG X e t) (h' : PG X e t') : PG X e fun v σ H Q => t v σ H Q ∨ t' v σ H Q := ⟨fun pins s σ H v u Q I r q => q.elim (fun q => h.run pins s σ H v u Q I r q) fun q => h'.run pins s σ H v u Q I r q⟩
def tName (i : Nat) : Dg := fun d ρ h => .ok (ρ.set i (some d)) h
def tsNil : Dgs := fun ds ρ h => match ds with
  | [] => .ok ρ h
  | _ => .bad
def tsCons (γ : Dg) (γs : Dgs) : Dgs := fun ds ρ h => match ds with
  | d :: r => (γ d ρ h).bind fun ρ' h' => γs r ρ' h'
  | [] => .bad
def tUnp (n : Nat) (γs : Dgs) : Dg := fun d ρ h => match seqOf d h with
  | some xs => if xs.length = n then γs xs ρ h else .bad
  | none => .bad
def oSet (o i v : D) (h : DH) : Rs D := match o, i with
  | .obj n, .int k => (match h[n]? with
    | some (.lst xs) => (match ixN xs.length k with
      | some j => .ok .non (h.set n (.lst (xs.set j v)))
      | none => .bad)
    | _ => .bad)
  | _, _ => .bad
def tSub (f g : De) : Dg := fun d ρ h => (f ρ h).bind fun o h1 => (g ρ h1).bind fun i h2 => (oSet o i d h2).bind fun _ h3 => .ok ρ h3
section
variable {G : Gx} {E : XK} {X : Cx} {a b c e : Expr} {es : List Expr} {f g : De} {fs : Da} {γ : Dg} {γs : Dgs} {pos : Pos}
theorem dg_name {i : Nat} {x : Str} (hN : X.N.Nodup) (hi : X.N[i]? = some x := by rfl) (hx : Loc X.env.scope x := by first | exact .inl rfl | exact .inr rfl) (hf : X.fn x = true ∨ X.env.scope.names.lookup x = some .local := by first | exact .inl rfl | exact .inr rfl) : DG G E X (.Name x pos) (tName i) := by
  refine pg_mono (pg_name hN hi hx hf) fun v σ H Q t => ?_
  obtain ⟨A, ρ, h, d, s, e, r, p⟩ := t
  exact Post.now s (e.set i r) p
theorem dgs_nil : DGs G E X [] tsNil := by
  refine pgs_mono pgs_nil fun v σ H Q t => ?_
  obtain ⟨A, ρ, h, d, s, e, r, p⟩ := t
  unfold tsNil at p
  split at p
  · simp only [RepL] at r
    exact ⟨r, Post.now s e p⟩
  · exact p.elim
theorem dgs_cons (ha : DG G E X e γ) (hb : DGs G E X es γs) (hs : (assignEach (e :: es) X.env).map (·.2) = assign e X.env :: (assignEach es X.env).map (·.2) := by rfl) : DGs G E X (e :: es) (tsCons γ γs) := by
  refine pgs_mono (pgs_cons ha hb hs) fun v σ H Q t => ?_
  obtain ⟨A, ρ, h, d, s, e, r, p⟩ := t
  unfold tsCons at p
  split at p
  · simp only [RepL] at r
    obtain ⟨v, w, rfl, r1, r2⟩ := r
    refine ⟨v, w, rfl, A, ρ, h, _, s, e, r1, Post.mono ?_ (Post.bind (R := RE G) p)⟩
    rintro σ1 H1 ⟨A1, h1, ρ1, e1, s1, q1, p1⟩
    exact ⟨A1, ρ1, h1, _, s1, q1, r2.mono e1.toEx0, p1⟩
  · exact p.elim
theorem dg_unp {n : Nat} {k : Nat} (hK : X.K = G.K) (hc : X.calm = true) (h : DGs G E X es γs) (hn : (assignEach es X.env).length = n := by rfl) (hst : (assignEach es X.env).findIdx? (·.1) = none := by rfl) : DG G E X (.Tuple es k pos) (tUnp n γs) := by
  refine pg_mono (pg_or (pg_tup hc h hn hst) (pg_lst hc h hn hst)) fun v σ H Q t => ?_
  obtain ⟨A, ρ, h, d, s, e, r, p⟩ := t
  unfold tUnp at p
  split at p
  · rename_i xs hx
    split at p
    · rename_i hl
      obtain ⟨a, vs, rfl, q, t⟩ := s.seq r hx
      rcases q with q | q
      · exact .inr ⟨a, vs, rfl, hK ▸ q, t.length.symm.trans hl, A, ρ, h, xs, s, e, t, p⟩
      · exact .inl ⟨a, vs, rfl, hK ▸ q, t.length.symm.trans hl, A, ρ, h, xs, s, e, t, p⟩
    · exact p.elim
  · exact p.elim
theorem dg_sub (ho : DE G E X a f) (hi : DE G E X b g)
    (hs : ∀ v, assign (.Subscript a b pos) X.env v = (do
      let ov ← holding [v] (eval a X.env)
      let iv ← holding [v, ov] (eval b X.env)
      standAt pos
      holding [v, ov, iv] (setItem ov iv v)
      release [v, ov, iv] []) := by intro _; rfl) : DG G E X (.Subscript a b pos) (tSub f g) := by
  refine pg_mono (pg_sub ho hi set_list hs) fun v σ H Q t => ?_
  obtain ⟨A, ρ, h, d, s, e, r, p⟩ := t
  refine ⟨A, ρ, h, s, e, Post.mono ?_ (Post.bind (R := Rep G) p)⟩
  rintro o H1 ⟨A1, h1, d1, e1, s1, r1, p1⟩
  refine ⟨A1, ρ, h1, s1, e.mono e1.toEx0, Post.mono ?_ (Post.bind (R := Rep G) p1)⟩
  rintro i H2 ⟨A2, h2, d2, e2, s2, r2, p2⟩
  have rv := (r.mono e1.toEx0).mono e2.toEx0
  have ro := r1.mono e2.toEx0
  have ee := (e.mono e1.toEx0).mono e2.toEx0
  have p3 := Post.bind (R := fun _ _ _ _ => True) (β := Unit) p2
  unfold oSet at p3
  split at p3
  · rename_i n k
    split at p3
    · rename_i xs hn
      split at p3
      · rename_i j hj
        obtain ⟨q, vs, rfl, ha, hH, rl⟩ := s2.lst hn ro
        rw [r2.int_]
        refine ⟨q, vs, k, j, rfl, rfl, hH, by rw [← rl.length]; exact hj, ?_⟩
        obtain ⟨ex, sx⟩ := s2.put ha (o := .lst (xs.set j d)) (u := .lst (vs.set j v)) rfl fun e => ⟨_, upd_same, (rl.set rv j).mono e.toEx0⟩
        obtain ⟨A3, h3, _, e3, s3, _, p4⟩ := p3 A2 () _ ex sx trivial
        exact Post.now s3 ((ee.mono e3.toEx0)) p4
      · exact p3.elim
    · exact p3.elim
  · exact p3.elim
end

/-! ### assignments -/
def gAsg (f : De) (γ : Dg) : Ds := fun ρ h => ofR (f ρ h) fun d h1 => ofR (γ d ρ h1) fun ρ' h2 => .nx ρ' h2
def gPar (is : List Nat) (fs : Da) : Ds := fun ρ h => ofR (fs ρ h) fun ds h1 => if ds.length = is.length then .nx ((is.zip ds).foldl (fun r p => r.set p.1 (some p.2)) ρ) h1 else .bad
def gAug (i : Nat) (o : D → D → DH → Rs D) (f : De) : Ds := fun ρ h => match ρ[i]? with
  | some (some x) => ofR (f ρ h) fun y h1 => ofR (o x y h1) fun z h2 => .nx (ρ.set i (some z)) h2
  | _ => .bad
section
variable {G : Gx} {E : XK} {X : Cx} {a b c e tg : Expr} {es : List Expr} {f g : De} {fs : Da} {γ : Dg} {γs : Dgs} {pos : Pos}
theorem ts_asg {W : Ends} {σ : L2.St} {H : Hp} (t : TDs G E (gAsg f γ) W σ H) : tAsg (TD G E f) (TDg G E γ) W σ H := by
  obtain ⟨A, ρ, h, s, e, p⟩ := t
  refine ⟨A, ρ, h, s, e, Post.mono ?_ (PostS.ofR (R := Rep G) p)⟩
  rintro v H1 ⟨A1, h1, d, e1, s1, r1, p1⟩
  refine ⟨A1, ρ, h1, d, s1, e.mono e1.toEx0, r1, Post.mono ?_ (PostS.ofR (R := RE G) p1)⟩
  rintro σ2 H2 ⟨A2, h2, ρ2, e2, s2, r2, p2⟩
  exact p2 A2 σ2 H2 .refl s2 r2
theorem ds_asg (he : DE G E X e f) (hg : DG G E X tg γ) (hs : swapsWithSole [tg] e pos.line X.env = pure false := by rfl) (hw : swappedStores [tg] e X.env = pure none := by rfl)
    (h1 : (assignEach [tg] X.env).map (·.2) = [assign tg X.env] := by rfl) : DS G E X (.Assign [tg] e pos) (gAsg f γ) := ps_mono (ps_asg he hg hs hw h1) fun W σ H t => ts_asg t
theorem ds_set {i : Nat} {x : Str} {pos' : Pos} (hN : X.N.Nodup) (he : DE G E X e f) (hi : X.N[i]? = some x := by rfl) (hx : Loc X.env.scope x := by first | exact .inl rfl | exact .inr rfl) (hs : swapsWith e (some (.Name x pos')) pos.line X.env = pure false := by rfl)
    (hf : X.fn x = true ∨ X.env.scope.names.lookup x = some .local := by first | exact .inl rfl | exact .inr rfl) : DS G E X (.Assign [.Name x pos'] e pos) (gAsg f (tName i)) := by
  refine ps_mono (ps_set hN hi hx he hs hf) fun W σ H t => ?_
  obtain ⟨A, ρ, h, s, e, p⟩ := ts_asg t
  refine ⟨A, ρ, h, s, e, Post.mono ?_ p⟩
  rintro v H1 ⟨A1, ρ1, h1, d1, s1, e1, r1, p1⟩
  exact Post.now s1 (e1.set i r1) p1
theorem ds_par2 {i j : Nat} {x y : Str} {px py pt : Pos} {kt k2 pt2} (hc : X.calm = true) (hN : X.N.Nodup) (hi : X.N[i]? = some x) (hj : X.N[j]? = some y) (hij : i ≠ j)
    (hx : X.env.scope.names.lookup x = some .local) (hy : X.env.scope.names.lookup y = some .local) (ha : DA G E X [a, b] fs)
    (hw : swappedStores [.Tuple [.Name x px, .Name y py] kt pt] (.Tuple [a, b] k2 pt2) X.env = pure (some [x, y]) := by rfl)
    (hs : swapsWithSole [.Tuple [.Name x px, .Name y py] kt pt] (.Tuple [a, b] k2 pt2) pos.line X.env = pure false := by rfl) :
    DS G E X (.Assign [.Tuple [.Name x px, .Name y py] kt pt] (.Tuple [a, b] k2 pt2) pos) (gPar [i, j] fs) := by
  refine ps_mono (ps_par hc hN hi hj hij hx hy ha hw hs) fun W σ H t => ?_
  obtain ⟨A, ρ, h, s, e, p⟩ := t
  refine ⟨A, ρ, h, s, e, Post.mono ?_ (PostS.ofR (R := RepL G) p)⟩
  rintro v H1 ⟨A1, h1, d, e1, s1, r1, p1⟩
  split at p1
  · rename_i hl
    match d, hl, r1, p1 with
    | [d1, d2], _, r1, p1 =>
      simp only [RepL] at r1
      obtain ⟨v1, w1, rfl, q1, v2, w2, rfl, q2, rfl⟩ := r1
      exact ⟨v1, v2, rfl, p1 A1 _ H1 .refl s1 (((e.mono e1.toEx0).set i q1).set j q2)⟩
  · exact p1.elim
theorem ds_par3 {i j l : Nat} {x y z : Str} {px py pz pt : Pos} {kt k2 pt2} (hc : X.calm = true) (hN : X.N.Nodup) (hi : X.N[i]? = some x) (hj : X.N[j]? = some y) (hl : X.N[l]? = some z) (hij : i ≠ j) (hil : i ≠ l) (hjl : j ≠ l)
    (hx : X.env.scope.names.lookup x = some .local) (hy : X.env.scope.names.lookup y = some .local) (hz : X.env.scope.names.lookup z = some .local) (ha : DA G E X [a, b, c] fs)
    (hw : swappedStores [.Tuple [.Name x px, .Name y py, .Name z pz] kt pt] (.Tuple [a, b, c] k2 pt2) X.env = pure (some [x, y, z]) := by rfl)
    (hs : swapsWithSole [.Tuple [.Name x px, .Name y py, .Name z pz] kt pt] (.Tuple [a, b, c] k2 pt2) pos.line X.env = pure false := by rfl) :
    DS G E X (.Assign [.Tuple [.Name x px, .Name y py, .Name z pz] kt pt] (.Tuple [a, b, c] k2 pt2) pos) (gPar [i, j, l] fs) := by
  refine ps_mono (ps_par3 hc hN hi hj hl hij hil hjl hx hy hz ha hw hs) fun W σ H t => ?_
  obtain ⟨A, ρ, h, s, e, p⟩ := t
  refine ⟨A, ρ, h, s, e, Post.mono ?_ (PostS.ofR (R := RepL G) p)⟩
  rintro v H1 ⟨A1, h1, d, e1, s1, r1, p1⟩
  split at p1
  · rename_i hl
    match d, hl, r1, p1 with
    | [d1, d2, d3], _, r1, p1 =>
      simp only [RepL] at r1
      obtain ⟨v1, w1, rfl, q1, v2, w2, rfl, q2, v3, w3, rfl, q3, rfl⟩ := r1
      exact ⟨v1, v2, v3, rfl, p1 A1 _ H1 .refl s1 ((((e.mono e1.toEx0).set i q1).set j q2).set l q3)⟩
  · exact p1.elim
theorem ts_aug {i : Nat} {o : D → D → DH → Rs D} {ti : TIp} (m : ∀ x y H Q, Op2 G E o x y H Q → ti x y H Q) {W : Ends} {σ : L2.St} {H : Hp} (t : TDs G E (gAug i o f) W σ H) : tAug i (TD G E f) ti W σ H := by
  obtain ⟨A, ρ, h, s, e, p⟩ := t
  unfold gAug at p
  split at p
  · rename_i x hx
    obtain ⟨v, hv, rv⟩ := e.2 i x hx
    refine ⟨v, hv, A, ρ, h, s, e, Post.mono ?_ (PostS.ofR (R := Rep G) p)⟩
    rintro w H1 ⟨A1, h1, d, e1, s1, r1, p1⟩
    refine m _ _ _ _ ⟨A1, h1, x, d, s1, rv.mono e1.toEx0, r1, Post.mono ?_ (PostS.ofR (R := Rep G) p1)⟩
    rintro z H2 ⟨A2, h2, d2, e2, s2, r2, p2⟩
    exact p2 A2 _ H2 .refl s2 (((e.mono e1.toEx0).mono e2.toEx0).set i r2)
  · exact p.elim
theorem ds_augAdd {i : Nat} {x : Str} {pos' : Pos} (hN : X.N.Nodup) (hi : X.N[i]? = some x) (he : DE G E X e f) (hx : Loc X.env.scope x := by first | exact .inl rfl | exact .inr rfl) (hf : X.fn x = true ∨ X.env.scope.names.lookup x = some .local := by first | exact .inl rfl | exact .inr rfl) :
    DS G E X (.AugAssign (.Name x pos') .Add e pos) (gAug i (fun x y h => match x, y with
      | .int a, .int b => .ok (.int (a + b)) h
      | _, _ => .bad) f) := by
  refine ps_mono (ps_aug hN hi hx he ip_add hf) fun W σ H t => ts_aug (fun x y H Q t => ?_) t
  obtain ⟨A, h, d, e, s, r1, r2, p⟩ := t
  dsimp only at p
  split at p
  · rw [r1.int_, r2.int_]
    exact ⟨_, _, rfl, rfl, p.now s rep_int⟩
  · exact p.elim
theorem ds_augSub {i : Nat} {x : Str} {pos' : Pos} (hN : X.N.Nodup) (hi : X.N[i]? = some x) (he : DE G E X e f) (hx : Loc X.env.scope x := by first | exact .inl rfl | exact .inr rfl) (hf : X.fn x = true ∨ X.env.scope.names.lookup x = some .local := by first | exact .inl rfl | exact .inr rfl) :
    DS G E X (.AugAssign (.Name x pos') .Sub e pos) (gAug i oSub f) := by
  refine ps_mono (ps_aug hN hi hx he ip_sub hf) fun W σ H t => ts_aug (fun x y H Q t => ?_) t
  obtain ⟨A, h, d, e, s, r1, r2, p⟩ := t
  unfold oSub at p
  split at p
  · rw [r1.int_, r2.int_]
    exact ⟨_, _, rfl, rfl, p.now s rep_int⟩
  · exact p.elim
end

/-! ### while -/
def whileN (c : De) (b : Ds) : Nat → Ds
  | 0, _, _ => .bad
  | n + 1, ρ, h => ofR (c ρ h) fun d h1 => match d with
    | .bl false => .nx ρ h1
    | .bl true => (match b ρ h1 with
      | .nx ρ' h' => whileN c b n ρ' h'
      | .ct ρ' h' => whileN c b n ρ' h'
      | .bk ρ' h' => .nx ρ' h'
      | .rt d h' => .rt d h'
      | .ex c d h' => .ex c d h'
      | .bad => .bad)
    | _ => .bad
open Classical in
noncomputable def gWhile (c : De) (b : Ds) : Ds := fun ρ h => if q : ∃ n, whileN c b n ρ h ≠ .bad then whileN c b q.choose ρ h else .bad
theorem whileN_more {c : De} {b : Ds} : ∀ {n m : Nat} {ρ : En} {h : DH}, whileN c b n ρ h ≠ .bad → n ≤ m → whileN c b m ρ h = whileN c b n ρ h
  | 0, _, _, _, q, _ => absurd rfl q
  | n + 1, 0, _, _, _, l => absurd l (by omega)
  | n + 1, m + 1, ρ, h, q, l => by
    unfold whileN at q ⊢
    cases hc : c ρ h with
    | ok d h1 =>
      rw [hc] at q
      cases d with
      | bl v =>
        cases v with
        | false => rfl
        | true =>
          dsimp only [DL.ofR] at q ⊢
          cases hb : b ρ h1 with
          | nx ρ' h' => rw [hb] at q; exact whileN_more q (by omega)
          | ct ρ' h' => rw [hb] at q; exact whileN_more q (by omega)
          | bk _ _ => rfl
          | rt _ _ => rfl
          | ex _ _ _ => rfl
          | bad => rfl
      | _ => rfl
    | ex _ _ _ => rfl
    | bad => rfl
theorem gWhile_eq {c : De} {b : Ds} {ρ : En} {h : DH} (n : Nat) {r : Ss} (e : whileN c b n ρ h = r) (hr : r ≠ .bad) : gWhile c b ρ h = r := by
  unfold gWhile
  have q : ∃ n, whileN c b n ρ h ≠ .bad := ⟨n, by rw [e]; exact hr⟩
  rw [dif_pos q]
  have h1 := q.choose_spec
  rcases Nat.le_total n q.choose with l | l
  · rw [whileN_more (by rw [e]; exact hr) l, e]
  · rw [← whileN_more h1 l, e]
section
variable {G : Gx} {E : XK} {X : Cx} {c : Expr} {body : List Stmt} {k : De} {g : Ds} {pos : Pos}
theorem ds_while (hp : PassesOwn (model X.prog X.w) X.A X.env X.xe) (hc : DT G E X c k) (hb : DB G E X body g) : DS G E X (.While c body [] pos) (gWhile k g) := by
  refine ps_mono (ps_while hp hc hb) fun W σ H t => ?_
  obtain ⟨A, ρ, h, s, e, p⟩ := t
  unfold gWhile at p
  split at p
  · rename_i q
    refine ⟨fun m σ H => ∃ A ρ h, SimH G A h H ∧ SimE G A H ρ σ ∧ PostS G E A H (whileN k g m ρ h) W, ⟨q.choose, A, ρ, h, s, e, p⟩, ?_⟩
    rintro m σ1 H1 ⟨A1, ρ1, h1, s1, e1, p1⟩
    cases m with
    | zero => exact p1.elim
    | succ m =>
      refine ⟨A1, ρ1, h1, s1, e1, ?_⟩
      unfold whileN at p1
      cases hf : k ρ1 h1 with
      | ok d h2 =>
        rw [hf] at p1
        dsimp only [DL.ofR] at p1
        split at p1
        · intro A' v H' e' s' r'
          cases r'
          rw [if_neg Bool.false_ne_true]
          exact (PostS.ext e' p1) A' σ1 H' .refl s' (e1.mono e'.toEx0)
        · intro A' v H' e' s' r'
          cases r'
          rw [if_pos rfl]
          refine ⟨fun σ H => ∃ A ρ h, SimH G A h H ∧ SimE G A H ρ σ ∧ PostS G E A H (whileN k g m ρ h) W, fun σ' H' z => ⟨m, Nat.lt_succ_self m, z⟩, A', ρ1, h2, s', e1.mono e'.toEx0, ?_⟩
          have p2 := PostS.ext e' p1
          split at p2 <;> rename_i hg <;> rw [hg]
          · exact fun A2 σ2 H2 e2 s2 q2 => ⟨A2, _, _, s2, q2, PostS.ext e2 p2⟩
          · exact fun A2 σ2 H2 e2 s2 q2 => ⟨A2, _, _, s2, q2, PostS.ext e2 p2⟩
          · exact p2
          · exact p2
          · exact p2
          · exact p2
        · exact p1.elim
      | ex c d h2 =>
        rw [hf] at p1
        exact p1
      | bad =>
        rw [hf] at p1
        exact p1.elim
  · exact p.elim
end

/-! ### what is walked -/
inductive ItD where
  | all (xs : List D)
  | obj (n : Nat) (xs : List D)
abbrev Di := En → DH → Rs ItD
def Steps (G : Gx) (A : List Addr) (H : Hp) (ok : DH → Prop) (xs : List D) (J : It) : Prop :=
  ∀ (i : Nat) (A' : List Addr) (h' : DH) (H' : Hp), Ext G A H A' H' → SimH G A' h' H' → ok h' →
    (∀ x, xs[i]? = some x → J.go i H' ∧ ∀ v H'', J.yld i H' v H'' → Ext G A' H' A' H'' ∧ SimH G A' h' H'' ∧ Rep G A' H'' x v) ∧ (xs.length ≤ i → J.stop i H')
def RI (G : Gx) (A : List Addr) (H : Hp) (it : ItD) (J : It) : Prop := match it with
  | .all xs => Steps G A H (fun _ => True) xs J
  | .obj n xs => Steps G A H (fun h => h[n]? = some (.lst xs)) xs J
def TDi (G : Gx) (E : XK) (ι : Di) : TI := fun σ H R => ∃ A ρ h, SimH G A h H ∧ SimE G A H ρ σ ∧ Post G (RI G) E A H (ι ρ h) R
def DI (G : Gx) (E : XK) (X : Cx) (tg iter : Expr) (ι : Di) : Prop := PI X tg iter (TDi G E ι)
theorem pi_mono {X : Cx} {tg e : Expr} {t t' : TI} (h : PI X tg e t) (m : ∀ σ H R, t' σ H R → t σ H R) : PI X tg e t' := ⟨fun pins s σ H R I q => h.run pins s σ H R I (m _ _ _ q)⟩
theorem pi_or {X : Cx} {tg e : Expr} {t t' : TI} (h : PI X tg e t) (h' : PI X tg e t') : PI X tg e fun σ H R => t σ H R ∨ t' σ H R := ⟨fun pins s σ H R I q => q.elim (fun q => h.run pins s σ H R I q) fun q => h'.run pins s σ H R I q⟩
theorem post_it {G : Gx} {E : XK} {A : List Addr} {H : Hp} {h : DH} {it : ItD} {J : It} {Q : It → Hp → Prop} (s : SimH G A h H) (r : RI G A H it J) (p : Post G (RI G) E A H (.ok it h) Q) : Q J H := p A J H .refl s r
def strItems (z : Str) : List D := z.cps.toList.map fun c => .str ⟨#[c]⟩
def oIter (d : D) (h : DH) : Rs ItD := match d with
  | .tup xs => .ok (.all xs) h
  | .rol xs => .ok (.all xs) h
  | .str z => .ok (.all (strItems z)) h
  | .obj n => (match h[n]? with
    | some (.lst xs) => .ok (.obj n xs) h
    | _ => .bad)
  | _ => .bad
def iVal (f : De) : Di := fun ρ h => (f ρ h).bind oIter
def rngItems (lo : Int) (n : Nat) : List D := (List.range n).map fun (i : Nat) => .int (lo + i)
def iRng1 (f : De) : Di := fun ρ h => (f ρ h).bind fun d h1 => match d with
  | .int j => if -1000000000 ≤ j ∧ j ≤ 1000000000 then .ok (.all (rngItems 0 j.toNat)) h1 else .bad
  | _ => .bad
def iRng2 (f g : De) : Di := fun ρ h => (f ρ h).bind fun d h1 => (g ρ h1).bind fun e h2 => match d, e with
  | .int i, .int j => if -1000000000 ≤ i ∧ i ≤ 1000000000 ∧ -1000000000 ≤ j ∧ j ≤ 1000000000 then .ok (.all (rngItems i (j - i).toNat)) h2 else .bad
  | _, _ => .bad
def oRev (d : D) (h : DH) : Rs ItD := match d with
  | .tup xs => .ok (.all xs.reverse) h
  | _ => .bad
def iRev (f : De) : Di := fun ρ h => (f ρ h).bind oRev
section
variable {G : Gx} {E : XK} {X : Cx} {tg e a b : Expr} {f g : De} {p pos : Pos}
theorem steps_t {A : List Addr} {H : Hp} {xs : List D} {vs : List V} {a : Addr} {ok : DH → Prop} (q : SqT G.K H a vs) (t : RepL G A H xs vs) : Steps G A H ok xs (Itt G.K a) := by
  intro i A' h' H' e s _
  have q' := e.tup _ _ q
  have t' := t.mono e.toEx0
  refine ⟨fun x hx => ?_, fun hl => ⟨vs, q', by rw [← t.length]; exact hl⟩⟩
  obtain ⟨v, hv, rv⟩ := t'.get hx
  refine ⟨⟨vs, v, q', hv⟩, fun w H'' y => ?_⟩
  obtain ⟨rfl, y⟩ := y
  have ew := y vs q'
  rw [hv] at ew
  cases ew
  exact ⟨.refl, s, rv⟩
theorem steps_l {A : List Addr} {H : Hp} {xs : List D} {ok : DH → Prop} {a : Addr} (q : ∀ A' h' H', Ext G A H A' H' → SimH G A' h' H' → ok h' → ∃ vs, SqL G.K H' a vs ∧ RepL G A' H' xs vs) : Steps G A H ok xs (Itl G.K a) := by
  intro i A' h' H' e s o
  obtain ⟨vs, q', t'⟩ := q A' h' H' e s o
  refine ⟨fun x hx => ?_, fun hl => ⟨vs, q', by rw [← t'.length]; exact hl⟩⟩
  obtain ⟨v, hv, rv⟩ := t'.get hx
  refine ⟨⟨vs, v, q', hv⟩, fun w H'' y => ?_⟩
  obtain ⟨rfl, y⟩ := y
  have ew := y vs q'
  rw [hv] at ew
  cases ew
  exact ⟨.refl, s, rv⟩
theorem di_val (hK : X.K = G.K) (h : DE G E X e f) : DI G E X tg e (iVal f) := by
  refine pi_mono (pi_or (pi_tup h) (pi_or (pi_list h) (pi_str h))) fun σ H R t => ?_
  obtain ⟨A, ρ, h, s, ee, p⟩ := t
  unfold iVal at p
  cases hf : f ρ h with
  | bad =>
    rw [hf] at p
    exact p.elim
  | ex c d h1 =>
    rw [hf] at p
    exact .inl ⟨A, ρ, h, s, ee, by rw [hf]; exact p⟩
  | ok d h1 =>
    rw [hf] at p
    dsimp only [Rs.bind] at p
    unfold oIter at p
    split at p
    · refine .inl ⟨A, ρ, h, s, ee, ?_⟩
      rw [hf]
      intro A' v H' e' s' r'
      obtain ⟨a, vs, rfl, q, t⟩ := r'.tup_
      refine ⟨a, rfl, ⟨vs, hK ▸ q⟩, ?_⟩
      rw [hK]
      exact post_it s' (it := .all _) (steps_t q t) (Post.ext e' p)
    · refine .inr (.inl ⟨A, ρ, h, s, ee, ?_⟩)
      rw [hf]
      intro A' v H' e' s' r'
      obtain ⟨a, vs, rfl, q, t⟩ := r'.rol_
      refine ⟨a, rfl, ⟨vs, hK ▸ q.sq⟩, ?_⟩
      rw [hK]
      exact post_it s' (it := .all _) (steps_l fun A2 h2 H2 e2 s2 _ => ⟨vs, (e2.rol _ _ q).sq, t.mono e2.toEx0⟩) (Post.ext e' p)
    · refine .inr (.inr ⟨A, ρ, h, s, ee, ?_⟩)
      rw [hf]
      intro A' v H' e' s' r'
      rename_i z
      refine ⟨z, r'.str_, post_it s' (it := .all _) ?_ (Post.ext e' p)⟩
      intro i A2 h2 H2 e2 s2 _
      unfold strItems
      refine ⟨fun x hx => ?_, fun hl => ?_⟩
      · rw [List.getElem?_map] at hx
        obtain ⟨c, hc, rfl⟩ := Option.map_eq_some_iff.mp hx
        have hi : i < z.cps.size := by
          have := (List.getElem?_eq_some_iff.mp hc).1
          simpa using this
        refine ⟨hi, fun w H'' y => ?_⟩
        obtain ⟨rfl, c', hc', rfl⟩ := y
        have : c = c' := by
          rw [Array.getElem?_toList] at hc
          rw [hc] at hc'
          exact Option.some.inj hc'
        subst this
        exact ⟨.refl, s2, rep_str⟩
      · have : z.cps.size ≤ i := by simpa using hl
        exact this
    · rename_i n
      split at p
      · rename_i xs hn
        refine .inr (.inl ⟨A, ρ, h, s, ee, ?_⟩)
        rw [hf]
        intro A' v H' e' s' r'
        obtain ⟨a, vs, rfl, ha, q, t⟩ := s'.lst hn r'
        refine ⟨a, rfl, ⟨vs, .inl (.inl q)⟩, ?_⟩
        rw [hK]
        refine post_it s' (it := .obj _ _) (steps_l fun A2 h2 H2 e2 s2 o => ?_) (Post.ext e' p)
        obtain ⟨vs2, q2, t2⟩ := s2.at n _ a o (e2.at ha)
        exact ⟨vs2, .inl (.inl q2), t2⟩
      · exact p.elim
    · exact p.elim
theorem steps_r {A : List Addr} {H : Hp} {lo : Int} {n : Nat} {ok : DH → Prop} : Steps G A H ok (rngItems lo n) (Itr lo n) := by
  intro i A2 h2 H2 e2 s2 _
  unfold rngItems
  refine ⟨fun x hx => ?_, fun hl => ?_⟩
  · rw [List.getElem?_map] at hx
    obtain ⟨c, hc, rfl⟩ := Option.map_eq_some_iff.mp hx
    obtain ⟨hi, hc⟩ := List.getElem?_eq_some_iff.mp hc
    rw [List.length_range] at hi
    rw [List.getElem_range] at hc
    subst hc
    refine ⟨hi, fun w H'' y => ?_⟩
    obtain ⟨rfl, rfl⟩ := y
    exact ⟨.refl, s2, rep_int⟩
  · have : n ≤ i := by simpa using hl
    exact this
theorem range_ok {n : Nat} {lo : Int} {A : List Addr} {H : Hp} {h : DH} {R : It → Hp → Prop} (s : SimH G A h H) (p : Post G (RI G) E A H (.ok (.all (rngItems lo n)) h) R) : R (Itr lo n) H := post_it s (it := .all _) steps_r p
theorem di_range1 (hm : X.mg "range" = none) (ha : DE G E X a f) (hg : Gl X "range" := by rfl) (hs : starEach [a] X.env = [(false, eval a X.env)] := by rfl) (hs1 : starEach [a] X.env = (false, eval a X.env) :: starEach [] X.env := by rfl) : DI G E X tg (.Call (.Name "range" p) [a] [] pos) (DL.iRng1 f) := by
  refine pi_mono (pi_range1 hg hm (pa_cons ha pa_nil hs1) hs) fun σ H R t => ?_
  obtain ⟨A, ρ, h, s, ee, p⟩ := t
  refine ⟨A, ρ, h, s, ee, Post.mono ?_ (Post.bind (R := Rep G) p)⟩
  rintro v H1 ⟨A1, h1, d, e1, s1, r1, p1⟩
  split at p1
  · split at p1
    · rename_i hl
      exact ⟨_, by rw [r1.int_], by omega, by omega, range_ok s1 p1⟩
    · exact p1.elim
  · exact p1.elim
theorem di_range2 (hm : X.mg "range" = none) (ha : DE G E X a f) (hb : DE G E X b g) (hg : Gl X "range" := by rfl) (hs : starEach [a, b] X.env = [(false, eval a X.env), (false, eval b X.env)] := by rfl) (hs2 : starEach [b] X.env = [(false, eval b X.env)] := by rfl)
    (hs3 : starEach [a, b] X.env = (false, eval a X.env) :: starEach [b] X.env := by rfl) (hs4 : starEach [b] X.env = (false, eval b X.env) :: starEach [] X.env := by rfl) : DI G E X tg (.Call (.Name "range" p) [a, b] [] pos) (DL.iRng2 f g) := by
  refine pi_mono (pi_range2 hg hm (pa_cons ha (pa_cons hb pa_nil hs4) hs3) hs hs2) fun σ H R t => ?_
  obtain ⟨A, ρ, h, s, ee, p⟩ := t
  refine ⟨A, ρ, h, s, ee, Post.mono ?_ (Post.bind (R := Rep G) p)⟩
  rintro v H1 ⟨A1, h1, d, e1, s1, r1, p1⟩
  refine ⟨A1, ρ, h1, s1, ee.mono e1.toEx0, Post.mono ?_ (Post.bind (R := Rep G) p1)⟩
  rintro u H2 ⟨A2, h2, d2, e2, s2, r2, p2⟩
  split at p2
  · split at p2
    · rename_i hl
      exact ⟨_, _, by rw [(r1.mono e2.toEx0).int_, r2.int_], ⟨by omega, by omega, by omega, by omega⟩, range_ok s2 p2⟩
    · exact p2.elim
  · exact p2.elim
theorem di_rev (hK : X.K = G.K) (hm : X.mg "reversed" = none) (ha : DE G E X e f) (hg : Gl X "reversed" := by rfl) (hs : starEach [e] X.env = (false, eval e X.env) :: starEach [] X.env := by rfl) : DI G E X tg (.Call (.Name "reversed" p) [e] [] pos) (iRev f) := by
  refine pi_mono (RT.pi_revA hg hm ha hs) fun σ H R t => ?_
  obtain ⟨A, ρ, h, s, ee, p⟩ := t
  refine ⟨A, ρ, h, s, ee, Post.mono ?_ (Post.bind (R := Rep G) p)⟩
  rintro v H1 ⟨A1, h1, d, e1, s1, r1, p1⟩
  unfold oRev at p1
  split at p1
  · rename_i xs
    obtain ⟨a, vs, rfl, q, t⟩ := r1.tup_
    refine ⟨a, vs, rfl, .inr ⟨hK ▸ q, post_it s1 (it := .all _) (J := RT.ItvT X.K a vs.length) ?_ p1⟩⟩
    rw [hK]
    intro i A2 h2 H2 e2 s2 _
    have q' := e2.tup _ _ q
    have t' := t.mono e2.toEx0
    have hlen := t.length
    refine ⟨fun x hx => ?_, fun hl => ?_⟩
    · have hi : i < xs.length := by
        have := (List.getElem?_eq_some_iff.mp hx).1
        simpa using this
      rw [List.getElem?_reverse hi] at hx
      obtain ⟨v, hv, rv⟩ := t'.get hx
      rw [hlen] at hv
      refine ⟨⟨by omega, vs, v, q', hv⟩, fun w H'' y => ?_⟩
      obtain ⟨rfl, y⟩ := y
      have ew := y vs q'
      rw [hv] at ew
      cases ew
      exact ⟨.refl, s2, rv⟩
    · have : vs.length ≤ i := by
        rw [List.length_reverse] at hl
        omega
      exact this
  · exact p1.elim
end

/-! ### for -/
def forA (γ : Dg) (b : Ds) : List D → Ds
  | [], ρ, h => .nx ρ h
  | x :: xs, ρ, h => ofR (γ x ρ h) fun ρ1 h1 => match b ρ1 h1 with
    | .nx ρ' h' => forA γ b xs ρ' h'
    | .ct ρ' h' => forA γ b xs ρ' h'
    | .bk ρ' h' => .nx ρ' h'
    | .rt d h' => .rt d h'
    | .ex c d h' => .ex c d h'
    | .bad => .bad
open Classical in
/-- over a list that stays as it is -/
noncomputable def forO (γ : Dg) (b : Ds) (n : Nat) (all : List D) : List D → Ds
  | [], ρ, h => if h[n]? = some (.lst all) then .nx ρ h else .bad
  | x :: xs, ρ, h => if h[n]? = some (.lst all) then ofR (γ x ρ h) fun ρ1 h1 => match b ρ1 h1 with
    | .nx ρ' h' => forO γ b n all xs ρ' h'
    | .ct ρ' h' => forO γ b n all xs ρ' h'
    | .bk ρ' h' => .nx ρ' h'
    | .rt d h' => .rt d h'
    | .ex c d h' => .ex c d h'
    | .bad => .bad
    else .bad
noncomputable def gFor (ι : Di) (γ : Dg) (b : Ds) : Ds := fun ρ h => ofR (ι ρ h) fun it h1 => match it with
  | .all xs => forA γ b xs ρ h1
  | .obj n xs => forO γ b n xs xs ρ h1
section
variable {G : Gx} {E : XK} {X : Cx} {tg iter : Expr} {body : List Stmt} {ι : Di} {γ : Dg} {g : Ds} {pos : Pos}
theorem for_core {W : Ends} {A : List Addr} {ρ : En} {h : DH} {σ : L2.St} {H : Hp} {J : It} (ok : DH → Prop) (all : List D) (loop : List D → Ds) (s : SimH G A h H) (e : SimE G A H ρ σ) (st : Steps G A H ok all J) (p : PostS G E A H (loop all ρ h) W)
    (h0 : ∀ {A ρ h H}, PostS G E A H (loop [] ρ h) W → ok h ∧ PostS G E A H (.nx ρ h) W)
    (h1 : ∀ {A ρ h H x xs}, PostS G E A H (loop (x :: xs) ρ h) W → ok h ∧ PostS G E A H (ofR (γ x ρ h) fun ρ1 h1 => match g ρ1 h1 with
      | .nx ρ' h' => loop xs ρ' h'
      | .ct ρ' h' => loop xs ρ' h'
      | .bk ρ' h' => .nx ρ' h'
      | .rt d h' => .rt d h'
      | .ex c d h' => .ex c d h'
      | .bad => .bad) W) :
    ∃ W' : Nat → Nat → L2.St → Hp → Prop, (∃ m, W' 0 m σ H) ∧ ∀ i m σ H, W' i m σ H →
      (J.stop i H ∧ W.nx σ H) ∨ (J.go i H ∧ ∃ N : L2.St → Hp → Prop, (∀ σ' H', N σ' H' → ∃ m', m' < m ∧ W' (i + 1) m' σ' H') ∧ ∀ x H', J.yld i H x H' → TDg G E γ x σ H' fun σ2 H2 => TDs G E g { W with nx := N, ct := N, bk := W.nx } σ2 H2) := by
  refine ⟨fun i m σ1 H1 => ∃ xs A1 ρ1 h1, all.drop i = xs ∧ xs.length = m ∧ Ext G A H A1 H1 ∧ SimH G A1 h1 H1 ∧ SimE G A1 H1 ρ1 σ1 ∧ PostS G E A1 H1 (loop xs ρ1 h1) W, ⟨all.length, all, A, ρ, h, by simp, rfl, .refl, s, e, p⟩, ?_⟩
  rintro i m σ1 H1 ⟨xs, A1, ρ1, h2, ex, em, e1, s1, q1, p1⟩
  cases xs with
  | nil =>
    obtain ⟨o, p2⟩ := h0 p1
    refine .inl ⟨(st i A1 h2 H1 e1 s1 o).2 ?_, p2 A1 σ1 H1 .refl s1 q1⟩
    have := congrArg List.length ex
    rw [List.length_drop, List.length_nil] at this
    omega
  | cons x xs =>
    obtain ⟨o, p2⟩ := h1 p1
    have hx : all[i]? = some x := by
      have := congrArg (fun l : List D => l[0]?) ex
      simpa using this
    have hd : all.drop (i + 1) = xs := by
      rw [← List.drop_drop, ex]
      rfl
    obtain ⟨go, yl⟩ := (st i A1 h2 H1 e1 s1 o).1 x hx
    refine .inr ⟨go, fun σ2 H2 => ∃ A2 ρ2 h3, Ext G A H A2 H2 ∧ SimH G A2 h3 H2 ∧ SimE G A2 H2 ρ2 σ2 ∧ PostS G E A2 H2 (loop xs ρ2 h3) W, fun σ' H' ⟨A2, ρ2, h3, z1, z2, z3, z4⟩ => ⟨xs.length, by rw [← em]; simp, xs, A2, ρ2, h3, hd, rfl, z1, z2, z3, z4⟩, fun v H' y => ?_⟩
    obtain ⟨e2, s2, r2⟩ := yl v H' y
    refine ⟨A1, ρ1, h2, x, s2, q1.mono e2.toEx0, r2, Post.mono ?_ (PostS.ofR (R := RE G) (PostS.ext e2 p2))⟩
    rintro σ3 H3 ⟨A3, h4, ρ3, e3, s3, q3, p3⟩
    refine ⟨A3, ρ3, h4, s3, q3, ?_⟩
    split at p3 <;> rename_i hg <;> rw [hg]
    · exact fun A4 σ4 H4 e4 s4 q4 => ⟨A4, _, _, ((e1.trans e2).trans e3).trans e4, s4, q4, PostS.ext e4 p3⟩
    · exact fun A4 σ4 H4 e4 s4 q4 => ⟨A4, _, _, ((e1.trans e2).trans e3).trans e4, s4, q4, PostS.ext e4 p3⟩
    · exact p3
    · exact p3
    · exact p3
    · exact p3
theorem ds_for (hp : PassesOwn (model X.prog X.w) X.A X.env X.xe) (hc : X.calm = true) (hi : DI G E X tg iter ι) (hg : DG G E X tg γ) (hb : DB G E X body g) (hs : ∀ x, foldedSetIterable iter X.env x = pure x := by intro _; rfl) :
    DS G E X (.For tg iter body [] pos) (gFor ι γ g) := by
  refine ps_mono (ps_for hp hc hi hg hb hs) fun W σ H t => ?_
  obtain ⟨A, ρ, h, s, e, p⟩ := t
  refine ⟨A, ρ, h, s, e, Post.mono ?_ (PostS.ofR (R := RI G) p)⟩
  rintro J H1 ⟨A1, h1, it, e1, s1, r1, p1⟩
  cases it with
  | all xs => exact for_core (fun _ => True) xs (forA γ g) s1 (e.mono e1.toEx0) r1 p1 (fun q => ⟨trivial, q⟩) (fun q => ⟨trivial, q⟩)
  | obj n xs =>
    refine for_core (fun h => h[n]? = some (.lst xs)) xs (forO γ g n xs) s1 (e.mono e1.toEx0) r1 p1 (fun q => ?_) (fun q => ?_)
    · unfold forO at q
      split at q
      · rename_i z
        exact ⟨z, q⟩
      · exact q.elim
    · unfold forO at q
      split at q
      · rename_i z
        exact ⟨z, q⟩
      · exact q.elim
end
end DL
namespace DL
open PySem PySem.Spec PyProof.Rows L2
/-! ### built-ins -/
def eBlt (o : Fn) (fs : Da) : De := fun ρ h => (fs ρ h).bind o
def OpN (G : Gx) (E : XK) (o : Fn) (xs : List V) (H : Hp) (Q : VK) : Prop := ∃ A h ds, SimH G A h H ∧ RepL G A H ds xs ∧ Post G (Rep G) E A H (o ds h) Q
def oLen : Fn := fun ds h => match ds with
  | [.str z] => if z.length ≤ lim then .ok (.int z.length) h else .bad
  | [x] => (match seqOf x h with
    | some xs => .ok (.int xs.length) h
    | none => .bad)
  | _ => .bad
def oAbs : Fn := fun ds h => match ds with
  | [.int i] => .ok (.int i.natAbs) h
  | _ => .bad
def oInt : Fn := fun ds h => match ds with
  | [.int i] => .ok (.int i) h
  | _ => .bad
def oStr : Fn := fun ds h => match ds with
  | [.int i] => if i.natAbs.log2 < 1920 then .ok (.str (toString i)) h else .bad
  | _ => .bad
def oMax : Fn := fun ds h => match ds with
  | [.int i, .int j] => .ok (.int (max i j)) h
  | _ => .bad
def oMin : Fn := fun ds h => match ds with
  | [.int i, .int j] => .ok (.int (min i j)) h
  | _ => .bad
def oTuple : Fn := fun ds h => match ds with
  | [x] => (match seqOf x h with
    | some xs => .ok (.tup xs) h
    | none => .bad)
  | _ => .bad
def oList : Fn := fun ds h => match ds with
  | [x] => (match seqOf x h with
    | some xs => alloc (.lst xs) h
    | none => .bad)
  | _ => .bad
def tyName (d : D) (h : DH) : Option String := match d with
  | .non => some "NoneType"
  | .bl _ => some "bool"
  | .int _ => some "int"
  | .str _ => some "str"
  | .tup _ => some "tuple"
  | .rol _ => some "list"
  | .obj n => (match h[n]? with
    | some (.lst _) => some "list"
    | some (.dic _) => some "dict"
    | _ => none)
def oIsi (T : String) (d : D) (h : DH) : Rs D := match (tyName d h).bind fun t => kitB t T with
  | some b => .ok (.bl b) h
  | none => .bad
section
variable {G : Gx} {E : XK} {X : Cx} {a b c e : Expr} {es : List Expr} {f g : De} {fs : Da} {x : Str} {p pos : Pos}
theorem td_blt {o : Fn} {σ : L2.St} {H : Hp} {Q : VK} {r : List V → Hp → VK → Prop} (m : ∀ xs H Q, OpN G E o xs H Q → r xs H Q) (t : TD G E (eBlt o fs) σ H Q) : tCB r (TDa G E fs) σ H Q := by
  obtain ⟨A, ρ, h, s, e, p⟩ := t
  refine ⟨A, ρ, h, s, e, Post.mono ?_ (Post.bind (R := RepL G) p)⟩
  rintro vs H1 ⟨A1, h1, d, e1, s1, r1, p1⟩
  exact m _ _ _ ⟨A1, h1, d, s1, r1, p1⟩
theorem de_callB {id : String} {o : Fn} {r : List V → Hp → VK → Prop} (hc : CallR X (.builtin id) r) (m : ∀ xs H Q, OpN G E o xs H Q → r xs H Q) (hm : X.mg x = none) (hv : bootBuiltins x = some (.builtin id)) (ha : DA G E X (e :: es) fs) (hg : Gl X x := by rfl) (hn : x ≠ "__name__" := by decide) (hdb : (x == ("__debug__" : Str)) = false := by decide)
    (he : starEach (e :: es) X.env = (false, eval e X.env) :: starEach es X.env := by rfl) (hpl : (backTo pos (starEach es X.env)).any (·.1) = false := by rfl) : DE G E X (.Call (.Name x p) (e :: es) [] pos) (eBlt o fs) :=
  pe_mono (pe_callB hc hg hm hv ha hn hdb he hpl) fun σ H Q t => td_blt m t
theorem de_callTy {T : String} {o : Fn} {r : List V → Hp → VK → Prop} (hc : CallR X (.type T) r) (m : ∀ xs H Q, OpN G E o xs H Q → r xs H Q) (hm : X.mg x = none) (hv : bootBuiltins x = some (.type T)) (ha : DA G E X (e :: es) fs) (hg : Gl X x := by rfl) (hn : x ≠ "__name__" := by decide) (hdb : (x == ("__debug__" : Str)) = false := by decide)
    (he : starEach (e :: es) X.env = (false, eval e X.env) :: starEach es X.env := by rfl) (hpl : (backTo pos (starEach es X.env)).any (·.1) = false := by rfl) : DE G E X (.Call (.Name x p) (e :: es) [] pos) (eBlt o fs) :=
  pe_mono (pe_callTy hc hg hm hv ha hn hdb he hpl) fun σ H Q t => td_blt m t
theorem m_len (hK : X.K = G.K) : ∀ xs H Q, OpN G E oLen xs H Q → ∃ x n, xs = [x] ∧ LenV X.K x H n ∧ Q (.int n) H := fun xs H Q t => by
  obtain ⟨A, h, ds, s, r, p⟩ := t
  unfold oLen at p
  split at p
  · split at p
    · rename_i hl
      simp only [RepL] at r
      obtain ⟨v, _, rfl, rv, rfl⟩ := r
      rw [rv.str_]
      exact ⟨_, _, rfl, ⟨Nat.le_trans hl lim_le, rfl⟩, p.now s rep_int⟩
    · exact p.elim
  · split at p
    · rename_i hx
      simp only [RepL] at r
      obtain ⟨v, _, rfl, rv, rfl⟩ := r
      obtain ⟨q, vs, rfl, z, t⟩ := s.seq rv hx
      rw [hK]
      refine ⟨_, vs.length, rfl, ?_, ?_⟩
      · rcases z with z | z
        · exact .inl ⟨vs, z, rfl⟩
        · exact .inr ⟨vs, z, rfl⟩
      · rw [← t.length]
        exact p.now s rep_int
    · exact p.elim
  · exact p.elim
theorem m_abs : ∀ xs H Q, OpN G E oAbs xs H Q → ∃ i, xs = [.int i] ∧ Q (.int (if i < 0 then -i else i)) H := fun xs H Q t => by
  obtain ⟨A, h, ds, s, r, p⟩ := t
  unfold oAbs at p
  split at p
  · rename_i i
    simp only [RepL] at r
    obtain ⟨v, _, rfl, rv, rfl⟩ := r
    rw [rv.int_]
    refine ⟨i, rfl, ?_⟩
    have e : (if i < 0 then -i else i) = (i.natAbs : Int) := by split <;> omega
    rw [e]
    exact p.now s rep_int
  · exact p.elim
theorem m_int : ∀ xs H Q, OpN G E oInt xs H Q → (∃ i, xs = [.int i] ∧ Q (.int i) H) ∨ ∃ k, xs = [.bl k] ∧ Q (.int (if k then 1 else 0)) H := fun xs H Q t => by
  obtain ⟨A, h, ds, s, r, p⟩ := t
  unfold oInt at p
  split at p
  · rename_i i
    simp only [RepL] at r
    obtain ⟨v, _, rfl, rv, rfl⟩ := r
    rw [rv.int_]
    exact .inl ⟨i, rfl, p.now s rep_int⟩
  · exact p.elim
theorem m_str : ∀ xs H Q, OpN G E oStr xs H Q → ∃ i, xs = [.int i] ∧ i.natAbs.log2 < 1920 ∧ Q (.str (toString i)) H := fun xs H Q t => by
  obtain ⟨A, h, ds, s, r, p⟩ := t
  unfold oStr at p
  split at p
  · rename_i i
    split at p
    · rename_i hl
      simp only [RepL] at r
      obtain ⟨v, _, rfl, rv, rfl⟩ := r
      rw [rv.int_]
      exact ⟨i, rfl, hl, p.now s rep_str⟩
    · exact p.elim
  · exact p.elim
theorem m_max : ∀ xs H Q, OpN G E oMax xs H Q → ∃ i j, xs = [.int i, .int j] ∧ Q (.int (if j > i then j else i)) H := fun xs H Q t => by
  obtain ⟨A, h, ds, s, r, p⟩ := t
  unfold oMax at p
  split at p
  · rename_i i j
    simp only [RepL] at r
    obtain ⟨v, _, rfl, rv, w, _, rfl, rw', rfl⟩ := r
    rw [rv.int_, rw'.int_]
    refine ⟨i, j, rfl, ?_⟩
    have e : (if j > i then j else i) = max i j := by split <;> omega
    rw [e]
    exact p.now s rep_int
  · exact p.elim
theorem m_min : ∀ xs H Q, OpN G E oMin xs H Q → ∃ i j, xs = [.int i, .int j] ∧ Q (.int (if j < i then j else i)) H := fun xs H Q t => by
  obtain ⟨A, h, ds, s, r, p⟩ := t
  unfold oMin at p
  split at p
  · rename_i i j
    simp only [RepL] at r
    obtain ⟨v, _, rfl, rv, w, _, rfl, rw', rfl⟩ := r
    rw [rv.int_, rw'.int_]
    refine ⟨i, j, rfl, ?_⟩
    have e : (if j < i then j else i) = min i j := by split <;> omega
    rw [e]
    exact p.now s rep_int
  · exact p.elim
theorem m_tuple (hK : X.K = G.K) : ∀ xs H Q, OpN G E oTuple xs H Q → ∃ p ys, xs = [.ref p] ∧ ((SqL X.K H p ys ∧ ∀ l, H l = none → Q (.ref l) (upd H l (.tup ys))) ∨ (SqT X.K H p ys ∧ Q (.ref p) H)) := fun xs H Q t => by
  obtain ⟨A, h, ds, s, r, p⟩ := t
  unfold oTuple at p
  split at p
  · split at p
    · rename_i d xs' hx
      simp only [RepL] at r
      obtain ⟨v, _, rfl, rv, rfl⟩ := r
      obtain ⟨q, vs, rfl, z, t⟩ := s.seq rv hx
      rw [hK]
      refine ⟨q, vs, rfl, ?_⟩
      rcases z with z | z
      · exact .inl ⟨z, fun l hl => post_tup s t hl p⟩
      · refine .inr ⟨z, p.now s ?_⟩
        simp only [Rep]
        exact ⟨q, vs, rfl, z, t⟩
    · exact p.elim
  · exact p.elim
theorem m_list (hK : X.K = G.K) : ∀ xs H Q, OpN G E oList xs H Q → ∃ p ys, xs = [.ref p] ∧ (SqL X.K H p ys ∨ SqT X.K H p ys) ∧ ∀ l, H l = none → Q (.ref l) (upd H l (.lst ys)) := fun xs H Q t => by
  obtain ⟨A, h, ds, s, r, p⟩ := t
  unfold oList at p
  split at p
  · split at p
    · rename_i d xs' hx
      simp only [RepL] at r
      obtain ⟨v, _, rfl, rv, rfl⟩ := r
      obtain ⟨q, vs, rfl, z, t⟩ := s.seq rv hx
      rw [hK]
      exact ⟨q, vs, rfl, z, fun l hl => post_lst s t hl p⟩
    · exact p.elim
  · exact p.elim
theorem ty_rep {A : List Addr} {H : Hp} {h : DH} {d : D} {v : V} {t : String} (s : SimH G A h H) (r : Rep G A H d v) (e : tyName d h = some t) : TyX G.K H v (.type t) := by
  cases d with
  | non => cases e; rw [r.non_]; exact .base .non
  | bl b => cases e; rw [r.bl_]; exact .base (.bl b)
  | int b => cases e; rw [r.int_]; exact .base (.int b)
  | str b => cases e; rw [r.str_]; exact .base (.str b)
  | tup xs =>
    cases e
    obtain ⟨a, vs, rfl, q, t⟩ := r.tup_
    rcases q with (q | ⟨o, q⟩) | ⟨o, its, n, k1, k2, _⟩
    · exact .base (.tup q)
    · exact .fTuple q
    · exact .kTuple k1 k2
  | rol xs =>
    cases e
    obtain ⟨a, vs, rfl, q, t⟩ := r.rol_
    rcases q.sq with (q | ⟨o, q⟩) | ⟨o, its, n, k1, k2, _⟩
    · exact .base (.lst q)
    · exact .base (.frz q)
    · exact .kList k1 k2
  | obj n =>
    simp only [tyName] at e
    split at e
    · rename_i xs hn
      cases e
      obtain ⟨a, vs, rfl, _, q, _⟩ := s.lst hn r
      exact .base (.lst q)
    · rename_i kvs hn
      cases e
      simp only [Rep] at r
      obtain ⟨a, ha, rfl⟩ := r
      obtain ⟨vs, q, _⟩ := s.at n _ a hn ha
      exact .base (.dK q)
    · cases e
theorem de_isi {T : String} {y : Str} {p2 : Pos} (hK : X.K = G.K) (hm : X.mg "isinstance" = none) (hmy : X.mg y = none) (hvy : bootBuiltins y = some (.type T)) (ha : DE G E X e f) (hg : Gl X "isinstance" := by rfl) (hgy : Gl X y := by rfl) (hny : y ≠ "__name__" := by decide) (hdy : (y == ("__debug__" : Str)) = false := by decide)
    (he : starEach [e, .Name y p2] X.env = (false, eval e X.env) :: starEach [.Name y p2] X.env := by rfl) (he2 : starEach [.Name y p2] X.env = (false, eval (.Name y p2) X.env) :: starEach [] X.env := by rfl) (hpl : (backTo pos (starEach [.Name y p2] X.env)).any (·.1) = false := by rfl) :
    DE G E X (.Call (.Name "isinstance" p) [e, .Name y p2] [] pos) (eUn (oIsi T) f) := by
  refine pe_mono (pe_callB call_isi hg hm (by decide +kernel) (pa_cons ha (pa_cons (pe_bltn (v := .ty T) hgy hmy hvy rfl hny hdy) pa_nil he2) he) (by decide) (by decide) he hpl) fun σ H Q t => ?_
  obtain ⟨A, ρ, h, s, ee, p⟩ := td1 t
  refine ⟨A, ρ, h, s, ee, Post.mono (fun v H1 q => ?_) p⟩
  obtain ⟨A, h, d, s, r, p⟩ := q
  unfold oIsi at p
  split at p
  · rename_i k hk
    obtain ⟨t, e1, e2⟩ := Option.bind_eq_some_iff.mp hk
    exact ⟨v, .ty T, _, _, k, rfl, .ty T, hK ▸ ty_rep s r e1, kit_ty e2, p.now s rep_bl⟩
  · exact p.elim
end

/-! ### methods of lists -/
def isLst (x : D) (h : DH) : Bool := match x with
  | .obj n => (match h[n]? with
    | some (.lst _) => true
    | _ => false)
  | _ => false
def eMet (o : D → Fn) (f : De) (fs : Da) : De := fun ρ h => (f ρ h).bind fun x h1 => if isLst x h1 = true then (fs ρ h1).bind fun ds h2 => o x ds h2 else .bad
def OpM (G : Gx) (E : XK) (o : D → Fn) (x : V) (xs : List V) (H : Hp) (Q : VK) : Prop := ∃ A h d ds, SimH G A h H ∧ Rep G A H d x ∧ RepL G A H ds xs ∧ Post G (Rep G) E A H (o d ds h) Q
def oAppend (x : D) : Fn := fun ds h => match x, ds with
  | .obj n, [y] => (match h[n]? with
    | some (.lst xs) => if xs.length < lim then .ok .non (h.set n (.lst (xs ++ [y]))) else .bad
    | _ => .bad)
  | _, _ => .bad
def oInsert (x : D) : Fn := fun ds h => match x, ds with
  | .obj n, [.int i, y] => (match h[n]? with
    | some (.lst xs) => if xs.length < lim ∧ 0 ≤ i ∧ i ≤ 1000000 then .ok .non (h.set n (.lst (xs.take i.toNat ++ [y] ++ xs.drop i.toNat))) else .bad
    | _ => .bad)
  | _, _ => .bad
def oPop (x : D) : Fn := fun ds h => match x, ds with
  | .obj n, [] => (match h[n]? with
    | some (.lst xs) => (match xs[xs.length - 1]? with
      | some y => .ok y (h.set n (.lst xs.dropLast))
      | none => .bad)
    | _ => .bad)
  | _, _ => .bad
def oExtend (x : D) : Fn := fun ds h => match x, ds with
  | .obj n, [.obj m] => (match h[n]?, h[m]? with
    | some (.lst xs), some (.lst ys) => if xs.length + ys.length ≤ lim then .ok .non (h.set n (.lst (xs ++ ys))) else .bad
    | _, _ => .bad)
  | _, _ => .bad
section
variable {G : Gx} {E : XK} {X : Cx} {a b c e o : Expr} {es : List Expr} {f g : De} {fs : Da} {x : Str} {p pos apos cpos : Pos}
theorem td_met {om : D → Fn} {r : V → List V → Hp → VK → Prop} (hK : X.K = G.K) (m : ∀ x xs H Q, OpM G E om x xs H Q → r x xs H Q) {σ : L2.St} {H : Hp} {Q : VK} (t : TD G E (eMet om f fs) σ H Q) :
    tBM X.K "list" r (TD G E f) (TDa G E fs) σ H Q := by
  obtain ⟨A, ρ, h, s, ee, p⟩ := t
  refine ⟨A, ρ, h, s, ee, Post.mono ?_ (Post.bind (R := Rep G) p)⟩
  rintro v H1 ⟨A1, h1, d, e1, s1, r1, p1⟩
  split at p1
  · rename_i hl
    unfold isLst at hl
    split at hl
    · split at hl
      · rename_i xs hn
        obtain ⟨a, vs, rfl, _, q, _⟩ := s1.lst hn r1
        refine ⟨.inl ⟨rfl, vs, .inl (.inl q)⟩, A1, ρ, h1, s1, ee.mono e1.toEx0, Post.mono ?_ (Post.bind (R := RepL G) p1)⟩
        rintro ws H2 ⟨A2, h2, ds, e2, s2, r2, p2⟩
        exact m _ _ _ _ ⟨A2, h2, _, ds, s2, r1.mono e2.toEx0, r2, p2⟩
      · cases hl
    · cases hl
  · exact p1.elim
theorem de_met {name : Str} {id : String} {om : D → Fn} {r : V → List V → Hp → VK → Prop} (hK : X.K = G.K) (slot : Slot "list" name id) (hty : typeOf (.builtin id) = pure (.type "method_descriptor")) (hr : MtR X id r) (m : ∀ x xs H Q, OpM G E om x xs H Q → r x xs H Q) (ho : DE G E X o f) (ha : DA G E X (e :: es) fs)
    (hbase : attributeBase o name X.env (eval o X.env) = eval o X.env := by rfl)
    (hfew : ((backTo cpos (starEach (e :: es) X.env)).all (fun x => !x.1) && (backToKw cpos (keywordEach [] X.env)).all (fun x => x.1.isSome)
      && decide ((e :: es).length + ([] : List Keyword).length + (if ([] : List Keyword).isEmpty then 0 else 1) < 30)) = true := by rfl)
    (hline : (apos.endLine == cpos.line) = true := by rfl) (hs : starEach (e :: es) X.env = (false, eval e X.env) :: starEach es X.env := by rfl) (hplain : (backTo cpos (starEach es X.env)).any (·.1) = false := by rfl) :
    DE G E X (.Call (.Attribute o name apos) (e :: es) [] cpos) (eMet om f fs) :=
  pe_mono (pe_bm PySem.F.plainAttrs_list slot hty hr ho ha hbase hfew hline hs hplain) fun σ H Q t => td_met hK m t
theorem m_append : ∀ x xs H Q, OpM G E oAppend x xs H Q → rAppend x xs H Q := fun x xs H Q t => by
  obtain ⟨A, h, d, ds, s, r, rs, p⟩ := t
  unfold oAppend at p
  split at p
  · split at p
    · rename_i n y ys hn
      split at p
      · rename_i hl
        simp only [RepL] at rs
        obtain ⟨v, _, rfl, rv, rfl⟩ := rs
        obtain ⟨a, vs, rfl, ha, q, t⟩ := s.lst hn r
        refine ⟨a, vs, v, rfl, rfl, q, by rw [← t.length]; exact Nat.lt_of_lt_of_le hl lim_le, ?_⟩
        exact post_put s ha (t.append (RepL.cons rv RepL.nil)) (fun _ => rep_non) p
      · exact p.elim
    · exact p.elim
  · exact p.elim
theorem m_insert : ∀ x xs H Q, OpM G E oInsert x xs H Q → (∃ (l : Addr) (ys : List V) (i : Int) (y : V), x = .ref l ∧ xs = [.int i, y] ∧ H l = some (.lst ys) ∧ ys.length < sizeLine ∧ 0 ≤ i ∧ i < 2 ^ 63 ∧ Q .non (upd H l (.lst (ys.take i.toNat ++ [y] ++ ys.drop i.toNat)))) := fun x xs H Q t => by
  obtain ⟨A, h, d, ds, s, r, rs, p⟩ := t
  unfold oInsert at p
  split at p
  · rename_i n i y
    split at p
    · rename_i ys hn
      split at p
      · rename_i hl
        obtain ⟨l1, l2, l3⟩ := hl
        simp only [RepL] at rs
        obtain ⟨v, _, rfl, rv, w, _, rfl, rw', rfl⟩ := rs
        rw [rv.int_]
        obtain ⟨a, vs, rfl, ha, q, t⟩ := s.lst hn r
        refine ⟨a, vs, i, w, rfl, rfl, q, by rw [← t.length]; exact Nat.lt_of_lt_of_le l1 lim_le, l2, by omega, ?_⟩
        exact post_put s ha (((t.take _).append (RepL.cons rw' RepL.nil)).append (t.drop _)) (fun _ => rep_non) p
      · exact p.elim
    · exact p.elim
  · exact p.elim
theorem m_extend : ∀ x xs H Q, OpM G E oExtend x xs H Q → rExtend x xs H Q := fun x xs H Q t => by
  obtain ⟨A, h, d, ds, s, r, rs, p⟩ := t
  unfold oExtend at p
  split at p
  · split at p
    · rename_i hn hm
      split at p
      · rename_i hl
        simp only [RepL] at rs
        obtain ⟨v, _, rfl, rv, rfl⟩ := rs
        obtain ⟨a, vs, rfl, ha, q, t⟩ := s.lst hn r
        obtain ⟨b, ws, rfl, hb, q2, t2⟩ := s.lst hm rv
        refine ⟨a, b, vs, ws, rfl, rfl, q, q2, by rw [← t.length, ← t2.length]; exact Nat.le_trans hl lim_le, ?_⟩
        exact post_put s ha (t.append t2) (fun _ => rep_non) p
      · exact p.elim
    · exact p.elim
  · exact p.elim
theorem de_append (hK : X.K = G.K) (ho : DE G E X o f) (ha : DA G E X [e] fs)
    (hbase : attributeBase o "append" X.env (eval o X.env) = eval o X.env := by rfl)
    (hfew : ((backTo cpos (starEach [e] X.env)).all (fun x => !x.1) && (backToKw cpos (keywordEach [] X.env)).all (fun x => x.1.isSome)
      && decide ([e].length + ([] : List Keyword).length + (if ([] : List Keyword).isEmpty then 0 else 1) < 30)) = true := by rfl)
    (hline : (apos.endLine == cpos.line) = true := by rfl) (hs : starEach [e] X.env = (false, eval e X.env) :: starEach [] X.env := by rfl) (hplain : (backTo cpos (starEach [] X.env)).any (·.1) = false := by rfl) :
    DE G E X (.Call (.Attribute o "append" apos) [e] [] cpos) (eMet oAppend f fs) := de_met hK PySem.F.slot_list_append PySem.F.type_list_append mt_append m_append ho ha hbase hfew hline hs hplain
theorem de_insert (hK : X.K = G.K) (ho : DE G E X o f) (ha : DA G E X [e, b] fs)
    (hbase : attributeBase o "insert" X.env (eval o X.env) = eval o X.env := by rfl)
    (hfew : ((backTo cpos (starEach [e, b] X.env)).all (fun x => !x.1) && (backToKw cpos (keywordEach [] X.env)).all (fun x => x.1.isSome)
      && decide ([e, b].length + ([] : List Keyword).length + (if ([] : List Keyword).isEmpty then 0 else 1) < 30)) = true := by rfl)
    (hline : (apos.endLine == cpos.line) = true := by rfl) (hs : starEach [e, b] X.env = (false, eval e X.env) :: starEach [b] X.env := by rfl) (hplain : (backTo cpos (starEach [b] X.env)).any (·.1) = false := by rfl) :
    DE G E X (.Call (.Attribute o "insert" apos) [e, b] [] cpos) (eMet oInsert f fs) := de_met hK PySem.F.slot_list_insert PySem.F.type_list_insert mt_insert m_insert ho ha hbase hfew hline hs hplain
end

/-! ### keywords -/
section
variable {G : Gx} {E : XK} {X : Cx} {k n m : Nat} {fA : Addr} {fd : FuncData} {ps ks : List Str} {F : Fn} {x : Str} {p pos kpos : Pos} {e : Expr} {es : List Expr} {kws : List Keyword} {f : De} {fs gs : Da} {nm : Option Str}
def DK (G : Gx) (E : XK) (X : Cx) (kws : List Keyword) (fs : Da) : Prop := PK X kws (TDa G E fs)
theorem pk_mono {X : Cx} {e : List Keyword} {t t' : TA} (h : PK X e t) (m : ∀ σ H Q, t' σ H Q → t σ H Q) : PK X e t' := ⟨fun pos pins s σ H Q I q => h.run pos pins s σ H Q I (m _ _ _ q)⟩
theorem dk_nil : DK G E X [] aNil := by
  refine pk_mono pk_nil fun σ H Q t => ?_
  obtain ⟨A, ρ, h, s, e, p⟩ := t
  exact Post.now s RepL.nil p
theorem dk_cons (ha : DE G E X e f) (hb : DK G E X kws fs) : DK G E X (⟨nm, e, kpos⟩ :: kws) (aCons f fs) := by
  refine pk_mono (pk_cons ha hb) fun σ H Q t => ?_
  obtain ⟨A, ρ, h, s, e, p⟩ := t
  refine ⟨A, ρ, h, s, e, Post.mono ?_ (Post.bind (R := Rep G) p)⟩
  rintro v H1 ⟨A1, h1, d, e1, s1, r1, p1⟩
  refine ⟨A1, ρ, h1, s1, e.mono e1.toEx0, Post.mono ?_ (Post.bind (R := RepL G) p1)⟩
  rintro u H2 ⟨A2, h2, d2, e2, s2, r2, p2⟩
  exact Post.now s2 (RepL.cons (r1.mono e2.toEx0) r2) p2
/-- f(e, .., k = v, ..): g puts the values in the parameters' order (and the defaults) -/
def eCallK (F : Fn) (n m : Nat) (g : List D → List D → List D) (fs gs : Da) : De := fun ρ h => (fs ρ h).bind fun xs h1 => (gs ρ h1).bind fun ys h2 => if xs.length = n ∧ ys.length = m then F (g xs ys) h2 else .bad
theorem td_callK {q : Nat} {gV : List V → List V → List V} {gD : List D → List D → List D} (hq : ∀ vs zs : List V, vs.length = n → zs.length = m → (gV vs zs).length = q) (hr : ∀ A H xs ys vs zs, xs.length = n → ys.length = m → RepL G A H xs vs → RepL G A H ys zs → RepL G A H (gD xs ys) (gV vs zs)) {σ : L2.St} {H : Hp} {Q : VK} (t : TD G E (eCallK F n m gD fs gs) σ H Q) :
    tCallN n m (spD G q F) gV E (TDa G E fs) (TDa G E gs) σ H Q := by
  obtain ⟨A, ρ, h, s, e, p⟩ := t
  refine ⟨A, ρ, h, s, e, Post.mono ?_ (Post.bind (R := RepL G) p)⟩
  rintro vs H1 ⟨A1, h1, d, e1, s1, r1, p1⟩
  refine ⟨A1, ρ, h1, s1, e.mono e1.toEx0, Post.mono ?_ (Post.bind (R := RepL G) p1)⟩
  rintro zs H2 ⟨A2, h2, d2, e2, s2, r2, p2⟩
  split at p2
  · rename_i hl
    have r1' := r1.mono e2.toEx0
    have l1 : vs.length = n := by rw [← r1'.length]; exact hl.1
    have l2 : zs.length = m := by rw [← r2.length]; exact hl.2
    exact ⟨l1, l2, hq vs zs l1 l2, A2, _, h2, s2, hr _ _ _ _ _ _ hl.1 hl.2 r1' r2, p2⟩
  · exact p2.elim
theorem pe_callN0 {CX : CXT} {sp : Sp} {g : List Value → List Value → List Value} {gV : List V → List V → List V} {tk : TA} (Fk : FnOk X.prog X.w X.K X.mg X.base CX k fA fd ps sp) (hr : Room k X.A) (hg : Gl X x) (hm : X.mg x = some (.ref fA)) (hk : PySem.W.keepIn X.K (.ref fA) = true) (hb : KBn X.K fd ps 0 ks g gV) (hx : Passes CX X E)
    (hkw : PK X kws tk) (hall : (backToKw pos (keywordEach kws X.env)).all (·.1.isSome) = true := by rfl) (hks : (backToKw pos (keywordEach kws X.env)).filterMap (·.1) = ks := by rfl)
    (hdb : (x == ("__debug__" : Str)) = false := by decide) (hpl : ((backTo pos (starEach [] X.env)).any (·.1) || (backToKw pos (keywordEach kws X.env)).any (·.1.isNone)) = false := by rfl) :
    PE X (.Call (.Name x p) [] kws pos) (tCallN 0 ks.length sp gV E tNil tk) := by
  refine ⟨fun pins s σ H Q I h => ?_⟩
  refine wpAny_Call_Name_kw (ld_glob I hg hm ?_ hdb)
  refine PySem.W.callWith_KW0 (h₀ := X.base) I.ok.mod.kin hk hall ?_ hpl
  refine thn (hkw.run pos pins s σ H _ I h) fun ws s2 ⟨zs, H2, I2, rz, l1, l2, q2⟩ => ⟨I2.kIn, ?_⟩
  rw [hks]
  exact run_fnN (us := []) (vs := []) Fk hr hb hx I2 .nil rz rfl l2 q2
theorem de_callK {q : Nat} {g : List Value → List Value → List Value} {gV : List V → List V → List V} {gD : List D → List D → List D} (Fk : FnOk X.prog X.w X.K X.mg X.base (L2.CX X.prog X.w) k fA fd ps (spD G q F)) (hr : Room k X.A) (hm : X.mg x = some (.ref fA)) (hk : PySem.W.keepIn X.K (.ref fA) = true) (hb : KBn X.K fd ps n ks g gV)
    (hq : ∀ vs zs : List V, vs.length = n → zs.length = ks.length → (gV vs zs).length = q) (hgr : ∀ A H xs ys vs zs, xs.length = n → ys.length = ks.length → RepL G A H xs vs → RepL G A H ys zs → RepL G A H (gD xs ys) (gV vs zs)) (tk : Tk X E)
    (ha : DA G E X (e :: es) fs) (hkw : DK G E X kws gs) (hg : Gl X x := by rfl) (hall : (backToKw pos (keywordEach kws X.env)).all (·.1.isSome) = true := by rfl) (hks : (backToKw pos (keywordEach kws X.env)).filterMap (·.1) = ks := by rfl)
    (hdb : (x == ("__debug__" : Str)) = false := by decide) (he : starEach (e :: es) X.env = (false, eval e X.env) :: starEach es X.env := by rfl)
    (hpl : ((backTo pos (starEach (e :: es) X.env)).any (·.1) || (backToKw pos (keywordEach kws X.env)).any (·.1.isNone)) = false := by rfl) :
    DE G E X (.Call (.Name x p) (e :: es) kws pos) (eCallK F n ks.length gD fs gs) :=
  pe_mono (pe_callN Fk hr hg hm hk hb (passes_call tk fun _ _ _ _ z => z) ha hkw hall hks hdb he hpl) fun σ H Q t => td_callK hq hgr t
theorem de_callK0 {q : Nat} {g : List Value → List Value → List Value} {gV : List V → List V → List V} {gD : List D → List D → List D} (Fk : FnOk X.prog X.w X.K X.mg X.base (L2.CX X.prog X.w) k fA fd ps (spD G q F)) (hr : Room k X.A) (hm : X.mg x = some (.ref fA)) (hk : PySem.W.keepIn X.K (.ref fA) = true) (hb : KBn X.K fd ps 0 ks g gV)
    (hq : ∀ vs zs : List V, vs.length = 0 → zs.length = ks.length → (gV vs zs).length = q) (hgr : ∀ A H xs ys vs zs, xs.length = 0 → ys.length = ks.length → RepL G A H xs vs → RepL G A H ys zs → RepL G A H (gD xs ys) (gV vs zs)) (tk : Tk X E)
    (hkw : DK G E X kws gs) (hg : Gl X x := by rfl) (hall : (backToKw pos (keywordEach kws X.env)).all (·.1.isSome) = true := by rfl) (hks : (backToKw pos (keywordEach kws X.env)).filterMap (·.1) = ks := by rfl)
    (hdb : (x == ("__debug__" : Str)) = false := by decide) (hpl : ((backTo pos (starEach [] X.env)).any (·.1) || (backToKw pos (keywordEach kws X.env)).any (·.1.isNone)) = false := by rfl) :
    DE G E X (.Call (.Name x p) [] kws pos) (eCallK F 0 ks.length gD aNil gs) := by
  refine pe_mono (pe_callN0 Fk hr hg hm hk hb (passes_call tk fun _ _ _ _ z => z) hkw hall hks hdb hpl) fun σ H Q t => ?_
  obtain ⟨A, ρ, h, s, e, p⟩ := td_callK hq hgr t
  exact Post.now s RepL.nil p
/-- keywords in the order of the parameters that are left, no defaults -/
theorem FunD.kN {K : PySem.W.Frag} {x qual : Str} {params : Arguments} {body : List Stmt} {scope : Scope} {kws : List (Str × V)} {f : Addr} {fd : FuncData} {ps ks : List Str} {n : Nat} (F : FunD K x qual params body scope [] kws f fd)
    (h : ∀ (kV doc pm : Value) (an : Option Addr) (cdv ct : Value) (us ws : List Value), us.length = n → ws.length = ks.length → bindArgs (PySem.W.fnOf x qual params body scope .none kV doc pm an cdv ct) ⟨us, ks.zip ws⟩ = pure (ps.zip (us ++ ws))) :
    KBn K fd ps n ks (fun us ws => us ++ ws) (fun vs zs => vs ++ zs) := by
  obtain ⟨oc, od, dV, kV, doc, pm, an, cdv, ct, osl, rfl, lk, hcd, hD, hK⟩ := F.ex
  rcases hD with ⟨_, rfl⟩ | ⟨e, _⟩
  · exact ⟨fun s us ws _ l1 l2 => .of_eq (h kV doc pm an cdv ct us ws l1 l2), fun r1 r2 => r1.append r2⟩
  · exact absurd rfl e
end
end DL
namespace DL
open PySem PySem.Spec PyProof.Rows L2
/-! ### comprehensions -/
def E0 : XK := fun _ _ _ => False
def wipeE (ρ : En) : List Nat → En
  | [] => ρ
  | v :: vs => (wipeE ρ vs).set v none
def noEx {α : Type} (r : Rs α) : Rs α := match r with
  | .ok a h => .ok a h
  | _ => .bad
def lcA (γ : Dg) (c el : De) (ρ : En) : List D → DH → Rs (List D)
  | [], h => .ok [] h
  | x :: xs, h => (noEx (γ x ρ h)).bind fun ρ1 h1 => (noEx (c ρ1 h1)).bind fun b h2 => match b with
    | .bl true => (noEx (el ρ1 h2)).bind fun y h3 => (lcA γ c el ρ xs h3).bind fun ys h4 => .ok (y :: ys) h4
    | .bl false => lcA γ c el ρ xs h2
    | _ => .bad
open Classical in
noncomputable def lcO (γ : Dg) (c el : De) (ρ : En) (n : Nat) (all : List D) : List D → DH → Rs (List D)
  | [], h => if h[n]? = some (.lst all) then .ok [] h else .bad
  | x :: xs, h => if h[n]? = some (.lst all) then (noEx (γ x ρ h)).bind fun ρ1 h1 => (noEx (c ρ1 h1)).bind fun b h2 => match b with
    | .bl true => (noEx (el ρ1 h2)).bind fun y h3 => (lcO γ c el ρ n all xs h3).bind fun ys h4 => .ok (y :: ys) h4
    | .bl false => lcO γ c el ρ n all xs h2
    | _ => .bad
    else .bad
noncomputable def eLc (ι : Di) (γ : Dg) (c el : De) (vs : List Nat) : De := fun ρ h => (ι ρ h).bind fun it h1 =>
  (match it with
  | .all xs => lcA γ c el (wipeE ρ vs) xs h1
  | .obj n xs => lcO γ c el (wipeE ρ vs) n xs xs h1).bind fun ys h2 => if ys.length < lim then alloc (.lst ys) h2 else .bad
def eYes : De := fun _ h => .ok (.bl true) h
/-- a target of a comprehension -/
structure CT (G : Gx) (vs : List Nat) (g : TG) (γ : Dg) : Prop where
  run : ∀ (A : List Addr) (ρ : En) (h : DH) (σ : L2.St) (H : Hp) (d : D) (v : V) (ρ2 : En) (h2 : DH) (Q : L2.St → Hp → Prop), SimH G A h H → SimE G A H ρ (wipe σ vs) → Rep G A H d v → γ d ρ h = .ok ρ2 h2 →
    (∀ σ2, wipe σ2 vs = wipe σ vs → SimE G A H ρ2 σ2 → h2 = h → Q σ2 H) → g v (wipe σ vs) H Q
theorem wipe_comm {σ : L2.St} {i : Nat} {x : Option V} : ∀ {vs : List Nat}, i ∈ vs → wipe (σ.set i x) vs = wipe σ vs
  | [], h => by cases h
  | v :: vs, h => by
    unfold wipe
    by_cases hv : i ∈ vs
    · rw [wipe_comm hv]
    · have e : v = i := by
        rcases List.mem_cons.mp h with e | e
        · exact e.symm
        · exact absurd e hv
      subst e
      have nc : ∀ {ws : List Nat} {σ : L2.St}, v ∉ ws → wipe (σ.set v x) ws = (wipe σ ws).set v x := by
        intro ws
        induction ws with
        | nil => intro σ _; rfl
        | cons w ws ih =>
          intro σ hw
          unfold wipe
          rw [ih (fun z => hw (List.mem_cons_of_mem _ z)), List.set_comm _ _ (fun z => hw (by rw [z]; exact List.mem_cons_self))]
      rw [nc hv, List.set_set]
theorem wipe_idem {σ : L2.St} : ∀ {vs : List Nat}, wipe (wipe σ vs) vs = wipe σ vs
  | [] => rfl
  | v :: vs => by
    show (wipe ((wipe σ vs).set v none) vs).set v none = (wipe σ vs).set v none
    by_cases hv : v ∈ vs
    · rw [wipe_comm hv, wipe_idem]
    · have nc : ∀ {ws : List Nat} {σ : L2.St} {x : Option V}, v ∉ ws → wipe (σ.set v x) ws = (wipe σ ws).set v x := by
        intro ws
        induction ws with
        | nil => intro σ x _; rfl
        | cons w ws ih =>
          intro σ x hw
          unfold wipe
          rw [ih (fun z => hw (List.mem_cons_of_mem _ z)), List.set_comm _ _ (fun z => hw (by rw [z]; exact List.mem_cons_self))]
      rw [nc hv, List.set_set, wipe_idem]
section
variable {G : Gx} {vs : List Nat}
theorem ct_name {i : Nat} (hi : i ∈ vs) : CT G vs (gName i) (tName i) := by
  refine ⟨fun A ρ h σ H d v ρ2 h2 Q s e r q k => ?_⟩
  unfold tName at q
  cases q
  exact k _ (by rw [wipe_comm hi, wipe_idem]) (e.set i r) rfl
/-- several names -/
structure CTs (G : Gx) (vs : List Nat) (g : TGs) (γ : Dgs) : Prop where
  run : ∀ (A : List Addr) (ρ : En) (h : DH) (σ τ : L2.St) (H : Hp) (d : List D) (v : List V) (ρ2 : En) (h2 : DH) (Q : L2.St → Hp → Prop), SimH G A h H → wipe τ vs = wipe σ vs → SimE G A H ρ τ → RepL G A H d v → γ d ρ h = .ok ρ2 h2 →
    (∀ σ2, wipe σ2 vs = wipe σ vs → SimE G A H ρ2 σ2 → h2 = h → Q σ2 H) → g v τ H Q
theorem cts_nil : CTs G vs gNil tsNil := by
  refine ⟨fun A ρ h σ τ H d v ρ2 h2 Q s w e r q k => ?_⟩
  unfold tsNil at q
  split at q
  · cases q
    simp only [RepL] at r
    exact ⟨r, k τ w e rfl⟩
  · cases q
theorem cts_cons {i : Nat} {g : TGs} {γ : Dgs} (hi : i ∈ vs) (c : CTs G vs g γ) : CTs G vs (gCons (gName i) g) (tsCons (tName i) γ) := by
  refine ⟨fun A ρ h σ τ H d v ρ2 h2 Q s w e r q k => ?_⟩
  unfold tsCons at q
  split at q
  · simp only [RepL] at r
    obtain ⟨v1, w1, rfl, r1, r2⟩ := r
    refine ⟨v1, w1, rfl, ?_⟩
    exact c.run A _ h σ _ H _ w1 ρ2 h2 Q s (by rw [wipe_comm hi, w]) (e.set i r1) r2 q k
  · cases q
theorem ct_unp {n : Nat} {g : TGs} {γ : Dgs} (c : CTs G vs g γ) : CT G vs (fun v σ H Q => gTup G.K n g v σ H Q ∨ gLst G.K n g v σ H Q) (tUnp n γ) := by
  refine ⟨fun A ρ h σ H d v ρ2 h2 Q s e r q k => ?_⟩
  unfold tUnp at q
  split at q
  · rename_i xs hx
    split at q
    · rename_i hl
      obtain ⟨a, ws, rfl, z, t⟩ := s.seq r hx
      have key := c.run A ρ h σ (wipe σ vs) H xs ws ρ2 h2 Q s wipe_idem e t q k
      rcases z with z | z
      · exact .inr ⟨a, ws, rfl, z, t.length.symm.trans hl, key⟩
      · exact .inl ⟨a, ws, rfl, z, t.length.symm.trans hl, key⟩
    · cases q
  · cases q
theorem simE_wipe {A : List Addr} {H : Hp} {ρ : En} {σ : L2.St} (e : SimE G A H ρ σ) : ∀ vs : List Nat, SimE G A H (wipeE ρ vs) (wipe σ vs)
  | [] => e
  | v :: vs => by
    unfold wipeE wipe
    have ih := simE_wipe e vs
    refine ⟨by rw [List.length_set, List.length_set]; exact ih.1, fun i d q => ?_⟩
    by_cases hi : i = v
    · subst hi
      by_cases hl : i < (wipeE ρ vs).length
      · rw [List.getElem?_set_self hl] at q
        cases q
      · rw [List.getElem?_eq_none (by simp; omega)] at q
        cases q
    · rw [List.getElem?_set_ne (Ne.symm hi)] at q
      rw [List.getElem?_set_ne (Ne.symm hi)]
      exact ih.2 i d q
theorem post_noEx {α : Type} {E : XK} {A : List Addr} {H : Hp} {α' : Type} {β' : Type} {R' : List Addr → Hp → α' → β' → Prop} {r : Rs α} {k : α → DH → Rs α'} {Q : β' → Hp → Prop} (p : Post G R' E A H ((noEx r).bind k) Q) : ∃ a h, r = .ok a h ∧ Post G R' E A H (k a h) Q := by
  cases r with
  | ok a h => exact ⟨a, h, rfl, p⟩
  | ex _ _ _ => exact p.elim
  | bad => exact p.elim
end
/-- the loop of a comprehension, either kind -/
structure LcLoop (γ : Dg) (c el : De) (ρ : En) (ok : DH → Prop) (loop : List D → DH → Rs (List D)) : Prop where
  nil : ∀ h, loop [] h ≠ .bad → ok h ∧ loop [] h = .ok [] h
  cons : ∀ x xs h, loop (x :: xs) h ≠ .bad → ok h ∧ loop (x :: xs) h = (noEx (γ x ρ h)).bind fun ρ1 h1 => (noEx (c ρ1 h1)).bind fun b h2 => match b with
    | .bl true => (noEx (el ρ1 h2)).bind fun y h3 => (loop xs h3).bind fun ys h4 => .ok (y :: ys) h4
    | .bl false => loop xs h2
    | _ => .bad
  noex : ∀ xs h c d h', loop xs h ≠ .ex c d h'
theorem noEx_bind {α β : Type} {r : Rs α} {k : α → DH → Rs β} {c : Nat} {d : D} {h' : DH} (hk : ∀ a h, k a h ≠ .ex c d h') : (noEx r).bind k ≠ .ex c d h' := by
  cases r with
  | ok a h => exact hk a h
  | ex _ _ _ => exact fun z => by cases z
  | bad => exact fun z => by cases z
theorem lcA_noex {γ : Dg} {c el : De} {ρ : En} : ∀ (xs : List D) (h : DH) (n : Nat) (d : D) (h' : DH), lcA γ c el ρ xs h ≠ .ex n d h'
  | [], _, _, _, _ => fun z => by cases z
  | x :: xs, h, n, d, h' => by
    unfold lcA
    refine noEx_bind fun ρ1 h1 => noEx_bind fun b h2 => ?_
    split
    · refine noEx_bind fun y h3 => ?_
      have ih := lcA_noex (γ := γ) (c := c) (el := el) (ρ := ρ) xs h3 n d h'
      cases e : lcA γ c el ρ xs h3 with
      | ok _ _ => exact fun z => by cases z
      | ex _ _ _ => exact fun z => ih (by rw [e]; exact z)
      | bad => exact fun z => by cases z
    · exact lcA_noex xs h2 n d h'
    · exact fun z => by cases z
theorem lcO_noex {γ : Dg} {c el : De} {ρ : En} {m : Nat} {all : List D} : ∀ (xs : List D) (h : DH) (n : Nat) (d : D) (h' : DH), lcO γ c el ρ m all xs h ≠ .ex n d h'
  | [], _, _, _, _ => by
    unfold lcO
    split <;> exact fun z => by cases z
  | x :: xs, h, n, d, h' => by
    unfold lcO
    split
    · refine noEx_bind fun ρ1 h1 => noEx_bind fun b h2 => ?_
      split
      · refine noEx_bind fun y h3 => ?_
        have ih := lcO_noex (γ := γ) (c := c) (el := el) (ρ := ρ) (m := m) (all := all) xs h3 n d h'
        cases e : lcO γ c el ρ m all xs h3 with
        | ok _ _ => exact fun z => by cases z
        | ex _ _ _ => exact fun z => ih (by rw [e]; exact z)
        | bad => exact fun z => by cases z
      · exact lcO_noex xs h2 n d h'
      · exact fun z => by cases z
    · exact fun z => by cases z
theorem lcA_loop {γ : Dg} {c el : De} {ρ : En} : LcLoop γ c el ρ (fun _ => True) (lcA γ c el ρ) := ⟨fun _ _ => ⟨trivial, rfl⟩, fun _ _ _ _ => ⟨trivial, rfl⟩, lcA_noex⟩
open Classical in
theorem lcO_loop {γ : Dg} {c el : De} {ρ : En} {n : Nat} {all : List D} : LcLoop γ c el ρ (fun h => h[n]? = some (.lst all)) (lcO γ c el ρ n all) := by
  refine ⟨fun h q => ?_, fun x xs h q => ?_, lcO_noex⟩
  · unfold lcO at q ⊢
    split at q
    · rename_i z
      exact ⟨z, by rw [if_pos z]⟩
    · exact absurd rfl q
  · by_cases z : h[n]? = some (.lst all)
    · exact ⟨z, (show (if h[n]? = some (.lst all) then _ else _) = _ from if_pos z)⟩
    · exact absurd (show (if h[n]? = some (.lst all) then _ else _) = _ from if_neg z) q
section
variable {G : Gx} {E : XK} {X : Cx} {elt tg iter cnd : Expr} {scope : Scope} {own : List (Str × Nat)} {ι : Di} {γ : Dg} {c el : De} {g : TG} {pos : Pos}
theorem lc_ne {γ : Dg} {c el : De} {ρ : En} {ok : DH → Prop} {loop : List D → DH → Rs (List D)} {A : List Addr} {H : Hp} {r : Rs (List D)} {k : List D → DH → Rs D} {Q : VK} (p : Post G (Rep G) E A H (r.bind k) Q) : r ≠ .bad := fun z => by
  rw [z] at p
  exact p
/-- with a test (tYes, eYes: none) -/
theorem td_lc {vs : List Nat} {tt : TT} (ct : CT G vs g γ) (htt : ∀ σ H Q, TDt G E0 c σ H Q → tt σ H Q) {σ : L2.St} {H : Hp} {Q : VK} (t : TD G E (eLc ι γ c el vs) σ H Q) : tLc (TDi G E ι) g tt (TD G E0 el) vs σ H Q := by
  obtain ⟨A, ρ, h, s, e, p⟩ := t
  refine ⟨A, ρ, h, s, e, Post.mono ?_ (Post.bind (R := RI G) p)⟩
  rintro J H1 ⟨A1, h1, it, e1, s1, ri, p1⟩
  -- the two kinds at once
  obtain ⟨ok, all, loop, L, st, p2⟩ : ∃ (ok : DH → Prop) (all : List D) (loop : List D → DH → Rs (List D)), LcLoop γ c el (wipeE ρ vs) ok loop ∧ Steps G A1 H1 ok all J ∧
      Post G (Rep G) E A1 H1 ((loop all h1).bind fun ys h2 => if ys.length < lim then alloc (.lst ys) h2 else .bad) Q := by
    cases it with
    | all xs => exact ⟨_, xs, _, lcA_loop, ri, p1⟩
    | obj n xs => exact ⟨_, xs, _, lcO_loop, ri, p1⟩
  clear p1 p ri
  intro L0 hL0
  have eW := simE_wipe (e.mono e1.toEx0) vs
  refine ⟨fun i m H2 => ∃ acc ws A2 h2 xs, all.drop i = xs ∧ xs.length = m ∧ Ext G A1 H1 A2 H2 ∧ SimH G A2 h2 H2 ∧ H2 L0 = some (.lst ws) ∧ L0 ∉ A2 ∧ RepL G A2 H2 acc ws ∧
      Post G (Rep G) E A1 H1 ((loop xs h2).bind fun ys h3 => if (acc ++ ys).length < lim then alloc (.lst (acc ++ ys)) h3 else .bad) Q, ⟨all.length, [], [], A1, h1, all, by simp, rfl, .grow (upd_grow hL0), s1.grow (upd_grow hL0), upd_same, s1.fresh hL0, RepL.nil, by simpa using p2⟩, ?_⟩
  rintro i m H2 ⟨acc, ws, A2, h2, xs, ex, em, e2, s2, hL, nL, rl, p3⟩
  cases xs with
  | nil =>
    have nb : loop [] h2 ≠ .bad := fun z => by
      rw [z] at p3
      exact p3
    obtain ⟨o, el0⟩ := L.nil h2 nb
    rw [el0] at p3
    dsimp only [Rs.bind] at p3
    rw [List.append_nil] at p3
    have hi : all.length ≤ i := by
      have := congrArg List.length ex
      rw [List.length_drop, List.length_nil] at this
      omega
    refine .inl ⟨(st i A2 h2 H2 e2 s2 o).2 hi, ?_⟩
    split at p3
    · have e30 : Ex0 G A2 H2 (A2 ++ [L0]) H2 := ⟨⟨[L0], rfl⟩, fun _ _ q => q, fun a vs q => q⟩
      have e3 : Ext G A1 H1 (A2 ++ [L0]) H2 := by
        refine ⟨⟨?_, e2.tup, e2.rol⟩, fun a vs q z => ?_⟩
        · obtain ⟨B, rfl⟩ := e2.pre
          exact ⟨B ++ [L0], by simp⟩
        · obtain ⟨q1, q2⟩ := e2.own a vs q z
          refine ⟨q1, fun w => ?_⟩
          rcases List.mem_append.mp w with w | w
          · exact q2 w
          · simp only [List.mem_singleton] at w
            rw [w, hL0] at q
            cases q
      refine p3 (A2 ++ [L0]) (.ref L0) H2 e3 ⟨by simp [s2.len], ?_, fun n o' a q1 q2 => ?_, s2.tabs⟩ ?_
      · rw [List.nodup_append]
        refine ⟨s2.nd, by simp, fun a ha b hb z => ?_⟩
        simp only [List.mem_singleton] at hb
        rw [hb] at z
        rw [z] at ha
        exact nL ha
      · by_cases hn : n < A2.length
        · rw [List.getElem?_append_left (by rw [← s2.len]; exact hn)] at q1
          rw [List.getElem?_append_left hn] at q2
          exact (s2.at n o' a q1 q2).grow e30 fun u q => q
        · have hl := (List.getElem?_eq_some_iff.mp q2).1
          rw [List.length_append, List.length_singleton] at hl
          have en : n = A2.length := by omega
          subst en
          rw [List.getElem?_append_right (Nat.le_refl _), Nat.sub_self] at q2
          rw [s2.len, List.getElem?_append_right (Nat.le_refl _), Nat.sub_self] at q1
          cases q1
          cases q2
          exact ⟨ws, hL, rl.mono e30⟩
      · simp only [Rep]
        refine ⟨L0, ?_, rfl⟩
        rw [← s2.len, List.getElem?_append_right (Nat.le_refl _), Nat.sub_self]
        rfl
    · exact p3.elim
  | cons x xs =>
    have nb : loop (x :: xs) h2 ≠ .bad := fun z => by
      rw [z] at p3
      exact p3
    obtain ⟨o, el0⟩ := L.cons x xs h2 nb
    rw [el0, Rs.bind_assoc] at p3
    have hx : all[i]? = some x := by
      have := congrArg (fun l : List D => l[0]?) ex
      simpa using this
    have hd : all.drop (i + 1) = xs := by
      rw [← List.drop_drop, ex]
      rfl
    obtain ⟨go, yl⟩ := (st i A2 h2 H2 e2 s2 o).1 x hx
    refine .inr ⟨go, fun H3 => ∃ acc ws A2 h2, Ext G A1 H1 A2 H3 ∧ SimH G A2 h2 H3 ∧ H3 L0 = some (.lst ws) ∧ L0 ∉ A2 ∧ RepL G A2 H3 acc ws ∧
      Post G (Rep G) E A1 H1 ((loop xs h2).bind fun ys h3 => if (acc ++ ys).length < lim then alloc (.lst (acc ++ ys)) h3 else .bad) Q, fun H' ⟨acc, ws, A2, h2, z1, z2, z3, z4, z5, z6⟩ => ⟨xs.length, by rw [← em]; simp, acc, ws, A2, h2, xs, hd, rfl, z1, z2, z3, z4, z5, z6⟩, fun v H3 y => ?_⟩
    obtain ⟨e3, s3, r3⟩ := yl v H3 y
    obtain ⟨hL3, nL3⟩ := e3.own _ _ hL nL
    obtain ⟨ρ1, h3, hγ, p4⟩ := post_noEx p3
    refine ct.run A2 (wipeE ρ vs) h2 σ H3 x v ρ1 h3 _ s3 ((eW.mono e2.toEx0).mono e3.toEx0) r3 hγ fun σ2 hw eσ eh => ⟨hw, ?_⟩
    subst eh
    rw [Rs.bind_assoc] at p4
    obtain ⟨b, h4, hc, p5⟩ := post_noEx p4
    refine htt σ2 H3 _ ⟨A2, ρ1, h3, s3, eσ, ?_⟩
    rw [hc]
    split at p5
    · -- kept
      rw [Rs.bind_assoc] at p5
      obtain ⟨d5, h5, hel, p6⟩ := post_noEx p5
      intro A4 b4 H4 e4 s4 rb
      cases rb
      rw [if_pos rfl]
      refine ⟨A4, ρ1, h4, s4, eσ.mono e4.toEx0, ?_⟩
      rw [hel]
      intro A5 w5 H5 e5 s5 r5
      obtain ⟨hL4, nL4⟩ := e4.own _ _ hL3 nL3
      obtain ⟨hL5, nL5⟩ := e5.own _ _ hL4 nL4
      have rl5 := ((rl.mono e3.toEx0).mono e4.toEx0).mono e5.toEx0
      have hlen : acc.length < lim := by
        cases hl : loop xs h5 with
        | ok ys h6 =>
          rw [hl] at p6
          dsimp only [Rs.bind] at p6
          split at p6
          · rename_i z
            rw [List.length_append] at z
            omega
          · exact p6.elim
        | ex c' d' h6 => exact absurd hl (L.noex _ _ _ _ _)
        | bad =>
          rw [hl] at p6
          exact p6.elim
      have m5 : ∀ b ∈ A5, b ≠ L0 := fun b hb z => nL5 (by rw [← z]; exact hb)
      have ex5 : Ex0 G A5 H5 A5 (upd H5 L0 (.lst (ws ++ [w5]))) := by
        refine ⟨⟨[], by simp⟩, fun b vs q => ?_, fun b vs q => ?_⟩
        · rcases q with (q | ⟨o, q⟩) | q
          · exact .inl (.inl (by rw [upd_ne fun z => by rw [z, hL5] at q; cases q]; exact q))
          · exact .inl (.inr ⟨o, by rw [upd_ne fun z => by rw [z, hL5] at q; cases q]; exact q⟩)
          · exact .inr q
        · rcases q with q | ⟨o, q⟩
          · exact .inl q
          · exact .inr ⟨o, by rw [upd_ne fun z => by rw [z, hL5] at q; cases q]; exact q⟩
      have eA : Ext G A1 H1 A5 H5 := (((e2.trans e3).trans e4).trans e5)
      refine ⟨ws, hL5, by rw [← rl5.length]; exact Nat.lt_of_lt_of_le hlen lim_le, acc ++ [d5], ws ++ [w5], A5, h5, ⟨⟨eA.pre, fun b vs q => ex5.tup b vs (eA.tup b vs q), fun b vs q => ex5.rol b vs (eA.rol b vs q)⟩, fun b vs q z => ?_⟩, ⟨s5.len, s5.nd, fun n o' a q1 q2 => ?_, fun p hp => ?_⟩, upd_same, nL5, ?_, ?_⟩
      · obtain ⟨q1, q2⟩ := eA.own b vs q z
        have hb : b ≠ L0 := fun w => by rw [w, hL0] at q; cases q
        exact ⟨by rw [upd_ne hb]; exact q1, q2⟩
      · exact (s5.at n o' a q1 q2).grow ex5 fun u q => by rw [upd_ne (m5 a (List.mem_of_getElem? q2))]; exact q
      · obtain ⟨ps, t1, t2, t3⟩ := s5.tabs p hp
        refine ⟨ps, by rw [upd_ne fun z => by rw [z, hL5] at t1; cases t1]; exact t1, t2, fun pos cv hc => ?_⟩
        obtain ⟨c0, c1, c2⟩ := t3 pos cv hc
        exact ⟨c0, c1, by rw [upd_ne fun z => by rw [z, hL5] at c2; cases c2]; exact c2⟩
      · exact (rl5.append (RepL.cons r5 RepL.nil)).mono ex5
      · rw [Rs.bind_assoc] at p6
        simpa only [Rs.bind, List.append_assoc, List.singleton_append] using p6
    · intro A4 b4 H4 e4 s4 rb
      cases rb
      rw [if_neg Bool.false_ne_true]
      obtain ⟨hL4, nL4⟩ := e4.own _ _ hL3 nL3
      exact ⟨acc, ws, A4, h4, ((e2.trans e3).trans e4), s4, hL4, nL4, (rl.mono e3.toEx0).mono e4.toEx0, p5⟩
    · exact p5.elim
theorem tyes_ok {σ : L2.St} {H : Hp} {Q : Bool → Hp → Prop} (t : TDt G E0 eYes σ H Q) : tYes σ H Q := by
  obtain ⟨A, ρ, h, s, e, p⟩ := t
  exact Post.now s rfl p
/-- [elt for x in iter] -/
theorem de_lc (hc : X.calm = true) (hN : X.N.Nodup) (hi : DI G E X tg iter ι) (ok : BlkOk X.N X.env.scope scope own) (ct : CT G (own.map (·.2)) g γ)
    (hg : ∀ (s : Shared) (H : Hp) (C : Addr) (cl : List (Str × Addr)) (fp : List Addr), PG (X.blk s H scope (compEnvC scope cl C X.env) fp) tg g)
    (he : ∀ (s : Shared) (H : Hp) (C : Addr) (cl : List (Str × Addr)) (fp : List Addr), DE G E0 (X.blk s H scope (compEnvC scope cl C X.env) fp) elt el) (hs : ∀ x, foldedSetIterable iter X.env x = pure x := by intro _; rfl) :
    DE G E X (.ListComp elt [⟨tg, iter, [], 0⟩] scope pos) (eLc ι γ eYes el (own.map (·.2))) :=
  pe_mono (pe_lc (ifs := []) hc hN hi ok hg (fun _ _ _ _ _ => pts_nil) he hs) fun σ H Q t => td_lc ct (fun _ _ _ t => tyes_ok t) t
theorem de_lcIf (hc : X.calm = true) (hN : X.N.Nodup) (hi : DI G E X tg iter ι) (ok : BlkOk X.N X.env.scope scope own) (ct : CT G (own.map (·.2)) g γ)
    (hg : ∀ (s : Shared) (H : Hp) (C : Addr) (cl : List (Str × Addr)) (fp : List Addr), PG (X.blk s H scope (compEnvC scope cl C X.env) fp) tg g)
    (ht : ∀ (s : Shared) (H : Hp) (C : Addr) (cl : List (Str × Addr)) (fp : List Addr), DT G E0 (X.blk s H scope (compEnvC scope cl C X.env) fp) cnd c)
    (he : ∀ (s : Shared) (H : Hp) (C : Addr) (cl : List (Str × Addr)) (fp : List Addr), DE G E0 (X.blk s H scope (compEnvC scope cl C X.env) fp) elt el) (hs : ∀ x, foldedSetIterable iter X.env x = pure x := by intro _; rfl) :
    DE G E X (.ListComp elt [⟨tg, iter, [cnd], 0⟩] scope pos) (eLc ι γ c el (own.map (·.2))) :=
  pe_mono (pe_lc (ifs := [cnd]) hc hN hi ok hg (fun s H C cl fp => pts_one (ht s H C cl fp)) he hs) fun σ H Q t => td_lc ct (fun _ _ _ t => t) t
/-- y = [elt for x in iter], y a local -/
theorem ds_setLc {i : Nat} {y : Str} {py : Pos} {spos : Pos} (hc : X.calm = true) (hN : X.N.Nodup) (hi : DI G E X tg iter ι) (ok : BlkOk X.N X.env.scope scope own) (ct : CT G (own.map (·.2)) g γ)
    (hg : ∀ (s : Shared) (H : Hp) (C : Addr) (cl : List (Str × Addr)) (fp : List Addr), PG (X.blk s H scope (compEnvC scope cl C X.env) fp) tg g)
    (he : ∀ (s : Shared) (H : Hp) (C : Addr) (cl : List (Str × Addr)) (fp : List Addr), DE G E0 (X.blk s H scope (compEnvC scope cl C X.env) fp) elt el)
    (hy : X.N[i]? = some y := by rfl) (hyl : X.env.scope.names.lookup y = some .local := by rfl) (hsw : swapsWith (.ListComp elt [⟨tg, iter, [], 0⟩] scope pos) (some (.Name y py)) spos.line X.env = pure true := by exact sw_true rfl rfl rfl (by decide +kernel)) (hs : ∀ x, foldedSetIterable iter X.env x = pure x := by intro _; rfl) :
    DS G E X (.Assign [.Name y py] (.ListComp elt [⟨tg, iter, [], 0⟩] scope pos) spos) (gAsg (eLc ι γ eYes el (own.map (·.2))) (tName i)) := by
  refine ps_mono (ps_setLc (ifs := []) hc hN hy hyl hsw hi ok hg (fun _ _ _ _ _ => pts_nil) he hs) fun W σ H t => ?_
  obtain ⟨A, ρ, h, s, e, p⟩ := ts_asg t
  refine td_lc ct (fun _ _ _ t => tyes_ok t) ⟨A, ρ, h, s, e, Post.mono ?_ p⟩
  rintro v H1 ⟨A1, ρ1, h1, d1, s1, e1, r1, p1⟩
  exact Post.now s1 (e1.set i r1) p1
theorem ds_setLcIf {i : Nat} {y : Str} {py : Pos} {spos : Pos} (hc : X.calm = true) (hN : X.N.Nodup) (hi : DI G E X tg iter ι) (ok : BlkOk X.N X.env.scope scope own) (ct : CT G (own.map (·.2)) g γ)
    (hg : ∀ (s : Shared) (H : Hp) (C : Addr) (cl : List (Str × Addr)) (fp : List Addr), PG (X.blk s H scope (compEnvC scope cl C X.env) fp) tg g)
    (ht : ∀ (s : Shared) (H : Hp) (C : Addr) (cl : List (Str × Addr)) (fp : List Addr), DT G E0 (X.blk s H scope (compEnvC scope cl C X.env) fp) cnd c)
    (he : ∀ (s : Shared) (H : Hp) (C : Addr) (cl : List (Str × Addr)) (fp : List Addr), DE G E0 (X.blk s H scope (compEnvC scope cl C X.env) fp) elt el)
    (hy : X.N[i]? = some y := by rfl) (hyl : X.env.scope.names.lookup y = some .local := by rfl) (hsw : swapsWith (.ListComp elt [⟨tg, iter, [cnd], 0⟩] scope pos) (some (.Name y py)) spos.line X.env = pure true := by exact sw_true rfl rfl rfl (by decide +kernel)) (hs : ∀ x, foldedSetIterable iter X.env x = pure x := by intro _; rfl) :
    DS G E X (.Assign [.Name y py] (.ListComp elt [⟨tg, iter, [cnd], 0⟩] scope pos) spos) (gAsg (eLc ι γ c el (own.map (·.2))) (tName i)) := by
  refine ps_mono (ps_setLc (ifs := [cnd]) hc hN hy hyl hsw hi ok hg (fun s H C cl fp => pts_one (ht s H C cl fp)) he hs) fun W σ H t => ?_
  obtain ⟨A, ρ, h, s, e, p⟩ := ts_asg t
  refine td_lc ct (fun _ _ _ t => t) ⟨A, ρ, h, s, e, Post.mono ?_ p⟩
  rintro v H1 ⟨A1, ρ1, h1, d1, s1, e1, r1, p1⟩
  exact Post.now s1 (e1.set i r1) p1
end
end DL
/-! ### an own error over ValueError: def __init__(self, f): super().__init__(message); self.f = f -/
namespace OwX
open PySem PySem.W PySem.Calls PyProof.Rows PySem.HandSPX L2
/-- its text -/
def iA (fl : Str) (p1 p2 : Pos) : Arguments := { posonlyargs := [], args := [{ arg := "self", annotation := none, pos := p1 }, { arg := fl, annotation := none, pos := p2 }], vararg := none, kwonlyargs := [], kw_defaults := [], kwarg := none, defaults := [] }
def iB (fl : Str) (msg : Expr) (q1 q2 q3 q4 q5 q6 q7 q8 q9 : Pos) : List Stmt :=
  [.Expr (.Call (.Attribute (.Call (.Name "super" q1) [] [] q2) "__init__" q3) [msg] [] q4) q5, .Assign [.Attribute (.Name "self" q6) fl q7] (.Name fl q8) q9]
/-- what the written part says of the class at C, of its __init__ at fI, of the cell at cc -/
structure OwTxt (prog : Program) (K : Frag) (C fI : Addr) (cn fl : Str) (msg : Expr) (scope : Scope) : Prop where
  cls : ∃ nm q N bs bm sn sub ab col dd k0 k1 k2 k3 k5, K.lookup C = some (excClassObj nm q C N bs bm true sn sub ab col dd k0 k1 k2 k3 k5 "ValueError.__new__") ∧ refsVE bm = true
  sa : findIn K (.ref C) "__setattr__" = some (some (.builtin "object.__setattr__"))
  ga : findIn K (.ref C) "__getattribute__" = some (some (.builtin "BaseException.__getattribute__"))
  gg : findIn K (.ref C) "__getattr__" = some none
  noN : findIn K (.ref C) fl = some none
  iC : findIn K (.ref C) "__init__" = some (some (.ref fI))
  tC : typeIn K (.ref fI) = some (.type "function")
  kC : keepIn K (.ref C) = true
  exC : subIn K (.ref C) (.type "BaseException") = some true
  veC : subIn K (.ref C) (.type "ValueError") = some true
  tyC : typeIn K (.ref C) = some (.type "type")
  hdC : hasDictIn K C = true
  te : exmOne K (.ref C) (.ref C) = some true
  sup : ks_superIn K C C "__init__" = some (some (.builtin "ValueError.__init__"))
  mro : mroIn K C (.ref C) = some true
  op : nsIn K cStatics "thirdparty.any" = some none
  gS : nsIn K mainGlobals "super" = some none
  fn : ∃ (cc cda : Addr) (oc : Value) (od : Option Addr) (kV doc pm : Value) (an : Option Addr) (ct : Value) (osl : Array (Option Value)) (p1 p2 q1 q2 q3 q4 q5 q6 q7 q8 q9 : Pos) (cl ccl : Value) (cld cdd : Option Addr) (csl ccs : Array (Option Value)) (vs : Array Value) (file : Str) (tf : Tok),
    K.lookup fI = some ⟨oc, od, .func (ksFn "__init__" (cn ++ ".__init__") (iA fl p1 p2) (iB fl msg q1 q2 q3 q4 q5 q6 q7 q8 q9) scope .none kV doc pm an (.ref cda) ct cc), osl⟩ ∧ codeIn K (.ref cda) (cn ++ ".__init__") = true ∧
    K.lookup cc = some ⟨cl, cld, .cell (some (.ref C)), csl⟩ ∧ K.lookup cda = some ⟨ccl, cdd, .fields vs, ccs⟩ ∧ vs[2]? = some (.str file tf) ∧ ((prog.main.file : Str) == file) = true ∧ (q3.endLine == q4.line) = true
/-- its scope -/
structure OwSc (scope : Scope) (fl : Str) : Prop where
  kind : scope.kind = .function
  co : scope.isCoroutine = false
  gen : scope.isGenerator = false
  self : scope.names.lookup ("self" : Str) = some .local
  f : scope.names.lookup fl = some .local
  c : scope.names.lookup ("__class__" : Str) = some .free
  s : scope.names.lookup ("super" : Str) = some .globalImplicit
  nocell : ∀ x ∈ scope.names, x.2 ≠ .cell
structure InitEnd (fl : Str) (h h' : Heap) (x C dx t1 : Addr) (v : Value) : Prop where
  keep : ∀ b o, b ≠ x → h.get? b = some o → h'.get? b = some o
  obj : h'.get? x = some { cls := .ref C, dict := some dx, data := .fields #[.ref t1, .none, .none, .none, .bool false, .none] }
  dbig : h.objs.size ≤ dx
  dne : dx ≠ x
  ns : h'.Ns1 dx (fun y => if y = fl then some v else none)
structure OwnMade (fl : Str) (h h' : Heap) (e C d : Addr) (v : Value) : Prop where
  keep : ∀ b o, h.get? b = some o → h'.get? b = some o
  new : h.objs.size ≤ e
  obj : ∃ oe vs, h'.get? e = some oe ∧ oe.cls = .ref C ∧ oe.dict = some d ∧ oe.data = .fields vs ∧ vs[1]? = some .none
  dbig : h.objs.size ≤ d
  dne : d ≠ e
  ns : h'.Ns1 d (fun y => if y = fl then some v else none)
theorem one_size (v : Value) : [v].length ≤ sizeLine := by
  rw [sizeLine_eq]
  exact (by decide : 1 ≤ 16777216)
section
variable {prog : Program} {w : World} {A : Around} {E : Value → Shared → Prop} {h : Heap} {g : Array GenState} {d : Drawn} {t : Nat} {os : OsState}
/-- the bound __init__ of the base, called -/
theorem call_mw {nm q : Str} {C N : Addr} {bs bm : List Value} {hdct : Bool} {sn : List Str} {sub : List Value} {ab : Bool} {col : Option Bool} {dd : Option Addr} {k0 k1 k2 k3 k5 : Option Value} {u e t0 : Addr} {rest : List Value} {Q : Value → Shared → Prop}
    (hC : h.get? C = some (excClassObj nm q C N bs bm hdct sn sub ab col dd k0 k1 k2 k3 k5 "ValueError.__new__")) (he : h.get? e = some (excO C t0)) (hu : h.get? u = some (kxs_mw "ValueError.__init__" e)) (hrest : rest.length ≤ sizeLine)
    (hq : ∀ h' t1, (∀ b o, b ≠ e → h.get? b = some o → h'.get? b = some o) → h'.get? e = some (excO C t1) → Q .none ⟨h', g, d, t, os⟩) :
    wpAny (model prog w) A (call (.ref u) rest) Q E ⟨h, g, d, t, os⟩ := by
  refine wpAny_call (codeAny_of_tree ?_)
  show wpAny _ A.in1 (callAny (.ref u) ⟨rest, []⟩) _ _ _
  simp only [callAny]
  refine wpAny_bind (wpAny_load hu ?_)
  simp only [kxs_mw, show (Value.type "method-wrapper" == Value.type "method" || Value.type "method-wrapper" == Value.type "builtin_function_or_method" || Value.type "method-wrapper" == Value.type "method-wrapper") = true by decide, if_true]
  refine KFB.if_so (by decide) ?_
  refine wpAny_bind (check_bound_init F.excBase_ValueError.toExcCallFacts hC he rfl ?_)
  refine wpAny_bind (wpAny_pure (wpAny_pure ?_))
  refine ⟨plainId_quiet F.excBase_ValueError.init.plain _, codeAny_builtin F.excBase_ValueError.initEntry ?_⟩
  exact exc_init_tree (cls := .ref C) (t0 := t0) (dv := none) (c2 := .none) (c3 := .none) (b4 := .bool false) he hrest fun h' k e' _ => hq h' _ k e'
end
theorem call_he {o : Expr} {m : Str} {apos pos : Pos} {env : Env} {msg : Expr} (hst : starEach [msg] env = (false, eval msg env) :: starEach [] env) (hl : (apos.endLine == pos.line) = true) :
    eval (.Call (.Attribute o m apos) [msg] [] pos) env = (do
      let ov ← attributeBase o m env (eval o env)
      standAt apos.atName
      let (f, first) ← holding [ov] (getMethod ov m (L2.plainOf o env))
      callWith pos f first (backTo pos (starEach [msg] env)) []) := by
  have e : ∀ ov, methodCall o m apos pos env ov 1 (backTo pos (starEach [msg] env)) [] = (do
      let (f, first) ← holding [ov] (getMethod ov m (L2.plainOf o env))
      callWith pos f first (backTo pos (starEach [msg] env)) []) := fun ov => L2.mcall_line (by rw [hst] <;> rfl) hl
  have e0 : eval (.Call (.Attribute o m apos) [msg] [] pos) env = (do
      let ov ← attributeBase o m env (eval o env)
      standAt apos.atName
      methodCall o m apos pos env ov 1 (backTo pos (starEach [msg] env)) []) := by rfl
  rw [e0]
  simp only [e]
section
variable {prog : Program} {w : World} {A : Around} {R : Result → Shared → Prop} {s : Shared} {K : Frag} {mg mb : Str → Option Value} {C fI : Addr} {cn fl : Str} {msg : Expr} {scope : Scope}
theorem own_init (T : OwTxt prog K C fI cn fl msg scope) (S : OwSc scope fl) (hfl2 : fl = "name" ∨ fl = "at") {x t0 : Addr} {v : Value} (X : K.In s.heap) (Gm : s.heap.Ns mainGlobals mg) (Gb : s.heap.Ns builtinsNs mb) (hb : mb "super" = bootBuiltins "super") (hlim : s.heap.NoLimit) (hx : s.heap.get? x = some (excO C t0)) (hnx : K.lookup x = none) (hroom : A.depth < recursionLimit)
    (htop : (prog.main.scope.names.lookup ("super" : Str)).isSome = false)
    (hmsg : ∀ (A' : Around) (env : Env) (s' : Shared) (Q : Value → Shared → Prop) (E : Value → Shared → Prop) (m : Str → Option Value), env.scope = scope → env.builtins = builtinsNs → env.globals = mainGlobals → s'.heap.Ns env.locals m → m fl = some v → s.heap.StaysIn s'.heap →
      (∀ tk z, Q z { s' with toks := tk }) → wpAny (model prog w) A' (eval msg env) Q E s')
    (hst : ∀ env : Env, starEach [msg] env = (false, eval msg env) :: starEach [] env)
    (hq : ∀ h' tk dx t1, InitEnd fl s.heap h' x C dx t1 v → R (.ok (.ret .none)) { s with heap := h', toks := tk }) :
    codeAny (model prog w) A (.call (.ref fI) ⟨[.ref x, v], []⟩) R s := by
  obtain ⟨cc, cda, oc, od, kV, doc, pm, an, ct, osl, p1, p2, q1, q2, q3, q4, q5, q6, q7, q8, q9, cl, ccl, cld, cdd, csl, ccs, vs, file, tf, ho, hcd, hcc, hca, hvs, hfile, hln⟩ := T.fn
  obtain ⟨nm, q, N, bs, bm, sn, sub, ab, col, dd, k0, k1, k2, k3, k5, hC, hbm⟩ := T.cls
  have hcl : clsIn K C = some { name := nm, bases := bs, mro := .ref C :: bm, ns := N, qualname := q, hasDict := true, slotNames := sn, subclasses := sub, abstract := ab, collection := col, hasDel := false } := by unfold clsIn; rw [hC] <;> rfl
  have hfl : (fl == ("self" : Str)) = false := by rcases hfl2 with rfl | rfl <;> decide
  have hdb : (fl == ("__debug__" : Str)) = false := by rcases hfl2 with rfl | rfl <;> decide
  refine ks_codeAny_call_defAt (body := iB fl msg q1 q2 q3 q4 q5 q6 q7 q8 q9) (binds := [("self", .ref x), (fl, v)]) hroom (X _ _ ho) rfl hlim (codeRec_of X hcd) rfl (BindsTo.of_eq ?_) S.nocell ?_ (fun h₁ hns k => ?_) S.co S.gen S.kind
  · rcases hfl2 with rfl | rfl
    · first
        | rfl
        | with_unfolding_all rfl
    · first
        | rfl
        | with_unfolding_all rfl
  · intro y hy
    simp only [List.mem_cons, List.not_mem_nil, or_false] at hy
    rcases hy with rfl | rfl
    · exact S.self
    · exact S.f
  · obtain ⟨hp, g, dr, tk, os⟩ := s
    have hxL : hp.objs.size ≠ x := Nat.ne_of_gt (Heap.lt_size hx)
    have X₁ : K.In h₁ := X.keeps k
    have hx₁ := k _ _ hx
    have mv : (fun y => ([("self", Value.ref x), (fl, v)] : List (Str × Value)).reverse.lookup y) fl = some v := by simp [List.lookup]
    have ms : (fun y => ([("self", Value.ref x), (fl, v)] : List (Str × Value)).reverse.lookup y) "self" = some (.ref x) := by
      rcases hfl2 with rfl | rfl <;> rfl
    generalize hmm : (fun y => ([("self", Value.ref x), (fl, v)] : List (Str × Value)).reverse.lookup y) = m₁ at hns mv ms
    obtain ⟨oD, hD1, hD2⟩ : ∃ oD, h₁.get? C = some oD ∧ oD.data = .cls { name := nm, bases := bs, mro := .ref C :: bm, ns := N, qualname := q, hasDict := true, slotNames := sn, subclasses := sub, abstract := ab, collection := col, hasDel := false } := ⟨_, X₁ _ _ hC, rfl⟩
    have hxC : x ≠ C := by
      rintro rfl
      rw [hx₁] at hD1
      cases hD1
      cases hD2
    -- super().__init__(message)
    refine ks_wpAt_execs_cons (ks_wpAt_Expr_any (ks_wpAt_MethodCall (pl := ?pl) ?h1 ?he) ?_ ?_)
    case he => exact call_he (msg := msg) (hst _) hln
    · refine ks_wpAt_super_base (file := file) (tf := tf) (vs := vs) (cc := cda) (ar := { arg := "self", annotation := none, pos := p1 }) (f := fI) (env := ksEnv (cn ++ ".__init__") scope hp.objs.size fI (.ref cda) cc) S.s S.c (by decide) rfl (X₁ _ _ ho) rfl rfl rfl (X₁ _ _ hca) rfl hvs hfile htop ?_
      refine ks_loadName_global S.kind S.s (loadGlobal_builtin (Gm.keeps k) (mg_none_of X Gm T.gS) (Gb.keeps k) (hb.trans rfl) ⟨rfl, ?_⟩)
      refine wpAny_loadName_free S.kind S.c rfl ⟨_, X₁ _ _ hcc, rfl⟩ ?_
      refine wpAny_loadName_local S.kind S.self hns ms ?_
      refine ks_wpAny_isType_cls hD1 hD2 ⟨rfl, ?_⟩
      refine ks_wpAny_call_super hD1 hD2 hx₁ rfl (fun c e => by cases e) (looks_mroIn X₁ T.mro) (fun h₂ e₂ k₂ => ?_)
      have X₂ : K.In h₂ := X₁.keeps k₂
      have hx₂ := k₂ _ _ hx₁
      have I₂ : InstAt h₂ x (excO C t0) C none := ⟨hx₂, rfl, rfl, trivial⟩
      have hm := T.sup
      unfold ks_superIn at hm
      rw [hcl] at hm
      refine kxs_getMethod kxs_ValueError e₂ (looks_opaque X₂ T.op) (l₀ := .ref C :: bm) ?_ rfl X₂ hm (I₂.type.andThen (looks_subIn X₂ T.veC)) hxC (by decide) ?_
      · exact fun A Q E s k q => wpAny_bind ((looks_clsIn X₂ hcl) A _ E s k (wpAny_pure q))
      · have k₃ : ∀ b o, h₂.get? b = some o → (h₂.push (kxs_mw "ValueError.__init__" x)).get? b = some o := fun b o e => Heap.get?_push_of_some _ e
        have hu : (h₂.push (kxs_mw "ValueError.__init__" x)).get? h₂.objs.size = some (kxs_mw "ValueError.__init__" x) := Heap.get?_push_at rfl rfl
        have hns₃ := (hns.keeps k₂).keeps k₃
        rw [hst]
        refine kxs_callWith (i := "ValueError.__init__") (x := x) ?_ (evalArgs_plain (Calls.spliced_cons (hmsg _ _ _ _ _ m₁ rfl rfl rfl hns₃ mv (fun b o e => k₃ _ _ (k₂ _ _ (k _ _ e))) fun tk' z => Calls.spliced_nil ⟨hu, ?_⟩)))
        · rfl
        · refine call_mw (X₂.keeps k₃ _ _ hC) (k₃ _ _ hx₂) hu (one_size _) fun h₄ t1 k₄ hx₄ => ?_
          have hns₄ : h₄.Ns hp.objs.size m₁ := by
            obtain ⟨oL, es, ep, hL, r⟩ := hns₃
            exact ⟨oL, es, ep, k₄ _ _ hxL hL, r⟩
          have X₄ : K.In h₄ := fun b o e => k₄ b o (fun z => by rw [z, hnx] at e; cases e) (X₂.keeps k₃ _ _ e)
          refine ks_wpAt_execs_cons (wpAt_of_wpAny (plainObj_wpAny_Assign_Attribute ?_))
          refine wpAny_Name (wpAny_loadName_local S.kind S.f hns₄ mv ?_) hdb
          refine wpAny_Name (wpAny_loadName_local S.kind S.self hns₄ ms ?_) (by decide)
          refine set_plain X₄ (ox := excO C t1) (od := none) ⟨hx₄, rfl, rfl, trivial⟩ T.sa ?_
          refine exc_osa X₄ hx₄ hcl (show refsVE (.ref C :: bm) = true from hbm) rfl T.noN (fun h₅ tk₅ dx k₅ dn dne hx₅ hn₅ => ?_)
          have up : ∀ b o, b ≠ x → hp.get? b = some o → h₄.get? b = some o := fun b o hb e => k₄ b o hb (k₃ _ _ (k₂ _ _ (k _ _ e)))
          have hsz : hp.objs.size ≤ h₄.objs.size := Nat.le_of_lt (show hp.objs.size < h₄.objs.size from hns₄.lt)
          exact wpAt_of_wpAny (wpAny_execs_nil (hq h₅ tk₅ dx t1 ⟨fun b o hb e => k₅ b o hb (up b o hb e), hx₅, Nat.le_trans hsz dn, dne, hn₅⟩))
    · unfold interactive
      rw [show (callEnv (ksFn "__init__" (cn ++ ".__init__") (iA fl p1 p2) (iB fl msg q1 q2 q3 q4 q5 q6 q7 q8 q9) scope .none kV doc pm an (.ref cda) ct cc) hp.objs.size fI).scope = scope from rfl, S.kind]
      rfl
    · rfl
end
section
variable {prog : Program} {w : World} {A : Around} {R : Result → Shared → Prop} {s : Shared} {K : Frag} {mg mb : Str → Option Value} {C fI : Addr} {cn fl : Str} {msg : Expr} {scope : Scope}
/-- the message is made without ado -/
def MsgOk (prog : Program) (w : World) (scope : Scope) (fl : Str) (msg : Expr) (h : Heap) (v : Value) : Prop :=
  ∀ (A' : Around) (env : Env) (s' : Shared) (Q : Value → Shared → Prop) (E : Value → Shared → Prop) (m : Str → Option Value), env.scope = scope → env.builtins = builtinsNs → env.globals = mainGlobals → s'.heap.Ns env.locals m → m fl = some v → h.StaysIn s'.heap →
      (∀ tk z, Q z { s' with toks := tk }) → wpAny (model prog w) A' (eval msg env) Q E s'
theorem own_made (T : OwTxt prog K C fI cn fl msg scope) (S : OwSc scope fl) (hfl2 : fl = "name" ∨ fl = "at") {v : Value} (X : K.In s.heap) (Gm : s.heap.Ns mainGlobals mg) (Gb : s.heap.Ns builtinsNs mb) (hb : mb "super" = bootBuiltins "super") (hlim : s.heap.NoLimit) (hroom : A.depth + 1 < recursionLimit)
    (htop : (prog.main.scope.names.lookup ("super" : Str)).isSome = false) (hmsg : MsgOk prog w scope fl msg s.heap v) (hst : ∀ env : Env, starEach [msg] env = (false, eval msg env) :: starEach [] env)
    (hq : ∀ h' tk e d, OwnMade fl s.heap h' e C d v → R (.ok (.ret (.ref e))) { s with heap := h', toks := tk }) :
    codeAny (model prog w) A (.call (.ref C) ⟨[v], []⟩) R s := by
  obtain ⟨nm, q, N, bs, bm, sn, sub, ab, col, dd, k0, k1, k2, k3, k5, hC, hbm⟩ := T.cls
  obtain ⟨hp, g, dr, tk, os⟩ := s
  have k : ∀ b o, hp.get? b = some o → ((hp.push (kdv_tup [v])).push (excO C hp.objs.size)).get? b = some o := fun b o e => Heap.get?_push_of_some _ (Heap.get?_push_of_some _ e)
  have hget : ((hp.push (kdv_tup [v])).push (excO C hp.objs.size)).get? (hp.objs.size + 1) = some (excO C hp.objs.size) := by heap_get
  have hnx : K.lookup (hp.objs.size + 1) = none := by
    cases e : K.lookup (hp.objs.size + 1) with
    | none => rfl
    | some o =>
      have z : hp.get? (hp.objs.size + 1) = some o := X _ _ e
      exact absurd (Nat.lt_of_succ_lt (Heap.lt_size z)) (Nat.lt_irrefl _)
  refine call_own F.excBase_ValueError (fun X => refsVE_contains X bm hbm) (X _ _ hC) (looks_findIn X T.iC) (fun self => bind_fn X self T.tC) (one_size v) ?_
  refine own_init (s := ⟨(hp.push (kdv_tup [v])).push (excO C hp.objs.size), g, dr, tk, os⟩) T S hfl2 (X.keeps k) (Gm.keeps k) (Gb.keeps k) hb (hlim.keeps k) hget hnx ?_ htop (fun A' env s' Q E m a1 a2 a3 a4 a5 a6 a7 => hmsg A' env s' Q E m a1 a2 a3 a4 a5 (fun b o e => a6 _ _ (k _ _ e)) a7) hst fun h' tk' dx t1 ⟨k', hx, dn, dne, hns⟩ => ?_
  · show A.depth + 1 < recursionLimit
    exact hroom
  · have old : ∀ b o, hp.get? b = some o → h'.get? b = some o := fun b o e => k' b o (Nat.ne_of_lt (Nat.lt_succ_of_lt (Heap.lt_size e))) (k b o e)
    have z : hp.objs.size + 1 + 1 ≤ dx := by
      first
        | (simpa only [Heap.size_push] using dn)
        | exact dn
        | (have q := dn; rw [Heap.size_push, Heap.size_push] at q; exact q)
    exact ⟨rfl, hq h' tk' (hp.objs.size + 1) dx ⟨old, Nat.le_succ _, ⟨_, _, hx, rfl, rfl, rfl, rfl⟩, Nat.le_trans (Nat.le_trans (Nat.le_succ _) (Nat.le_succ _)) z, dne, hns⟩⟩
theorem msg_add {lit : Str} {p1 p2 p3 : Pos} {j : Nat} {h : Heap} {n : Str} {tk : Tok} (S : OwSc scope fl) (hdb : (fl == ("__debug__" : Str)) = false) (hn : lit.length + n.length ≤ sizeLine) : MsgOk prog w scope fl (.BinOp (.Constant (.str lit) j p1) .Add (.Name fl p2) p3) h (.str n tk) := by
  intro A' env s' Q E m e1 e2 e3 hns hm _ hq
  refine wpAny_BinOp (PySem.wpAny_Constant_str (wpAny_Name (wpAny_loadName_local (by rw [e1]; exact S.kind) (by show env.scope.names.lookup fl = _; rw [e1]; exact S.f) (s := { s' with toks := s'.toks + 1 }) hns hm ?_) hdb))
  exact SB.add (fun t' k => hq _ _) hn
end
end OwX
namespace DL
open PySem PySem.Spec PyProof.Rows L2
theorem relO_fl {fl : Str} {v : V} {v' : Value} (r : RelV v v') (f : Str) : RelO (List.lookup f [(fl, v)]) (if f = fl then some v' else none) := by
  by_cases hw : f = fl
  · subst hw
    rw [if_pos rfl]
    have q : List.lookup f [(f, v)] = some v := by simp [List.lookup]
    rw [q]
    exact r
  · rw [if_neg hw]
    have qw : (f == fl) = false := by simpa using hw
    have q2 : List.lookup f [(fl, v)] = none := by simp [List.lookup, qw]
    rw [q2]
    trivial
/-- all that is told of an own error of the class C -/
structure Own (X : Cx) (C fI : Addr) (cn fl : Str) (msg : Expr) (scope : Scope) (ok : V → Prop) : Prop where
  txt : OwX.OwTxt X.prog X.K C fI cn fl msg scope
  sc : OwX.OwSc scope fl
  fl2 : fl = "name" ∨ fl = "at"
  top : (X.prog.main.scope.names.lookup ("super" : Str)).isSome = false
  st : ∀ env : Env, starEach [msg] env = (false, eval msg env) :: starEach [] env
  mok : ∀ (h : Heap) (v : V) (v' : Value), X.base.StaysIn h → ok v → RelV v v' → OwX.MsgOk X.prog X.w scope fl msg h v'
  gC : X.mg cn = some (.ref C)
section
variable {X : Cx} {C fI : Addr} {cn fl : Str} {msg : Expr} {scope : Scope} {okv : V → Prop}
def tMkOwn (C : Addr) (fl : Str) (okv : V → Prop) (ta : TA) : L2.St → Hp → XK → Prop := fun σ H Q => ta σ H fun vs H1 => ∃ v, vs = [v] ∧ okv v ∧ ∀ d, H1 d = none → Q (.ref C) (some d) (upd H1 d (.xd [(fl, v)]))
theorem pmk_own {a : Expr} {ta : TA} {p pos : Pos} {k : Nat} (T : Own X C fI cn fl msg scope okv) (hr : Room (k + 1) X.A) (ha : PA X [a] ta) (hg : Gl X cn := by rfl) (hdb : (cn == ("__debug__" : Str)) = false := by decide)
    (he : starEach (a :: []) X.env = (false, eval a X.env) :: starEach [] X.env := by rfl) (hpl : (backTo pos (starEach [] X.env)).any (·.1) = false := by rfl) :
    PMk X (.Call (.Name cn p) [a] [] pos) (tMkOwn C fl okv ta) := by
  intro pins s σ H Q I h
  refine wpAny_Call_Name_kw (ld_glob I hg T.gC ?_ hdb)
  refine PySem.W.callWith_K (h₀ := X.base) I.ok.mod.kin T.txt.kC (thn (ha.run pos pins s σ H _ I h) fun us s1 hh => ?_) he hpl
  obtain ⟨vs, H1, I1, r1, v, ev, ok, q1⟩ := hh
  subst ev
  refine ⟨I1.kIn, ?_⟩
  cases r1 with
  | cons rv rn =>
    rename_i v' us'
    cases rn
    show wpAny _ _ (call (.ref C) [v']) _ _ _
    have hlim := I1.nolimit
    have hG := I1.ok.mod.glob.keeps I1.bk
    obtain ⟨mb, hB, hb⟩ := I1.ok.mod.blt
    have hB := hB.keeps I1.bk
    have hmo := T.mok s1.heap v v' I1.bk ok rv
    obtain ⟨hp, g, dr, tk, os⟩ := s1
    refine wpAny_call (OwX.own_made T.txt T.sc T.fl2 I1.kIn hG hB (hb _ (by decide)) hlim (by have := hr.dp; omega) T.top hmo T.st fun h' tk' e d M => ?_)
    show MkP X pins σ Q (.ref e) ⟨h', g, dr, tk', os⟩
    obtain ⟨oe, fv, hoe, hc, hd, hdat, h1⟩ := M.obj
    have hns := M.ns
    obtain ⟨G', g1, g2⟩ := restrict h' fun b => decide (b ≠ e)
    have gk : ∀ b, b ≠ e → G'.get? b = h'.get? b := fun b hb => g1 b (decide_eq_true hb)
    have ge : G'.get? e = none := g2 e (by simp)
    have old : ∀ b o, hp.get? b = some o → G'.get? b = some o := fun b o q => (gk b (Nat.ne_of_lt (Nat.lt_of_lt_of_le (Heap.lt_size q) M.new))).trans (M.keep b o q)
    have ob : ObjOk X.prog X.w (upd H1 d (.xd [(fl, v)])) G' d (.xd [(fl, v)]) :=
      ⟨_, hns.at (fun o q => (gk d M.dne).trans q), fun f => relO_fl rv f⟩
    have J : Inv X pins σ (upd H1 d (.xd [(fl, v)])) ⟨G', g, dr, tk', os⟩ := I1.laid (t' := tk') old M.dbig ob
    refine ⟨e, oe, fv, ⟨G', g, dr, tk', os⟩, _, .ref C, some d, rfl, J, fun b o q => ?_, ge, hoe, ⟨hc, hd⟩, hdat, h1, ?_, rfl, I1.bare, raises_own T.txt.exC T.txt.tyC, q1 d (I1.hok.fresh M.dbig)⟩
    · by_cases hb : b = e
      · have q' : G'.get? b = some o := q
        rw [hb, ge] at q'; cases q'
      · exact (gk b hb).symm.trans q
    · rw [upd_ne (Ne.symm M.dne)]
      exact I1.hok.fresh M.new
/-- e.f, e the exception that the suite holds (at a; its class cls, its dict d) -/
def tFld (C a : Addr) (fl : Str) (cls : Value) (d : Option Addr) (te : TE) : TE := fun σ H Q => te σ H fun x H1 => x = .ref a ∧ cls = .ref C ∧ ∃ (dd : Addr) (v : V), d = some dd ∧ H1 dd = some (.xd [(fl, v)]) ∧ Q v H1
theorem pe_fld {a : Addr} {oe : Obj} {cls : Value} {d : Option Addr} {pn : List (Addr × Obj)} {e : Expr} {te : TE} {pos : Pos} (T : OwX.OwTxt X.prog X.K C fI cn fl msg scope) (hz : Zc cls d oe) (hf : ∃ vs, oe.data = .fields vs) (he : PE (X.suite a ((a, oe) :: pn)) e te)
    (hb : attributeBase e fl X.env (eval e X.env) = eval e X.env := by rfl) :
    PE (X.suite a ((a, oe) :: pn)) (.Attribute e fl pos) (tFld C a fl cls d te) := by
  refine ⟨fun pins s σ H Q I h => ?_⟩
  refine attr_of hb (thn (he.run pins s σ H _ I h) fun u s1 hh => ?_)
  obtain ⟨x, H1, I1, rx, ex, ec, dd, v, ed, ea, q⟩ := hh
  subst ex
  obtain rfl : u = Value.ref a := rx
  subst ec
  subst ed
  obtain ⟨ha, _⟩ := I1.pin (a, oe) (List.mem_append_left _ List.mem_cons_self)
  obtain ⟨vs, hd⟩ := hf
  have hx : ObjOk X.prog X.w H1 s1.heap dd (.xd [(fl, v)]) := I1.hok dd _ ea
  obtain ⟨mA, hns, hr⟩ := hx
  obtain ⟨od, ho, hl⟩ := lookIn_ns hns
  have l : List.lookup fl [(fl, v)] = some v := by simp [List.lookup]
  obtain ⟨u, hu, ru⟩ := RelO.some_of (v := v) (o := mA fl) (by rw [← l]; exact hr fl)
  have J : PySem.W.InstAt s1.heap a oe C (some od) := ⟨ha, hz.1, by unfold PySem.W.notCls; rw [hd] <;> rfl, by rw [hz.2]; exact ho⟩
  exact HandSPX.exc_get I1.kIn J T.ga T.gg T.exC (PySem.W.findObj_own T.hdC T.noN rfl (by rw [hl, hu])) (handed_of ru) ⟨v, H1, I1.tok _, ru, q⟩
end
/-! ### raise C(e) -/
section
variable {G : Gx} {E : XK} {X : Cx} {C fI : Addr} {cn fl : Str} {msg : Expr} {scope : Scope} {okv : V → Prop} {okd : D → Bool} {c : Nat}
def gRaise (c : Nat) (okd : D → Bool) (fs : Da) : Ds := fun ρ h => match fs ρ h with
  | .ok [d] h1 => if okd d = true then .ex c d h1 else .bad
  | .ok _ _ => .bad
  | .ex n d h1 => .ex n d h1
  | .bad => .bad
theorem ds_raise {a : Expr} {fs : Da} {p pos pos2 : Pos} {k : Nat} (T : Own X C fI cn fl msg scope okv) (hG : G.excs[c]? = some (C, fl)) (hok : ∀ A H d v, okd d = true → Rep G A H d v → okv v) (hc : X.calm = true) (hr : Room (k + 1) X.A) (tk : Tk X E) (ha : DA G E X [a] fs) (hg : Gl X cn := by rfl) (hdb : (cn == ("__debug__" : Str)) = false := by decide)
    (he : starEach (a :: []) X.env = (false, eval a X.env) :: starEach [] X.env := by rfl) (hpl : (backTo pos (starEach [] X.env)).any (·.1) = false := by rfl) :
    DS G E X (.Raise (some (.Call (.Name cn p) [a] [] pos)) none pos2) (gRaise c okd fs) := by
  refine ps_mono (ps_raise hc tk (pmk_own T hr ha hg hdb he hpl)) fun W σ H t => ?_
  obtain ⟨A, ρ, h, s, e, pp⟩ := t
  refine ⟨A, ρ, h, s, e, ?_⟩
  unfold gRaise at pp
  cases hr : fs ρ h with
  | bad => rw [hr] at pp; exact pp.elim
  | ex n d h1 => rw [hr] at pp; exact pp
  | ok ds h1 =>
    rw [hr] at pp
    match ds, pp with
    | [d], pp =>
      dsimp only at pp
      split at pp
      · rename_i hd
        intro A1 vs H1 e1 s1 r1
        simp only [RepL] at r1
        obtain ⟨v, r, rfl, rv, rfl⟩ := r1
        refine ⟨v, rfl, hok _ _ _ _ hd rv, fun dd hdd => ?_⟩
        have x0 : Ext G A1 H1 A1 (upd H1 dd (.xd [(fl, v)])) := Ext.grow (upd_grow hdd)
        exact pp A1 _ _ _ (e1.trans x0) (s1.grow (upd_grow hdd)) ⟨C, fl, dd, v, hG, rfl, rfl, upd_same, rv.mono x0.toEx0⟩
      · exact pp.elim
end
end DL
/-! refused(lambda: e): try: call() / except C as e: return e.f / return text -/
namespace DL
open PySem PySem.Spec PyProof.Rows L2
def TTref (C : Addr) (fl ret : Str) : (XK → Hp → VK → Prop) → Hp → VK → Prop := fun tl H Q =>
  tl (fun cls d H' => cls = .ref C ∧ ∃ dd v, d = some dd ∧ H' dd = some (.xd [(fl, v)]) ∧ Q v H') H fun _ H' => Q (.str ret) H'
theorem takes_len {X : Cx} {W : WX} {n : Nat} (t : Takes X W) (hn : X.N.length = n := by rfl) : Takes X fun c d σ H => σ.length = n → W c d σ H := fun u s' ⟨a, B, sI, pins, σ, H, cls, d, e, I, nb, up, sky, na, os, ag, w⟩ =>
  t u s' ⟨a, B, sI, pins, σ, H, cls, d, e, I, nb, up, sky, na, os, ag, w (I.len.trans hn)⟩
section
variable {X : Cx} {C fI : Addr} {cn fl : Str} {msg : Expr} {scope : Scope} {okv : V → Prop}
theorem ref_gives {Ng : List Str} {x a en q ret : Str} {sg : Scope} {g : Addr} {cdg : Value} {j : Nat} {p1 p2 p3 p4 p5 p6 p7 p8 p9 p10 p11 : Pos} (T : Own X C fI cn fl msg scope okv) (hNg : Ng = [a, en]) (hae : a ≠ en)
    (hge : sg.names.lookup cn = some .globalImplicit) (hde : (cn == ("__debug__" : Str)) = false) (hle : sg.names.lookup en = some .local) (hd1 : (en == ("__debug__" : Str)) = false) (hd2 : (en == ("__classdict__" : Str)) = false)
    (hb : ∀ e : Env, attributeBase (.Name en p5) fl e (eval (.Name en p5) e) = eval (.Name en p5) e) :
    LamX.GivesTo X Ng x sg g cdg [.Try [.Expr (.Call (.Name a p1) [] [] p2) p3] [.ExceptHandler (some (.Name cn p4)) (some en) [.Return (some (.Attribute (.Name en p5) fl p6)) p7] p8] [] [] p9, .Return (some (.Constant (.str ret) j p10)) p11] a q (TTref C fl ret) := by
  subst hNg
  intro f c' s H Q tl act hc h
  have hgl : Gl (cxOf C8.CX0 X.prog X.w X.K X.mg X.base [a, en] x sg g cdg X.A X.stack s H C8.E0).nox cn := hge
  refine ⟨_, pss_cons (ps_try_as (X := (cxOf C8.CX0 X.prog X.w X.K X.mg X.base [a, en] x sg g cdg X.A X.stack s H C8.E0).nox) (c := .ref C) (i := 1) (Wout := fun _ _ _ _ => False)
      (tb := fun W D σ H => ∃ Ech : XK, (∀ (cls : Value) (d : Option Addr) (σ' : L2.St) (H' : Hp), Ech cls d H' → σ'.length = 2 → W cls d σ' H') ∧ σ[0]? = some (some (.ref f)) ∧ H c' = some (LamX.CodeO c' q) ∧ tl Ech H fun _ H' => D.nx σ H') (ts := fun a cls d => tRet (tFld C a fl cls d (tVar 1)))
      rfl rfl (by show ([a, en] : List Str).Nodup; simp [hae]) rfl hle ⟨hgl, hde, .inl T.gC⟩ LamX.takes0 (fun W pn xe tk _ => ?_) (fun a oe cls d pn hz hf => pss_one (ps_ret (pe_fld T.txt hz hf (pe_var (i := 1) rfl (.inl hle) hd1 hd2) (hb _))))) (pss_one (ps_ret pe_str)), ?_⟩
  · refine ⟨fun pins s' σ H' D I h' => ?_⟩
    obtain ⟨Ech, hW, h1, h2, h3⟩ := h'
    have hp := act (fun cls d σ' H' => σ'.length = 2 → W cls d σ' H') pn xe Ech p1 p2 (takes_len tk) hW
    have hq := pss_one (ps_expr (pos := p3) hp)
    exact hq.run pins s' σ H' D I ⟨h1, h2, h3⟩
  · refine ⟨fun cls d H' => cls = .ref C ∧ ∃ dd v, d = some dd ∧ H' dd = some (.xd [(fl, v)]) ∧ Q v H', fun cls d σ' H' z hl => ?_, rfl, hc, h⟩
    obtain ⟨rfl, dd, v, rfl, z1, z2⟩ := z
    refine ⟨true, T.txt.te, fun _ b hb => ?_, fun z => by cases z⟩
    have e : (σ'.set 1 (some (V.ref b)))[1]? = some (some (V.ref b)) := List.getElem?_set_self (by omega)
    exact ⟨.ref b, e, rfl, rfl, dd, v, rfl, z1, z2⟩
end
theorem ext_tabs {G : Gx} {A : List Addr} {H H1 : Hp} (e : LamX.ExtN H H1) : Ext G A H A H1 := by
  refine ⟨⟨⟨[], by simp⟩, fun a vs q => ?_, fun a vs q => ?_⟩, fun a vs q z => ⟨e _ _ q (fun _ z => by cases z), z⟩⟩
  · rcases q with (q | ⟨o, q⟩) | q
    · exact .inl (.inl (e _ _ q (fun _ z => by cases z)))
    · exact .inl (.inr ⟨o, e _ _ q (fun _ z => by cases z)⟩)
    · exact .inr q
  · rcases q with q | ⟨o, q⟩
    · exact .inl q
    · exact .inr ⟨o, e _ _ q (fun _ z => by cases z)⟩
theorem sim_tabs {G : Gx} {A : List Addr} {h : DH} {H H1 : Hp} (s : SimH G A h H) (e : LamX.ExtN H H1) (T : LamX.Tabs G.tabs H1) : SimH G A h H1 := by
  have x : Ext G A H A H1 := ext_tabs e
  refine ⟨s.len, s.nd, fun n o a h1 h2 => ?_, T⟩
  have m := s.at n o a h1 h2
  cases o with
  | lst ds => obtain ⟨vs, q1, q2⟩ := m; exact ⟨vs, e _ _ q1 (fun _ z => by cases z), q2.mono x.toEx0⟩
  | dic ds => obtain ⟨vs, q1, q2⟩ := m; exact ⟨vs, e _ _ q1 (fun _ z => by cases z), q2.mono x.toEx0⟩
  | ins c ds => obtain ⟨C, dx, vs, q0, q1, q2⟩ := m; exact ⟨C, dx, vs, q0, e _ _ q1 (fun _ z => by cases z), q2.mono x.toEx0⟩
/-- what the refusal tells -/
def eRef (c : Nat) (ret : Str) (f : De) : De := fun ρ h => match f ρ h with
  | .ok _ h1 => .ok (.str ret) h1
  | .ex n d h1 => if n = c then .ok d h1 else .bad
  | .bad => .bad
section
variable {G : Gx} {E : XK} {X : Cx} {C : Addr} {fl ret : Str} {c : Nat} {f : De}
theorem td_ref (hG : G.excs[c]? = some (C, fl)) {σ : L2.St} {H : Hp} {Q : VK} (t : TD G E (eRef c ret f) σ H Q) : LamX.tLam G.tabs (TTref C fl ret) (fun E' => TD G E' f) σ H Q := by
  obtain ⟨A, ρ, h, s, e, p⟩ := t
  refine ⟨s.tabs, fun H1 eN T1 => ?_⟩
  have nt : ∀ {a : Addr} {o : HO}, H a = some o → (∀ ps, o ≠ .tbl ps) → H1 a = some o := fun q n => eN _ _ q n
  have x : Ext G A H A H1 := ext_tabs eN
  have s1 : SimH G A h H1 := sim_tabs s eN T1
  refine ⟨A, ρ, h, s1, e.mono x.toEx0, ?_⟩
  unfold eRef at p
  cases hf : f ρ h with
  | bad => rw [hf] at p; exact p.elim
  | ok d h1 =>
    rw [hf] at p
    intro A2 v H2 e2 s2 r2
    exact p A2 _ H2 (x.trans e2) s2 rep_str
  | ex n d h1 =>
    rw [hf] at p
    dsimp only at p
    split at p
    · rename_i hn
      subst hn
      intro A2 cls da H2 e2 s2 i2
      obtain ⟨C', f', a, v, q1, rfl, rfl, q4, q5⟩ := i2
      rw [hG] at q1
      cases q1
      exact ⟨rfl, a, v, rfl, q4, p A2 v H2 (x.trans e2) s2 q5⟩
    · exact p.elim
end
section
variable {G : Gx} {E : XK} {X : Cx} {C fI : Addr} {cn fl : Str} {msg : Expr} {scope : Scope} {okv : V → Prop}
theorem lam_tk {A : Around} {outer : List Env} {s : Shared} {H : Hp} {E : XK} {scope : Scope} {f c' : Addr} : Tk (LamX.lamCx X A outer s H E scope f c') E := takes_of rfl rfl rfl rfl
/-- refused(lambda: body) -/
theorem de_refused {x a en ret : Str} {g cc P : Addr} {k c : Nat} {pg : Arguments} {sg : Scope} {dV kV doc pm cdv ct oc : Value} {an od : Option Addr} {osl : Array (Option Value)} {params : Arguments} {body : Expr} {ls : Scope} {f : De} {p lpos pos : Pos} {j : Nat} {p1 p2 p3 p4 p5 p6 p7 p8 p9 p10 p11 : Pos}
    (T : Own X C fI cn fl msg scope okv) (hG : G.excs[c]? = some (C, fl)) (hg : Gl X x) (hm : X.mg x = some (.ref g)) (hk : PySem.W.keepIn X.K (.ref g) = true)
    (lk : X.K.lookup g = some ⟨oc, od, .func (PySem.W.fnOf x x pg [.Try [.Expr (.Call (.Name a p1) [] [] p2) p3] [.ExceptHandler (some (.Name cn p4)) (some en) [.Return (some (.Attribute (.Name en p5) fl p6)) p7] p8] [] [] p9, .Return (some (.Constant (.str ret) j p10)) p11] sg dV kV doc pm an cdv ct), osl⟩) (hcg : PySem.W.codeIn X.K cdv x = true)
    (hb : L2.Binds X.K (PySem.W.fnOf x x pg [.Try [.Expr (.Call (.Name a p1) [] [] p2) p3] [.ExceptHandler (some (.Name cn p4)) (some en) [.Return (some (.Attribute (.Name en p5) fl p6)) p7] p8] [] [] p9, .Return (some (.Constant (.str ret) j p10)) p11] sg dV kV doc pm an cdv ct) [a] [])
    (Sg : FnScope [a, en] [a] sg) (hva : Vis sg a) (hae : a ≠ en) (hge : sg.names.lookup cn = some .globalImplicit) (hde : (cn == ("__debug__" : Str)) = false) (hle : sg.names.lookup en = some .local) (hd1 : (en == ("__debug__" : Str)) = false) (hd2 : (en == ("__classdict__" : Str)) = false)
    (hab : ∀ e : Env, attributeBase (.Name en p5) fl e (eval (.Name en p5) e) = eval (.Name en p5) e)
    (TB : LamX.TabB X.base X.mg cc P) (hcode : X.env.code = .ref cc) (hmT : (P, X.env.qual ++ "<lambda>") ∈ G.tabs) (hu : ∀ p ∈ G.tabs, p.1 = P → p.2 = X.env.qual ++ "<lambda>") (hr : Room (k + 2) X.A) (L : LamX.LamS X.env.scope ls) (hdef : defaultsOf params X.env = ([], []))
    (hbind : ∀ (q : Str) (cl : List (Str × Addr)) (pm cv ctv : Value), bindArgs (PySem.W.kla_fn "<lambda>" q params body ls cl pm cv ctv) ⟨[], []⟩ = pure [])
    (hbody : ∀ (A : Around) (outer : List Env) (s : Shared) (H : Hp) (E : XK) (f' c' : Addr), Room k (A.deeper (LamX.lamEnv X ls s.heap.objs.size f' c')) → DE G E (LamX.lamCx X A outer s H E ls f' c') body f)
    (hdb : (x == ("__debug__" : Str)) = false := by decide) (hd : (a == ("__debug__" : Str)) = false := by decide) (hcd : (a == ("__classdict__" : Str)) = false := by decide) :
    DE G E X (.Call (.Name x p) [.Lambda params body ls lpos] [] pos) (eRef c ret f) :=
  pe_mono (LamX.pe_lamcall hg hm hk lk hcg hb Sg rfl hva (ref_gives T rfl hae hge hde hle hd1 hd2 hab) TB hcode hmT hu hr L hdef hbind (fun A outer s H E' f' c' hr' => hbody A outer s H E' f' c' hr') hdb hd hcd) fun σ H Q t => td_ref hG t
end
end DL
/-! the head's Hook: defs, facts, tables, own errors with super().__init__ -/
namespace Hd
open PySem PySem.Spec PyProof.Rows L2 He
abbrev OwV : Type := Option (Str × Str × Arguments × FuncBody × Scope × Addr × List Str × Addr)
def fnC (K : PySem.W.Frag) (p : Str × Option Str) : OwV := match K.lookup (fAd K p) with
  | some ⟨_, _, .func fd, _⟩ => some (fd.name, fd.qualname, fd.params, fd.body, fd.scope, fd.globals, fd.closure.map (·.1), fd.builtins)
  | _ => none
/-- an own error over ValueError: its name, its field, the text of its __init__ -/
structure OwnD where
  cn : Str
  fl : Str
  msg : Expr
  scope : Scope
  p1 : Pos
  p2 : Pos
  q1 : Pos
  q2 : Pos
  q3 : Pos
  q4 : Pos
  q5 : Pos
  q6 : Pos
  q7 : Pos
  q8 : Pos
  q9 : Pos
def OwnD.val (d : OwnD) : OwV := some ("__init__", d.cn ++ ".__init__", OwX.iA d.fl d.p1 d.p2, .stmts (OwX.iB d.fl d.msg d.q1 d.q2 d.q3 d.q4 d.q5 d.q6 d.q7 d.q8 d.q9), d.scope, mainGlobals, ["__class__"], builtinsNs)
def clsB (K : PySem.W.Frag) (C : Addr) : Bool := match K.lookup C with
  | some ⟨.type ty, _, .cls cd, sl⟩ => decide (ty = "type") && (match cd.mro, sl.toList with
    | .ref C' :: bm, [_, _, _, _, some (.builtin n), _] => decide (C' = C) && (decide (n = "ValueError.__new__") && (!cd.hasDel && (cd.hasDict && HandSPX.refsVE bm)))
    | _, _ => false)
  | _ => false
theorem clsB_ok {K : PySem.W.Frag} {C : Addr} (h : clsB K C = true) : ∃ nm q N bs bm sn sub ab col dd k0 k1 k2 k3 k5, K.lookup C = some (excClassObj nm q C N bs bm true sn sub ab col dd k0 k1 k2 k3 k5 "ValueError.__new__") ∧ HandSPX.refsVE bm = true := by
  unfold clsB at h
  split at h
  · rename_i ty dd cd sl ho
    obtain ⟨h0, h⟩ := ba h
    split at h
    · rename_i C' bm k0 k1 k2 k3 n k5 hm hs
      obtain ⟨h1, h⟩ := ba h
      obtain ⟨h2, h⟩ := ba h
      obtain ⟨h3, h⟩ := ba h
      obtain ⟨h4, h5⟩ := ba h
      obtain ⟨nm, bs, mro, ns, qn, hd, sn, sub, ab, col, del⟩ := cd
      obtain ⟨sl⟩ := sl
      dsimp only at hm hs h3 h4
      have e0 := of_decide_eq_true h0
      have e1 := of_decide_eq_true h1
      have e2 := of_decide_eq_true h2
      subst e0 e1 e2 hm hs h4
      have e3 : del = false := by simpa using h3
      subst e3
      exact ⟨nm, qn, ns, bs, bm, sn, sub, ab, col, dd, k0, k1, k2, k3, k5, ho, h5⟩
    · cases h
  · cases h
def initB (K : PySem.W.Frag) (P : Program) (d : OwnD) (C fI : Addr) : Bool := match K.lookup fI with
  | some ⟨_, _, .func fd, _⟩ => (match fd.closure, fd.code, fd.defaults with
    | [(_, cc)], .ref cda, .none => (match K.lookup cc with
      | some ⟨_, _, .cell (some (.ref C')), _⟩ => decide (C' = C)
      | _ => false) && (PySem.W.codeIn K (.ref cda) (d.cn ++ ".__init__") && (match K.lookup cda with
      | some ⟨_, _, .fields vs, _⟩ => (match (vs[2]? : Option Value) with
        | some (Value.str file _) => ((P.main.file : Str) == file)
        | _ => false)
      | _ => false))
    | _, _, _ => false)
  | _ => false
def ownB (K : PySem.W.Frag) (P : Program) (d : OwnD) : Bool :=
  let C := ga K d.cn
  let fI := ma K C "__init__"
  eqO (PySem.W.nsIn K mainGlobals d.cn) (some (some (.ref C))) && (clsB K C && (eqO (PySem.W.findIn K (.ref C) "__setattr__") (some (some (.builtin "object.__setattr__"))) && (eqO (PySem.W.findIn K (.ref C) "__getattribute__") (some (some (.builtin "BaseException.__getattribute__"))) &&
  (eqO (PySem.W.findIn K (.ref C) "__getattr__") (some none) && (eqO (PySem.W.findIn K (.ref C) d.fl) (some none) && (eqO (PySem.W.findIn K (.ref C) "__init__") (some (some (.ref fI))) && (decide (PySem.W.typeIn K (.ref fI) = some (.type "function")) && (PySem.W.keepIn K (.ref C) &&
  (decide (PySem.W.subIn K (.ref C) (.type "BaseException") = some true) && (decide (PySem.W.subIn K (.ref C) (.type "ValueError") = some true) && (decide (PySem.W.typeIn K (.ref C) = some (.type "type")) && (PySem.W.hasDictIn K C && (decide (PySem.W.exmOne K (.ref C) (.ref C) = some true) &&
  (eqO (PySem.W.ks_superIn K C C "__init__") (some (some (.builtin "ValueError.__init__"))) && (decide (PySem.W.mroIn K C (.ref C) = some true) && (eqO (PySem.W.nsIn K cStatics "thirdparty.any") (some none) && (eqO (PySem.W.nsIn K mainGlobals "super") (some none) &&
  (initB K P d C fI && (d.q3.endLine == d.q4.line)))))))))))))))))))
theorem own_ok {K : PySem.W.Frag} {P : Program} {d : OwnD} (h : ownB K P d = true) (e : fnC K (d.cn, some "__init__") = d.val) :
    eqO (PySem.W.nsIn K mainGlobals d.cn) (some (some (.ref (ga K d.cn)))) = true ∧ OwX.OwTxt P K (ga K d.cn) (ma K (ga K d.cn) "__init__") d.cn d.fl d.msg d.scope := by
  unfold ownB at h
  obtain ⟨h0, h⟩ := ba h
  obtain ⟨h1, h⟩ := ba h
  obtain ⟨h2, h⟩ := ba h
  obtain ⟨h3, h⟩ := ba h
  obtain ⟨h4, h⟩ := ba h
  obtain ⟨h5, h⟩ := ba h
  obtain ⟨h6, h⟩ := ba h
  obtain ⟨h7, h⟩ := ba h
  obtain ⟨h8, h⟩ := ba h
  obtain ⟨h9, h⟩ := ba h
  obtain ⟨h10, h⟩ := ba h
  obtain ⟨h11, h⟩ := ba h
  obtain ⟨h12, h⟩ := ba h
  obtain ⟨h13, h⟩ := ba h
  obtain ⟨h14, h⟩ := ba h
  obtain ⟨h15, h⟩ := ba h
  obtain ⟨h16, h⟩ := ba h
  obtain ⟨h17, h⟩ := ba h
  obtain ⟨h18, h19⟩ := ba h
  refine ⟨h0, clsB_ok h1, eqO_ok h2, eqO_ok h3, eqO_ok h4, eqO_ok h5, eqO_ok h6, of_decide_eq_true h7, h8, of_decide_eq_true h9, of_decide_eq_true h10, of_decide_eq_true h11, h12, of_decide_eq_true h13, eqO_ok h14, of_decide_eq_true h15, eqO_ok h16, eqO_ok h17, ?_⟩
  unfold initB at h18
  unfold fnC at e
  have ef : fAd K (d.cn, some "__init__") = ma K (ga K d.cn) "__init__" := rfl
  rw [ef] at e
  split at h18
  · rename_i oc od fd osl lk
    rw [lk] at e
    obtain ⟨n1, n2, n3, n4, n5, n6, n7, n8, n9, n10, n11, n12, n13, n14, n15⟩ := fd
    have e2 : (some (n1, n2, n3, n4, n5, n6, n7.map (·.1), n15) : OwV) = d.val := e
    unfold OwnD.val at e2
    simp only [Option.some.injEq, Prod.mk.injEq] at e2
    obtain ⟨a1, a2, a3, a4, a5, a6, a7, a8⟩ := e2
    dsimp only at h18
    split at h18
    · rename_i nm cc cda
      obtain ⟨b1, b⟩ := ba h18
      obtain ⟨b2, b3⟩ := ba b
      split at b1
      · rename_i cl cld C' csl lc
        have eC := of_decide_eq_true b1
        split at b3
        · rename_i ccl cdd vs ccs lv
          split at b3
          · rename_i file tf hv
            simp only [List.map_cons, List.map_nil, List.cons.injEq, and_true] at a7
            subst a1 a2 a3 a4 a5 a6 a7 a8 eC
            exact ⟨cc, cda, oc, od, n9, n10, n11, n12, n14, osl, d.p1, d.p2, d.q1, d.q2, d.q3, d.q4, d.q5, d.q6, d.q7, d.q8, d.q9, cl, ccl, cld, cdd, csl, ccs, vs, file, tf, lk, b2, lc, lv, hv, b3, h19⟩
          · cases b3
        · cases b3
      · cases b1
    · cases h18
  · cases h18
/-! ### the Hook -/
def asO (g : Addr → Option Obj) (n : Nat) : List Addr := asD g n ++ [cStatics]
abbrev AlO : Type := (AlT × Bool) × List OwV
structure SaysO (P : Program) (fa : List Fa) (fn : List DefD) (ts : List Tab) (tf : List Defn) (ow : List OwnD) (ex : PySem.W.Frag → Bool) (w : World) (h : Heap) (K : PySem.W.Frag) : Prop where
  t : SaysT fa fn ts w K
  more : ex K = true
  own : ∀ d ∈ ow, ownB K P d = true ∧ fnC K (d.cn, some "__init__") = d.val
  hd : ∀ p ∈ tf, PySem.W.codeHdIn K (cT K p).1 (cT K p).2 = true
  out : ∀ p ∈ tf, K.lookup (cT K p).2 = none
  empty : ∀ p ∈ tf, h.get? (cT K p).2 = some { cls := .none, data := .fields #[] }
def obsO (P : Program) (n : Nat) (fa : List Fa) (fn : List DefD) (ts : List Tab) (tf : List Defn) (ow : List OwnD) (ex : PySem.W.Frag → Bool) (g : Addr → Option Obj) : AlO :=
  ((obsT fa fn ts (frT g (asO g n)), ex (frT g (asO g n)) && (tabsB g tf (frT g (asO g n)) && ow.all fun d => ownB (frT g (asO g n)) P d)), ow.map fun d => fnC (frT g (asO g n)) (d.cn, some "__init__"))
def valO (fn : List DefD) (ts : List Tab) (ow : List OwnD) (w : World) : AlO := ((valT fn ts w, true), ow.map OwnD.val)
theorem saysO_of {P : Program} {n : Nat} {fa : List Fa} {fn : List DefD} {ts : List Tab} {tf : List Defn} {ow : List OwnD} {ex : PySem.W.Frag → Bool} {w : World} {h : Heap} (e : obsO P n fa fn ts tf ow ex h.get? = valO fn ts ow w) : SaysO P fa fn ts tf ow ex w h (frT h.get? (asO h.get? n)) := by
  have e1 : obsT fa fn ts (frT h.get? (asO h.get? n)) = valT fn ts w := congrArg (fun z : AlO => z.1.1) e
  have e2 : (ex (frT h.get? (asO h.get? n)) && (tabsB h.get? tf (frT h.get? (asO h.get? n)) && ow.all fun d => ownB (frT h.get? (asO h.get? n)) P d)) = true := congrArg (fun z : AlO => z.1.2) e
  have e3 : (ow.map fun d => fnC (frT h.get? (asO h.get? n)) (d.cn, some "__init__")) = ow.map OwnD.val := congrArg (fun z : AlO => z.2) e
  obtain ⟨h1, h2⟩ := ba e2
  obtain ⟨h2, h3⟩ := ba h2
  have key : ∀ p ∈ tf, PySem.W.codeHdIn (frT h.get? (asO h.get? n)) (cT (frT h.get? (asO h.get? n)) p).1 (cT (frT h.get? (asO h.get? n)) p).2 = true ∧ ∃ o, h.get? (cT (frT h.get? (asO h.get? n)) p).2 = some o ∧ emptyTab o = true := fun p hp => by
    obtain ⟨h3, h4⟩ := ba (List.all_eq_true.mp h2 p hp)
    refine ⟨h3, ?_⟩
    cases q : h.get? (cT (frT h.get? (asO h.get? n)) p).2 with
    | none =>
      rw [q] at h4
      cases h4
    | some o =>
      rw [q] at h4
      exact ⟨o, rfl, h4⟩
  exact ⟨e1, h1, fun d hd => ⟨List.all_eq_true.mp h3 d hd, by
      have : ∀ (l : List OwnD), (l.map fun d => fnC (frT h.get? (asO h.get? n)) (d.cn, some "__init__")) = l.map OwnD.val → ∀ d ∈ l, fnC (frT h.get? (asO h.get? n)) (d.cn, some "__init__") = d.val := by
        intro l
        induction l with
        | nil => intro _ d hd; cases hd
        | cons a r ih =>
          intro e d hd
          simp only [List.map_cons, List.cons.injEq] at e
          rcases List.mem_cons.mp hd with rfl | hd
          · exact e.1
          · exact ih e.2 d hd
      exact this ow e3 d hd⟩, fun p hp => (key p hp).1, fun p hp => by
    obtain ⟨_, o, q, z⟩ := key p hp
    exact frT_none q z, fun p hp => by
    obtain ⟨_, o, q, z⟩ := key p hp
    rw [q, emptyTab_eq z]⟩
def hookO (P : Program) (n : Nat) (fa : List Fa) (fn : List DefD) (ts : List Tab) (tf : List Defn) (ow : List OwnD) (ex : PySem.W.Frag → Bool) : PySem.W.Hook where
  α := AlO
  obs := fun s => obsO P n fa fn ts tf ow ex s.heap.get?
  val := fun w => valO fn ts ow w
  says := fun w h => ∃ K : PySem.W.Frag, K.In h ∧ SaysO P fa fn ts tf ow ex w h K
  of := fun _ _ e => ⟨_, frT_in, saysO_of e⟩
  keeps := fun _ _ _ ⟨K, hK, c⟩ k => ⟨K, PySem.W.Frag.In.keeps hK k, ⟨c.t, c.more, c.own, c.hd, c.out, fun p hp => k _ _ (c.empty p hp)⟩⟩
theorem obsO_eq {P : Program} {n : Nat} {fa : List Fa} {fn : List DefD} {ts : List Tab} {tf : List Defn} {ow : List OwnD} {ex : PySem.W.Frag → Bool} {g : Addr → Option Obj} {s : Shared} (h : ∀ a, g a = s.heap.get? a) : obsO P n fa fn ts tf ow ex g = (hookO P n fa fn ts tf ow ex).obs s := by
  have e : g = s.heap.get? := funext h
  rw [e] <;> rfl
end Hd
/-! wrappers for printed texts -/
namespace DL
open PySem PySem.Spec PyProof.Rows L2
/-- the rule of a def whose code object is told -/
theorem fn_okC {P : Program} {w : World} {K : PySem.W.Frag} {mg : Str → Option Value} {base : Heap} {x qual : Str} {params : Arguments} {body : List Stmt} {scope : Scope} {dvs : List V} {kws : List (Str × V)} {p : Str × Option Str} {fd : FuncData} {N ps : List Str} {k n : Nat} {G : Gx} {g : Ds}
    (F : FunD K x qual params body scope dvs kws (He.fAd K p) fd) (S : FnScope N ps scope) (hn : ps.length = n) (hN : n ≤ N.length)
    (hb : ∀ (cdv : Value) (A : Around) (outer : List Env) (s : Shared) (H : Hp) (E : XK), cdv = .ref (He.codeOf K p) → Room k (A.deeper (envOfC qual scope s.heap.objs.size (He.fAd K p) cdv)) → Tk (cxOf (L2.CX P w) P w K mg base N qual scope (He.fAd K p) cdv A outer s H E) E → DB G E (cxOf (L2.CX P w) P w K mg base N qual scope (He.fAd K p) cdv A outer s H E) body g) :
    FnOk P w K mg base (L2.CX P w) (k + 1) (He.fAd K p) fd ps (spD G n (fnD N.length g)) := by
  obtain ⟨oc, od, dV, kV, doc, pm, an, cdv, ct, osl, rfl, lk, hcd, a1, a2⟩ := F.ex
  obtain ⟨c, rfl⟩ := He.codeIn_ref hcd
  have ec := He.codeOf_eq lk rfl
  have F2 : FunD K x qual params body scope dvs kws (He.fAd K p) (PySem.W.fnOf x qual params body scope dV kV doc pm an (.ref c) ct) := F
  refine fn_of lk hcd S (fun vs H Q E h => h.1.trans hn.symm) fun A outer s H vs Q E hr hsp => ?_
  refine ⟨TDs G E g, hb (.ref c) A outer s H E (by rw [ec]) hr (takes_of rfl rfl rfl rfl), ?_⟩
  obtain ⟨hl, A1, ds, h, s1, r, p⟩ := hsp
  refine ⟨A1, _, h, s1, ⟨?_, fun i d hi => ?_⟩, post_finish s1 p⟩
  · unfold L2.start
    simp only [List.length_append, List.length_map, List.length_replicate, r.length]
  · have hi' : i < ds.length := by
      by_cases q : i < ds.length
      · exact q
      · rw [List.getElem?_append_right (by simpa using q), List.getElem?_replicate] at hi
        split at hi <;> cases hi
    rw [List.getElem?_append_left (by simpa using hi'), List.getElem?_map] at hi
    cases hd : ds[i]? with
    | none => rw [hd] at hi; cases hi
    | some d' =>
      rw [hd] at hi
      cases hi
      obtain ⟨v, e1, e2⟩ := r.get hd
      refine ⟨v, ?_, e2⟩
      unfold L2.start
      rw [List.getElem?_append_left (by rw [List.length_map, ← r.length]; exact hi'), List.getElem?_map, e1]
      rfl
section
variable {K : PySem.W.Frag} {x qual : Str} {params : Arguments} {body : List Stmt} {scope : Scope} {dvs : List V} {kws : List (Str × V)} {f : Addr} {fd : FuncData} {ps : List Str}
/-- keywords, and defaults that fill up -/
theorem kbindsD (F : FunD K x qual params body scope dvs kws f fd) (n : Nat) (ks : List Str) (g : {α : Type} → List α → List α → List α → List α) (hd : dvs ≠ [])
    (hrel : ∀ {vs ds zs : List V} {us its ws : List Value}, Vals vs us → Vals ds its → Vals zs ws → Vals (g vs ds zs) (g us its ws))
    (h : ∀ (T : Addr) (kV doc pm : Value) (an : Option Addr) (cdv ct : Value) (us its ws : List Value), us.length = n → its.length = dvs.length → ws.length = ks.length →
      ∃ k, bindArgs (PySem.W.fnOf x qual params body scope (.ref T) kV doc pm an cdv ct) ⟨us, ks.zip ws⟩ = seqItems? (.ref T) >>= k ∧ k (some its.toArray) = pure (ps.zip (g us its ws))) :
    ∃ its : List Value, KBn K fd ps n ks (fun us ws => g us its ws) (fun vs zs => g vs dvs zs) := by
  obtain ⟨oc, od, dV, kV, doc, pm, an, cdv, ct, osl, rfl, lk, hcd, hD, hK⟩ := F.ex
  rcases hD with ⟨e, _⟩ | ⟨_, T, o, its, m, rfl, lT, oT, rT⟩
  · exact absurd e hd
  · refine ⟨its, ⟨fun s us ws X l1 l2 => ?_, fun r1 r2 => hrel r1 rT r2⟩⟩
    obtain ⟨k, e1, e2⟩ := h T kV doc pm an cdv ct us its ws l1 rT.length.symm l2
    refine BindsTo.of_looks fun M => ?_
    rw [e1]
    exact looks_items X lT oT (.of_pure e2)
end
section
variable {G : Gx} {E : XK} {X : Cx} {C fI : Addr} {cn fl : Str} {msg : Expr} {scope : Scope} {okv : V → Prop}
/-- refused(lambda: body), refused told by its FunD -/
theorem de_ref {x a en ret : Str} {g : Addr} {p : Str × Option Str} {k c : Nat} {pg : Arguments} {bg : List Stmt} {sg : Scope} {fd : FuncData} {params : Arguments} {body : Expr} {ls : Scope} {f : De} {pp lpos pos : Pos} {j : Nat} {p1 p2 p3 p4 p5 p6 p7 p8 p9 p10 p11 : Pos}
    (T : Own X C fI cn fl msg scope okv) (hG : G.excs[c]? = some (C, fl)) (hm : X.mg x = some (.ref g)) (F : FunD X.K x x pg bg sg [] [] g fd)
    (hbg : bg = [.Try [.Expr (.Call (.Name a p1) [] [] p2) p3] [.ExceptHandler (some (.Name cn p4)) (some en) [.Return (some (.Attribute (.Name en p5) fl p6)) p7] p8] [] [] p9, .Return (some (.Constant (.str ret) j p10)) p11])
    (hbn : L2.Binds X.K fd [a] [])
    (Sg : FnScope [a, en] [a] sg) (hva : Vis sg a) (hge : sg.names.lookup cn = some .globalImplicit) (hle : sg.names.lookup en = some .local)
    (TB : LamX.TabB X.base X.mg (He.cT X.K p).1 (He.cT X.K p).2) (hcode : X.env.code = .ref (He.codeOf X.K p)) (hT : ((He.cT X.K p).2, X.env.qual ++ "<lambda>") ∈ G.tabs) (hTu : ∀ q ∈ G.tabs, q.1 = (He.cT X.K p).2 → q.2 = X.env.qual ++ "<lambda>") (hr : Room (k + 2) X.A) (L : LamX.LamS X.env.scope ls)
    (hbind : ∀ (q : Str) (cl : List (Str × Addr)) (pm cv ctv : Value), bindArgs (PySem.W.kla_fn "<lambda>" q params body ls cl pm cv ctv) ⟨[], []⟩ = pure [])
    (hbody : ∀ (A : Around) (outer : List Env) (s : Shared) (H : Hp) (E : XK) (f' c' : Addr), Room k (A.deeper (LamX.lamEnv X ls s.heap.objs.size f' c')) → DE G E (LamX.lamCx X A outer s H E ls f' c') body f)
    (hg : Gl X x := by rfl) (hae : a ≠ en := by decide) (hde : (cn == ("__debug__" : Str)) = false := by decide) (hd1 : (en == ("__debug__" : Str)) = false := by decide) (hd2 : (en == ("__classdict__" : Str)) = false := by decide)
    (hab : ∀ e : Env, attributeBase (.Name en p5) fl e (eval (.Name en p5) e) = eval (.Name en p5) e := by intro _; rfl) (hdef : defaultsOf params X.env = ([], []) := by rfl)
    (hdb : (x == ("__debug__" : Str)) = false := by decide) (hd : (a == ("__debug__" : Str)) = false := by decide) (hcd : (a == ("__classdict__" : Str)) = false := by decide) :
    DE G E X (.Call (.Name x pp) [.Lambda params body ls lpos] [] pos) (eRef c ret f) := by
  subst hbg
  obtain ⟨oc, od, dV, kV, doc, pm, an, cdv, ct, osl, rfl, lk, hcg, hD, hK⟩ := F.ex
  exact de_refused T hG hg hm F.kp lk hcg hbn Sg hva hae hge hde hle hd1 hd2 hab TB hcode hT hTu hr L hdef hbind hbody hdb hd hcd
/-- the message of BadArgument -/
theorem own_name {P : Program} {fl lit : Str} {j : Nat} {p1 p2 p3 : Pos} (hX : X.prog = P) (T : OwX.OwTxt P X.K C fI cn fl (.BinOp (.Constant (.str lit) j p1) .Add (.Name fl p2) p3) scope) (S : OwX.OwSc scope fl) (h2 : fl = "name" ∨ fl = "at") (ht : (P.main.scope.names.lookup ("super" : Str)).isSome = false) (gC : X.mg cn = some (.ref C)) (hl : lit.length ≤ 1000) :
    Own X C fI cn fl (.BinOp (.Constant (.str lit) j p1) .Add (.Name fl p2) p3) scope (fun v => ∃ n : Str, v = .str n ∧ n.length ≤ 1000) := by
  subst hX
  refine ⟨T, S, h2, ht, fun _ => rfl, fun h v v' _ ⟨n, e, hn⟩ r => ?_, gC⟩
  subst e
  obtain ⟨tk, rfl⟩ : ∃ tk, v' = Value.str n tk := r
  exact OwX.msg_add S (by rcases h2 with rfl | rfl <;> decide) (by have : 2000 ≤ sizeLine := by decide
                                                                   omega)
/-- a short text -/
def okName : D → Bool
  | .str n => decide (n.length ≤ 1000)
  | _ => false
theorem okName_ok : ∀ A H d v, okName d = true → Rep G A H d v → ∃ n : Str, v = .str n ∧ n.length ≤ 1000 := fun A H d v h r => by
  cases d with
  | str n =>
    have e := rep_str (G := G) (A := A) (H := H) (i := n)
    simp only [Rep] at r
    exact ⟨n, r, of_decide_eq_true h⟩
  | _ => cases h
end
theorem room65 {k : Nat} {A : Around} (r : Room k A) : A.units + 65 < cLine := by have := r.un; omega
def oIAdd (x y : D) (h : DH) : Rs D := match x, y with
  | .int a, .int b => .ok (.int (a + b)) h
  | _, _ => .bad
/-- what a law's def must answer at a script -/
def Says (F : Fn) (ns : List Int) : Prop := (∃ h', F [.rol (ns.map .int)] [] = .ok (.bl true) h') ∧ ∃ h', F [.obj 0] [.lst (ns.map .int)] = .ok (.bl true) h'
theorem repL_ints {G : Gx} {A : List Addr} {H : Hp} : ∀ ns : List Int, RepL G A H (ns.map .int) (ns.map V.int)
  | [] => RepL.nil
  | n :: r => RepL.cons rep_int (repL_ints r)
theorem law_sp {G : Gx} {F : Fn} {H : Hp} {a : Addr} {ns : List Int} (hS : SqL G.K H a (ns.map V.int)) (hT : LamX.Tabs G.tabs H) (h : Says F ns) : spD G 1 F [.ref a] H (fun v _ => v = .bl true) fun _ _ _ => False := by
  refine ⟨rfl, ?_⟩
  have fin : ∀ (A : List Addr) (r : Rs D) (h' : DH), r = .ok (.bl true) h' → Post G (Rep G) (fun _ _ _ => False) A H r fun v _ => v = .bl true := by
    intro A r h' e
    subst e
    intro A' v H' _ _ r
    exact r.bl_
  have ro : RoL G.K H a (ns.map V.int) → ∃ A ds h, SimH G A h H ∧ RepL G A H ds [.ref a] ∧ Post G (Rep G) (fun _ _ _ => False) A H (F ds h) fun v _ => v = .bl true := fun q => by
    obtain ⟨h', e⟩ := h.1
    refine ⟨[], [.rol (ns.map .int)], [], ⟨rfl, List.nodup_nil, fun n o a e => by simp at e, hT⟩, RepL.cons ?_ RepL.nil, fin _ _ _ e⟩
    simp only [Rep]
    exact ⟨a, _, rfl, q, repL_ints ns⟩
  rcases hS with (q | ⟨o, q⟩) | q
  · obtain ⟨h', e⟩ := h.2
    refine ⟨[a], [.obj 0], [.lst (ns.map .int)], ⟨rfl, by simp, fun n o b e1 e2 => ?_, hT⟩, RepL.cons ?_ RepL.nil, fin _ _ _ e⟩
    · cases n with
      | zero =>
        simp only [List.getElem?_cons_zero, Option.some.injEq] at e1 e2
        subst e1 e2
        exact ⟨_, q, repL_ints ns⟩
      | succ n => simp at e1
    · simp only [Rep]
      exact ⟨a, rfl, rfl⟩
  · exact ro (.inr ⟨o, q⟩)
  · exact ro (.inl q)
end DL
/-! all(test for target in e): the generator's frame is a context of its own -/
namespace DG
open PySem PySem.Spec PyProof.Rows L2 GenW
abbrev gEnv (X : Cx) (scope : Scope) (C : Addr) (code : Value) : Env := genEnv scope [] C code builtinsNs X.env
/-- the context of the generator's code -/
def gCx (X : Cx) (A : Around) (N : List Str) (scope : Scope) (C : Addr) (code : Value) (s : Shared) (H : Hp) (fp : List Addr) (pn : List (Addr × Obj)) : Cx where
  prog := X.prog
  w := X.w
  K := X.K
  mg := X.mg
  base := X.base
  A := A
  N := N
  s_0 := s
  H_0 := H
  env := gEnv X scope C code
  outer := X.stack
  stack := gEnv X scope C code :: X.stack
  ex := fp
  fn := fun _ => false
  calm := true
  pn := pn
  xe := fun _ _ => False

theorem setGen_heap (s : Shared) (g : Nat) (x : GenState) : (s.setGen g x).heap = s.heap := rfl
theorem Inv.gens {X : Cx} {pins : List (Addr × Obj)} {σ : L2.St} {H : Hp} {s s' : Shared} (I : Inv X pins σ H s) (h1 : s'.heap = s.heap) (h2 : s'.os = s.os) (h3 : AllBare s'.gens) : Inv X pins σ H s' := by
  obtain ⟨hh, g, d, t, o⟩ := s'
  obtain rfl : hh = s.heap := h1
  obtain rfl : o = s.os := h2
  exact ⟨I.ok, I.os, h3, I.base, I.loc, I.cell, I.free, I.freeC, I.pin, I.hok, I.len⟩

section
variable {Y : Cx} {tg elt iter : Expr} {scope : Scope} {gpos : Pos} {it : Addr} {fp : List Addr} {tn : Nat → Heap → Prop} {J : It} {W : Nat → Nat → L2.St → Hp → Prop} {Qt Qf : Hp → Prop} {g : TG} {te : TE}
/-- an item: the test's value, how it goes on -/
def PR (Y : Cx) (Qf : Hp → Prop) : Protocol := fun n s₀ v s κ =>
  ∃ (σ : L2.St) (H : Hp) (b : Bool) , v = .bool b ∧ Inv Y [] σ H s ∧ (b = false → Qf H) ∧ (b = true → ∀ s', s'.heap = s.heap → s'.os = s.os → AllBare s'.gens → κ (.send .none) s')
def RE (Y : Cx) (Qt : Hp → Prop) : Nat → Shared → Shared → Prop := fun n s₀ s₁ => ∃ σ H, Inv Y [] σ H s₁ ∧ Qt H
/-- the wish of a test -/
def Turns (J : It) (g : TG) (te : TE) (W : Nat → Nat → L2.St → Hp → Prop) (Qt Qf : Hp → Prop) : Prop := ∀ i m σ H, W i m σ H →
  (J.stop i H ∧ Qt H) ∨ (J.go i H ∧ ∀ x H', J.yld i H x H' → g x σ H' fun σ2 H2 => te σ2 H2 fun y H3 => (y = .bl true ∧ ∃ m', m' < m ∧ W (i + 1) m' σ2 H3) ∨ (y = .bl false ∧ Qf H3))
theorem no_xe {M : Model} {A : Around} {α : Type} {t : Sem α} {Q : α → Shared → Prop} {E E' : Value → Shared → Prop} {s : Shared} (hE : ∀ e s, ¬ E e s) (h : wpAny M A t Q E s) : wpAny M A t Q E' s :=
  wpAny_mono h (fun _ _ x => x) fun e s' x => (hE e s' x).elim
theorem seg_loop {A : Around} (hx : ∀ e s, ¬ Y.xe e s) (hA : A.over (.compLoop (.GeneratorExp elt [⟨tg, iter, [], 0⟩] scope gpos) 0 (.ref it) .none Y.env) [] = Y.A) (hco : Y.env.scope.isCoroutine = false) (hc : Y.calm = true)
    (T : Turn Y.prog Y.w Y.K tg J fp it tn) (hg : PG Y tg g) (he : PE Y elt te) (turns : Turns J g te W Qt Qf) :
    ∀ (n i m : Nat) (s₀ s : Shared) (σ : L2.St) (H : Hp), m < n → W i m σ H → Inv Y [] σ H s → tn i s.heap → (∀ b ∈ fp, FpOk Y [] H b) →
      Seg (model Y.prog Y.w) A (fun n s₀ r s₁ => r = .ok .next ∧ RE Y Qt n s₀ s₁) (PR Y Qf) n s₀
        (.compLoop (.GeneratorExp elt [⟨tg, iter, [], 0⟩] scope gpos) 0 (.ref it) .none Y.env)
        ((model Y.prog Y.w).den (.compLoop (.GeneratorExp elt [⟨tg, iter, [], 0⟩] scope gpos) 0 (.ref it) .none Y.env)) [] s := by
  intro n
  induction n with
  | zero => intro i m s₀ s σ H hm; omega
  | succ n ih =>
    intro i m s₀ s σ H hm hw I hst hfp
    show Seg _ A _ _ _ s₀ _ ((compTurn (.GeneratorExp elt [⟨tg, iter, [], 0⟩] scope gpos) 0 (.ref it) .none Y.env).onRaise (leaving Y.env)) [] s
    rw [compTurn_gen, Sem.onRaise_eq_wrap]
    refine seg_bind_wrap (wpAny_standAt ?_)
    refine seg_bind_wrap ?_
    rw [hA]
    rcases turns i m σ H hw with ⟨stop, qt⟩ | ⟨go, step⟩
    · refine no_xe hx (thn (T.done Y rfl rfl rfl hc i [] s σ H Y.xe I hfp hst stop) fun r s1 ⟨hr, I1⟩ => ?_)
      subst hr
      exact seg_end (.ok .next) ⟨rfl, σ, H, I1, qt⟩
    · refine no_xe hx (thn (T.item Y rfl rfl rfl hc i [] s σ H Y.xe I hfp hst go) fun r s1 ⟨u, hr, h1⟩ => ?_)
      subst hr
      refine seg_bind_wrap ?_
      rw [hA]
      refine no_xe hx (thn h1 fun _ s2 ⟨x, H2, I2, r2, y2, st2, fr2⟩ => ?_)
      have I2' := I2.pinned (fun b hb => ⟨fr2 b hb, (hfp b hb).2⟩) (T.obj _ _ st2)
      refine seg_bind_wrap ?_
      rw [hA]
      refine no_xe hx (thn (hg.run _ s2 σ H2 x u _ I2' r2 (step x H2 y2)) fun _ s3 ⟨σ3, H3, I3, q3⟩ => ?_)
      refine seg_bind_wrap (wpAny_pure ?_)
      simp only [if_true]
      have hy : ∀ v, yieldOut Y.env v = yieldValue v := fun v => by simp only [yieldOut, hco, Bool.false_eq_true, if_false]
      simp only [hy]
      rw [Sem.bind_eq_wrap', Sem.bind_eq_wrap', Sem.wrap_wrap, Sem.wrap_wrap]
      refine seg_wrap ?_
      rw [hA]
      refine no_xe hx (thn (he.run _ s3 σ3 H3 _ I3 q3) fun y s4 ⟨yv, H4, I4, r4, q4⟩ => ?_)
      have pin4 := fun p hp => I4.pin p (List.mem_append_right _ (List.mem_append_right _ hp))
      have st4 : tn (i + 1) s4.heap := T.keep _ _ _ st2 fun b hb o e => (pin4 (b, o) (mem_pinsAt hb e)).1
      have fr4 : ∀ b ∈ fp, FpOk Y [] H4 b := fun b hb => by
        obtain ⟨o, e, _⟩ := T.obj _ _ st2 b hb
        exact ⟨(pin4 (b, o) (mem_pinsAt hb e)).2.1, (hfp b hb).2⟩
      have I4' : Inv Y [] σ3 H4 s4 := I4.unpinned
      rcases q4 with ⟨e4, m', hm', w4⟩ | ⟨e4, qf⟩
      · subst e4
        obtain rfl : y = .bool true := r4
        refine seg_at (seg_yield rfl rfl rfl ⟨σ3, H4, true, rfl, I4', fun z => by (cases z), fun _ s' h1 h2 h3 => ?_⟩)
        exact seg_again rfl (ih (i + 1) m' s' s' σ3 H4 (by omega) w4 (Inv.gens I4' h1 h2 h3) (by rw [h1]; exact st4) fr4)
      · subst e4
        obtain rfl : y = .bool false := r4
        exact seg_at (seg_yield rfl rfl rfl ⟨σ3, H4, false, rfl, I4', fun _ => qf, fun z => by cases z⟩)
/-- the loop of all(..) over the generator -/
theorem all_loop {A : Around} {a : Addr} {k : Nat} {R : Result → Shared → Prop} (hh : A.handled = none) (hd : A.depth < recursionLimit) (hpn : ∃ o, (a, o) ∈ Y.pn ∧ (∀ h : Heap, h.get? a = some o → h.IsGen a k))
    (hT : ∀ σ H s', Inv Y [] σ H s' → Qt H → R (.ok (.ret (.bool true))) s') (hF : ∀ σ H s', Inv Y [] σ H s' → Qf H → R (.ok (.ret (.bool false))) s') :
    ∀ (n : Nat) (s : Shared) (gs : GenState), s.gens[k]? = some gs → s.heap.IsGen a k → s.heap.NoLimit →
      gs.Goes (model Y.prog Y.w) A.in1.in1 (fun n s₀ r s₁ => r = .ok .next ∧ RE Y Qt n s₀ s₁) (PR Y Qf) n (.send .none) (s.setGen k .running) →
      codeAny (model Y.prog Y.w) A (.builtin "all.loop" ⟨[.ref a], []⟩) R s := by
  obtain ⟨o, ho, hgen⟩ := hpn
  have main : ∀ (n : Nat), (∀ (s : Shared) (gs : GenState), s.gens[k]? = some gs → s.heap.IsGen a k → s.heap.NoLimit → n ≠ 0 →
      gs.Goes (model Y.prog Y.w) A.in1.in1 (fun n s₀ r s₁ => r = .ok .next ∧ RE Y Qt n s₀ s₁) (PR Y Qf) (n - 1) (.send .none) (s.setGen k .running) →
      codeAny (model Y.prog Y.w) A (.builtin "all.loop" ⟨[.ref a], []⟩) R s) → ∀ (s : Shared) (gs : GenState), s.gens[k]? = some gs → s.heap.IsGen a k → s.heap.NoLimit →
      gs.Goes (model Y.prog Y.w) A.in1.in1 (fun n s₀ r s₁ => r = .ok .next ∧ RE Y Qt n s₀ s₁) (PR Y Qf) n (.send .none) (s.setGen k .running) →
      codeAny (model Y.prog Y.w) A (.builtin "all.loop" ⟨[.ref a], []⟩) R s := by
    intro n ih s gs hgs hg hl hgo
    have hkl : k < s.gens.size := (Array.getElem?_eq_some_iff.mp hgs).1
    refine codeAny_builtin F.entry_all_loop ?_
    rw [Around.under_plainId F.plain_all_loop _]
    show wpAny _ A.in1 (pyNext (.ref a) >>= _) _ _ s
    refine wpAny_bind (wpAny_gsz (n := k + 1) hkl (wpAny_pyNext_genexpQ (A := A.in1) hh hl hd hg hgs hgo (fun v s₁ gs' hbare hv => ?_) (fun s₁ hp h' hk => ?_)))
    · intro hsz
      obtain ⟨σ, H, b, rfl, I, qf, nxt⟩ := hv
      have hb2 : AllBare (s₁.setGen k gs').gens := allBare_setGen I.bare hbare
      have I2 : Inv Y [] σ H (s₁.setGen k gs') := Inv.gens I rfl rfl hb2
      refine wpAny_bind (wpAny_holding (wpAny_truthy_bool ?_))
      refine wpAny_bind (wpAny_letGo ?_)
      cases b with
      | true =>
        simp only [if_true]
        refine wpAny_pure ⟨plainId_quiet F.plain_all_loop _, ?_⟩
        have hsz1 : k < s₁.gens.size := by
          have q : (s₁.setGen k gs').gens.size = s₁.gens.size := setGen_size _ _ _
          have hsz' : k + 1 ≤ (s₁.setGen k gs').gens.size := hsz
          omega
        have go := nxt rfl ((s₁.setGen k gs').setGen k .running) rfl rfl (allBare_setGen hb2 rfl)
        cases n with
        | zero => exact go.elim
        | succ m => exact ih _ gs' (setGen_at hsz1) (hgen _ (I.pin (a, o) (List.mem_append_left _ ho)).1) I.nolimit (by omega) go
      | false =>
        simp only [Bool.false_eq_true, if_false]
        exact wpAny_bind (wpAny_rule (wpAny_pure (hF σ H _ I2 (qf rfl))))
    · intro hsz
      obtain ⟨σ, H, I, qt⟩ := hp
      have hb2 : AllBare (s₁.setGen k .finished).gens := allBare_setGen I.bare rfl
      have I2 : Inv Y [] σ H { s₁.setGen k .finished with heap := h' } := Inv.gens (I.kept (h' := h') (t' := s₁.toks) hk) rfl rfl hb2
      exact wpAny_bind (wpAny_rule (wpAny_pure (hT σ H _ I2 qt)))
  intro n
  induction n with
  | zero => exact main 0 fun s gs h1 h2 h3 h4 => absurd rfl h4
  | succ n ih => exact main (n + 1) fun s gs h1 h2 h3 h4 h5 => ih s gs h1 h2 h3 h5
end
/-! ### the generator is made -/
section
variable {X : Cx} {pins : List (Addr × Obj)} {σ : L2.St} {H : Hp} {s : Shared}
theorem start_inv {A : Around} {N : List Str} {scope : Scope} {C : Addr} {code : Value} {fp : List Addr} {h' : Heap} {tk : Nat} {gs : Array GenState} {a : Addr} {o : Obj} {it : Value} (I : Inv X pins σ H s) (hfr : A.frames = some (gEnv X scope C code :: X.stack)) (hh : A.handled = none)
    (hk : scope.kind = .function) (hnc : ∀ y ∈ scope.names, y.2 ≠ .cell ∧ y.2 ≠ .free) (hC : C = s.heap.objs.size) (hfp : ∀ b ∈ fp, FpOk X pins H b ∧ ∃ o, s.heap.get? b = some o) (hns : h'.Ns C (fun y => if y = ".0" then some it else none))
    (kp : ∀ b o, s.heap.get? b = some o → h'.get? b = some o) (ha : h'.get? a = some o) (hac : s.heap.objs.size < a) (hod : ∀ v, o.data ≠ .cell v) (hb : AllBare gs) :
    Inv (gCx X A N scope C code s H fp [(a, o)]) [] (List.replicate N.length none) H { s with heap := h', toks := tk, gens := gs } := by
  subst hC
  have nofr : ∀ f, s.heap.objs.size ≤ f → f ∉ frs X.stack := fun f hf z => by
    rcases List.mem_cons.mp (I.stkSub _ z) with e | e
    · have h1 := I.lt
      rw [← e] at h1
      exact Nat.lt_irrefl _ (Nat.lt_of_lt_of_le h1 hf)
    · exact I.nofs hf e
  have nolook : ∀ x, scope.names.lookup x ≠ some .cell ∧ scope.names.lookup x ≠ some .free := fun x => ⟨fun z => (hnc _ (PySem.mem_of_lookup z)).1 rfl, fun z => (hnc _ (PySem.mem_of_lookup z)).2 rfl⟩
  refine ⟨⟨I.mod, hk, ?_, rfl, Nat.le_refl _, fun x y c h1 => (by cases h1), fun x hx => ?_, fun x c _ h1 => (by cases h1), fun _ => hh, hfr, .inr ⟨rfl, rfl⟩, fun b hb => ⟨?_, fun x c h1 => by cases h1⟩, fun b u e => ⟨I.bk b u e, (I.bs b u e).2⟩, Nat.le_trans I.ok.bsz I.sz, fun b u e hb => ?_, fun b hb => ?_, I.stack, I.stkFree⟩,
    rfl, hb, Un.kept kp, ⟨_, hns, fun i x v h1 h2 => ?_⟩, fun x c h1 => (by cases h1), I.hok.fresh (Nat.le_refl _), fun x c h1 => (by cases h1), fun p hp => ?_, I.hok.kept kp, by simp [gCx]⟩
  · exact I.ok.glob
  · rcases hx with hx | hx
    · exact ((nolook x).1 hx).elim
    · exact ((nolook x).2 hx).elim
  · obtain ⟨_, o, e⟩ := hfp b hb
    exact Nat.ne_of_lt (Heap.lt_size e)
  · obtain ⟨⟨_, h2, h3, h4, _⟩, _⟩ := hfp b hb
    rcases h4 with h4 | h4
    · exact I.ok.noex b u e h4
    · have h5 := Heap.lt_size e
      have h6 := I.ok.bsz
      exact Nat.lt_irrefl _ (Nat.lt_of_lt_of_le h5 (Nat.le_trans h6 h4))
  · obtain ⟨⟨_, h2, h3, h4, _⟩, _⟩ := hfp b hb
    intro z
    rcases List.mem_cons.mp (I.stkSub b z) with e | e
    · exact h2 e
    · exact h3 e
  · rw [List.getElem?_replicate] at h2
    split at h2 <;> cases h2
  · rcases List.mem_cons.mp (show p ∈ [(a, o)] by simpa [gCx] using hp) with e | e
    · subst e
      exact ⟨ha, I.hok.fresh (Nat.le_of_lt hac), Nat.ne_of_gt hac, nofr _ (Nat.le_of_lt hac), hod⟩
    · cases e

theorem seg_start {M : Model} {tg elt iter : Expr} {scope : Scope} {gpos : Pos} {A : Around} {it : Addr} {fp : List Addr} {tn : Nat → Heap → Prop} {J : It} {env : Env} {R : GenEnd} {Y : Protocol} {n i : Nat} {P : Program} {w : World} {K : PySem.W.Frag} {s₀ s : Shared} (hM : M = model P w) (T : Turn P w K tg J fp it tn) (st : tn i s.heap)
    (loop : Seg M A R Y n s₀ (.compLoop (.GeneratorExp elt [⟨tg, iter, [], 0⟩] scope gpos) 0 (.ref it) .none env) (M.den (.compLoop (.GeneratorExp elt [⟨tg, iter, [], 0⟩] scope gpos) 0 (.ref it) .none env)) [] s) :
    Seg M A R Y n s₀ (.compStart (.GeneratorExp elt [⟨tg, iter, [], 0⟩] scope gpos) 0 (.ref it) .none env) (M.den (.compStart (.GeneratorExp elt [⟨tg, iter, [], 0⟩] scope gpos) 0 (.ref it) .none env)) [] s := by
  subst hM
  show Seg _ A _ _ _ s₀ _ ((compStart (.GeneratorExp elt [⟨tg, iter, [], 0⟩] scope gpos) 0 (.ref it) .none env).onRaise (leaving env)) [] s
  unfold compStart
  rw [Sem.onRaise_eq_wrap]
  show Seg _ A _ _ _ s₀ _ ((ask >>= _).wrap _ _ _ _) [] s
  refine seg_bind_wrap (wpAny_askSetting ?_)
  split
  · exact seg_again rfl loop
  · first
      | exact seg_bind_wrap (wpAny_rule (seg_bind_wrap (wpAny_standAt (seg_bind_wrap (T.self _ i s _ _ st (seg_again rfl loop))))))
      | (refine seg_bind_wrap (wpAny_rule ?_); show Seg _ A _ _ _ s₀ _ ((standAt iter.pos >>= _).wrap _ _ _ _) [] s; exact seg_bind_wrap (wpAny_standAt (seg_bind_wrap (T.self _ i s _ _ st (seg_again rfl loop)))))

def tAllG (T : List (Addr × Str)) (L : Nat) (wi : TI) (g : TG) (te : TE) : TE := fun σ H Q => wi σ H fun J H1 => LamX.Tabs T H1 ∧ ∀ H2, LamX.ExtN H1 H2 → LamX.Tabs T H2 →
  ∃ W : Nat → Nat → L2.St → Hp → Prop, (∃ m, W 0 m (List.replicate L none) H2) ∧ Turns J g te W (Q (.bl true)) (Q (.bl false))

/-- the generator at a, ready for all -/
def Ready (X : Cx) (pins : List (Addr × Obj)) (σ : L2.St) (Q : VK) (a : Addr) (s : Shared) : Prop :=
  (∃ k, s.heap.IsGen a k) ∧ ∀ (R : Result → Shared → Prop), (∀ b s' H3, Inv X pins σ H3 s' → Q (.bl b) H3 → R (.ok (.ret (.bool b))) s') → codeAny (model X.prog X.w) X.A (.builtin "all.loop" ⟨[.ref a], []⟩) R s
theorem gen_make {T : List (Addr × Str)} {c P : Addr} {tg elt iter : Expr} {scope : Scope} {gpos : Pos} {k : Nat} {wi : TI} {g : TG} {te : TE} {N : List Str} {Q : VK} {Q' : Value → Shared → Prop}
    (hr : Room (k + 1) X.A) (hc : X.calm = true)
    (TB : LamX.TabB X.base X.mg c P) (hcode : X.env.code = .ref c) (hmT : (P, X.env.qual ++ "<genexpr>") ∈ T) (hu : ∀ p ∈ T, p.1 = P → p.2 = X.env.qual ++ "<genexpr>")
    (hi : PI X tg iter wi) (hkd : scope.kind = .function) (hco : scope.isCoroutine = false) (hnc : ∀ y ∈ scope.names, y.2 ≠ .cell ∧ y.2 ≠ .free) (h0 : scope.names.lookup (".0" : Str) = some NameKind.local) (hcl : cloFrom X.env.cells scope.names [] = [])
    (hel : ∀ (A' : Around) (C : Addr) (code : Value) (s0 : Shared) (H0 : Hp) (fp : List Addr) (pn : List (Addr × Obj)), Room k A' → PG (gCx X A' N scope C code s0 H0 fp pn) tg g ∧ PE (gCx X A' N scope C code s0 H0 fp pn) elt te) (hs : ∀ v, genFold iter X.env v = pure v)
    (I : Inv X pins σ H s) (h : tAllG T N.length wi g te σ H Q) (hQ : ∀ a s', Ready X pins σ Q a s' → Q' (.ref a) s') :
    wpAny (model X.prog X.w) X.A (eval (.GeneratorExp elt [⟨tg, iter, [], 0⟩] scope gpos) X.env) Q' X.xe s := by
  have hcl2 : closureFor scope X.env = pure [] := by
    have := closure_ok (env := X.env) (scope := scope) fun y hy e => ((hnc y hy).2 e).elim
    rw [hcl] at this
    exact this
  refine wpAny_GeneratorExp_make hco hcl2 (fun y hy => (hnc y hy).1) h0 hkd (by have := hr.dp; omega) ?_ hs
  refine thn (hi.run pins s σ H _ I h) fun xv s1 h1 => thn h1 fun itv s2 h2 => ?_
  obtain ⟨it, fp, tn, J, H1, e, I2, Tn, st2, f2, hT, hN⟩ := h2
  subst e
  refine ⟨I2.nolimit, ?_⟩
  obtain ⟨bm, ob, e1, e2, e3, e4, e5, e6, e7, e8⟩ := TB.bm
  have objs : ∀ b ∈ fp, ∃ o, s2.heap.get? b = some o := fun b hb => let ⟨o, e, _⟩ := Tn.obj _ _ st2 b hb; ⟨o, e⟩
  have cont : ∀ (code : Value) (s3 : Shared) (H2 : Hp), Inv X pins σ H2 s3 → LamX.ExtN H1 H2 → LamX.Tabs T H2 → (∀ b ∈ fp, FpOk X pins H2 b ∧ ∃ o, s3.heap.get? b = some o) → tn 0 s3.heap →
      wpAny (model X.prog X.w) X.A (builtinsFor X.env.globals X.env.builtins) (fun bi s₄ =>
        ∀ h', h'.Ns s₄.heap.objs.size (fun y => if y = ".0" then some (.ref it) else none) → Heap.SameBut s₄.heap.objs.size (s₄.heap.push { cls := .type "frame", data := .dict #[] }) h' →
          Q' (.ref h'.objs.size) { s₄ with
            gens := s₄.gens.push (.fresh (.compStart (.GeneratorExp elt [⟨tg, iter, [], 0⟩] scope gpos) 0 (.ref it) .none (genEnv scope [] s₄.heap.objs.size code bi X.env))),
            toks := s₄.toks + 1 + 1 + 1,
            heap := h'.push { cls := .type "generator", data := .fields #[.int s₄.gens.size 0, .str "<genexpr>" (s₄.toks + 1), .str (X.env.qual ++ "<genexpr>") (s₄.toks + 1 + 1)] } }) X.xe s3 := by
    intro code s3 H2 I3 hx hT2 hfp st3
    refine wpAny_builtinsFor (m := X.mg) (by rw [I.ok.glob]; exact I.mod.glob.keeps I3.bk) e1 e2 (I3.bk _ _ e5) e6 e7 e8 ?_
    intro h' hns hsb
    have hsz : h'.objs.size = s3.heap.objs.size + 1 := by rw [hsb.1, Heap.size_push]
    have keep' : ∀ b o, s3.heap.get? b = some o → h'.get? b = some o := fun b o e => hsb.extBut b o (Nat.ne_of_lt (Heap.lt_size e)) (Heap.get?_push_of_some _ e)
    refine hQ _ _ ⟨⟨s3.gens.size, _, _, _, Heap.get?_push_size _ rfl, rfl, rfl, rfl⟩, fun R hR => ?_⟩
    obtain ⟨W, ⟨m, w0⟩, turns⟩ := hN H2 hx hT2
    have hh : X.A.handled = none := hr.hd
    have keep2 : ∀ b o, s3.heap.get? b = some o → (h'.push { cls := .type "generator", data := .fields #[.int s3.gens.size 0, .str "<genexpr>" (s3.toks + 1), .str (X.env.qual ++ "<genexpr>") (s3.toks + 1 + 1)] }).get? b = some o :=
      fun b o e => Heap.get?_push_of_some _ (keep' b o e)
    have hbg : AllBare (s3.gens.push (.fresh (.compStart (.GeneratorExp elt [⟨tg, iter, [], 0⟩] scope gpos) 0 (.ref it) .none (gEnv X scope s3.heap.objs.size code)))) := I3.bare.push rfl
    have back : ∀ b σ' H' s', Inv (gCx X (X.A.in1.in1.over (.compLoop (.GeneratorExp elt [⟨tg, iter, [], 0⟩] scope gpos) 0 (.ref it) .none (gEnv X scope s3.heap.objs.size code)) []) N scope s3.heap.objs.size code s3 H2 fp
        [(h'.objs.size, { cls := .type "generator", data := .fields #[.int s3.gens.size 0, .str "<genexpr>" (s3.toks + 1), .str (X.env.qual ++ "<genexpr>") (s3.toks + 1 + 1)] })]) [] σ' H' s' → Q (.bl b) H' → R (.ok (.ret (.bool b))) s' := fun b σ' H' s' IY q =>
      hR b s' H' (I3.call' (ch := fp) IY.os IY.base IY.hok IY.bare fun b hb => by
        obtain ⟨⟨_, z1, _, z2, z3, z4⟩, _⟩ := hfp b hb
        exact ⟨z2, z1, z3, z4⟩) q
    have pgpe := hel (X.A.in1.in1.over (.compLoop (.GeneratorExp elt [⟨tg, iter, [], 0⟩] scope gpos) 0 (.ref it) .none (gEnv X scope s3.heap.objs.size code)) []) s3.heap.objs.size code s3 H2 fp
        [(h'.objs.size, { cls := .type "generator", data := .fields #[.int s3.gens.size 0, .str "<genexpr>" (s3.toks + 1), .str (X.env.qual ++ "<genexpr>") (s3.toks + 1 + 1)] })]
      ⟨hh, by have := hr.dp; show X.A.depth + 1 + 3 * k + 5 < _; omega, by have := hr.un; show X.A.units + 1 + 1 + 3 + 16 * k + 200 < _; omega⟩
    have IY := start_inv (A := X.A.in1.in1.over (.compLoop (.GeneratorExp elt [⟨tg, iter, [], 0⟩] scope gpos) 0 (.ref it) .none (gEnv X scope s3.heap.objs.size code)) []) (N := N) (scope := scope) (code := code) (fp := fp) (tk := s3.toks + 1 + 1 + 1)
      (gs := (s3.gens.push (.fresh (.compStart (.GeneratorExp elt [⟨tg, iter, [], 0⟩] scope gpos) 0 (.ref it) .none (gEnv X scope s3.heap.objs.size code)))).setIfInBounds s3.gens.size .running) I3
      (by have := I3.ok.frames; simp [Around.over, pushEnvs_eq, envsOf, Code.envs, Code.env?, Code.isFrame, Around.in1, this]) hh hkd hnc rfl hfp (hns.push _) keep2 (Heap.get?_push_size _ rfl) (by omega) (fun v q => by cases q)
      (allBare_setGen (s := { s3 with gens := s3.gens.push (.fresh (.compStart (.GeneratorExp elt [⟨tg, iter, [], 0⟩] scope gpos) 0 (.ref it) .none (gEnv X scope s3.heap.objs.size code))) }) hbg rfl)
    have st5 : tn 0 (h'.push { cls := .type "generator", data := .fields #[.int s3.gens.size 0, .str "<genexpr>" (s3.toks + 1), .str (X.env.qual ++ "<genexpr>") (s3.toks + 1 + 1)] }) := Tn.keep _ _ _ st3 fun b _ o e => keep2 b o e
    refine all_loop (Y := (gCx (X) (X.A.in1.in1.over (.compLoop (.GeneratorExp elt [⟨tg, iter, [], 0⟩] scope gpos) 0 (.ref it) .none (gEnv X scope s3.heap.objs.size code)) []) N scope s3.heap.objs.size code s3 H2 fp
        [(h'.objs.size, { cls := .type "generator", data := .fields #[.int s3.gens.size 0, .str "<genexpr>" (s3.toks + 1), .str (X.env.qual ++ "<genexpr>") (s3.toks + 1 + 1)] })])) (A := X.A) hh (by have := hr.dp; omega) ⟨_, List.mem_singleton.mpr rfl, fun h e => ⟨_, _, _, e, rfl, rfl, rfl⟩⟩ (back true) (back false) (m + 1) _ _ (Array.getElem?_push_size ..) ⟨_, _, _, Heap.get?_push_size _ rfl, rfl, rfl, rfl⟩
      (I3.nolimit.keeps keep2) ⟨rfl, seg_start rfl Tn st5 (seg_loop (Y := (gCx (X) (X.A.in1.in1.over (.compLoop (.GeneratorExp elt [⟨tg, iter, [], 0⟩] scope gpos) 0 (.ref it) .none (gEnv X scope s3.heap.objs.size code)) []) N scope s3.heap.objs.size code s3 H2 fp
        [(h'.objs.size, { cls := .type "generator", data := .fields #[.int s3.gens.size 0, .str "<genexpr>" (s3.toks + 1), .str (X.env.qual ++ "<genexpr>") (s3.toks + 1 + 1)] })])) (fun _ _ z => z) rfl hco rfl Tn pgpe.1 pgpe.2 turns (m + 1) 0 m _ _ _ H2 (Nat.lt_succ_self m) w0 IY st5 fun b hb => ?_)⟩
    obtain ⟨⟨y0, y1, y2, y3, y4, y5⟩, o, eo⟩ := hfp b hb
    have hlt := Heap.lt_size eo
    refine ⟨y0, Nat.ne_of_lt hlt, fun z => ?_, .inl hb, fun x c z => (by cases z), fun p hp => ?_⟩
    · rcases List.mem_cons.mp (I3.stkSub b z) with e | e
      · exact y1 e
      · exact y2 e
    · rcases List.mem_cons.mp (show p ∈ [_] by simpa [gCx] using hp) with e | e
      · subst e
        exact Nat.ne_of_gt (by rw [hsz]; exact Nat.lt_succ_of_lt hlt)
      · cases e
  obtain ⟨ps, hP, ht, ha⟩ := hT _ hmT
  have hP' : s2.heap.get? P = some { cls := .none, data := .fields ps } := I2.hok P _ hP
  cases hf : codeAmong gpos ps.toList with
  | none =>
    refine wpAny_genexprCodeX hcode ((TB.code.keeps I2.bk).code hP' ht) ((TB.code.keeps I2.bk).tab hP') hf fun c' h' tk hx hge hlt hco' hrec htab' hnew => ?_
    obtain ⟨c2, oc, vs, t, e2', hoc, hd, hv⟩ := hrec
    cases e2'
    have nC : H1 c' = none := I2.hok.fresh hge
    have I3 := LamX.inv_table (q := X.env.qual ++ "<genexpr>") (t' := tk) (more := #[rawInt gpos.line, rawInt gpos.col, .ref c']) (h' := h') I2 hP (fun b o hb e => hx b o hb e) htab'.2 hge ⟨oc, vs, t, hoc, hd, hv⟩
    have hE : LamX.ExtN H1 (upd (upd H1 P (.tbl (ps ++ #[rawInt gpos.line, rawInt gpos.col, .ref c']))) c' (LamX.CodeO c' (X.env.qual ++ "<genexpr>"))) := fun b o e n => by
      rw [upd_ne (ne_of_none e nC), upd_ne (fun z => n ps (Option.some.inj (e.symm.trans (by rw [z]; exact hP))))]
      exact e
    have eL : (ps ++ #[rawInt gpos.line, rawInt gpos.col, .ref c']).toList = ps.toList ++ [rawInt gpos.line, rawInt gpos.col, .ref c'] := by simp
    have fpP : ∀ b ∈ fp, b ≠ P := fun b hb z => by
      have := (f2 b hb).1
      rw [z, hP] at this
      cases this
    have fpc : ∀ b ∈ fp, b ≠ c' := fun b hb z => by
      obtain ⟨o, e⟩ := objs b hb
      have := Heap.lt_size e
      rw [z] at this
      exact Nat.lt_irrefl _ (Nat.lt_of_lt_of_le this hge)
    refine cont _ _ _ I3 hE (fun p hp => ?_) (fun b hb => ⟨⟨?_, (f2 b hb).2⟩, ?_⟩) ?_
    · by_cases hb : p.1 = P
      · rw [hu p hp hb, hb]
        refine ⟨_, by rw [upd_ne (ne_of_none hP nC), upd_same], by rw [eL]; exact PySem.TriplesOk_snoc _ _ _ _ ht, fun p' cv hcv => ?_⟩
        rw [eL] at hcv
        rcases LamX.among_app _ ht hcv with z | z
        · obtain ⟨c0, e1, e2⟩ := ha p' cv z
          exact ⟨c0, e1, hE _ _ e2 LamX.codeO_ne⟩
        · exact ⟨c', z, upd_same⟩
      · obtain ⟨ps', a1, a2, a3⟩ := hT p hp
        refine ⟨ps', by rw [upd_ne (ne_of_none a1 nC), upd_ne hb]; exact a1, a2, fun p' cv hcv => ?_⟩
        obtain ⟨c0, e1, e2⟩ := a3 p' cv hcv
        exact ⟨c0, e1, hE _ _ e2 LamX.codeO_ne⟩
    · rw [upd_ne (fpc b hb), upd_ne (fpP b hb)]
      exact (f2 b hb).1
    · obtain ⟨o, e⟩ := objs b hb
      exact ⟨o, hx b o (fpP b hb) e⟩
    · exact Tn.keep _ _ _ st2 fun b hb o e => hx b o (fpP b hb) e
  | some cv =>
    refine wpAny_genexprCode_hit hcode ((TB.code.keeps I2.bk).code hP' ht) hf ?_
    exact cont cv s2 H1 I2 (LamX.ExtN.refl _) hT (fun b hb => ⟨f2 b hb, objs b hb⟩) st2

theorem pe_allG {T : List (Addr × Str)} {c P : Addr} {tg elt iter : Expr} {scope : Scope} {gpos p pos : Pos} {k : Nat} {wi : TI} {g : TG} {te : TE} {N : List Str}
    (hr : Room (k + 1) X.A) (hc : X.calm = true) (hm : X.mg "all" = none)
    (TB : LamX.TabB X.base X.mg c P) (hcode : X.env.code = .ref c) (hmT : (P, X.env.qual ++ "<genexpr>") ∈ T) (hu : ∀ p ∈ T, p.1 = P → p.2 = X.env.qual ++ "<genexpr>")
    (hi : PI X tg iter wi) (hkd : scope.kind = .function) (hco : scope.isCoroutine = false) (hnc : ∀ y ∈ scope.names, y.2 ≠ .cell ∧ y.2 ≠ .free) (h0 : scope.names.lookup (".0" : Str) = some NameKind.local) (hcl : cloFrom X.env.cells scope.names [] = [])
    (hel : ∀ (A' : Around) (C : Addr) (code : Value) (s0 : Shared) (H0 : Hp) (fp : List Addr) (pn : List (Addr × Obj)), Room k A' → PG (gCx X A' N scope C code s0 H0 fp pn) tg g ∧ PE (gCx X A' N scope C code s0 H0 fp pn) elt te) (hg : Gl X "all" := by rfl) (hb : bootBuiltins "all" = some (.builtin "all") := by first | rfl | kernel_rfl) (hs : ∀ v, genFold iter X.env v = pure v := by intro _; rfl)
    (he : starEach [.GeneratorExp elt [⟨tg, iter, [], 0⟩] scope gpos] X.env = (false, eval (.GeneratorExp elt [⟨tg, iter, [], 0⟩] scope gpos) X.env) :: starEach [] X.env := by rfl) :
    PE X (.Call (.Name "all" p) [.GeneratorExp elt [⟨tg, iter, [], 0⟩] scope gpos] [] pos) (tAllG T N.length wi g te) := by
  refine ⟨fun pins s σ H Q I h => ?_⟩
  refine wpAny_Call_Name_kw (ld_blt I hg hm hb ?_)
  refine PyProof.Rows.callWith_builtin1 ?_ he (by rfl)
  rw [he]
  show wpAny _ _ (spliced ((false, eval (.GeneratorExp elt [⟨tg, iter, [], 0⟩] scope gpos) X.env) :: backTo pos (starEach [] X.env))) _ _ s
  refine Calls.spliced_cons (gen_make hr hc TB hcode hmT hu hi hkd hco hnc h0 hcl hel hs I h fun a s5 hG => ?_)
  obtain ⟨⟨gk, hgen⟩, hG⟩ := hG
  refine Calls.spliced_nil ?_
  refine call_function_tree PySem.F.kind_all PySem.F.plain_all PySem.F.entry_all (PySem.F.args_all1 _) ?_
  unfold Builtin.«all»
  refine wpAny_bind (m := oneArg "all" _) (wpAny_pure ?_)
  refine wpAny_bind (wpAny_pyIter_gen hgen ?_)
  exact wpAny_pure ⟨plainId_quiet PySem.F.plain_all_loop _, hG _ fun b s' H3 I3 q => ⟨.bl b, H3, I3, rfl, q⟩⟩
end
end DG
/-! all(test for target in e), in data -/
namespace DL
open PySem PySem.Spec PyProof.Rows L2
def noE : XK := fun _ _ _ => False
/-- no exception here -/
def Rs.go {α β : Type} (r : Rs α) (k : α → DH → Rs β) : Rs β := match r with
  | .ok a h => k a h
  | _ => .bad
theorem Post.go {α β α' β' : Type} {G : Gx} {R : List Addr → Hp → α → β → Prop} {R' : List Addr → Hp → α' → β' → Prop} {E : XK} {A : List Addr} {H : Hp} {r : Rs α} {k : α → DH → Rs α'} {Q : β' → Hp → Prop} (h : Post G R' E A H (r.go k) Q) :
    Post G R noE A H r fun v H1 => ∃ A1 h1 a, Ext G A H A1 H1 ∧ SimH G A1 h1 H1 ∧ R A1 H1 a v ∧ Post G R' E A1 H1 (k a h1) Q := by
  cases r with
  | ok a h1 => exact fun A' v H' e s q => ⟨A', h1, a, e, s, q, Post.ext e h⟩
  | ex c d k => exact h.elim
  | bad => exact h
/-- one test's value -/
def allB (k : DH → Rs D) (d : D) (h : DH) : Rs D := match d with
  | .bl true => k h
  | .bl false => .ok (.bl false) h
  | _ => .bad
def allA (γ : Dg) (f : De) : List D → En → DH → Rs D
  | [], ρ, h => .ok (.bl true) h
  | x :: xs, ρ, h => (γ x ρ h).go fun ρ1 h1 => (f ρ1 h1).go fun d h2 => allB (allA γ f xs ρ1) d h2
open Classical in
noncomputable def allO (γ : Dg) (f : De) (n : Nat) (all : List D) : List D → En → DH → Rs D
  | [], ρ, h => if h[n]? = some (.lst all) then .ok (.bl true) h else .bad
  | x :: xs, ρ, h => if h[n]? = some (.lst all) then (γ x ρ h).go fun ρ1 h1 => (f ρ1 h1).go fun d h2 => allB (allO γ f n all xs ρ1) d h2 else .bad
noncomputable def eAll (ι : Di) (L : Nat) (γ : Dg) (f : De) : De := fun ρ h => (ι ρ h).bind fun it h1 => match it with
  | .all xs => allA γ f xs (List.replicate L none) h1
  | .obj n xs => allO γ f n xs xs (List.replicate L none) h1
section
variable {G : Gx} {E : XK} {X : Cx} {tg iter elt : Expr} {ι : Di} {γ : Dg} {f : De} {Q : VK}
theorem all_core {A : List Addr} {ρ : En} {h : DH} {σ : L2.St} {H H0 : Hp} {A0 : List Addr} {J : It} (ok : DH → Prop) (all : List D) (loop : List D → En → DH → Rs D) (e0 : Ext G A0 H0 A H) (s : SimH G A h H) (e : SimE G A H ρ σ) (st : Steps G A0 H0 ok all J) (p : Post G (Rep G) E A H (loop all ρ h) Q)
    (h0 : ∀ {A ρ h H}, Post G (Rep G) E A H (loop [] ρ h) Q → ok h ∧ Post G (Rep G) E A H (.ok (.bl true) h) Q)
    (h1 : ∀ {A ρ h H x xs}, Post G (Rep G) E A H (loop (x :: xs) ρ h) Q → ok h ∧ Post G (Rep G) E A H ((γ x ρ h).go fun ρ1 h1 => (f ρ1 h1).go fun d h2 => allB (loop xs ρ1) d h2) Q) :
    ∃ W' : Nat → Nat → L2.St → Hp → Prop, (∃ m, W' 0 m σ H) ∧ DG.Turns J (TDg G noE γ) (TD G noE f) W' (Q (.bl true)) (Q (.bl false)) := by
  refine ⟨fun i m σ1 H1 => ∃ xs A1 ρ1 h1, all.drop i = xs ∧ xs.length = m ∧ Ext G A0 H0 A1 H1 ∧ SimH G A1 h1 H1 ∧ SimE G A1 H1 ρ1 σ1 ∧ Post G (Rep G) E A1 H1 (loop xs ρ1 h1) Q, ⟨all.length, all, A, ρ, h, by simp, rfl, e0, s, e, p⟩, ?_⟩
  rintro i m σ1 H1 ⟨xs, A1, ρ1, h2, ex, em, e1, s1, q1, p1⟩
  cases xs with
  | nil =>
    obtain ⟨o, p2⟩ := h0 p1
    refine .inl ⟨(st i A1 h2 H1 e1 s1 o).2 ?_, Post.now s1 rfl p2⟩
    have := congrArg List.length ex
    rw [List.length_drop, List.length_nil] at this
    omega
  | cons x xs =>
    obtain ⟨o, p2⟩ := h1 p1
    have hx : all[i]? = some x := by
      have := congrArg (fun l : List D => l[0]?) ex
      simpa using this
    have hd : all.drop (i + 1) = xs := by
      rw [← List.drop_drop, ex]
      rfl
    obtain ⟨go, yl⟩ := (st i A1 h2 H1 e1 s1 o).1 x hx
    refine .inr ⟨go, fun v H' y => ?_⟩
    obtain ⟨e2, s2, r2⟩ := yl v H' y
    refine ⟨A1, ρ1, h2, x, s2, q1.mono e2.toEx0, r2, Post.mono ?_ (Post.go (R := RE G) (Post.ext e2 p2))⟩
    rintro σ3 H3 ⟨A3, h4, ρ3, e3, s3, q3, p3⟩
    refine ⟨A3, ρ3, h4, s3, q3, Post.mono ?_ (Post.go (R := Rep G) p3)⟩
    rintro y H4 ⟨A4, h5, d, e4, s4, r4, p4⟩
    unfold allB at p4
    split at p4
    · simp only [Rep] at r4
      exact .inl ⟨r4, xs.length, by rw [← em]; simp, xs, A4, ρ3, h5, hd, rfl, ((e1.trans e2).trans e3).trans e4, s4, q3.mono e4.toEx0, p4⟩
    · simp only [Rep] at r4
      exact .inr ⟨r4, Post.now s4 rfl p4⟩
    · exact p4.elim
theorem td_all {L : Nat} {σ : L2.St} {H : Hp} (t : TD G E (eAll ι L γ f) σ H Q) : DG.tAllG G.tabs L (TDi G E ι) (TDg G noE γ) (TD G noE f) σ H Q := by
  obtain ⟨A, ρ, h, s, e, p⟩ := t
  refine ⟨A, ρ, h, s, e, Post.mono ?_ (Post.bind (R := RI G) p)⟩
  rintro J H1 ⟨A1, h1, it, e1, s1, r1, p1⟩
  refine ⟨s1.tabs, fun H2 eN T2 => ?_⟩
  have x : Ext G A1 H1 A1 H2 := ext_tabs eN
  have s2 := sim_tabs s1 eN T2
  have se : SimE G A1 H2 (List.replicate L none) (List.replicate L none) := ⟨by simp, fun i d q => by
    rw [List.getElem?_replicate] at q
    split at q <;> cases q⟩
  cases it with
  | all xs => exact all_core (fun _ => True) xs (allA γ f) x s2 se r1 (Post.ext x p1) (fun q => ⟨trivial, q⟩) (fun q => ⟨trivial, q⟩)
  | obj n xs =>
    refine all_core (fun h => h[n]? = some (.lst xs)) xs (allO γ f n xs) x s2 se r1 (Post.ext x p1) (fun q => ?_) (fun q => ?_)
    · unfold allO at q
      split at q
      · rename_i z
        exact ⟨z, q⟩
      · exact q.elim
    · unfold allO at q
      split at q
      · rename_i z
        exact ⟨z, q⟩
      · exact q.elim
theorem de_all {c P : Addr} {scope : Scope} {gpos p pos : Pos} {k : Nat} {N : List Str}
    (hr : Room (k + 1) X.A) (hc : X.calm = true) (hm : X.mg "all" = none)
    (TB : LamX.TabB X.base X.mg c P) (hcode : X.env.code = .ref c) (hmT : (P, X.env.qual ++ "<genexpr>") ∈ G.tabs) (hu : ∀ p ∈ G.tabs, p.1 = P → p.2 = X.env.qual ++ "<genexpr>")
    (hi : DI G E X tg iter ι) (hkd : scope.kind = .function) (hco : scope.isCoroutine = false) (hnc : ∀ y ∈ scope.names, y.2 ≠ .cell ∧ y.2 ≠ .free) (h0 : scope.names.lookup (".0" : Str) = some NameKind.local) (hcl : cloFrom X.env.cells scope.names [] = [])
    (hel : ∀ (A' : Around) (C : Addr) (code : Value) (s0 : Shared) (H0 : Hp) (fp : List Addr) (pn : List (Addr × Obj)), Room k A' → DG G noE (DG.gCx X A' N scope C code s0 H0 fp pn) tg γ ∧ DE G noE (DG.gCx X A' N scope C code s0 H0 fp pn) elt f) (hg : Gl X "all" := by rfl) (hb : bootBuiltins "all" = some (.builtin "all") := by first | rfl | kernel_rfl) (hs : ∀ v, genFold iter X.env v = pure v := by intro _; rfl)
    (he : starEach [.GeneratorExp elt [⟨tg, iter, [], 0⟩] scope gpos] X.env = (false, eval (.GeneratorExp elt [⟨tg, iter, [], 0⟩] scope gpos) X.env) :: starEach [] X.env := by rfl) :
    DE G E X (.Call (.Name "all" p) [.GeneratorExp elt [⟨tg, iter, [], 0⟩] scope gpos] [] pos) (eAll ι N.length γ f) :=
  pe_mono (DG.pe_allG hr hc hm TB hcode hmT hu hi hkd hco hnc h0 hcl hel hg hb hs he) fun σ H Q t => td_all t
theorem tk_no {A' : Around} {N : List Str} {scope : Scope} {C : Addr} {code : Value} {s0 : Shared} {H0 : Hp} {fp : List Addr} {pn : List (Addr × Obj)} : Tk (DG.gCx X A' N scope C code s0 H0 fp pn) noE := fun u s' h => by
  obtain ⟨_, _, _, _, _, _, _, _, _, _, _, _, _, _, _, _, w⟩ := h
  exact w.elim
/-- the tables' addresses are told apart -/
theorem tabs_uniq {T : List (Addr × Str)} (h : (T.map (·.1)).Nodup) : ∀ p ∈ T, ∀ q ∈ T, p.1 = q.1 → p.2 = q.2 := by
  induction T with
  | nil => intro p hp; cases hp
  | cons a T ih =>
    simp only [List.map_cons, List.nodup_cons, List.mem_map, not_exists, not_and] at h
    intro p hp q hq e
    rcases List.mem_cons.mp hp with h1 | h1 <;> rcases List.mem_cons.mp hq with h2 | h2
    · rw [h1, h2]
    · exact (h.1 q h2 (by rw [← e, h1])).elim
    · exact (h.1 p h1 (by rw [e, h2])).elim
    · exact ih h.2 p h1 q h2 e
end
end DL
/-! x[::-1]; constants of the module that are tuples of tuples -/
namespace DL
open PySem PySem.Spec PyProof.Rows L2 HT
theorem fm_congr {α β : Type} {f g : α → Option β} : ∀ {l : List α}, (∀ x ∈ l, f x = g x) → l.filterMap f = l.filterMap g
  | [], _ => rfl
  | x :: l, h => by
    rw [List.filterMap_cons, List.filterMap_cons, h x List.mem_cons_self, fm_congr fun y hy => h y (List.mem_cons_of_mem _ hy)]
section
variable {prog : Program} {w : World} {A : Around} {E : Value → Shared → Prop} {s : Shared}
theorem back_places (n : Nat) : Builtin.Slice.slicePlaces ((n : Int) - 1) (-1) (-1) = n := by
  unfold Builtin.Slice.slicePlaces
  have h1 : ¬ ((-1 : Int) > 0) := by omega
  have h2 : (- -1 : Int) = 1 := rfl
  simp only [h1, if_false, h2, Int.ediv_one]
  split <;> omega
theorem sliceApplied_back {sl : Addr} {vs : Value} {n : Nat} {Q : Int × Int × Nat → Shared → Prop} (hs : s.heap.IsSliceOf sl .none .none vs) (ps : IsPart vs (some (-1)))
    (h : Q ((n : Int) - 1, -1, n) s) : wpAny (model prog w) A (Builtin.Slice.sliceApplied (.ref sl) (pure (n : Int))) Q E s := by
  obtain ⟨os, hos, hcs, hds⟩ := id hs
  unfold Builtin.Slice.sliceApplied Builtin.Slice.sliceFields
  refine wpAny_bind (wpAny_bind (wpAny_field hos hds (x := .none) rfl (wpAny_bind (wpAny_field hos hds (x := .none) rfl (wpAny_bind (wpAny_field hos hds (x := vs) rfl (wpAny_pure ?_)))))))
  refine wpAny_bind (slicePart_ ps ?_)
  show wpAny _ _ (if ((-1 : Int) == 0) = true then _ else _) _ _ s
  rw [if_neg (by decide)]
  refine wpAny_bind (slicePart_ .none (wpAny_bind (slicePart_ .none (wpAny_bind (wpAny_pure ?_)))))
  show wpAny _ _ (pure ((n : Int) - 1, (-1 : Int), Builtin.Slice.slicePlaces ((n : Int) - 1) (-1) (-1))) _ _ s
  rw [back_places]
  exact wpAny_pure h
theorem pick_back (xs : Array Value) : ((List.range xs.size).filterMap fun (m : Nat) => xs[((xs.size : Int) - 1 + (m : Int) * -1).toNat]?).toArray = xs.toList.reverse.toArray := by
  have e : ∀ m ∈ List.range xs.size, xs[((xs.size : Int) - 1 + (m : Int) * -1).toNat]? = xs[xs.size - 1 - m]? := by
    intro m hm
    have := List.mem_range.mp hm
    have : ((xs.size : Int) - 1 + (m : Int) * -1).toNat = xs.size - 1 - m := by omega
    rw [this]
  have e2 : (List.range xs.size).filterMap (fun (m : Nat) => xs[((xs.size : Int) - 1 + (m : Int) * -1).toNat]?) = ((List.range xs.size).map fun k => xs.size - 1 - k).filterMap (xs[·]?) := by
    rw [List.filterMap_map]
    exact fm_congr e
  rw [e2, PySem.W.krv_range, List.filterMap_reverse, PySem.W.krv_all]
theorem getItem_tuple_back {t sl : Addr} {items : Array Value} {vs : Value} {Q : Value → Shared → Prop} (ht : IsTup s.heap t items) (hs : s.heap.IsSliceOf sl .none .none vs) (ps : IsPart vs (some (-1)))
    (h : Q (.ref s.heap.objs.size) { s with heap := s.heap.push { cls := .type "tuple", data := .seq items.toList.reverse.toArray } })
    (hsz : items.size ≤ sizeLine) : wpAny (model prog w) A (getItem (.ref t) (.ref sl)) Q E s := by
  have htake : sizeOk (.seq items.toList.reverse.toArray) := by
    show items.toList.reverse.toArray.size ≤ sizeLine
    rw [List.size_toArray, List.length_reverse, Array.length_toList]
    exact hsz
  obtain ⟨os, hos, hcs, hds⟩ := id hs
  have hTs : s.TypeIs (.ref sl) "slice" := ⟨os, hos, hcs⟩
  unfold getItem
  try with_reducible refine wpAny_holding ?_
  first | refine wpAny_bind (wpAny_pure ?_) | skip
  refine wpAny_bind (wpAny_sequenceKey ht.typeIs (by decide) ?_)
  refine wpAny_bind (wpAny_callSpecial?_slot (name := Str.ofString "__getitem__") ht.typeIs PyProof.Rows.slot_tuple_getitem
    (wpAny_call_entry PyProof.Rows.slot_tuple_getitem ht.typeIs entry_tuple_getitem ?_ (args_tuple_getitem _ _)))
  show wpAny _ _ (Builtin.Tuple.tupleItemsOf (.ref t) >>= _) _ _ s
  refine wpAny_bind (tupleItemsOf_ ht ?_)
  refine wpAny_bind (wpAny_typeOf hTs ?_)
  rw [if_pos (by decide)]
  refine wpAny_bind (sliceApplied_back hs ps ?_)
  have hno : ¬ ((((items.size : Int) - 1) == 0 && (-1 : Int) == 1 && items.size == items.size) = true) := by
    intro q
    rw [Bool.and_eq_true, Bool.and_eq_true] at q
    exact absurd q.1.2 (by decide)
  show wpAny _ _ (if (((items.size : Int) - 1) == 0 && (-1 : Int) == 1 && items.size == items.size) = true then _ else _) _ _ s
  rw [if_neg hno, pick_back]
  first
    | exact wpAny_bind (m := Builtin.Tuple.tupleExact _) (wpAny_newObj_type (wpAny_pure ⟨_, rfl, wpAny_pure h⟩) htake)
    | exact wpAny_bind (m := Builtin.Tuple.tupleExact _) (wpAny_newObj_type (wpAny_bind (wpAny_pure (wpAny_pure ⟨_, rfl, wpAny_pure h⟩))) htake)
    | exact wpAny_bind (wpAny_bind (m := Builtin.Tuple.tupleExact _) (wpAny_newObj_type (wpAny_pure (wpAny_pure ⟨_, rfl, wpAny_pure h⟩)) htake))
    | exact wpAny_bind (wpAny_bind (m := Builtin.Tuple.tupleExact _) (wpAny_newObj_type (wpAny_pure ⟨_, rfl, wpAny_pure h⟩) htake))
end
section
variable {X : Cx}
def tRevT (K : PySem.W.Frag) (te : TE) : TE := fun σ H Q => te σ H fun x H1 => ∃ a xs, x = .ref a ∧ SqT K H1 a xs ∧ ∀ p, H1 p = none → Q (.ref p) (upd H1 p (.tup xs.reverse))
theorem pe_revT {e : Expr} {te : TE} {k : Nat} {p1 p2 p3 pos : Pos} (he : PE X e te) : PE X (.Subscript e (.Slice none none (some (.UnaryOp .USub (.Constant (.int 1) k p1) p2)) p3) pos) (tRevT X.K te) := by
  refine ⟨fun pins s σ H Q I h => ?_⟩
  refine Subscript_ (thn (he.run pins s σ H _ I h) fun v s1 ⟨x, H1, I1, r1, q1⟩ => ?_)
  obtain ⟨a, xs, ex, hx, q⟩ := q1
  subst ex
  cases r1
  have hst : PO X (some (.UnaryOp .USub (.Constant (.int 1) k p1) p2)) (tPart (tUn (rU fun i => .int (-i)) (tC (.int 1)))) := po_some (pe_un un_neg pe_int)
  refine wpAny_Slice (thn (po_none.run pins s1 σ H1 (fun o H2 => o = none ∧ H2 = H1) I1 ⟨rfl, rfl⟩) fun vl s2 ⟨l, H2, I2, pl, el, e2⟩ => ?_)
  subst el e2
  refine thn (po_none.run pins s2 σ H2 (fun o H3 => o = none ∧ H3 = H2) I2 ⟨rfl, rfl⟩) fun vu s3 ⟨u, H3, I3, pu, eu, e3⟩ => ?_
  subst eu e3
  refine thn (hst.run pins s3 σ H3 (fun o H4 => o = some (-1) ∧ H4 = H3) I3 ⟨1, rfl, -1, rfl, rfl, rfl⟩) fun vs s4 ⟨o, H4, I4, ps, eo, e4⟩ => ?_
  subst eo e4
  have I5 : Inv X pins σ H4 { s4 with heap := s4.heap.push { cls := .type "slice", data := .fields #[vl, vu, vs] } } := I4.kept (t' := s4.toks) fun b ob q => Heap.get?_push_of_some _ q
  obtain ⟨its, r, ht, hz⟩ := I5.tuple hx
  have hlen := r.length
  cases pl
  cases pu
  show wpAny (model X.prog X.w) X.A (subscriptTail e (.Slice none none (some (.UnaryOp .USub (.Constant (.int 1) k p1) p2)) p3) (.ref a) (.ref s4.heap.objs.size)) (EP X pins σ Q) X.xe { s4 with heap := s4.heap.push { cls := .type "slice", data := .fields #[.none, .none, vs] } }
  refine tail_any (ops := [.ref a, .ref s4.heap.objs.size]) ht.typeIs PyProof.Rows.slot_tuple_getitem.lookup ?_ (by with_unfolding_all rfl)
  refine getItem_tuple_back ht (Heap.IsSliceOf.new _ .none .none vs) ps ?_ (by rw [List.size_toArray]; omega)
  refine ⟨.ref _, _, I5.laid (t' := s4.toks) (o := .tup xs.reverse) (fun b ob q => Heap.get?_push_of_some _ q) (Nat.le_refl _) ?_, rfl, q _ (I5.hok.fresh (Nat.le_refl _))⟩
  exact ⟨by rw [List.length_reverse]; exact hz, _, r.reverse, IsTup.new _ _⟩
end
/-- x[::-1] of a tuple -/
def oBack (d : D) (h : DH) : Rs D := match d with
  | .tup xs => .ok (.tup xs.reverse) h
  | _ => .bad
def eBack (f : De) : De := fun ρ h => (f ρ h).bind oBack
section
variable {G : Gx} {E : XK} {X : Cx} {e : Expr} {f : De} {pos : Pos}
theorem RepL.rev {G : Gx} {A : List Addr} {H : Hp} : ∀ {xs : List D} {vs : List V}, RepL G A H xs vs → RepL G A H xs.reverse vs.reverse
  | [], vs, r => by
    simp only [RepL] at r
    subst r
    exact RepL.nil
  | x :: xs, vs, r => by
    simp only [RepL] at r
    obtain ⟨v, ws, rfl, r1, r2⟩ := r
    rw [List.reverse_cons, List.reverse_cons]
    exact (RepL.rev r2).append (RepL.cons r1 RepL.nil)
theorem de_back {k : Nat} {p1 p2 p3 : Pos} (hK : X.K = G.K) (ha : DE G E X e f) : DE G E X (.Subscript e (.Slice none none (some (.UnaryOp .USub (.Constant (.int 1) k p1) p2)) p3) pos) (eBack f) := by
  refine pe_mono (pe_revT ha) fun σ H Q t => ?_
  obtain ⟨A, ρ, h, s, e, p⟩ := t
  refine ⟨A, ρ, h, s, e, Post.mono ?_ (Post.bind (R := Rep G) p)⟩
  rintro v H1 ⟨A1, h1, d, e1, s1, r1, p1⟩
  unfold oBack at p1
  split at p1
  · obtain ⟨t, vs, rfl, q, w⟩ := r1.tup_
    exact ⟨t, vs, rfl, hK ▸ q, fun c hc => post_tup s1 w.rev hc p1⟩
  · exact p1.elim
end
/-! ### constants -/
mutual
/-- a constant of the module -/
def conD (K : PySem.W.Frag) : D → Value → Bool
  | .non, u => (match u with | .none => true | _ => false)
  | .bl b, u => (match u with | .bool c => decide (b = c) | _ => false)
  | .int i, u => (match u with | .int j _ => decide (i = j) | _ => false)
  | .str x, u => (match u with | .str y _ => decide (x = y) | _ => false)
  | .tup xs, u => (match u with
    | .ref a => (match K.lookup a with
      | some ⟨.type c, _, .seq its _, _⟩ => decide (c = "tuple") && (decide (its.size ≤ sizeLine) && conL K xs its.toList)
      | _ => false)
    | _ => false)
  | _, _ => false
def conL (K : PySem.W.Frag) : List D → List Value → Bool
  | [], us => us.isEmpty
  | d :: ds, us => (match us with
    | u :: r => conD K d u && conL K ds r
    | [] => false)
end
mutual
theorem conD_ok {G : Gx} {A : List Addr} {H : Hp} : ∀ {d : D} {u : Value}, conD G.K d u = true → ∃ v : V, RelV v u ∧ Rep G A H d v
  | .non, u, h => by
    simp only [conD] at h
    split at h
    · exact ⟨.non, rfl, by simp only [Rep]⟩
    · cases h
  | .bl b, u, h => by
    simp only [conD] at h
    split at h
    · exact ⟨.bl b, by rw [of_decide_eq_true h]; rfl, by simp only [Rep]⟩
    · cases h
  | .int i, u, h => by
    simp only [conD] at h
    split at h
    · exact ⟨.int i, ⟨_, by rw [of_decide_eq_true h]⟩, by simp only [Rep]⟩
    · cases h
  | .str x, u, h => by
    simp only [conD] at h
    split at h
    · exact ⟨.str x, ⟨_, by rw [of_decide_eq_true h]⟩, by simp only [Rep]⟩
    · cases h
  | .tup xs, u, h => by
    simp only [conD] at h
    split at h
    · rename_i a
      split at h
      · rename_i c od its n osl q
        obtain ⟨h1, h2⟩ := Bool.and_eq_true_iff.mp h
        obtain ⟨h3, h4⟩ := Bool.and_eq_true_iff.mp h2
        obtain ⟨vs, r1, r2⟩ := conL_ok (A := A) (H := H) h4
        refine ⟨.ref a, rfl, ?_⟩
        simp only [Rep]
        exact ⟨a, vs, rfl, .inr ⟨_, its, n, q, congrArg Value.type (of_decide_eq_true h1), rfl, of_decide_eq_true h3, r1⟩, r2⟩
      · cases h
    · cases h
  | .rol xs, u, h => by
    simp only [conD] at h
    cases h
  | .obj n, u, h => by
    simp only [conD] at h
    cases h
theorem conL_ok {G : Gx} {A : List Addr} {H : Hp} : ∀ {ds : List D} {us : List Value}, conL G.K ds us = true → ∃ vs : List V, Vals vs us ∧ RepL G A H ds vs
  | [], us, h => by
    simp only [conL] at h
    cases us with
    | nil => exact ⟨[], .nil, RepL.nil⟩
    | cons a b => cases h
  | d :: ds, us, h => by
    simp only [conL] at h
    split at h
    · obtain ⟨h1, h2⟩ := Bool.and_eq_true_iff.mp h
      obtain ⟨v, r1, r2⟩ := conD_ok (A := A) (H := H) h1
      obtain ⟨vs, r3, r4⟩ := conL_ok (A := A) (H := H) h2
      exact ⟨v :: vs, .cons r1 r3, RepL.cons r2 r4⟩
    · cases h
end
theorem con_rep {G : Gx} {A : List Addr} {H : Hp} {xs : List D} {a : Addr} (h : conD G.K (.tup xs) (.ref a) = true) : Rep G A H (.tup xs) (.ref a) := by
  obtain ⟨v, r1, r2⟩ := conD_ok (A := A) (H := H) h
  have e := r2
  simp only [Rep] at e
  obtain ⟨b, vs, rfl, _, _⟩ := e
  have : Value.ref a = Value.ref b := r1
  cases this
  exact r2
end DL
/-! denotations that several laws have -/
namespace Law
open PySem L2 DL
def k_ZERO : D := .tup [.int 0, .int 1]
def k_ONE : D := .tup [.int 1, .int 1]
def k_KINDS : D := .tup [.str "gap", .str "lens", .str "stop"]
def k_SAME : D := .tup [.tup [.tup [.int 1, .int 1], .tup [.int 0, .int 1]], .tup [.tup [.int 0, .int 1], .tup [.int 1, .int 1]]]
def k_TWO : D := .tup [.int 2, .int 1]
def k_FOUR : D := .tup [.int 4, .int 1]
def k_HALF : D := .tup [.int 1, .int 2]
noncomputable def d_is_integer : Ds := (gRet (eAnd (eUn (oIsi "int") (eVar 0)) (eUn oNot (eUn (oIsi "bool") (eVar 0)))))
noncomputable def f_is_integer : Fn := fnD 1 d_is_integer
noncomputable def d_need_integer : Ds := (gIf (eOr (eUn oNot (eCall f_is_integer 1 [] (aCons (eVar 0) aNil))) (eOr (eBin oLt (eVar 0) (eVar 2)) (eBin oGt (eVar 0) (eVar 3)))) (gRaise 0 okName (aCons (eVar 1) aNil)) gNx)
noncomputable def f_need_integer : Fn := fnD 4 d_need_integer
noncomputable def d_common : Ds := (gSeq (gAsg (eBlt oAbs (aCons (eVar 0) aNil)) (tName 0)) (gSeq (gAsg (eBlt oAbs (aCons (eVar 1) aNil)) (tName 1)) (gSeq (gWhile (eBin oGt (eVar 1) (eC (.int 0))) (gPar [0, 1] (aCons (eVar 1) (aCons (eBin oMod (eVar 0) (eVar 1)) aNil)))) (gRet (eVar 0)))))
noncomputable def f_common : Fn := fnD 2 d_common
noncomputable def d_ratio : Ds := (gSeq (gIf (eBin oLt (eVar 1) (eC (.int 0))) (gSeq (gAsg (eBin oSub (eC (.int 0)) (eVar 0)) (tName 0)) (gAsg (eBin oSub (eC (.int 0)) (eVar 1)) (tName 1))) gNx) (gSeq (gAsg (eCall f_common 2 [] (aCons (eVar 0) (aCons (eVar 1) aNil))) (tName 2)) (gRet (eTup (aCons (eBin oDiv (eVar 0) (eVar 2)) (aCons (eBin oDiv (eVar 1) (eVar 2)) aNil))))))
noncomputable def f_ratio : Fn := fnD 3 d_ratio
noncomputable def d_plus : Ds := (gRet (eCall f_ratio 2 [] (aCons (eBin oAdd (eBin oMul (eBin oIx (eVar 0) (eC (.int 0))) (eBin oIx (eVar 1) (eC (.int 1)))) (eBin oMul (eBin oIx (eVar 1) (eC (.int 0))) (eBin oIx (eVar 0) (eC (.int 1))))) (aCons (eBin oMul (eBin oIx (eVar 0) (eC (.int 1))) (eBin oIx (eVar 1) (eC (.int 1)))) aNil))))
noncomputable def f_plus : Fn := fnD 2 d_plus
noncomputable def d_times : Ds := (gRet (eCall f_ratio 2 [] (aCons (eBin oMul (eBin oIx (eVar 0) (eC (.int 0))) (eBin oIx (eVar 1) (eC (.int 0)))) (aCons (eBin oMul (eBin oIx (eVar 0) (eC (.int 1))) (eBin oIx (eVar 1) (eC (.int 1)))) aNil))))
noncomputable def f_times : Fn := fnD 2 d_times
noncomputable def d_is_less : Ds := (gRet (eBin oLt (eBin oMul (eBin oIx (eVar 0) (eC (.int 0))) (eBin oIx (eVar 1) (eC (.int 1)))) (eBin oMul (eBin oIx (eVar 1) (eC (.int 0))) (eBin oIx (eVar 0) (eC (.int 1))))))
noncomputable def f_is_less : Fn := fnD 2 d_is_less
noncomputable def d_is_fraction : Ds := (gSeq (gIf (eOr (eUn oNot (eUn (oIsi "tuple") (eVar 0))) (eBin oNe (eBlt oLen (aCons (eVar 0) aNil)) (eC (.int 2)))) (gRet (eC (.bl false))) gNx) (gSeq (gIf (eOr (eUn oNot (eCall f_is_integer 1 [] (aCons (eBin oIx (eVar 0) (eC (.int 0))) aNil))) (eOr (eUn oNot (eCall f_is_integer 1 [] (aCons (eBin oIx (eVar 0) (eC (.int 1))) aNil))) (eBin oLt (eBin oIx (eVar 0) (eC (.int 1))) (eC (.int 1))))) (gRet (eC (.bl false))) gNx) (gRet (eBin oEq (eCall f_common 2 [] (aCons (eBin oIx (eVar 0) (eC (.int 0))) (aCons (eBin oIx (eVar 0) (eC (.int 1))) aNil))) (eC (.int 1))))))
noncomputable def f_is_fraction : Fn := fnD 1 d_is_fraction
noncomputable def d_is_small : Ds := (gRet (eAnd (eCall f_is_fraction 1 [] (aCons (eVar 0) aNil)) (eAnd (eBin oLe (eBlt oAbs (aCons (eBin oIx (eVar 0) (eC (.int 0))) aNil)) (eC (.int 1000000000000))) (eBin oLe (eBin oIx (eVar 0) (eC (.int 1))) (eC (.int 1000000000000))))))
noncomputable def f_is_small : Fn := fnD 1 d_is_small
noncomputable def d_need_number : Ds := (gIf (eUn oNot (eCall f_is_small 1 [] (aCons (eVar 0) aNil))) (gRaise 0 okName (aCons (eVar 1) aNil)) gNx)
noncomputable def f_need_number : Fn := fnD 2 d_need_number
noncomputable def d_law_dice : Ds := (gSeq (gAsg (eIf (eBin oLt (eVar 1) (eBlt oLen (aCons (eVar 0) aNil))) (eBin oIx (eVar 0) (eVar 1)) (eBin oAdd (eBin oMul (eC (.int 733)) (eVar 1)) (eC (.int 29)))) (tName 2)) (gSeq (gAsg (eBin oAdd (eC (.int 910003)) (eBin oMul (eC (.int 7907)) (eVar 1))) (tName 3)) (gSeq (gFor (iVal (eBin oAdd (eSl (eVar 0) none (some (eC (.int 6)))) (eLst (aCons (eVar 2) aNil)))) (tName 4) (gAsg (eBin oMod (eBlt oInt (aCons (eBin oAdd (eBin oMul (eVar 3) (eC (.int 48271))) (eBin oMod (eBlt oInt (aCons (eVar 4) aNil)) (eC (.int 2147480009)))) aNil)) (eC (.int 2147480009))) (tName 3))) (gRet (eLst (aCons (eIf (eOr (eBin oLt (eVar 2) (eC (.int 0))) (eBin oGe (eVar 2) (eBin oPow (eC (.int 10)) (eC (.int 16))))) (eBlt oAbs (aCons (eVar 2) aNil)) (eC (.int 0))) (aCons (eVar 3) (aCons (eC (.int 0)) aNil))))))))
noncomputable def f_law_dice : Fn := fnD 5 d_law_dice
noncomputable def d_law_roll : Ds := (gSeq (gIf (eBin oGt (eBin oIx (eVar 0) (eC (.int 0))) (eC (.int 0))) (gSeq (gAsg (eBin oMod (eBlt oInt (aCons (eBin oIx (eVar 0) (eC (.int 0))) aNil)) (eVar 1)) (tName 2)) (gSeq (gAsg (eBin oDiv (eBin oIx (eVar 0) (eC (.int 0))) (eVar 1)) (tSub (eVar 0) (eC (.int 0)))) (gRet (eVar 2)))) gNx) (gSeq (gAsg (eBin oAdd (eBin oIx (eVar 0) (eC (.int 2))) (eC (.int 1))) (tSub (eVar 0) (eC (.int 2)))) (gSeq (gAsg (eBin oMod (eBlt oInt (aCons (eBin oAdd (eBin oAdd (eBin oMul (eBin oIx (eVar 0) (eC (.int 1))) (eC (.int 52501))) (eBin oMul (eBin oMul (eBin oIx (eVar 0) (eC (.int 2))) (eBin oIx (eVar 0) (eC (.int 2)))) (eC (.int 1009)))) (eC (.int 77))) aNil)) (eC (.int 2147480009))) (tSub (eVar 0) (eC (.int 1)))) (gRet (eBin oMod (eBlt oInt (aCons (eBin oDiv (eBin oIx (eVar 0) (eC (.int 1))) (eC (.int 211))) aNil)) (eVar 1))))))
noncomputable def f_law_roll : Fn := fnD 3 d_law_roll
noncomputable def d_law_pick : Ds := (gRet (eBin oIx (eVar 1) (eCall f_law_roll 2 [] (aCons (eVar 0) (aCons (eBlt oLen (aCons (eVar 1) aNil)) aNil)))))
noncomputable def f_law_pick : Fn := fnD 2 d_law_pick
noncomputable def d_law_f : Ds := (gSeq (gIf (eBin oLt (eVar 1) (eC (.int 0))) (gPar [0, 1] (aCons (eBin oSub (eC (.int 0)) (eVar 0)) (aCons (eBin oSub (eC (.int 0)) (eVar 1)) aNil))) gNx) (gSeq (gPar [2, 3] (aCons (eBlt oAbs (aCons (eVar 0) aNil)) (aCons (eVar 1) aNil))) (gSeq (gFor (DL.iRng1 (eC (.int 6000))) (tName 4) (gSeq (gIf (eBin oEq (eVar 3) (eC (.int 0))) gBk gNx) (gPar [2, 3] (aCons (eVar 3) (aCons (eBin oMod (eBlt oInt (aCons (eVar 2) aNil)) (eVar 3)) aNil))))) (gRet (eTup (aCons (eBin oDiv (eVar 0) (eVar 2)) (aCons (eBin oDiv (eVar 1) (eVar 2)) aNil)))))))
noncomputable def f_law_f : Fn := fnD 5 d_law_f
noncomputable def d_law_add : Ds := (gRet (eCall f_law_f 2 [] (aCons (eBin oAdd (eBin oMul (eBin oIx (eVar 0) (eC (.int 0))) (eBin oIx (eVar 1) (eC (.int 1)))) (eBin oMul (eBin oIx (eVar 1) (eC (.int 0))) (eBin oIx (eVar 0) (eC (.int 1))))) (aCons (eBin oMul (eBin oIx (eVar 0) (eC (.int 1))) (eBin oIx (eVar 1) (eC (.int 1)))) aNil))))
noncomputable def f_law_add : Fn := fnD 2 d_law_add
noncomputable def d_law_mul : Ds := (gRet (eCall f_law_f 2 [] (aCons (eBin oMul (eBin oIx (eVar 0) (eC (.int 0))) (eBin oIx (eVar 1) (eC (.int 0)))) (aCons (eBin oMul (eBin oIx (eVar 0) (eC (.int 1))) (eBin oIx (eVar 1) (eC (.int 1)))) aNil))))
noncomputable def f_law_mul : Fn := fnD 2 d_law_mul
noncomputable def d_law_num : Ds := (gSeq (gAsg (eCall f_law_roll 2 [] (aCons (eVar 0) (aCons (eC (.int 8)) aNil))) (tName 1)) (gSeq (gIf (eBin oLt (eVar 1) (eC (.int 2))) (gRet (eCall f_law_pick 2 [] (aCons (eVar 0) (aCons (eLst (aCons (eTup (aCons (eC (.int 0)) (aCons (eC (.int 1)) aNil))) (aCons (eTup (aCons (eC (.int 1)) (aCons (eC (.int 1)) aNil))) (aCons (eTup (aCons (eUn oNeg (eC (.int 1))) (aCons (eC (.int 1)) aNil))) (aCons (eTup (aCons (eC (.int 2)) (aCons (eC (.int 1)) aNil))) (aCons (eTup (aCons (eC (.int 1)) (aCons (eC (.int 2)) aNil))) aNil)))))) aNil)))) gNx) (gSeq (gIf (eBin oLt (eVar 1) (eC (.int 7))) (gRet (eCall f_law_f 2 [] (aCons (eBin oSub (eCall f_law_roll 2 [] (aCons (eVar 0) (aCons (eC (.int 19)) aNil))) (eC (.int 9))) (aCons (eBin oAdd (eC (.int 1)) (eCall f_law_roll 2 [] (aCons (eVar 0) (aCons (eC (.int 6)) aNil)))) aNil)))) gNx) (gRet (eIf (eBin oEq (eCall f_law_roll 2 [] (aCons (eVar 0) (aCons (eC (.int 3)) aNil))) (eC (.int 0))) (eCall f_law_f 2 [] (aCons (eBin oSub (eBin oMul (eCall f_law_roll 2 [] (aCons (eVar 0) (aCons (eC (.int 1999901)) aNil))) (eC (.int 1000000))) (eBin oMul (eC (.int 999950)) (eBin oPow (eC (.int 10)) (eC (.int 6))))) (aCons (eBin oAdd (eC (.int 1)) (eBin oMul (eCall f_law_roll 2 [] (aCons (eVar 0) (aCons (eC (.int 1000000)) aNil))) (eC (.int 999983)))) aNil))) (eCall f_law_f 2 [] (aCons (eBin oSub (eCall f_law_roll 2 [] (aCons (eVar 0) (aCons (eC (.int 2000001)) aNil))) (eC (.int 1000000))) (aCons (eBin oAdd (eC (.int 1)) (eCall f_law_roll 2 [] (aCons (eVar 0) (aCons (eC (.int 1000000)) aNil)))) aNil))))))))
noncomputable def f_law_num : Fn := fnD 2 d_law_num
noncomputable def d_negative : Ds := (gRet (eTup (aCons (eBin oSub (eC (.int 0)) (eBin oIx (eVar 0) (eC (.int 0)))) (aCons (eBin oIx (eVar 0) (eC (.int 1))) aNil))))
noncomputable def f_negative : Fn := fnD 1 d_negative
noncomputable def d_minus : Ds := (gRet (eCall f_plus 2 [] (aCons (eVar 0) (aCons (eCall f_negative 1 [] (aCons (eVar 1) aNil)) aNil))))
noncomputable def f_minus : Fn := fnD 2 d_minus
noncomputable def d_over : Ds := (gRet (eCall f_ratio 2 [] (aCons (eBin oMul (eBin oIx (eVar 0) (eC (.int 0))) (eBin oIx (eVar 1) (eC (.int 1)))) (aCons (eBin oMul (eBin oIx (eVar 0) (eC (.int 1))) (eBin oIx (eVar 1) (eC (.int 0)))) aNil))))
noncomputable def f_over : Fn := fnD 2 d_over
noncomputable def d_size_of : Ds := (gRet (eTup (aCons (eBlt oAbs (aCons (eBin oIx (eVar 0) (eC (.int 0))) aNil)) (aCons (eBin oIx (eVar 0) (eC (.int 1))) aNil))))
noncomputable def f_size_of : Fn := fnD 1 d_size_of
noncomputable def d_is_part : Ds := (gSeq (gIf (eOr (eUn oNot (eUn (oIsi "tuple") (eVar 0))) (eOr (eBin oNe (eBlt oLen (aCons (eVar 0) aNil)) (eC (.int 2))) (eBin oNotIn (eBin oIx (eVar 0) (eC (.int 0))) (eC k_KINDS)))) (gRet (eC (.bl false))) gNx) (gSeq (gIf (eOr (eUn oNot (eUn (oIsi "str") (eBin oIx (eVar 0) (eC (.int 0))))) (eUn oNot (eCall f_is_small 1 [] (aCons (eBin oIx (eVar 0) (eC (.int 1))) aNil)))) (gRet (eC (.bl false))) gNx) (gSeq (gIf (eBin oEq (eBin oIx (eVar 0) (eC (.int 0))) (eC (.str "gap"))) (gRet (eBin oGe (eBin oIx (eBin oIx (eVar 0) (eC (.int 1))) (eC (.int 0))) (eC (.int 0)))) gNx) (gRet (eOr (eBin oEq (eBin oIx (eVar 0) (eC (.int 0))) (eC (.str "lens"))) (eBin oGt (eBin oIx (eBin oIx (eVar 0) (eC (.int 1))) (eC (.int 0))) (eC (.int 0))))))))
noncomputable def f_is_part : Fn := fnD 1 d_is_part
noncomputable def d_is_row : Ds := (gRet (eAnd (eUn (oIsi "tuple") (eVar 0)) (eAnd (eBin oLe (eBlt oLen (aCons (eVar 0) aNil)) (eC (.int 24))) (eAll (iVal (eVar 0)) 1 (tName 0) (eCall f_is_part 1 [] (aCons (eVar 0) aNil))))))
noncomputable def f_is_row : Fn := fnD 2 d_is_row
noncomputable def d_need_row : Ds := (gIf (eUn oNot (eCall f_is_row 1 [] (aCons (eVar 0) aNil))) (gRaise 0 okName (aCons (eVar 1) aNil)) gNx)
noncomputable def f_need_row : Fn := fnD 2 d_need_row
noncomputable def d_need_ray : Ds := (gIf (eOr (eUn oNot (eUn (oIsi "tuple") (eVar 0))) (eOr (eBin oNe (eBlt oLen (aCons (eVar 0) aNil)) (eC (.int 2))) (eOr (eUn oNot (eCall f_is_small 1 [] (aCons (eBin oIx (eVar 0) (eC (.int 0))) aNil))) (eUn oNot (eCall f_is_small 1 [] (aCons (eBin oIx (eVar 0) (eC (.int 1))) aNil)))))) (gRaise 0 okName (aCons (eVar 1) aNil)) gNx)
noncomputable def f_need_ray : Fn := fnD 2 d_need_ray
noncomputable def d_behind : Ds := (gSeq (gAsg (eVar 0) (tUnp 2 (tsCons (tName 2) (tsCons (tName 3) tsNil)))) (gSeq (gAsg (eVar 1) (tUnp 2 (tsCons (tName 4) (tsCons (tName 5) tsNil)))) (gSeq (gIf (eBin oEq (eVar 2) (eC (.str "gap"))) (gRet (eTup (aCons (eCall f_plus 2 [] (aCons (eVar 4) (aCons (eCall f_times 2 [] (aCons (eVar 3) (aCons (eVar 5) aNil))) aNil))) (aCons (eVar 5) aNil)))) gNx) (gSeq (gIf (eBin oEq (eVar 2) (eC (.str "lens"))) (gRet (eTup (aCons (eVar 4) (aCons (eCall f_minus 2 [] (aCons (eVar 5) (aCons (eCall f_times 2 [] (aCons (eVar 3) (aCons (eVar 4) aNil))) aNil))) aNil)))) gNx) (gRet (eVar 1))))))
noncomputable def f_behind : Fn := fnD 6 d_behind
noncomputable def d_way_of : Ds := (gSeq (gAsg (eLst aNil) (tName 2)) (gSeq (gFor (iVal (eVar 0)) (tName 3) (gSeq (gAsg (eCall f_behind 2 [] (aCons (eVar 3) (aCons (eVar 1) aNil))) (tName 1)) (gExpr (eMet oAppend (eVar 2) (aCons (eVar 1) aNil))))) (gRet (eVar 2))))
noncomputable def f_way_of : Fn := fnD 4 d_way_of
noncomputable def d_way : Ds := (gSeq (gExpr (eCall f_need_row 2 [] (aCons (eVar 0) (aCons (eC (.str "row")) aNil)))) (gSeq (gExpr (eCall f_need_ray 2 [] (aCons (eVar 1) (aCons (eC (.str "ray")) aNil)))) (gRet (eBin oAdd (eTup (aCons (eVar 1) aNil)) (eBlt oTuple (aCons (eCall f_way_of 2 [] (aCons (eVar 0) (aCons (eVar 1) aNil))) aNil))))))
noncomputable def f_way : Fn := fnD 2 d_way
noncomputable def d_leaving : Ds := (gRet (eBin oIx (eCall f_way 2 [] (aCons (eVar 0) (aCons (eVar 1) aNil))) (eUn oNeg (eC (.int 1)))))
noncomputable def f_leaving : Fn := fnD 2 d_leaving
noncomputable def d_caught : Ds := (gSeq (gAsg (eCall f_way 2 [] (aCons (eVar 0) (aCons (eVar 1) aNil))) (tName 2)) (gSeq (gFor (DL.iRng1 (eBlt oLen (aCons (eVar 0) aNil))) (tName 3) (gIf (eAnd (eBin oEq (eBin oIx (eBin oIx (eVar 0) (eVar 3)) (eC (.int 0))) (eC (.str "stop"))) (eCall f_is_less 2 [] (aCons (eBin oIx (eBin oIx (eVar 0) (eVar 3)) (eC (.int 1))) (aCons (eCall f_size_of 1 [] (aCons (eBin oIx (eBin oIx (eVar 2) (eVar 3)) (eC (.int 0))) aNil)) aNil)))) (gRet (eVar 3)) gNx)) (gRet (eC .non))))
noncomputable def f_caught : Fn := fnD 4 d_caught
noncomputable def d_law_neg : Ds := (gRet (eTup (aCons (eBin oSub (eC (.int 0)) (eBin oIx (eVar 0) (eC (.int 0)))) (aCons (eBin oIx (eVar 0) (eC (.int 1))) aNil))))
noncomputable def f_law_neg : Fn := fnD 1 d_law_neg
noncomputable def d_law_div : Ds := (gRet (eCall f_law_f 2 [] (aCons (eBin oMul (eBin oIx (eVar 0) (eC (.int 0))) (eBin oIx (eVar 1) (eC (.int 1)))) (aCons (eBin oMul (eBin oIx (eVar 0) (eC (.int 1))) (eBin oIx (eVar 1) (eC (.int 0)))) aNil))))
noncomputable def f_law_div : Fn := fnD 2 d_law_div
noncomputable def d_law_part : Ds := (gSeq (gPar [1, 2] (aCons (eCall f_law_pick 2 [] (aCons (eVar 0) (aCons (eLst (aCons (eC (.str "gap")) (aCons (eC (.str "gap")) (aCons (eC (.str "lens")) (aCons (eC (.str "lens")) (aCons (eC (.str "stop")) aNil)))))) aNil))) (aCons (eCall f_law_num 1 [] (aCons (eVar 0) aNil)) aNil))) (gSeq (gIf (eBin oEq (eVar 1) (eC (.str "gap"))) (gRet (eTup (aCons (eVar 1) (aCons (eTup (aCons (eBlt oAbs (aCons (eBin oIx (eVar 2) (eC (.int 0))) aNil)) (aCons (eBin oIx (eVar 2) (eC (.int 1))) aNil))) aNil)))) gNx) (gRet (eIf (eBin oEq (eVar 1) (eC (.str "stop"))) (eTup (aCons (eVar 1) (aCons (eTup (aCons (eIf (eBin oNe (eBin oIx (eVar 2) (eC (.int 0))) (eC (.int 0))) (eBlt oAbs (aCons (eBin oIx (eVar 2) (eC (.int 0))) aNil)) (eC (.int 1))) (aCons (eBin oIx (eVar 2) (eC (.int 1))) aNil))) aNil))) (eTup (aCons (eVar 1) (aCons (eVar 2) aNil)))))))
noncomputable def f_law_part : Fn := fnD 3 d_law_part
noncomputable def d_law_row : Ds := (gRet (eBlt oTuple (aCons (eLc (DL.iRng1 (eCall f_law_roll 2 [] (aCons (eVar 0) (aCons (eBin oAdd (eVar 1) (eC (.int 1))) aNil)))) (tName 2) eYes (eCall f_law_part 1 [] (aCons (eVar 0) aNil)) [2]) aNil)))
noncomputable def f_law_row : Fn := fnD 3 d_law_row
noncomputable def d_law_ray : Ds := (gRet (eTup (aCons (eCall f_law_num 1 [] (aCons (eVar 0) aNil)) (aCons (eCall f_law_num 1 [] (aCons (eVar 0) aNil)) aNil))))
noncomputable def f_law_ray : Fn := fnD 1 d_law_ray
noncomputable def d_law_fits (F : Fn) : Ds := (gSeq (gFor (iVal (eVar 0)) (tName 1) (gIf (eUn (oIsi "tuple") (eBin oIx (eVar 1) (eC (.int 0)))) (gIf (eUn oNot (eCall F 1 [] (aCons (eVar 1) aNil))) (gRet (eC (.bl false))) gNx) (gIf (eOr (eBin oGt (eBlt oAbs (aCons (eBin oIx (eVar 1) (eC (.int 0))) aNil)) (eBin oPow (eC (.int 10)) (eC (.int 12)))) (eBin oGt (eBin oIx (eVar 1) (eC (.int 1))) (eBin oPow (eC (.int 10)) (eC (.int 12))))) (gRet (eC (.bl false))) gNx))) (gRet (eC (.bl true))))
noncomputable def r_law_fits : Nat → Fn | 0 => fun _ _ => .bad | n + 1 => fnD 2 (d_law_fits (r_law_fits n))
noncomputable def f_law_fits : Fn := r_law_fits 4
noncomputable def d_law_step : Ds := (gSeq (gIf (eBin oEq (eBin oIx (eVar 0) (eC (.int 0))) (eC (.str "gap"))) (gRet (eTup (aCons (eCall f_law_add 2 [] (aCons (eBin oIx (eVar 1) (eC (.int 0))) (aCons (eCall f_law_mul 2 [] (aCons (eBin oIx (eVar 0) (eC (.int 1))) (aCons (eBin oIx (eVar 1) (eC (.int 1))) aNil))) aNil))) (aCons (eBin oIx (eVar 1) (eC (.int 1))) aNil)))) gNx) (gSeq (gIf (eBin oEq (eBin oIx (eVar 0) (eC (.int 0))) (eC (.str "lens"))) (gRet (eTup (aCons (eBin oIx (eVar 1) (eC (.int 0))) (aCons (eCall f_law_add 2 [] (aCons (eBin oIx (eVar 1) (eC (.int 1))) (aCons (eCall f_law_neg 1 [] (aCons (eCall f_law_mul 2 [] (aCons (eBin oIx (eVar 0) (eC (.int 1))) (aCons (eBin oIx (eVar 1) (eC (.int 0))) aNil))) aNil)) aNil))) aNil)))) gNx) (gRet (eVar 1))))
noncomputable def f_law_step : Fn := fnD 2 d_law_step
noncomputable def d_law_out : Ds := (gSeq (gFor (iVal (eVar 0)) (tName 2) (gAsg (eCall f_law_step 2 [] (aCons (eVar 2) (aCons (eVar 1) aNil))) (tName 1))) (gRet (eVar 1)))
noncomputable def f_law_out : Fn := fnD 3 d_law_out
noncomputable def d_part_matrix : Ds := (gSeq (gAsg (eVar 0) (tUnp 2 (tsCons (tName 1) (tsCons (tName 2) tsNil)))) (gSeq (gIf (eBin oEq (eVar 1) (eC (.str "gap"))) (gRet (eTup (aCons (eTup (aCons (eC k_ONE) (aCons (eVar 2) aNil))) (aCons (eTup (aCons (eC k_ZERO) (aCons (eC k_ONE) aNil))) aNil)))) gNx) (gRet (eIf (eBin oEq (eVar 1) (eC (.str "lens"))) (eTup (aCons (eTup (aCons (eC k_ONE) (aCons (eC k_ZERO) aNil))) (aCons (eTup (aCons (eCall f_negative 1 [] (aCons (eVar 2) aNil)) (aCons (eC k_ONE) aNil))) aNil))) (eC k_SAME)))))
noncomputable def f_part_matrix : Fn := fnD 3 d_part_matrix
noncomputable def d_worked : Ds := (gSeq (gAsg (eLst aNil) (tName 2)) (gSeq (gFor (iVal (eVar 1)) (tName 3) (gSeq (gAsg (eLst aNil) (tName 4)) (gSeq (gFor (DL.iRng1 (eC (.int 2))) (tName 5) (gExpr (eMet oAppend (eVar 4) (aCons (eCall f_plus 2 [] (aCons (eCall f_times 2 [] (aCons (eBin oIx (eVar 3) (eC (.int 0))) (aCons (eBin oIx (eBin oIx (eVar 0) (eC (.int 0))) (eVar 5)) aNil))) (aCons (eCall f_times 2 [] (aCons (eBin oIx (eVar 3) (eC (.int 1))) (aCons (eBin oIx (eBin oIx (eVar 0) (eC (.int 1))) (eVar 5)) aNil))) aNil))) aNil)))) (gExpr (eMet oAppend (eVar 2) (aCons (eBlt oTuple (aCons (eVar 4) aNil)) aNil)))))) (gRet (eBlt oTuple (aCons (eVar 2) aNil)))))
noncomputable def f_worked : Fn := fnD 6 d_worked
noncomputable def d_matrix_of : Ds := (gSeq (gAsg (eC k_SAME) (tName 1)) (gSeq (gFor (iVal (eVar 0)) (tName 2) (gAsg (eCall f_worked 2 [] (aCons (eVar 1) (aCons (eCall f_part_matrix 1 [] (aCons (eVar 2) aNil)) aNil))) (tName 1))) (gRet (eVar 1))))
noncomputable def f_matrix_of : Fn := fnD 3 d_matrix_of
noncomputable def d_need_matrix : Ds := (gSeq (gIf (eOr (eUn oNot (eUn (oIsi "tuple") (eVar 0))) (eBin oNe (eBlt oLen (aCons (eVar 0) aNil)) (eC (.int 2)))) (gRaise 0 okName (aCons (eVar 1) aNil)) gNx) (gSeq (gFor (iVal (eVar 0)) (tName 2) (gIf (eOr (eUn oNot (eUn (oIsi "tuple") (eVar 2))) (eOr (eBin oNe (eBlt oLen (aCons (eVar 2) aNil)) (eC (.int 2))) (eOr (eUn oNot (eCall f_is_small 1 [] (aCons (eBin oIx (eVar 2) (eC (.int 0))) aNil))) (eUn oNot (eCall f_is_small 1 [] (aCons (eBin oIx (eVar 2) (eC (.int 1))) aNil)))))) (gRaise 0 okName (aCons (eVar 1) aNil)) gNx)) (gIf (eBin oNe (eCall f_minus 2 [] (aCons (eCall f_times 2 [] (aCons (eBin oIx (eBin oIx (eVar 0) (eC (.int 0))) (eC (.int 0))) (aCons (eBin oIx (eBin oIx (eVar 0) (eC (.int 1))) (eC (.int 1))) aNil))) (aCons (eCall f_times 2 [] (aCons (eBin oIx (eBin oIx (eVar 0) (eC (.int 0))) (eC (.int 1))) (aCons (eBin oIx (eBin oIx (eVar 0) (eC (.int 1))) (eC (.int 0))) aNil))) aNil))) (eC k_ONE)) (gRaise 0 okName (aCons (eVar 1) aNil)) gNx)))
noncomputable def f_need_matrix : Fn := fnD 3 d_need_matrix
noncomputable def d_inverse_of : Ds := (gSeq (gAsg (eVar 0) (tUnp 2 (tsCons (tUnp 2 (tsCons (tName 1) (tsCons (tName 2) tsNil))) (tsCons (tUnp 2 (tsCons (tName 3) (tsCons (tName 4) tsNil))) tsNil)))) (gRet (eTup (aCons (eTup (aCons (eVar 4) (aCons (eCall f_negative 1 [] (aCons (eVar 2) aNil)) aNil))) (aCons (eTup (aCons (eCall f_negative 1 [] (aCons (eVar 3) aNil)) (aCons (eVar 1) aNil))) aNil)))))
noncomputable def f_inverse_of : Fn := fnD 5 d_inverse_of
noncomputable def d_sent_by : Ds := (gSeq (gAsg (eVar 0) (tUnp 2 (tsCons (tUnp 2 (tsCons (tName 2) (tsCons (tName 3) tsNil))) (tsCons (tUnp 2 (tsCons (tName 4) (tsCons (tName 5) tsNil))) tsNil)))) (gSeq (gAsg (eVar 1) (tUnp 2 (tsCons (tName 6) (tsCons (tName 7) tsNil)))) (gRet (eTup (aCons (eCall f_plus 2 [] (aCons (eCall f_times 2 [] (aCons (eVar 2) (aCons (eVar 6) aNil))) (aCons (eCall f_times 2 [] (aCons (eVar 3) (aCons (eVar 7) aNil))) aNil))) (aCons (eCall f_plus 2 [] (aCons (eCall f_times 2 [] (aCons (eVar 4) (aCons (eVar 6) aNil))) (aCons (eCall f_times 2 [] (aCons (eVar 5) (aCons (eVar 7) aNil))) aNil))) aNil))))))
noncomputable def f_sent_by : Fn := fnD 8 d_sent_by
noncomputable def d_law_matrix : Ds := (gSeq (gPar [1, 2] (aCons (eCall f_law_out 2 [] (aCons (eVar 0) (aCons (eTup (aCons (eTup (aCons (eC (.int 1)) (aCons (eC (.int 1)) aNil))) (aCons (eTup (aCons (eC (.int 0)) (aCons (eC (.int 1)) aNil))) aNil))) aNil))) (aCons (eCall f_law_out 2 [] (aCons (eVar 0) (aCons (eTup (aCons (eTup (aCons (eC (.int 0)) (aCons (eC (.int 1)) aNil))) (aCons (eTup (aCons (eC (.int 1)) (aCons (eC (.int 1)) aNil))) aNil))) aNil))) aNil))) (gRet (eTup (aCons (eTup (aCons (eBin oIx (eVar 1) (eC (.int 0))) (aCons (eBin oIx (eVar 2) (eC (.int 0))) aNil))) (aCons (eTup (aCons (eBin oIx (eVar 1) (eC (.int 1))) (aCons (eBin oIx (eVar 2) (eC (.int 1))) aNil))) aNil)))))
noncomputable def f_law_matrix : Fn := fnD 3 d_law_matrix
noncomputable def d_law_sent : Ds := (gRet (eTup (aCons (eCall f_law_add 2 [] (aCons (eCall f_law_mul 2 [] (aCons (eBin oIx (eBin oIx (eVar 0) (eC (.int 0))) (eC (.int 0))) (aCons (eBin oIx (eVar 1) (eC (.int 0))) aNil))) (aCons (eCall f_law_mul 2 [] (aCons (eBin oIx (eBin oIx (eVar 0) (eC (.int 0))) (eC (.int 1))) (aCons (eBin oIx (eVar 1) (eC (.int 1))) aNil))) aNil))) (aCons (eCall f_law_add 2 [] (aCons (eCall f_law_mul 2 [] (aCons (eBin oIx (eBin oIx (eVar 0) (eC (.int 1))) (eC (.int 0))) (aCons (eBin oIx (eVar 1) (eC (.int 0))) aNil))) (aCons (eCall f_law_mul 2 [] (aCons (eBin oIx (eBin oIx (eVar 0) (eC (.int 1))) (eC (.int 1))) (aCons (eBin oIx (eVar 1) (eC (.int 1))) aNil))) aNil))) aNil))))
noncomputable def f_law_sent : Fn := fnD 2 d_law_sent
noncomputable def d_law_small : Ds := (gRet (eCall f_law_f 2 [] (aCons (eBin oSub (eCall f_law_roll 2 [] (aCons (eVar 0) (aCons (eC (.int 13)) aNil))) (eC (.int 6))) (aCons (eCall f_law_pick 2 [] (aCons (eVar 0) (aCons (eLst (aCons (eC (.int 1)) (aCons (eC (.int 1)) (aCons (eC (.int 2)) (aCons (eC (.int 3)) aNil))))) aNil))) aNil))))
noncomputable def f_law_small : Fn := fnD 1 d_law_small
noncomputable def d_law_drawn : Ds := (gSeq (gPar [1, 2] (aCons (eCall f_law_roll 2 [] (aCons (eVar 0) (aCons (eC (.int 6)) aNil))) (aCons (eLst aNil) aNil))) (gSeq (gIf (eBin oEq (eVar 1) (eC (.int 0))) (gSeq (gAsg (eCall f_law_pick 2 [] (aCons (eVar 0) (aCons (eLst (aCons (eTup (aCons (eC (.int 1)) (aCons (eC (.int 1)) aNil))) (aCons (eTup (aCons (eUn oNeg (eC (.int 1))) (aCons (eC (.int 1)) aNil))) (aCons (eTup (aCons (eC (.int 2)) (aCons (eC (.int 1)) aNil))) (aCons (eTup (aCons (eUn oNeg (eC (.int 1))) (aCons (eC (.int 2)) aNil))) (aCons (eCall f_law_small 1 [] (aCons (eVar 0) aNil)) aNil)))))) aNil))) (tName 3)) (gSeq (gAsg (eIf (eBin oNe (eBin oIx (eVar 3) (eC (.int 0))) (eC (.int 0))) (eVar 3) (eTup (aCons (eC (.int 1)) (aCons (eC (.int 1)) aNil)))) (tName 3)) (gRet (eTup (aCons (eTup (aCons (eVar 3) (aCons (eTup (aCons (eC (.int 0)) (aCons (eC (.int 1)) aNil))) aNil))) (aCons (eTup (aCons (eCall f_law_pick 2 [] (aCons (eVar 0) (aCons (eLst (aCons (eTup (aCons (eC (.int 0)) (aCons (eC (.int 1)) aNil))) (aCons (eCall f_law_small 1 [] (aCons (eVar 0) aNil)) aNil))) aNil))) (aCons (eCall f_law_div 2 [] (aCons (eTup (aCons (eC (.int 1)) (aCons (eC (.int 1)) aNil))) (aCons (eVar 3) aNil))) aNil))) aNil)))))) gNx) (gSeq (gFor (DL.iRng1 (eBin oAdd (eC (.int 1)) (eCall f_law_roll 2 [] (aCons (eVar 0) (aCons (eC (.int 5)) aNil))))) (tName 4) (gSeq (gAsg (eCall f_law_small 1 [] (aCons (eVar 0) aNil)) (tName 5)) (gExpr (eMet oAppend (eVar 2) (aCons (eCall f_law_pick 2 [] (aCons (eVar 0) (aCons (eLst (aCons (eTup (aCons (eC (.str "gap")) (aCons (eVar 5) aNil))) (aCons (eTup (aCons (eC (.str "lens")) (aCons (eVar 5) aNil))) aNil))) aNil))) aNil))))) (gRet (eCall f_law_matrix 1 [] (aCons (eVar 2) aNil))))))
noncomputable def f_law_drawn : Fn := fnD 6 d_law_drawn
noncomputable def d_law_is_num : Ds := (gSeq (gIf (eOr (eUn oNot (eUn (oIsi "tuple") (eVar 0))) (eBin oNe (eBlt oLen (aCons (eVar 0) aNil)) (eC (.int 2)))) (gRet (eC (.bl false))) gNx) (gSeq (gFor (iVal (eVar 0)) (tName 1) (gIf (eOr (eUn oNot (eUn (oIsi "int") (eVar 1))) (eUn (oIsi "bool") (eVar 1))) (gRet (eC (.bl false))) gNx)) (gRet (eAnd (eBin oGe (eBin oIx (eVar 0) (eC (.int 1))) (eC (.int 1))) (eBin oEq (eCall f_law_f 2 [] (aCons (eBin oIx (eVar 0) (eC (.int 0))) (aCons (eBin oIx (eVar 0) (eC (.int 1))) aNil))) (eVar 0))))))
noncomputable def f_law_is_num : Fn := fnD 2 d_law_is_num
noncomputable def d_law_gone : Ds := (gRet (eTup (aCons (eCall f_law_add 2 [] (aCons (eBin oIx (eVar 0) (eC (.int 0))) (aCons (eCall f_law_mul 2 [] (aCons (eVar 1) (aCons (eBin oIx (eVar 0) (eC (.int 1))) aNil))) aNil))) (aCons (eBin oIx (eVar 0) (eC (.int 1))) aNil))))
noncomputable def f_law_gone : Fn := fnD 2 d_law_gone
noncomputable def d_trace_of : Ds := (gRet (eCall f_plus 2 [] (aCons (eBin oIx (eBin oIx (eVar 0) (eC (.int 0))) (eC (.int 0))) (aCons (eBin oIx (eBin oIx (eVar 0) (eC (.int 1))) (eC (.int 1))) aNil))))
noncomputable def f_trace_of : Fn := fnD 1 d_trace_of
noncomputable def d_law_less : Ds := (gRet (eBin oLt (eBin oMul (eBin oIx (eVar 0) (eC (.int 0))) (eBin oIx (eVar 1) (eC (.int 1)))) (eBin oMul (eBin oIx (eVar 1) (eC (.int 0))) (eBin oIx (eVar 0) (eC (.int 1))))))
noncomputable def f_law_less : Fn := fnD 2 d_law_less
noncomputable def d_crossed : Ds := (gRet (eCall f_minus 2 [] (aCons (eCall f_times 2 [] (aCons (eBin oIx (eVar 0) (eC (.int 0))) (aCons (eBin oIx (eVar 1) (eC (.int 1))) aNil))) (aCons (eCall f_times 2 [] (aCons (eBin oIx (eVar 0) (eC (.int 1))) (aCons (eBin oIx (eVar 1) (eC (.int 0))) aNil))) aNil))))
noncomputable def f_crossed : Fn := fnD 2 d_crossed
noncomputable def d_law_cross : Ds := (gRet (eCall f_law_add 2 [] (aCons (eCall f_law_mul 2 [] (aCons (eBin oIx (eVar 0) (eC (.int 0))) (aCons (eBin oIx (eVar 1) (eC (.int 1))) aNil))) (aCons (eCall f_law_neg 1 [] (aCons (eCall f_law_mul 2 [] (aCons (eBin oIx (eVar 0) (eC (.int 1))) (aCons (eBin oIx (eVar 1) (eC (.int 0))) aNil))) aNil)) aNil))))
noncomputable def f_law_cross : Fn := fnD 2 d_law_cross
noncomputable def d_stops_of : Ds := (gSeq (gAsg (eLst aNil) (tName 1)) (gSeq (gAsg (eC k_SAME) (tName 2)) (gSeq (gFor (DL.iRng1 (eBlt oLen (aCons (eVar 0) aNil))) (tName 3) (gSeq (gIf (eBin oEq (eBin oIx (eBin oIx (eVar 0) (eVar 3)) (eC (.int 0))) (eC (.str "stop"))) (gExpr (eMet oAppend (eVar 1) (aCons (eTup (aCons (eVar 3) (aCons (eBin oIx (eVar 2) (eC (.int 0))) (aCons (eBin oIx (eBin oIx (eVar 0) (eVar 3)) (eC (.int 1))) aNil)))) aNil))) gNx) (gAsg (eCall f_worked 2 [] (aCons (eVar 2) (aCons (eCall f_part_matrix 1 [] (aCons (eBin oIx (eVar 0) (eVar 3)) aNil)) aNil))) (tName 2)))) (gRet (eVar 1)))))
noncomputable def f_stops_of : Fn := fnD 4 d_stops_of
noncomputable def d_height_at : Ds := (gRet (eCall f_plus 2 [] (aCons (eCall f_times 2 [] (aCons (eBin oIx (eVar 0) (eC (.int 0))) (aCons (eBin oIx (eVar 1) (eC (.int 0))) aNil))) (aCons (eCall f_times 2 [] (aCons (eBin oIx (eVar 0) (eC (.int 1))) (aCons (eBin oIx (eVar 1) (eC (.int 1))) aNil))) aNil))))
noncomputable def f_height_at : Fn := fnD 2 d_height_at
noncomputable def d_law_abs : Ds := (gRet (eTup (aCons (eBlt oAbs (aCons (eBin oIx (eVar 0) (eC (.int 0))) aNil)) (aCons (eBin oIx (eVar 0) (eC (.int 1))) aNil))))
noncomputable def f_law_abs : Fn := fnD 1 d_law_abs
noncomputable def d_law_stops : Ds := (gSeq (gPar [1, 2, 3] (aCons (eLst aNil) (aCons (eTup (aCons (eTup (aCons (eC (.int 1)) (aCons (eC (.int 1)) aNil))) (aCons (eTup (aCons (eC (.int 0)) (aCons (eC (.int 1)) aNil))) aNil))) (aCons (eTup (aCons (eTup (aCons (eC (.int 0)) (aCons (eC (.int 1)) aNil))) (aCons (eTup (aCons (eC (.int 1)) (aCons (eC (.int 1)) aNil))) aNil))) aNil)))) (gSeq (gFor (DL.iRng1 (eBlt oLen (aCons (eVar 0) aNil))) (tName 4) (gSeq (gIf (eBin oEq (eBin oIx (eBin oIx (eVar 0) (eVar 4)) (eC (.int 0))) (eC (.str "stop"))) (gExpr (eMet oAppend (eVar 1) (aCons (eTup (aCons (eVar 4) (aCons (eTup (aCons (eBin oIx (eVar 2) (eC (.int 0))) (aCons (eBin oIx (eVar 3) (eC (.int 0))) aNil))) (aCons (eBin oIx (eBin oIx (eVar 0) (eVar 4)) (eC (.int 1))) aNil)))) aNil))) gNx) (gPar [2, 3] (aCons (eCall f_law_step 2 [] (aCons (eBin oIx (eVar 0) (eVar 4)) (aCons (eVar 2) aNil))) (aCons (eCall f_law_step 2 [] (aCons (eBin oIx (eVar 0) (eVar 4)) (aCons (eVar 3) aNil))) aNil))))) (gRet (eVar 1))))
noncomputable def f_law_stops : Fn := fnD 5 d_law_stops
noncomputable def d_law_at : Ds := (gRet (eCall f_law_add 2 [] (aCons (eCall f_law_mul 2 [] (aCons (eBin oIx (eVar 0) (eC (.int 0))) (aCons (eBin oIx (eVar 1) (eC (.int 0))) aNil))) (aCons (eCall f_law_mul 2 [] (aCons (eBin oIx (eVar 0) (eC (.int 1))) (aCons (eBin oIx (eVar 1) (eC (.int 1))) aNil))) aNil))))
noncomputable def f_law_at : Fn := fnD 2 d_law_at
noncomputable def d_law_through : Ds := (gSeq (gFor (iVal (eVar 0)) (tUnp 3 (tsCons (tName 2) (tsCons (tName 3) (tsCons (tName 4) tsNil)))) (gIf (eCall f_law_less 2 [] (aCons (eVar 4) (aCons (eCall f_law_abs 1 [] (aCons (eCall f_law_at 2 [] (aCons (eVar 3) (aCons (eVar 1) aNil))) aNil)) aNil))) (gRet (eC (.bl false))) gNx)) (gRet (eC (.bl true))))
noncomputable def f_law_through : Fn := fnD 5 d_law_through
noncomputable def d_law_corners : Ds := (gSeq (gAsg (eLst aNil) (tName 1)) (gSeq (gFor (iVal (eVar 0)) (tName 2) (gFor (iVal (eVar 0)) (tName 3) (gSeq (gAsg (eCall f_law_cross 2 [] (aCons (eBin oIx (eVar 2) (eC (.int 1))) (aCons (eBin oIx (eVar 3) (eC (.int 1))) aNil))) (tName 4)) (gIf (eBin oNe (eBin oIx (eVar 4) (eC (.int 0))) (eC (.int 0))) (gFor (iVal (eLst (aCons (eBin oIx (eVar 2) (eC (.int 2))) (aCons (eCall f_law_neg 1 [] (aCons (eBin oIx (eVar 2) (eC (.int 2))) aNil)) aNil)))) (tName 5) (gFor (iVal (eLst (aCons (eBin oIx (eVar 3) (eC (.int 2))) (aCons (eCall f_law_neg 1 [] (aCons (eBin oIx (eVar 3) (eC (.int 2))) aNil)) aNil)))) (tName 6) (gSeq (gAsg (eCall f_law_add 2 [] (aCons (eCall f_law_mul 2 [] (aCons (eVar 5) (aCons (eBin oIx (eBin oIx (eVar 3) (eC (.int 1))) (eC (.int 1))) aNil))) (aCons (eCall f_law_neg 1 [] (aCons (eCall f_law_mul 2 [] (aCons (eVar 6) (aCons (eBin oIx (eBin oIx (eVar 2) (eC (.int 1))) (eC (.int 1))) aNil))) aNil)) aNil))) (tName 7)) (gSeq (gAsg (eCall f_law_add 2 [] (aCons (eCall f_law_mul 2 [] (aCons (eVar 6) (aCons (eBin oIx (eBin oIx (eVar 2) (eC (.int 1))) (eC (.int 0))) aNil))) (aCons (eCall f_law_neg 1 [] (aCons (eCall f_law_mul 2 [] (aCons (eVar 5) (aCons (eBin oIx (eBin oIx (eVar 3) (eC (.int 1))) (eC (.int 0))) aNil))) aNil)) aNil))) (tName 8)) (gSeq (gAsg (eTup (aCons (eCall f_law_div 2 [] (aCons (eVar 7) (aCons (eVar 4) aNil))) (aCons (eCall f_law_div 2 [] (aCons (eVar 8) (aCons (eVar 4) aNil))) aNil))) (tName 9)) (gIf (eAnd (eBin oNotIn (eVar 9) (eVar 1)) (eCall f_law_through 2 [] (aCons (eVar 0) (aCons (eVar 9) aNil)))) (gExpr (eMet oAppend (eVar 1) (aCons (eVar 9) aNil))) gNx)))))) gNx)))) (gRet (eVar 1))))
noncomputable def f_law_corners : Fn := fnD 10 d_law_corners
noncomputable def d_law_stopped : Ds := (gSeq (gAsg (eLst aNil) (tName 1)) (gSeq (gFor (DL.iRng1 (eCall f_law_roll 2 [] (aCons (eVar 0) (aCons (eC (.int 6)) aNil)))) (tName 2) (gSeq (gExpr (eMet oAppend (eVar 1) (aCons (eCall f_law_part 1 [] (aCons (eVar 0) aNil)) aNil))) (gIf (eBin oEq (eCall f_law_roll 2 [] (aCons (eVar 0) (aCons (eC (.int 2)) aNil))) (eC (.int 0))) (gExpr (eMet oAppend (eVar 1) (aCons (eTup (aCons (eC (.str "stop")) (aCons (eCall f_law_f 2 [] (aCons (eBin oAdd (eC (.int 1)) (eCall f_law_roll 2 [] (aCons (eVar 0) (aCons (eC (.int 9)) aNil)))) (aCons (eBin oAdd (eC (.int 1)) (eCall f_law_roll 2 [] (aCons (eVar 0) (aCons (eC (.int 3)) aNil)))) aNil))) aNil))) aNil))) gNx))) (gRet (eBlt oTuple (aCons (eVar 1) aNil)))))
noncomputable def f_law_stopped : Fn := fnD 3 d_law_stopped
end Law
/-! evaluation of denotations, rules for loops -/
namespace DL
open PySem L2
section
variable {α β : Type} {a : α} {h : DH} {c : Nat} {d : D} {ρ : En}
theorem b_ok {k : α → DH → Rs β} : (Rs.ok a h).bind k = k a h := rfl
theorem b_ex {k : α → DH → Rs β} : (Rs.ex c d h).bind k = .ex c d h := rfl
theorem b_bad {k : α → DH → Rs β} : (Rs.bad : Rs α).bind k = .bad := rfl
theorem o_ok {k : α → DH → Ss} : ofR (Rs.ok a h) k = k a h := rfl
theorem o_ex {k : α → DH → Ss} : ofR (Rs.ex c d h : Rs α) k = .ex c d h := rfl
theorem o_bad {k : α → DH → Ss} : ofR (Rs.bad : Rs α) k = .bad := rfl
theorem n_ok : noEx (Rs.ok a h) = .ok a h := rfl
def sq (r : Ss) (g : Ds) : Ss := match r with
  | .nx ρ' h' => g ρ' h'
  | .rt d h' => .rt d h'
  | .bk ρ' h' => .bk ρ' h'
  | .ct ρ' h' => .ct ρ' h'
  | .ex c d h' => .ex c d h'
  | .bad => .bad
theorem s_seq {f g : Ds} : gSeq f g ρ h = sq (f ρ h) g := rfl
theorem s_nx {g : Ds} : sq (.nx ρ h) g = g ρ h := rfl
theorem s_rt {g : Ds} : sq (.rt d h) g = .rt d h := rfl
theorem s_bk {g : Ds} : sq (.bk ρ h) g = .bk ρ h := rfl
theorem s_ct {g : Ds} : sq (.ct ρ h) g = .ct ρ h := rfl
theorem s_ex {g : Ds} : sq (.ex c d h) g = .ex c d h := rfl
theorem e_var {i : Nat} : eVar i ρ h = (match ρ[i]? with
  | some (some d) => .ok d h
  | _ => .bad) := rfl
theorem e_c : eC d ρ h = .ok d h := rfl
theorem e_bin {o : D → D → DH → Rs D} {f g : De} : eBin o f g ρ h = (f ρ h).bind fun x h1 => (g ρ h1).bind fun y h2 => o x y h2 := rfl
theorem e_un {o : D → DH → Rs D} {f : De} : eUn o f ρ h = (f ρ h).bind o := rfl
theorem e_blt {o : Fn} {f : Da} : eBlt o f ρ h = (f ρ h).bind o := rfl
theorem e_if {k f g : De} : eIf k f g ρ h = (k ρ h).bind fun x h1 => (match x with
  | .bl true => f ρ h1
  | .bl false => g ρ h1
  | _ => .bad) := rfl
theorem e_and {f g : De} : eAnd f g ρ h = (f ρ h).bind fun x h1 => (match x with
  | .bl true => g ρ h1
  | .bl false => .ok (.bl false) h1
  | _ => .bad) := rfl
theorem e_or {f g : De} : eOr f g ρ h = (f ρ h).bind fun x h1 => (match x with
  | .bl true => .ok (.bl true) h1
  | .bl false => g ρ h1
  | _ => .bad) := rfl
theorem e_chain {q r : Int → Int → Bool} {f g k : De} : eChain q r f g k ρ h = (f ρ h).bind fun x h1 => (g ρ h1).bind fun y h2 => (oCmp q x y h2).bind fun z h3 => (match z with
  | .bl true => (k ρ h3).bind fun w h4 => oCmp r y w h4
  | _ => .ok (.bl false) h3) := rfl
theorem a_nil : aNil ρ h = .ok [] h := rfl
theorem a_cons {f : De} {fs : Da} : aCons f fs ρ h = (f ρ h).bind fun x h1 => (fs ρ h1).bind fun xs h2 => .ok (x :: xs) h2 := rfl
theorem e_tup {fs : Da} : eTup fs ρ h = (fs ρ h).bind fun xs h1 => if xs.length ≤ lim then .ok (.tup xs) h1 else .bad := rfl
theorem e_lst {fs : Da} : eLst fs ρ h = (fs ρ h).bind fun xs h1 => if xs.length ≤ lim then alloc (.lst xs) h1 else .bad := rfl
theorem e_call {F : Fn} {n : Nat} {dvs : List D} {fs : Da} : eCall F n dvs fs ρ h = (fs ρ h).bind fun xs h1 => if (xs ++ dvs).length = n then F (xs ++ dvs) h1 else .bad := rfl
theorem e_callK {F : Fn} {n m : Nat} {g : List D → List D → List D} {fs gs : Da} : eCallK F n m g fs gs ρ h = (fs ρ h).bind fun xs h1 => (gs ρ h1).bind fun ys h2 => if xs.length = n ∧ ys.length = m then F (g xs ys) h2 else .bad := rfl
theorem e_met {o : D → Fn} {f : De} {fs : Da} : eMet o f fs ρ h = (f ρ h).bind fun x h1 => if isLst x h1 = true then (fs ρ h1).bind fun ds h2 => o x ds h2 else .bad := rfl
theorem e_sl {f : De} {l u : Option De} : eSl f l u ρ h = (f ρ h).bind fun x h1 => (ePart l ρ h1).bind fun lo h2 => (ePart u ρ h2).bind fun hi h3 => oSl x lo hi h3 := rfl
theorem g_nx : gNx ρ h = .nx ρ h := rfl
theorem g_expr {f : De} : gExpr f ρ h = ofR (f ρ h) fun _ h1 => .nx ρ h1 := rfl
theorem g_ret {f : De} : gRet f ρ h = ofR (f ρ h) fun d h1 => .rt d h1 := rfl
theorem g_retN : gRetN ρ h = .rt .non h := rfl
theorem g_bk : gBk ρ h = .bk ρ h := rfl
theorem g_ct : gCt ρ h = .ct ρ h := rfl
theorem g_if {k : De} {f g : Ds} : gIf k f g ρ h = ofR (k ρ h) fun d h1 => (match d with
  | .bl true => f ρ h1
  | .bl false => g ρ h1
  | _ => .bad) := rfl
theorem g_asg {f : De} {γ : Dg} : gAsg f γ ρ h = ofR (f ρ h) fun d h1 => ofR (γ d ρ h1) fun ρ' h2 => .nx ρ' h2 := rfl
theorem g_par {is : List Nat} {fs : Da} : gPar is fs ρ h = ofR (fs ρ h) fun ds h1 => if ds.length = is.length then .nx ((is.zip ds).foldl (fun r p => r.set p.1 (some p.2)) ρ) h1 else .bad := rfl
theorem g_raise {n : Nat} {okd : D → Bool} {fs : Da} : gRaise n okd fs ρ h = (match fs ρ h with
  | .ok [d] h1 => if okd d = true then .ex n d h1 else .bad
  | .ok _ _ => .bad
  | .ex n d h1 => .ex n d h1
  | .bad => .bad) := rfl
theorem g_aug {i : Nat} {o : D → D → DH → Rs D} {f : De} : gAug i o f ρ h = (match ρ[i]? with
  | some (some x) => ofR (f ρ h) fun y h1 => ofR (o x y h1) fun z h2 => .nx (ρ.set i (some z)) h2
  | _ => .bad) := rfl
theorem o_iadd {i j : Int} : oIAdd (.int i) (.int j) h = .ok (.int (i + j)) h := rfl
theorem t_name {i : Nat} : tName i d ρ h = .ok (ρ.set i (some d)) h := rfl
theorem t_unp {n : Nat} {γs : Dgs} : tUnp n γs d ρ h = (match seqOf d h with
  | some xs => if xs.length = n then γs xs ρ h else .bad
  | none => .bad) := rfl
theorem t_nil : tsNil [] ρ h = .ok ρ h := rfl
theorem t_cons {γ : Dg} {γs : Dgs} {r : List D} : tsCons γ γs (d :: r) ρ h = (γ d ρ h).bind fun ρ' h' => γs r ρ' h' := rfl
theorem t_sub {f g : De} : tSub f g d ρ h = (f ρ h).bind fun o h1 => (g ρ h1).bind fun i h2 => (oSet o i d h2).bind fun _ h3 => .ok ρ h3 := rfl
theorem g_for {ι : Di} {γ : Dg} {b : Ds} : gFor ι γ b ρ h = ofR (ι ρ h) fun it h1 => (match it with
  | .all xs => forA γ b xs ρ h1
  | .obj n xs => forO γ b n xs xs ρ h1) := rfl
theorem i_val {f : De} : iVal f ρ h = (f ρ h).bind oIter := rfl
theorem i_rng1 {f : De} : iRng1 f ρ h = (f ρ h).bind fun d h1 => (match d with
  | .int j => if -1000000000 ≤ j ∧ j ≤ 1000000000 then .ok (.all (rngItems 0 j.toNat)) h1 else .bad
  | _ => .bad) := rfl
theorem i_rng2 {f g : De} : iRng2 f g ρ h = (f ρ h).bind fun d h1 => (g ρ h1).bind fun e h2 => (match d, e with
  | .int i, .int j => if -1000000000 ≤ i ∧ i ≤ 1000000000 ∧ -1000000000 ≤ j ∧ j ≤ 1000000000 then .ok (.all (rngItems i (j - i).toNat)) h2 else .bad
  | _, _ => .bad) := rfl
theorem e_ref {c : Nat} {ret : Str} {f : De} : eRef c ret f ρ h = (match f ρ h with
  | .ok _ h1 => .ok (.str ret) h1
  | .ex n d h1 => if n = c then .ok d h1 else .bad
  | .bad => .bad) := rfl
theorem f_rt {h' : DH} : finish h (.rt d h') = .ok d (drop h d h') := rfl
theorem f_nx {h' : DH} : finish h (.nx ρ h') = .ok .non (drop h .non h') := rfl
theorem f_ex {h' : DH} : finish h (.ex c d h') = .ex c d (drop h d h') := rfl
theorem drop_id : drop h d h = h := drop_same rfl
theorem drop_len {h' : DH} (e : h'.length = h.length) : drop h d h' = h' := drop_same e
theorem o_cmp {q : Int → Int → Bool} {i j : Int} : oCmp q (.int i) (.int j) h = .ok (.bl (q i j)) h := rfl
theorem o_add {i j : Int} : oAdd (.int i) (.int j) h = .ok (.int (i + j)) h := rfl
theorem o_sub {i j : Int} : oSub (.int i) (.int j) h = .ok (.int (i - j)) h := rfl
theorem o_neg {i : Int} : oNeg (.int i) h = .ok (.int (-i)) h := rfl
theorem o_not {b : Bool} : oNot (.bl b) h = .ok (.bl !b) h := rfl
theorem o_mul {i j : Int} (hi : big i) (hj : big j) : oMul (.int i) (.int j) h = .ok (.int (i * j)) h := by
  show (if big i ∧ big j then _ else _) = _
  rw [if_pos ⟨hi, hj⟩]
theorem o_div {i j : Int} (h1 : 0 < j) (h2 : j.natAbs.log2 < 9000) : oDiv (.int i) (.int j) h = .ok (.int (i / j)) h := by
  show (if 0 < j ∧ j.natAbs.log2 < 9000 then _ else _) = _
  rw [if_pos ⟨h1, h2⟩]
theorem o_mod {i j : Int} (h1 : 0 < j) : oMod (.int i) (.int j) h = .ok (.int (i % j)) h := by
  show (if 0 < j then _ else _) = _
  rw [if_pos h1]
theorem o_abs {i : Int} : oAbs [.int i] h = .ok (.int i.natAbs) h := rfl
theorem o_int {i : Int} : oInt [.int i] h = .ok (.int i) h := rfl
theorem o_max {i j : Int} : oMax [.int i, .int j] h = .ok (.int (max i j)) h := rfl
theorem o_min {i j : Int} : oMin [.int i, .int j] h = .ok (.int (min i j)) h := rfl
theorem q_int {i j : Int} : oEq (.int i) (.int j) h = .ok (.bl (decide (i = j))) h := rfl
theorem q_nint {i j : Int} : oNe (.int i) (.int j) h = .ok (.bl (!decide (i = j))) h := rfl
theorem q_bl {i j : Bool} : oEq (.bl i) (.bl j) h = .ok (.bl (decide (i = j))) h := rfl
theorem q_nbl {i j : Bool} : oNe (.bl i) (.bl j) h = .ok (.bl (!decide (i = j))) h := rfl
theorem q_str {i j : Str} : oEq (.str i) (.str j) h = .ok (.bl (decide (i = j))) h := rfl
theorem q_nstr {i j : Str} : oNe (.str i) (.str j) h = .ok (.bl (!decide (i = j))) h := rfl
theorem is_int_int {i : Int} : oIsi "int" (.int i) h = .ok (.bl true) h := by
  have e : kitB "int" "int" = some true := by first | rfl | kernel_rfl | decide +kernel
  show (match kitB "int" "int" with | some b => Rs.ok (D.bl b) h | none => .bad) = _
  rw [e]
theorem is_int_bl {i : Bool} : oIsi "int" (.bl i) h = .ok (.bl true) h := by
  have e : kitB "bool" "int" = some true := by first | rfl | kernel_rfl | decide +kernel
  show (match kitB "bool" "int" with | some b => Rs.ok (D.bl b) h | none => .bad) = _
  rw [e]
theorem is_int_str {i : Str} : oIsi "int" (.str i) h = .ok (.bl false) h := by
  have e : kitB "str" "int" = some false := by first | rfl | kernel_rfl | decide +kernel
  show (match kitB "str" "int" with | some b => Rs.ok (D.bl b) h | none => .bad) = _
  rw [e]
theorem is_int_tup {i : List D} : oIsi "int" (.tup i) h = .ok (.bl false) h := by
  have e : kitB "tuple" "int" = some false := by first | rfl | kernel_rfl | decide +kernel
  show (match kitB "tuple" "int" with | some b => Rs.ok (D.bl b) h | none => .bad) = _
  rw [e]
theorem is_int_rol {i : List D} : oIsi "int" (.rol i) h = .ok (.bl false) h := by
  have e : kitB "list" "int" = some false := by first | rfl | kernel_rfl | decide +kernel
  show (match kitB "list" "int" with | some b => Rs.ok (D.bl b) h | none => .bad) = _
  rw [e]
theorem is_int_non  : oIsi "int" .non h = .ok (.bl false) h := by
  have e : kitB "NoneType" "int" = some false := by first | rfl | kernel_rfl | decide +kernel
  show (match kitB "NoneType" "int" with | some b => Rs.ok (D.bl b) h | none => .bad) = _
  rw [e]
theorem is_int_obj {n : Nat} {xs : List D} (q : h[n]? = some (.lst xs)) : oIsi "int" (.obj n) h = .ok (.bl false) h := by
  have e : kitB "list" "int" = some false := by first | rfl | kernel_rfl | decide +kernel
  show (match (match h[n]? with | some (.lst _) => some "list" | some (.dic _) => some "dict" | _ => none : Option String).bind fun t => kitB t "int" with | some b => Rs.ok (D.bl b) h | none => .bad) = _
  rw [q]
  show (match kitB "list" "int" with | some b => Rs.ok (D.bl b) h | none => .bad) = _
  rw [e]
theorem is_bool_int {i : Int} : oIsi "bool" (.int i) h = .ok (.bl false) h := by
  have e : kitB "int" "bool" = some false := by first | rfl | kernel_rfl | decide +kernel
  show (match kitB "int" "bool" with | some b => Rs.ok (D.bl b) h | none => .bad) = _
  rw [e]
theorem is_bool_bl {i : Bool} : oIsi "bool" (.bl i) h = .ok (.bl true) h := by
  have e : kitB "bool" "bool" = some true := by first | rfl | kernel_rfl | decide +kernel
  show (match kitB "bool" "bool" with | some b => Rs.ok (D.bl b) h | none => .bad) = _
  rw [e]
theorem is_bool_str {i : Str} : oIsi "bool" (.str i) h = .ok (.bl false) h := by
  have e : kitB "str" "bool" = some false := by first | rfl | kernel_rfl | decide +kernel
  show (match kitB "str" "bool" with | some b => Rs.ok (D.bl b) h | none => .bad) = _
  rw [e]
theorem is_bool_tup {i : List D} : oIsi "bool" (.tup i) h = .ok (.bl false) h := by
  have e : kitB "tuple" "bool" = some false := by first | rfl | kernel_rfl | decide +kernel
  show (match kitB "tuple" "bool" with | some b => Rs.ok (D.bl b) h | none => .bad) = _
  rw [e]
theorem is_bool_rol {i : List D} : oIsi "bool" (.rol i) h = .ok (.bl false) h := by
  have e : kitB "list" "bool" = some false := by first | rfl | kernel_rfl | decide +kernel
  show (match kitB "list" "bool" with | some b => Rs.ok (D.bl b) h | none => .bad) = _
  rw [e]
theorem is_bool_non  : oIsi "bool" .non h = .ok (.bl false) h := by
  have e : kitB "NoneType" "bool" = some false := by first | rfl | kernel_rfl | decide +kernel
  show (match kitB "NoneType" "bool" with | some b => Rs.ok (D.bl b) h | none => .bad) = _
  rw [e]
theorem is_bool_obj {n : Nat} {xs : List D} (q : h[n]? = some (.lst xs)) : oIsi "bool" (.obj n) h = .ok (.bl false) h := by
  have e : kitB "list" "bool" = some false := by first | rfl | kernel_rfl | decide +kernel
  show (match (match h[n]? with | some (.lst _) => some "list" | some (.dic _) => some "dict" | _ => none : Option String).bind fun t => kitB t "bool" with | some b => Rs.ok (D.bl b) h | none => .bad) = _
  rw [q]
  show (match kitB "list" "bool" with | some b => Rs.ok (D.bl b) h | none => .bad) = _
  rw [e]
theorem is_tuple_int {i : Int} : oIsi "tuple" (.int i) h = .ok (.bl false) h := by
  have e : kitB "int" "tuple" = some false := by first | rfl | kernel_rfl | decide +kernel
  show (match kitB "int" "tuple" with | some b => Rs.ok (D.bl b) h | none => .bad) = _
  rw [e]
theorem is_tuple_bl {i : Bool} : oIsi "tuple" (.bl i) h = .ok (.bl false) h := by
  have e : kitB "bool" "tuple" = some false := by first | rfl | kernel_rfl | decide +kernel
  show (match kitB "bool" "tuple" with | some b => Rs.ok (D.bl b) h | none => .bad) = _
  rw [e]
theorem is_tuple_str {i : Str} : oIsi "tuple" (.str i) h = .ok (.bl false) h := by
  have e : kitB "str" "tuple" = some false := by first | rfl | kernel_rfl | decide +kernel
  show (match kitB "str" "tuple" with | some b => Rs.ok (D.bl b) h | none => .bad) = _
  rw [e]
theorem is_tuple_tup {i : List D} : oIsi "tuple" (.tup i) h = .ok (.bl true) h := by
  have e : kitB "tuple" "tuple" = some true := by first | rfl | kernel_rfl | decide +kernel
  show (match kitB "tuple" "tuple" with | some b => Rs.ok (D.bl b) h | none => .bad) = _
  rw [e]
theorem is_tuple_rol {i : List D} : oIsi "tuple" (.rol i) h = .ok (.bl false) h := by
  have e : kitB "list" "tuple" = some false := by first | rfl | kernel_rfl | decide +kernel
  show (match kitB "list" "tuple" with | some b => Rs.ok (D.bl b) h | none => .bad) = _
  rw [e]
theorem is_tuple_non  : oIsi "tuple" .non h = .ok (.bl false) h := by
  have e : kitB "NoneType" "tuple" = some false := by first | rfl | kernel_rfl | decide +kernel
  show (match kitB "NoneType" "tuple" with | some b => Rs.ok (D.bl b) h | none => .bad) = _
  rw [e]
theorem is_tuple_obj {n : Nat} {xs : List D} (q : h[n]? = some (.lst xs)) : oIsi "tuple" (.obj n) h = .ok (.bl false) h := by
  have e : kitB "list" "tuple" = some false := by first | rfl | kernel_rfl | decide +kernel
  show (match (match h[n]? with | some (.lst _) => some "list" | some (.dic _) => some "dict" | _ => none : Option String).bind fun t => kitB t "tuple" with | some b => Rs.ok (D.bl b) h | none => .bad) = _
  rw [q]
  show (match kitB "list" "tuple" with | some b => Rs.ok (D.bl b) h | none => .bad) = _
  rw [e]
theorem is_str_int {i : Int} : oIsi "str" (.int i) h = .ok (.bl false) h := by
  have e : kitB "int" "str" = some false := by first | rfl | kernel_rfl | decide +kernel
  show (match kitB "int" "str" with | some b => Rs.ok (D.bl b) h | none => .bad) = _
  rw [e]
theorem is_str_bl {i : Bool} : oIsi "str" (.bl i) h = .ok (.bl false) h := by
  have e : kitB "bool" "str" = some false := by first | rfl | kernel_rfl | decide +kernel
  show (match kitB "bool" "str" with | some b => Rs.ok (D.bl b) h | none => .bad) = _
  rw [e]
theorem is_str_str {i : Str} : oIsi "str" (.str i) h = .ok (.bl true) h := by
  have e : kitB "str" "str" = some true := by first | rfl | kernel_rfl | decide +kernel
  show (match kitB "str" "str" with | some b => Rs.ok (D.bl b) h | none => .bad) = _
  rw [e]
theorem is_str_tup {i : List D} : oIsi "str" (.tup i) h = .ok (.bl false) h := by
  have e : kitB "tuple" "str" = some false := by first | rfl | kernel_rfl | decide +kernel
  show (match kitB "tuple" "str" with | some b => Rs.ok (D.bl b) h | none => .bad) = _
  rw [e]
theorem is_str_rol {i : List D} : oIsi "str" (.rol i) h = .ok (.bl false) h := by
  have e : kitB "list" "str" = some false := by first | rfl | kernel_rfl | decide +kernel
  show (match kitB "list" "str" with | some b => Rs.ok (D.bl b) h | none => .bad) = _
  rw [e]
theorem is_str_non  : oIsi "str" .non h = .ok (.bl false) h := by
  have e : kitB "NoneType" "str" = some false := by first | rfl | kernel_rfl | decide +kernel
  show (match kitB "NoneType" "str" with | some b => Rs.ok (D.bl b) h | none => .bad) = _
  rw [e]
theorem is_str_obj {n : Nat} {xs : List D} (q : h[n]? = some (.lst xs)) : oIsi "str" (.obj n) h = .ok (.bl false) h := by
  have e : kitB "list" "str" = some false := by first | rfl | kernel_rfl | decide +kernel
  show (match (match h[n]? with | some (.lst _) => some "list" | some (.dic _) => some "dict" | _ => none : Option String).bind fun t => kitB t "str" with | some b => Rs.ok (D.bl b) h | none => .bad) = _
  rw [q]
  show (match kitB "list" "str" with | some b => Rs.ok (D.bl b) h | none => .bad) = _
  rw [e]
theorem is_list_int {i : Int} : oIsi "list" (.int i) h = .ok (.bl false) h := by
  have e : kitB "int" "list" = some false := by first | rfl | kernel_rfl | decide +kernel
  show (match kitB "int" "list" with | some b => Rs.ok (D.bl b) h | none => .bad) = _
  rw [e]
theorem is_list_bl {i : Bool} : oIsi "list" (.bl i) h = .ok (.bl false) h := by
  have e : kitB "bool" "list" = some false := by first | rfl | kernel_rfl | decide +kernel
  show (match kitB "bool" "list" with | some b => Rs.ok (D.bl b) h | none => .bad) = _
  rw [e]
theorem is_list_str {i : Str} : oIsi "list" (.str i) h = .ok (.bl false) h := by
  have e : kitB "str" "list" = some false := by first | rfl | kernel_rfl | decide +kernel
  show (match kitB "str" "list" with | some b => Rs.ok (D.bl b) h | none => .bad) = _
  rw [e]
theorem is_list_tup {i : List D} : oIsi "list" (.tup i) h = .ok (.bl false) h := by
  have e : kitB "tuple" "list" = some false := by first | rfl | kernel_rfl | decide +kernel
  show (match kitB "tuple" "list" with | some b => Rs.ok (D.bl b) h | none => .bad) = _
  rw [e]
theorem is_list_rol {i : List D} : oIsi "list" (.rol i) h = .ok (.bl true) h := by
  have e : kitB "list" "list" = some true := by first | rfl | kernel_rfl | decide +kernel
  show (match kitB "list" "list" with | some b => Rs.ok (D.bl b) h | none => .bad) = _
  rw [e]
theorem is_list_non  : oIsi "list" .non h = .ok (.bl false) h := by
  have e : kitB "NoneType" "list" = some false := by first | rfl | kernel_rfl | decide +kernel
  show (match kitB "NoneType" "list" with | some b => Rs.ok (D.bl b) h | none => .bad) = _
  rw [e]
theorem is_list_obj {n : Nat} {xs : List D} (q : h[n]? = some (.lst xs)) : oIsi "list" (.obj n) h = .ok (.bl true) h := by
  have e : kitB "list" "list" = some true := by first | rfl | kernel_rfl | decide +kernel
  show (match (match h[n]? with | some (.lst _) => some "list" | some (.dic _) => some "dict" | _ => none : Option String).bind fun t => kitB t "list" with | some b => Rs.ok (D.bl b) h | none => .bad) = _
  rw [q]
  show (match kitB "list" "list" with | some b => Rs.ok (D.bl b) h | none => .bad) = _
  rw [e]
theorem al {xs : List D} : alloc (.lst xs) h = .ok (.obj h.length) (h ++ [.lst xs]) := rfl
theorem lim_eq : lim = 1000000 := rfl
/-- an item of a tuple -/
theorem x_tup {xs : List D} {n : Nat} {x : D} (e : xs[n]? = some x) : oIx (.tup xs) (.int n) h = .ok x h := by
  have hn : n < xs.length := (List.getElem?_eq_some_iff.mp e).1
  show (match (seqOf (.tup xs) h).bind fun xs => atI xs n with | some d => Rs.ok d h | none => .bad) = _
  have e2 : atI xs (n : Int) = some x := by
    unfold atI L2.ixN
    rw [if_pos (by omega), if_pos (by omega)]
    exact e
  show (match atI xs (n : Int) with | some d => Rs.ok d h | none => .bad) = _
  rw [e2]
theorem x_t0 {a : D} {r : List D} : oIx (.tup (a :: r)) (.int 0) h = .ok a h := x_tup (n := 0) rfl
theorem x_t1 {a b : D} {r : List D} : oIx (.tup (a :: b :: r)) (.int 1) h = .ok b h := x_tup (n := 1) rfl
theorem x_t2 {a b c : D} {r : List D} : oIx (.tup (a :: b :: c :: r)) (.int 2) h = .ok c h := x_tup (n := 2) rfl
theorem x_t3 {a b c e : D} {r : List D} : oIx (.tup (a :: b :: c :: e :: r)) (.int 3) h = .ok e h := x_tup (n := 3) rfl
/-- an item of a list -/
theorem x_obj {xs : List D} {k n : Nat} {x : D} (q : h[k]? = some (.lst xs)) (e : xs[n]? = some x) : oIx (.obj k) (.int n) h = .ok x h := by
  have hn : n < xs.length := (List.getElem?_eq_some_iff.mp e).1
  have e2 : atI xs (n : Int) = some x := by
    unfold atI L2.ixN
    rw [if_pos (by omega), if_pos (by omega)]
    exact e
  have e3 : seqOf (.obj k) h = some xs := by
    show (match h[k]? with | some (.lst xs) => some xs | _ => none) = _
    rw [q]
  show (match (seqOf (.obj k) h).bind fun xs => atI xs n with | some d => Rs.ok d h | none => .bad) = _
  rw [e3]
  show (match atI xs (n : Int) with | some d => Rs.ok d h | none => .bad) = _
  rw [e2]
theorem x_rol {xs : List D} {n : Nat} {x : D} (e : xs[n]? = some x) : oIx (.rol xs) (.int n) h = .ok x h := by
  have hn : n < xs.length := (List.getElem?_eq_some_iff.mp e).1
  have e2 : atI xs (n : Int) = some x := by
    unfold atI L2.ixN
    rw [if_pos (by omega), if_pos (by omega)]
    exact e
  show (match atI xs (n : Int) with | some d => Rs.ok d h | none => .bad) = _
  rw [e2]
theorem l_tup {xs : List D} : oLen [.tup xs] h = .ok (.int xs.length) h := rfl
theorem l_rol {xs : List D} : oLen [.rol xs] h = .ok (.int xs.length) h := rfl
theorem l_obj {xs : List D} {k : Nat} (q : h[k]? = some (.lst xs)) : oLen [.obj k] h = .ok (.int xs.length) h := by
  have e3 : seqOf (.obj k) h = some xs := by
    show (match h[k]? with | some (.lst xs) => some xs | _ => none) = _
    rw [q]
  show (match seqOf (.obj k) h with | some xs => Rs.ok (D.int xs.length) h | none => .bad) = _
  rw [e3]
theorem u_tup {xs : List D} : seqOf (.tup xs) h = some xs := rfl
/-- the last object -/
theorem at_new {o : MO} : (h ++ [o])[h.length]? = some o := by simp
theorem isl {xs : List D} {n : Nat} (q : h[n]? = some (.lst xs)) : isLst (.obj n) h = true := by
  show (match h[n]? with | some (.lst _) => true | _ => false) = true
  rw [q]
theorem m_app {xs : List D} {n : Nat} {y : D} (q : h[n]? = some (.lst xs)) (hl : xs.length < lim) : oAppend (.obj n) [y] h = .ok .non (h.set n (.lst (xs ++ [y]))) := by
  show (match h[n]? with | some (.lst xs) => if xs.length < lim then Rs.ok D.non (h.set n (.lst (xs ++ [y]))) else .bad | _ => .bad) = _
  rw [q]
  exact if_pos hl
theorem m_ins {xs : List D} {n : Nat} {y : D} {i : Int} (q : h[n]? = some (.lst xs)) (hl : xs.length < lim) (h0 : 0 ≤ i) (h1 : i ≤ 1000000) : oInsert (.obj n) [.int i, y] h = .ok .non (h.set n (.lst (xs.take i.toNat ++ [y] ++ xs.drop i.toNat))) := by
  show (match h[n]? with | some (.lst xs) => if xs.length < lim ∧ 0 ≤ i ∧ i ≤ 1000000 then Rs.ok D.non (h.set n (.lst (xs.take i.toNat ++ [y] ++ xs.drop i.toNat))) else .bad | _ => .bad) = _
  rw [q]
  exact if_pos ⟨hl, h0, h1⟩
theorem m_tup {xs : List D} {n : Nat} (q : h[n]? = some (.lst xs)) : oTuple [.obj n] h = .ok (.tup xs) h := by
  have e3 : seqOf (.obj n) h = some xs := by
    show (match h[n]? with | some (.lst xs) => some xs | _ => none) = _
    rw [q]
  show (match seqOf (.obj n) h with | some xs => Rs.ok (D.tup xs) h | none => .bad) = _
  rw [e3]
theorem i_obj {xs : List D} {n : Nat} (q : h[n]? = some (.lst xs)) : oIter (.obj n) h = .ok (.obj n xs) h := by
  show (match h[n]? with | some (.lst xs) => Rs.ok (ItD.obj n xs) h | _ => .bad) = _
  rw [q]
theorem i_tup {xs : List D} : oIter (.tup xs) h = .ok (.all xs) h := rfl
theorem i_rol {xs : List D} : oIter (.rol xs) h = .ok (.all xs) h := rfl
theorem u_obj {xs : List D} {n : Nat} (q : h[n]? = some (.lst xs)) : seqOf (.obj n) h = some xs := by
  show (match h[n]? with | some (.lst xs) => some xs | _ => none) = _
  rw [q]
theorem o_addt {a b : List D} (hl : a.length + b.length ≤ lim) : oAdd (.tup a) (.tup b) h = .ok (.tup (a ++ b)) h := if_pos hl
theorem o_adds {a b : Str} (hl : a.length + b.length ≤ lim) : oAdd (.str a) (.str b) h = .ok (.str (a ++ b)) h := if_pos hl
theorem o_addl {m n : Nat} {a b : List D} (p : h[m]? = some (.lst a)) (q : h[n]? = some (.lst b)) (hl : a.length + b.length ≤ lim) : oAdd (.obj m) (.obj n) h = .ok (.obj h.length) (h ++ [.lst (a ++ b)]) := by
  show (match h[m]?, h[n]? with
    | some (.lst a), some (.lst b) => if a.length + b.length ≤ lim then alloc (.lst (a ++ b)) h else .bad
    | _, _ => .bad) = _
  rw [p, q]
  exact if_pos hl
end
/-! loops -/
theorem forA_rule {γ : Dg} {b : Ds} (I : List D → En → DH → Prop) (O : Ss → Prop) (hs : ∀ x r ρ h, I (x :: r) ρ h → ∃ ρ1 h1, γ x ρ h = .ok ρ1 h1 ∧ (match b ρ1 h1 with
    | .nx ρ' h' => I r ρ' h'
    | .ct ρ' h' => I r ρ' h'
    | .bk ρ' h' => O (.nx ρ' h')
    | .rt d h' => O (.rt d h')
    | .ex c d h' => O (.ex c d h')
    | .bad => False)) (he : ∀ ρ h, I [] ρ h → O (.nx ρ h)) : ∀ xs ρ h, I xs ρ h → O (forA γ b xs ρ h)
  | [], ρ, h, i => he ρ h i
  | x :: r, ρ, h, i => by
    obtain ⟨ρ1, h1, e, q⟩ := hs x r ρ h i
    unfold forA
    rw [e]
    show O (match b ρ1 h1 with
      | .nx ρ' h' => forA γ b r ρ' h'
      | .ct ρ' h' => forA γ b r ρ' h'
      | .bk ρ' h' => .nx ρ' h'
      | .rt d h' => .rt d h'
      | .ex c d h' => .ex c d h'
      | .bad => .bad)
    cases z : b ρ1 h1 with
    | nx ρ' h' => rw [z] at q; exact forA_rule I O hs he r ρ' h' q
    | ct ρ' h' => rw [z] at q; exact forA_rule I O hs he r ρ' h' q
    | bk ρ' h' => rw [z] at q; exact q
    | rt d h' => rw [z] at q; exact q
    | ex c d h' => rw [z] at q; exact q
    | bad => rw [z] at q; exact q.elim
theorem forO_rule {γ : Dg} {b : Ds} {n : Nat} {all : List D} (I : List D → En → DH → Prop) (O : Ss → Prop) (hl : ∀ r ρ h, I r ρ h → h[n]? = some (.lst all)) (hs : ∀ x r ρ h, I (x :: r) ρ h → ∃ ρ1 h1, γ x ρ h = .ok ρ1 h1 ∧ (match b ρ1 h1 with
    | .nx ρ' h' => I r ρ' h'
    | .ct ρ' h' => I r ρ' h'
    | .bk ρ' h' => O (.nx ρ' h')
    | .rt d h' => O (.rt d h')
    | .ex c d h' => O (.ex c d h')
    | .bad => False)) (he : ∀ ρ h, I [] ρ h → O (.nx ρ h)) : ∀ xs ρ h, I xs ρ h → O (forO γ b n all xs ρ h)
  | [], ρ, h, i => by
    unfold forO
    rw [if_pos (hl _ _ _ i)]
    exact he ρ h i
  | x :: r, ρ, h, i => by
    obtain ⟨ρ1, h1, e, q⟩ := hs x r ρ h i
    unfold forO
    rw [if_pos (hl _ _ _ i), e]
    show O (match b ρ1 h1 with
      | .nx ρ' h' => forO γ b n all r ρ' h'
      | .ct ρ' h' => forO γ b n all r ρ' h'
      | .bk ρ' h' => .nx ρ' h'
      | .rt d h' => .rt d h'
      | .ex c d h' => .ex c d h'
      | .bad => .bad)
    cases z : b ρ1 h1 with
    | nx ρ' h' => rw [z] at q; exact forO_rule I O hl hs he r ρ' h' q
    | ct ρ' h' => rw [z] at q; exact forO_rule I O hl hs he r ρ' h' q
    | bk ρ' h' => rw [z] at q; exact q
    | rt d h' => rw [z] at q; exact q
    | ex c d h' => rw [z] at q; exact q
    | bad => rw [z] at q; exact q.elim
/-- while: I holds ahead of each test, m falls -/
theorem while_rule {c : De} {b : Ds} (I : Nat → En → DH → Prop) (O : Ss → Prop) (hO : ∀ r, O r → r ≠ .bad) (hs : ∀ m ρ h, I m ρ h → (∃ h1, c ρ h = .ok (.bl false) h1 ∧ O (.nx ρ h1)) ∨ ∃ h1, c ρ h = .ok (.bl true) h1 ∧ (match b ρ h1 with
    | .nx ρ' h' => ∃ k, k < m ∧ I k ρ' h'
    | .ct ρ' h' => ∃ k, k < m ∧ I k ρ' h'
    | .bk ρ' h' => O (.nx ρ' h')
    | .rt d h' => O (.rt d h')
    | .ex c d h' => O (.ex c d h')
    | .bad => False)) {m : Nat} {ρ : En} {h : DH} (i : I m ρ h) : O (gWhile c b ρ h) := by
  have key : ∀ (n m : Nat), m < n → ∀ ρ h, I m ρ h → O (whileN c b n ρ h) := by
    intro n
    induction n with
    | zero => intro m hm; omega
    | succ n ih =>
      intro m hm ρ h i
      rcases hs m ρ h i with ⟨h1, e, o⟩ | ⟨h1, e, q⟩
      · unfold whileN
        rw [e]
        exact o
      · unfold whileN
        rw [e]
        show O (match b ρ h1 with
          | .nx ρ' h' => whileN c b n ρ' h'
          | .ct ρ' h' => whileN c b n ρ' h'
          | .bk ρ' h' => .nx ρ' h'
          | .rt d h' => .rt d h'
          | .ex c d h' => .ex c d h'
          | .bad => .bad)
        cases z : b ρ h1 with
        | nx ρ' h' => rw [z] at q; obtain ⟨k, hk, q⟩ := q; exact ih k (by omega) ρ' h' q
        | ct ρ' h' => rw [z] at q; obtain ⟨k, hk, q⟩ := q; exact ih k (by omega) ρ' h' q
        | bk ρ' h' => rw [z] at q; exact q
        | rt d h' => rw [z] at q; exact q
        | ex c d h' => rw [z] at q; exact q
        | bad => rw [z] at q; exact q.elim
  have o := key (m + 1) m (by omega) ρ h i
  rw [gWhile_eq (m + 1) rfl (hO _ o)]
  exact o
/-! comprehensions -/
theorem e_lc {ι : Di} {γ : Dg} {c el : De} {vs : List Nat} {ρ : En} {h : DH} : eLc ι γ c el vs ρ h = (ι ρ h).bind fun it h1 =>
  (match it with
  | .all xs => lcA γ c el (wipeE ρ vs) xs h1
  | .obj n xs => lcO γ c el (wipeE ρ vs) n xs xs h1).bind fun ys h2 => if ys.length < lim then alloc (.lst ys) h2 else .bad := rfl
theorem w_nil {ρ : En} : wipeE ρ [] = ρ := rfl
theorem w_cons {ρ : En} {v : Nat} {vs : List Nat} : wipeE ρ (v :: vs) = (wipeE ρ vs).set v none := rfl
theorem e_yes {ρ : En} {h : DH} : eYes ρ h = .ok (.bl true) h := rfl
theorem lcA_rule {γ : Dg} {c el : De} {ρ : En} (P : D → Prop) (I : Nat → DH → Prop) : ∀ (xs : List D) (i : Nat) (h : DH), (∀ j x h, x ∈ xs → I j h → ∃ ρ1 h1, γ x ρ h = .ok ρ1 h1 ∧ c ρ1 h1 = .ok (.bl true) h1 ∧ ∃ y h2, el ρ1 h1 = .ok y h2 ∧ P y ∧ I (j + 1) h2) → I i h →
    ∃ ys h', lcA γ c el ρ xs h = .ok ys h' ∧ ys.length = xs.length ∧ (∀ y ∈ ys, P y) ∧ I (i + xs.length) h'
  | [], i, h, _, hi => ⟨[], h, rfl, rfl, (fun y hy => by cases hy), hi⟩
  | x :: xs, i, h, st, hi => by
    obtain ⟨ρ1, h1, e1, e2, y, h2, e3, py, hi2⟩ := st i x h List.mem_cons_self hi
    obtain ⟨ys, h', e4, hl, hp, hi3⟩ := lcA_rule P I xs (i + 1) h2 (fun j x h hx => st j x h (List.mem_cons_of_mem _ hx)) hi2
    refine ⟨y :: ys, h', ?_, by simp [hl], fun z hz => ?_, by rw [List.length_cons, show i + (xs.length + 1) = i + 1 + xs.length by omega]; exact hi3⟩
    · unfold lcA
      rw [e1]
      show (noEx (c ρ1 h1)).bind _ = _
      rw [e2]
      show (noEx (el ρ1 h1)).bind _ = _
      rw [e3]
      show (lcA γ c el ρ xs h2).bind _ = _
      rw [e4]
      rfl
    · rcases List.mem_cons.mp hz with rfl | hz
      · exact py
      · exact hp z hz
theorem lcA_pure {γ : Dg} {c el : De} {ρ : En} {h : DH} (p : D → Bool) (g : D → D) : ∀ (xs : List D), (∀ x ∈ xs, ∃ ρ1, γ x ρ h = .ok ρ1 h ∧ c ρ1 h = .ok (.bl (p x)) h ∧ (p x = true → el ρ1 h = .ok (g x) h)) → lcA γ c el ρ xs h = .ok ((xs.filter p).map g) h
  | [], _ => rfl
  | x :: xs, st => by
    obtain ⟨ρ1, e1, e2, e3⟩ := st x List.mem_cons_self
    have ih := lcA_pure p g xs fun y hy => st y (List.mem_cons_of_mem _ hy)
    unfold lcA
    rw [e1]
    show (noEx (c ρ1 h)).bind _ = _
    rw [e2]
    cases hp : p x with
    | true =>
      show (noEx (el ρ1 h)).bind _ = _
      rw [e3 hp]
      show (lcA γ c el ρ xs h).bind _ = _
      rw [ih, List.filter_cons_of_pos hp]
      rfl
    | false =>
      show lcA γ c el ρ xs h = _
      rw [ih, List.filter_cons_of_neg (by rw [hp]; decide)]
theorem lcO_pure {γ : Dg} {c el : De} {ρ : En} {h : DH} {n : Nat} {all : List D} (q : h[n]? = some (.lst all)) (p : D → Bool) (g : D → D) : ∀ (xs : List D), (∀ x ∈ xs, ∃ ρ1, γ x ρ h = .ok ρ1 h ∧ c ρ1 h = .ok (.bl (p x)) h ∧ (p x = true → el ρ1 h = .ok (g x) h)) → lcO γ c el ρ n all xs h = .ok ((xs.filter p).map g) h
  | [], _ => by
    unfold lcO
    rw [if_pos q]
    rfl
  | x :: xs, st => by
    obtain ⟨ρ1, e1, e2, e3⟩ := st x List.mem_cons_self
    have ih := lcO_pure q p g xs fun y hy => st y (List.mem_cons_of_mem _ hy)
    unfold lcO
    rw [if_pos q, e1]
    show (noEx (c ρ1 h)).bind _ = _
    rw [e2]
    cases hp : p x with
    | true =>
      show (noEx (el ρ1 h)).bind _ = _
      rw [e3 hp]
      show (lcO γ c el ρ n all xs h).bind _ = _
      rw [ih, List.filter_cons_of_pos hp]
      rfl
    | false =>
      show lcO γ c el ρ n all xs h = _
      rw [ih, List.filter_cons_of_neg (by rw [hp]; decide)]
theorem set_last {h : DH} {o o' : MO} : (h ++ [o]).set h.length o' = h ++ [o'] := by simp
end DL
/-! the numbers of the program and of the laws: fractions are the rationals -/
namespace Law
open PySem L2 DL
theorem rlt_trans {a b c : Rat} (h1 : a < b) (h2 : b < c) : a < c := by grind
theorem rlt_tri (a b : Rat) : a < b ∨ a = b ∨ b < a := by grind
/-- a fraction -/
def fr (q : Rat) : D := .tup [.int q.num, .int q.den]
/-- below 2^n -/
def sm (n : Nat) (q : Rat) : Prop := q.num.natAbs < 2 ^ n ∧ q.den < 2 ^ n
theorem log_lt {m n : Nat} (h : m < 2 ^ n) (hn : 0 < n) : m.log2 < n := by
  by_cases hm : m = 0
  · subst hm; simpa using hn
  · exact (Nat.log2_lt hm).mpr h
theorem big_of {i : Int} {n : Nat} (h : i.natAbs < 2 ^ n) (hn : n ≤ 400000) : big i := by
  unfold big
  by_cases hm : i.natAbs = 0
  · rw [hm]; decide
  · have := (Nat.log2_lt hm).mpr h
    omega
theorem is_integer_int (i : Int) (h : DH) : f_is_integer [.int i] h = .ok (.bl true) h := by
  unfold f_is_integer d_is_integer
  simp only [b_ok, b_ex, b_bad, o_ok, o_ex, o_bad, n_ok, s_seq, s_nx, s_rt, s_bk, s_ct, s_ex, e_var, e_c, e_bin, e_un, e_blt, e_if, e_and, e_or, e_chain, a_nil, a_cons, e_tup, e_lst, e_call, e_callK, e_met, e_sl, g_nx, g_expr, g_ret, g_retN, g_bk, g_ct, g_if, g_asg, g_par, g_raise, t_name, t_unp, t_nil, t_cons, t_sub, g_for, i_val, i_rng1, i_rng2, e_ref, f_rt, f_nx, f_ex, drop_id, g_aug, o_iadd, e_lc, w_nil, w_cons, e_yes, i_tup, i_rol, al, lim_eq, Nat.reduceLeDiff, Nat.reduceLT, x_t0, x_t1, x_t2, x_t3, l_tup, l_rol, u_tup, o_cmp, o_add, o_sub, o_neg, o_not, o_abs, o_int, o_max, o_min, q_int, q_nint, q_bl, q_nbl, q_str, q_nstr, fnD, List.map_cons, List.map_nil, List.length_cons, List.length_nil, List.replicate_succ, List.replicate_zero, List.cons_append, List.nil_append, List.append_nil, List.getElem?_cons_zero, List.getElem?_cons_succ, List.getElem?_nil, List.set_cons_zero, List.set_cons_succ, List.zip_cons_cons, List.zip_nil_left, List.foldl_cons, List.foldl_nil, Nat.reduceSub, Nat.reduceAdd, Nat.zero_add, Nat.add_zero, if_true, if_false, reduceIte, ite_true, ite_false, eq_self, and_true, true_and, and_self, decide_true, decide_false, is_int_int, is_int_bl, is_int_str, is_int_tup, is_int_rol, is_int_non, is_bool_int, is_bool_bl, is_bool_str, is_bool_tup, is_bool_rol, is_bool_non, is_tuple_int, is_tuple_bl, is_tuple_str, is_tuple_tup, is_tuple_rol, is_tuple_non, is_str_int, is_str_bl, is_str_str, is_str_tup, is_str_rol, is_str_non, is_list_int, is_list_bl, is_list_str, is_list_tup, is_list_rol, is_list_non, Bool.not_true, Bool.not_false]
theorem is_integer_bl (i : Bool) (h : DH) : f_is_integer [.bl i] h = .ok (.bl false) h := by
  unfold f_is_integer d_is_integer
  simp only [b_ok, b_ex, b_bad, o_ok, o_ex, o_bad, n_ok, s_seq, s_nx, s_rt, s_bk, s_ct, s_ex, e_var, e_c, e_bin, e_un, e_blt, e_if, e_and, e_or, e_chain, a_nil, a_cons, e_tup, e_lst, e_call, e_callK, e_met, e_sl, g_nx, g_expr, g_ret, g_retN, g_bk, g_ct, g_if, g_asg, g_par, g_raise, t_name, t_unp, t_nil, t_cons, t_sub, g_for, i_val, i_rng1, i_rng2, e_ref, f_rt, f_nx, f_ex, drop_id, g_aug, o_iadd, e_lc, w_nil, w_cons, e_yes, i_tup, i_rol, al, lim_eq, Nat.reduceLeDiff, Nat.reduceLT, x_t0, x_t1, x_t2, x_t3, l_tup, l_rol, u_tup, o_cmp, o_add, o_sub, o_neg, o_not, o_abs, o_int, o_max, o_min, q_int, q_nint, q_bl, q_nbl, q_str, q_nstr, fnD, List.map_cons, List.map_nil, List.length_cons, List.length_nil, List.replicate_succ, List.replicate_zero, List.cons_append, List.nil_append, List.append_nil, List.getElem?_cons_zero, List.getElem?_cons_succ, List.getElem?_nil, List.set_cons_zero, List.set_cons_succ, List.zip_cons_cons, List.zip_nil_left, List.foldl_cons, List.foldl_nil, Nat.reduceSub, Nat.reduceAdd, Nat.zero_add, Nat.add_zero, if_true, if_false, reduceIte, ite_true, ite_false, eq_self, and_true, true_and, and_self, decide_true, decide_false, is_int_int, is_int_bl, is_int_str, is_int_tup, is_int_rol, is_int_non, is_bool_int, is_bool_bl, is_bool_str, is_bool_tup, is_bool_rol, is_bool_non, is_tuple_int, is_tuple_bl, is_tuple_str, is_tuple_tup, is_tuple_rol, is_tuple_non, is_str_int, is_str_bl, is_str_str, is_str_tup, is_str_rol, is_str_non, is_list_int, is_list_bl, is_list_str, is_list_tup, is_list_rol, is_list_non, Bool.not_true, Bool.not_false]
theorem is_integer_str (i : Str) (h : DH) : f_is_integer [.str i] h = .ok (.bl false) h := by
  unfold f_is_integer d_is_integer
  simp only [b_ok, b_ex, b_bad, o_ok, o_ex, o_bad, n_ok, s_seq, s_nx, s_rt, s_bk, s_ct, s_ex, e_var, e_c, e_bin, e_un, e_blt, e_if, e_and, e_or, e_chain, a_nil, a_cons, e_tup, e_lst, e_call, e_callK, e_met, e_sl, g_nx, g_expr, g_ret, g_retN, g_bk, g_ct, g_if, g_asg, g_par, g_raise, t_name, t_unp, t_nil, t_cons, t_sub, g_for, i_val, i_rng1, i_rng2, e_ref, f_rt, f_nx, f_ex, drop_id, g_aug, o_iadd, e_lc, w_nil, w_cons, e_yes, i_tup, i_rol, al, lim_eq, Nat.reduceLeDiff, Nat.reduceLT, x_t0, x_t1, x_t2, x_t3, l_tup, l_rol, u_tup, o_cmp, o_add, o_sub, o_neg, o_not, o_abs, o_int, o_max, o_min, q_int, q_nint, q_bl, q_nbl, q_str, q_nstr, fnD, List.map_cons, List.map_nil, List.length_cons, List.length_nil, List.replicate_succ, List.replicate_zero, List.cons_append, List.nil_append, List.append_nil, List.getElem?_cons_zero, List.getElem?_cons_succ, List.getElem?_nil, List.set_cons_zero, List.set_cons_succ, List.zip_cons_cons, List.zip_nil_left, List.foldl_cons, List.foldl_nil, Nat.reduceSub, Nat.reduceAdd, Nat.zero_add, Nat.add_zero, if_true, if_false, reduceIte, ite_true, ite_false, eq_self, and_true, true_and, and_self, decide_true, decide_false, is_int_int, is_int_bl, is_int_str, is_int_tup, is_int_rol, is_int_non, is_bool_int, is_bool_bl, is_bool_str, is_bool_tup, is_bool_rol, is_bool_non, is_tuple_int, is_tuple_bl, is_tuple_str, is_tuple_tup, is_tuple_rol, is_tuple_non, is_str_int, is_str_bl, is_str_str, is_str_tup, is_str_rol, is_str_non, is_list_int, is_list_bl, is_list_str, is_list_tup, is_list_rol, is_list_non, Bool.not_true, Bool.not_false]
theorem is_integer_non (h : DH) : f_is_integer [.non] h = .ok (.bl false) h := by
  unfold f_is_integer d_is_integer
  simp only [b_ok, b_ex, b_bad, o_ok, o_ex, o_bad, n_ok, s_seq, s_nx, s_rt, s_bk, s_ct, s_ex, e_var, e_c, e_bin, e_un, e_blt, e_if, e_and, e_or, e_chain, a_nil, a_cons, e_tup, e_lst, e_call, e_callK, e_met, e_sl, g_nx, g_expr, g_ret, g_retN, g_bk, g_ct, g_if, g_asg, g_par, g_raise, t_name, t_unp, t_nil, t_cons, t_sub, g_for, i_val, i_rng1, i_rng2, e_ref, f_rt, f_nx, f_ex, drop_id, g_aug, o_iadd, e_lc, w_nil, w_cons, e_yes, i_tup, i_rol, al, lim_eq, Nat.reduceLeDiff, Nat.reduceLT, x_t0, x_t1, x_t2, x_t3, l_tup, l_rol, u_tup, o_cmp, o_add, o_sub, o_neg, o_not, o_abs, o_int, o_max, o_min, q_int, q_nint, q_bl, q_nbl, q_str, q_nstr, fnD, List.map_cons, List.map_nil, List.length_cons, List.length_nil, List.replicate_succ, List.replicate_zero, List.cons_append, List.nil_append, List.append_nil, List.getElem?_cons_zero, List.getElem?_cons_succ, List.getElem?_nil, List.set_cons_zero, List.set_cons_succ, List.zip_cons_cons, List.zip_nil_left, List.foldl_cons, List.foldl_nil, Nat.reduceSub, Nat.reduceAdd, Nat.zero_add, Nat.add_zero, if_true, if_false, reduceIte, ite_true, ite_false, eq_self, and_true, true_and, and_self, decide_true, decide_false, is_int_int, is_int_bl, is_int_str, is_int_tup, is_int_rol, is_int_non, is_bool_int, is_bool_bl, is_bool_str, is_bool_tup, is_bool_rol, is_bool_non, is_tuple_int, is_tuple_bl, is_tuple_str, is_tuple_tup, is_tuple_rol, is_tuple_non, is_str_int, is_str_bl, is_str_str, is_str_tup, is_str_rol, is_str_non, is_list_int, is_list_bl, is_list_str, is_list_tup, is_list_rol, is_list_non, Bool.not_true, Bool.not_false]
theorem is_integer_tup (i : List D) (h : DH) : f_is_integer [.tup i] h = .ok (.bl false) h := by
  unfold f_is_integer d_is_integer
  simp only [b_ok, b_ex, b_bad, o_ok, o_ex, o_bad, n_ok, s_seq, s_nx, s_rt, s_bk, s_ct, s_ex, e_var, e_c, e_bin, e_un, e_blt, e_if, e_and, e_or, e_chain, a_nil, a_cons, e_tup, e_lst, e_call, e_callK, e_met, e_sl, g_nx, g_expr, g_ret, g_retN, g_bk, g_ct, g_if, g_asg, g_par, g_raise, t_name, t_unp, t_nil, t_cons, t_sub, g_for, i_val, i_rng1, i_rng2, e_ref, f_rt, f_nx, f_ex, drop_id, g_aug, o_iadd, e_lc, w_nil, w_cons, e_yes, i_tup, i_rol, al, lim_eq, Nat.reduceLeDiff, Nat.reduceLT, x_t0, x_t1, x_t2, x_t3, l_tup, l_rol, u_tup, o_cmp, o_add, o_sub, o_neg, o_not, o_abs, o_int, o_max, o_min, q_int, q_nint, q_bl, q_nbl, q_str, q_nstr, fnD, List.map_cons, List.map_nil, List.length_cons, List.length_nil, List.replicate_succ, List.replicate_zero, List.cons_append, List.nil_append, List.append_nil, List.getElem?_cons_zero, List.getElem?_cons_succ, List.getElem?_nil, List.set_cons_zero, List.set_cons_succ, List.zip_cons_cons, List.zip_nil_left, List.foldl_cons, List.foldl_nil, Nat.reduceSub, Nat.reduceAdd, Nat.zero_add, Nat.add_zero, if_true, if_false, reduceIte, ite_true, ite_false, eq_self, and_true, true_and, and_self, decide_true, decide_false, is_int_int, is_int_bl, is_int_str, is_int_tup, is_int_rol, is_int_non, is_bool_int, is_bool_bl, is_bool_str, is_bool_tup, is_bool_rol, is_bool_non, is_tuple_int, is_tuple_bl, is_tuple_str, is_tuple_tup, is_tuple_rol, is_tuple_non, is_str_int, is_str_bl, is_str_str, is_str_tup, is_str_rol, is_str_non, is_list_int, is_list_bl, is_list_str, is_list_tup, is_list_rol, is_list_non, Bool.not_true, Bool.not_false]
/-- Euclid's loop -/
theorem common_ok (a b : Int) (h : DH) : f_common [.int a, .int b] h = .ok (.int (Int.gcd a b)) h := by
  unfold f_common d_common
  simp only [b_ok, b_ex, b_bad, o_ok, o_ex, o_bad, n_ok, s_seq, s_nx, s_rt, s_bk, s_ct, s_ex, e_var, e_c, e_bin, e_un, e_blt, e_if, e_and, e_or, e_chain, a_nil, a_cons, e_tup, e_lst, e_call, e_callK, e_met, e_sl, g_nx, g_expr, g_ret, g_retN, g_bk, g_ct, g_if, g_asg, g_par, g_raise, t_name, t_unp, t_nil, t_cons, t_sub, g_for, i_val, i_rng1, i_rng2, e_ref, f_rt, f_nx, f_ex, drop_id, g_aug, o_iadd, e_lc, w_nil, w_cons, e_yes, i_tup, i_rol, al, lim_eq, Nat.reduceLeDiff, Nat.reduceLT, x_t0, x_t1, x_t2, x_t3, l_tup, l_rol, u_tup, o_cmp, o_add, o_sub, o_neg, o_not, o_abs, o_int, o_max, o_min, q_int, q_nint, q_bl, q_nbl, q_str, q_nstr, fnD, List.map_cons, List.map_nil, List.length_cons, List.length_nil, List.replicate_succ, List.replicate_zero, List.cons_append, List.nil_append, List.append_nil, List.getElem?_cons_zero, List.getElem?_cons_succ, List.getElem?_nil, List.set_cons_zero, List.set_cons_succ, List.zip_cons_cons, List.zip_nil_left, List.foldl_cons, List.foldl_nil, Nat.reduceSub, Nat.reduceAdd, Nat.zero_add, Nat.add_zero, if_true, if_false, reduceIte, ite_true, ite_false, eq_self, and_true, true_and, and_self, decide_true, decide_false, is_int_int, is_int_bl, is_int_str, is_int_tup, is_int_rol, is_int_non, is_bool_int, is_bool_bl, is_bool_str, is_bool_tup, is_bool_rol, is_bool_non, is_tuple_int, is_tuple_bl, is_tuple_str, is_tuple_tup, is_tuple_rol, is_tuple_non, is_str_int, is_str_bl, is_str_str, is_str_tup, is_str_rol, is_str_non, is_list_int, is_list_bl, is_list_str, is_list_tup, is_list_rol, is_list_non, Bool.not_true, Bool.not_false]
  refine while_rule (fun m ρ k => k = h ∧ ∃ x : Nat, ρ = [some (.int x), some (.int m)] ∧ Nat.gcd x m = Int.gcd a b) (fun r => DL.finish h (sq r (gRet (eVar 0))) = .ok (.int (Int.gcd a b)) h) ?_ ?_ (m := b.natAbs) ⟨rfl, _, rfl, rfl⟩
  · rintro r hr rfl
    cases hr
  rintro y ρ k ⟨rfl, x, rfl, g⟩
  by_cases hy : y = 0
  · left
    subst hy
    refine ⟨k, by simp [b_ok, b_ex, b_bad, o_ok, o_ex, o_bad, n_ok, s_seq, s_nx, s_rt, s_bk, s_ct, s_ex, e_var, e_c, e_bin, e_un, e_blt, e_if, e_and, e_or, e_chain, a_nil, a_cons, e_tup, e_lst, e_call, e_callK, e_met, e_sl, g_nx, g_expr, g_ret, g_retN, g_bk, g_ct, g_if, g_asg, g_par, g_raise, t_name, t_unp, t_nil, t_cons, t_sub, g_for, i_val, i_rng1, i_rng2, e_ref, f_rt, f_nx, f_ex, drop_id, g_aug, o_iadd, e_lc, w_nil, w_cons, e_yes, i_tup, i_rol, al, lim_eq, Nat.reduceLeDiff, Nat.reduceLT, x_t0, x_t1, x_t2, x_t3, l_tup, l_rol, u_tup, o_cmp, o_add, o_sub, o_neg, o_not, o_abs, o_int, o_max, o_min, q_int, q_nint, q_bl, q_nbl, q_str, q_nstr, fnD, List.map_cons, List.map_nil, List.length_cons, List.length_nil, List.replicate_succ, List.replicate_zero, List.cons_append, List.nil_append, List.append_nil, List.getElem?_cons_zero, List.getElem?_cons_succ, List.getElem?_nil, List.set_cons_zero, List.set_cons_succ, List.zip_cons_cons, List.zip_nil_left, List.foldl_cons, List.foldl_nil, Nat.reduceSub, Nat.reduceAdd, Nat.zero_add, Nat.add_zero, if_true, if_false, reduceIte, ite_true, ite_false, eq_self, and_true, true_and, and_self, decide_true, decide_false, is_int_int, is_int_bl, is_int_str, is_int_tup, is_int_rol, is_int_non, is_bool_int, is_bool_bl, is_bool_str, is_bool_tup, is_bool_rol, is_bool_non, is_tuple_int, is_tuple_bl, is_tuple_str, is_tuple_tup, is_tuple_rol, is_tuple_non, is_str_int, is_str_bl, is_str_str, is_str_tup, is_str_rol, is_str_non, is_list_int, is_list_bl, is_list_str, is_list_tup, is_list_rol, is_list_non, Bool.not_true, Bool.not_false], ?_⟩
    rw [Nat.gcd_zero_right] at g
    rw [← g]
    simp only [b_ok, b_ex, b_bad, o_ok, o_ex, o_bad, n_ok, s_seq, s_nx, s_rt, s_bk, s_ct, s_ex, e_var, e_c, e_bin, e_un, e_blt, e_if, e_and, e_or, e_chain, a_nil, a_cons, e_tup, e_lst, e_call, e_callK, e_met, e_sl, g_nx, g_expr, g_ret, g_retN, g_bk, g_ct, g_if, g_asg, g_par, g_raise, t_name, t_unp, t_nil, t_cons, t_sub, g_for, i_val, i_rng1, i_rng2, e_ref, f_rt, f_nx, f_ex, drop_id, g_aug, o_iadd, e_lc, w_nil, w_cons, e_yes, i_tup, i_rol, al, lim_eq, Nat.reduceLeDiff, Nat.reduceLT, x_t0, x_t1, x_t2, x_t3, l_tup, l_rol, u_tup, o_cmp, o_add, o_sub, o_neg, o_not, o_abs, o_int, o_max, o_min, q_int, q_nint, q_bl, q_nbl, q_str, q_nstr, fnD, List.map_cons, List.map_nil, List.length_cons, List.length_nil, List.replicate_succ, List.replicate_zero, List.cons_append, List.nil_append, List.append_nil, List.getElem?_cons_zero, List.getElem?_cons_succ, List.getElem?_nil, List.set_cons_zero, List.set_cons_succ, List.zip_cons_cons, List.zip_nil_left, List.foldl_cons, List.foldl_nil, Nat.reduceSub, Nat.reduceAdd, Nat.zero_add, Nat.add_zero, if_true, if_false, reduceIte, ite_true, ite_false, eq_self, and_true, true_and, and_self, decide_true, decide_false, is_int_int, is_int_bl, is_int_str, is_int_tup, is_int_rol, is_int_non, is_bool_int, is_bool_bl, is_bool_str, is_bool_tup, is_bool_rol, is_bool_non, is_tuple_int, is_tuple_bl, is_tuple_str, is_tuple_tup, is_tuple_rol, is_tuple_non, is_str_int, is_str_bl, is_str_str, is_str_tup, is_str_rol, is_str_non, is_list_int, is_list_bl, is_list_str, is_list_tup, is_list_rol, is_list_non, Bool.not_true, Bool.not_false]
  · right
    have hy' : (0 : Int) < (y : Int) := by omega
    refine ⟨k, by simp [b_ok, b_ex, b_bad, o_ok, o_ex, o_bad, n_ok, s_seq, s_nx, s_rt, s_bk, s_ct, s_ex, e_var, e_c, e_bin, e_un, e_blt, e_if, e_and, e_or, e_chain, a_nil, a_cons, e_tup, e_lst, e_call, e_callK, e_met, e_sl, g_nx, g_expr, g_ret, g_retN, g_bk, g_ct, g_if, g_asg, g_par, g_raise, t_name, t_unp, t_nil, t_cons, t_sub, g_for, i_val, i_rng1, i_rng2, e_ref, f_rt, f_nx, f_ex, drop_id, g_aug, o_iadd, e_lc, w_nil, w_cons, e_yes, i_tup, i_rol, al, lim_eq, Nat.reduceLeDiff, Nat.reduceLT, x_t0, x_t1, x_t2, x_t3, l_tup, l_rol, u_tup, o_cmp, o_add, o_sub, o_neg, o_not, o_abs, o_int, o_max, o_min, q_int, q_nint, q_bl, q_nbl, q_str, q_nstr, fnD, List.map_cons, List.map_nil, List.length_cons, List.length_nil, List.replicate_succ, List.replicate_zero, List.cons_append, List.nil_append, List.append_nil, List.getElem?_cons_zero, List.getElem?_cons_succ, List.getElem?_nil, List.set_cons_zero, List.set_cons_succ, List.zip_cons_cons, List.zip_nil_left, List.foldl_cons, List.foldl_nil, Nat.reduceSub, Nat.reduceAdd, Nat.zero_add, Nat.add_zero, if_true, if_false, reduceIte, ite_true, ite_false, eq_self, and_true, true_and, and_self, decide_true, decide_false, is_int_int, is_int_bl, is_int_str, is_int_tup, is_int_rol, is_int_non, is_bool_int, is_bool_bl, is_bool_str, is_bool_tup, is_bool_rol, is_bool_non, is_tuple_int, is_tuple_bl, is_tuple_str, is_tuple_tup, is_tuple_rol, is_tuple_non, is_str_int, is_str_bl, is_str_str, is_str_tup, is_str_rol, is_str_non, is_list_int, is_list_bl, is_list_str, is_list_tup, is_list_rol, is_list_non, Bool.not_true, Bool.not_false]; omega, ?_⟩
    simp only [b_ok, b_ex, b_bad, o_ok, o_ex, o_bad, n_ok, s_seq, s_nx, s_rt, s_bk, s_ct, s_ex, e_var, e_c, e_bin, e_un, e_blt, e_if, e_and, e_or, e_chain, a_nil, a_cons, e_tup, e_lst, e_call, e_callK, e_met, e_sl, g_nx, g_expr, g_ret, g_retN, g_bk, g_ct, g_if, g_asg, g_par, g_raise, t_name, t_unp, t_nil, t_cons, t_sub, g_for, i_val, i_rng1, i_rng2, e_ref, f_rt, f_nx, f_ex, drop_id, g_aug, o_iadd, e_lc, w_nil, w_cons, e_yes, i_tup, i_rol, al, lim_eq, Nat.reduceLeDiff, Nat.reduceLT, x_t0, x_t1, x_t2, x_t3, l_tup, l_rol, u_tup, o_cmp, o_add, o_sub, o_neg, o_not, o_abs, o_int, o_max, o_min, q_int, q_nint, q_bl, q_nbl, q_str, q_nstr, fnD, List.map_cons, List.map_nil, List.length_cons, List.length_nil, List.replicate_succ, List.replicate_zero, List.cons_append, List.nil_append, List.append_nil, List.getElem?_cons_zero, List.getElem?_cons_succ, List.getElem?_nil, List.set_cons_zero, List.set_cons_succ, List.zip_cons_cons, List.zip_nil_left, List.foldl_cons, List.foldl_nil, Nat.reduceSub, Nat.reduceAdd, Nat.zero_add, Nat.add_zero, if_true, if_false, reduceIte, ite_true, ite_false, eq_self, and_true, true_and, and_self, decide_true, decide_false, is_int_int, is_int_bl, is_int_str, is_int_tup, is_int_rol, is_int_non, is_bool_int, is_bool_bl, is_bool_str, is_bool_tup, is_bool_rol, is_bool_non, is_tuple_int, is_tuple_bl, is_tuple_str, is_tuple_tup, is_tuple_rol, is_tuple_non, is_str_int, is_str_bl, is_str_str, is_str_tup, is_str_rol, is_str_non, is_list_int, is_list_bl, is_list_str, is_list_tup, is_list_rol, is_list_non, Bool.not_true, Bool.not_false, o_mod hy']
    refine ⟨x % y, Nat.mod_lt _ (by omega), y, by simp, ?_⟩
    rw [← g, Nat.gcd_comm y, ← Nat.gcd_rec, Nat.gcd_comm]
theorem lim2 : (2 : Nat) ≤ lim := by decide
theorem gcd_pos_of {a b : Int} (hb : b ≠ 0) : (0 : Int) < (Int.gcd a b : Int) := by
  have := Int.gcd_pos_of_ne_zero_right a hb
  omega
theorem gcd_le_b {a b : Int} (hb : b ≠ 0) : Int.gcd a b ≤ b.natAbs := Nat.le_of_dvd (by omega) (Nat.gcd_dvd_right _ _)
theorem gcd_log {a b : Int} (hb : b ≠ 0) (hz : b.natAbs.log2 < 9000) : ((Int.gcd a b : Nat) : Int).natAbs.log2 < 9000 := by
  have h1 := gcd_le_b (a := a) hb
  have h2 : Int.gcd a b ≠ 0 := by
    have := gcd_pos_of (a := a) hb
    omega
  have h3 := (Nat.log2_lt (k := 9000) (by omega)).mp hz
  rw [Int.natAbs_natCast]
  exact (Nat.log2_lt h2).mpr (by omega)
theorem low_pos {a b : Int} (hb : 0 < b) : a / (Int.gcd a b : Int) = (Rat.divInt a b).num ∧ b / (Int.gcd a b : Int) = ((Rat.divInt a b).den : Int) := by
  constructor
  · rw [Rat.num_divInt, Int.sign_eq_one_of_pos hb, Int.one_mul, Int.gcd_comm]
  · rw [Rat.den_divInt, if_neg (by omega), Int.gcd_comm]
    have : (b.natAbs : Int) = b := by omega
    rw [← this]
    simp
/-- the program's: above/below in lowest terms -/
theorem ratio_ok (a b : Int) (hb : b ≠ 0) (hz : b.natAbs.log2 < 9000) (h : DH) : f_ratio [.int a, .int b] h = .ok (fr (Rat.divInt a b)) h := by
  unfold f_ratio d_ratio fr
  simp only [b_ok, b_ex, b_bad, o_ok, o_ex, o_bad, n_ok, s_seq, s_nx, s_rt, s_bk, s_ct, s_ex, e_var, e_c, e_bin, e_un, e_blt, e_if, e_and, e_or, e_chain, a_nil, a_cons, e_tup, e_lst, e_call, e_callK, e_met, e_sl, g_nx, g_expr, g_ret, g_retN, g_bk, g_ct, g_if, g_asg, g_par, g_raise, t_name, t_unp, t_nil, t_cons, t_sub, g_for, i_val, i_rng1, i_rng2, e_ref, f_rt, f_nx, f_ex, drop_id, g_aug, o_iadd, e_lc, w_nil, w_cons, e_yes, i_tup, i_rol, al, lim_eq, Nat.reduceLeDiff, Nat.reduceLT, x_t0, x_t1, x_t2, x_t3, l_tup, l_rol, u_tup, o_cmp, o_add, o_sub, o_neg, o_not, o_abs, o_int, o_max, o_min, q_int, q_nint, q_bl, q_nbl, q_str, q_nstr, fnD, List.map_cons, List.map_nil, List.length_cons, List.length_nil, List.replicate_succ, List.replicate_zero, List.cons_append, List.nil_append, List.append_nil, List.getElem?_cons_zero, List.getElem?_cons_succ, List.getElem?_nil, List.set_cons_zero, List.set_cons_succ, List.zip_cons_cons, List.zip_nil_left, List.foldl_cons, List.foldl_nil, Nat.reduceSub, Nat.reduceAdd, Nat.zero_add, Nat.add_zero, if_true, if_false, reduceIte, ite_true, ite_false, eq_self, and_true, true_and, and_self, decide_true, decide_false, is_int_int, is_int_bl, is_int_str, is_int_tup, is_int_rol, is_int_non, is_bool_int, is_bool_bl, is_bool_str, is_bool_tup, is_bool_rol, is_bool_non, is_tuple_int, is_tuple_bl, is_tuple_str, is_tuple_tup, is_tuple_rol, is_tuple_non, is_str_int, is_str_bl, is_str_str, is_str_tup, is_str_rol, is_str_non, is_list_int, is_list_bl, is_list_str, is_list_tup, is_list_rol, is_list_non, Bool.not_true, Bool.not_false]
  by_cases hn : b < 0
  · have hb' : (0 - b) ≠ 0 := by omega
    have hz' : (0 - b).natAbs.log2 < 9000 := by rw [show (0 - b).natAbs = b.natAbs by omega]; exact hz
    simp only [b_ok, b_ex, b_bad, o_ok, o_ex, o_bad, n_ok, s_seq, s_nx, s_rt, s_bk, s_ct, s_ex, e_var, e_c, e_bin, e_un, e_blt, e_if, e_and, e_or, e_chain, a_nil, a_cons, e_tup, e_lst, e_call, e_callK, e_met, e_sl, g_nx, g_expr, g_ret, g_retN, g_bk, g_ct, g_if, g_asg, g_par, g_raise, t_name, t_unp, t_nil, t_cons, t_sub, g_for, i_val, i_rng1, i_rng2, e_ref, f_rt, f_nx, f_ex, drop_id, g_aug, o_iadd, e_lc, w_nil, w_cons, e_yes, i_tup, i_rol, al, lim_eq, Nat.reduceLeDiff, Nat.reduceLT, x_t0, x_t1, x_t2, x_t3, l_tup, l_rol, u_tup, o_cmp, o_add, o_sub, o_neg, o_not, o_abs, o_int, o_max, o_min, q_int, q_nint, q_bl, q_nbl, q_str, q_nstr, fnD, List.map_cons, List.map_nil, List.length_cons, List.length_nil, List.replicate_succ, List.replicate_zero, List.cons_append, List.nil_append, List.append_nil, List.getElem?_cons_zero, List.getElem?_cons_succ, List.getElem?_nil, List.set_cons_zero, List.set_cons_succ, List.zip_cons_cons, List.zip_nil_left, List.foldl_cons, List.foldl_nil, Nat.reduceSub, Nat.reduceAdd, Nat.zero_add, Nat.add_zero, if_true, if_false, reduceIte, ite_true, ite_false, eq_self, and_true, true_and, and_self, decide_true, decide_false, is_int_int, is_int_bl, is_int_str, is_int_tup, is_int_rol, is_int_non, is_bool_int, is_bool_bl, is_bool_str, is_bool_tup, is_bool_rol, is_bool_non, is_tuple_int, is_tuple_bl, is_tuple_str, is_tuple_tup, is_tuple_rol, is_tuple_non, is_str_int, is_str_bl, is_str_str, is_str_tup, is_str_rol, is_str_non, is_list_int, is_list_bl, is_list_str, is_list_tup, is_list_rol, is_list_non, Bool.not_true, Bool.not_false, hn, decide_true, common_ok, o_div (gcd_pos_of hb') (gcd_log hb' hz'), lim2]
    obtain ⟨e1, e2⟩ := low_pos (a := 0 - a) (b := 0 - b) (by omega)
    have e3 : Rat.divInt (0 - a) (0 - b) = Rat.divInt a b := by
      rw [show (0 - a) = -a by omega, show 0 - b = -b by omega, Rat.neg_divInt_neg]
    rw [e1, e2, e3]
  · simp only [b_ok, b_ex, b_bad, o_ok, o_ex, o_bad, n_ok, s_seq, s_nx, s_rt, s_bk, s_ct, s_ex, e_var, e_c, e_bin, e_un, e_blt, e_if, e_and, e_or, e_chain, a_nil, a_cons, e_tup, e_lst, e_call, e_callK, e_met, e_sl, g_nx, g_expr, g_ret, g_retN, g_bk, g_ct, g_if, g_asg, g_par, g_raise, t_name, t_unp, t_nil, t_cons, t_sub, g_for, i_val, i_rng1, i_rng2, e_ref, f_rt, f_nx, f_ex, drop_id, g_aug, o_iadd, e_lc, w_nil, w_cons, e_yes, i_tup, i_rol, al, lim_eq, Nat.reduceLeDiff, Nat.reduceLT, x_t0, x_t1, x_t2, x_t3, l_tup, l_rol, u_tup, o_cmp, o_add, o_sub, o_neg, o_not, o_abs, o_int, o_max, o_min, q_int, q_nint, q_bl, q_nbl, q_str, q_nstr, fnD, List.map_cons, List.map_nil, List.length_cons, List.length_nil, List.replicate_succ, List.replicate_zero, List.cons_append, List.nil_append, List.append_nil, List.getElem?_cons_zero, List.getElem?_cons_succ, List.getElem?_nil, List.set_cons_zero, List.set_cons_succ, List.zip_cons_cons, List.zip_nil_left, List.foldl_cons, List.foldl_nil, Nat.reduceSub, Nat.reduceAdd, Nat.zero_add, Nat.add_zero, if_true, if_false, reduceIte, ite_true, ite_false, eq_self, and_true, true_and, and_self, decide_true, decide_false, is_int_int, is_int_bl, is_int_str, is_int_tup, is_int_rol, is_int_non, is_bool_int, is_bool_bl, is_bool_str, is_bool_tup, is_bool_rol, is_bool_non, is_tuple_int, is_tuple_bl, is_tuple_str, is_tuple_tup, is_tuple_rol, is_tuple_non, is_str_int, is_str_bl, is_str_str, is_str_tup, is_str_rol, is_str_non, is_list_int, is_list_bl, is_list_str, is_list_tup, is_list_rol, is_list_non, Bool.not_true, Bool.not_false, hn, decide_false, common_ok, o_div (gcd_pos_of hb) (gcd_log hb hz), lim2]
    obtain ⟨e1, e2⟩ := low_pos (a := a) (b := b) (by omega)
    rw [e1, e2]
theorem num_le {a b : Int} (hb : b ≠ 0) : (Rat.divInt a b).num.natAbs ≤ a.natAbs ∧ (Rat.divInt a b).den ≤ b.natAbs := by
  constructor
  · rw [Rat.num_divInt, Int.natAbs_ediv_of_dvd]
    · rw [Int.natAbs_mul, Int.natAbs_sign_of_ne_zero hb, Nat.one_mul]
      exact Nat.div_le_self _ _
    · exact Int.dvd_mul_of_dvd_right (Int.gcd_dvd_right ..)
  · rw [Rat.den_divInt, if_neg hb]
    exact Nat.div_le_self _ _
theorem den_ne (q : Rat) : (q.den : Int) ≠ 0 := by
  have := q.den_nz
  omega
theorem natAbs_add_lt {a b : Int} {n : Nat} (ha : a.natAbs < 2 ^ n) (hb : b.natAbs < 2 ^ n) : (a + b).natAbs < 2 ^ (n + 1) := by
  have := Int.natAbs_add_le a b
  rw [Nat.pow_succ]
  omega
theorem mul_lt {a b n m : Nat} (ha : a < 2 ^ n) (hb : b < 2 ^ m) : a * b < 2 ^ (n + m) := by
  rw [Nat.pow_add]
  exact Nat.mul_lt_mul'' ha hb
theorem sm.mono {n m : Nat} {q : Rat} (h : sm n q) (l : n ≤ m) : sm m q := by
  have := Nat.pow_le_pow_right (n := 2) (by omega) l
  exact ⟨Nat.lt_of_lt_of_le h.1 this, Nat.lt_of_lt_of_le h.2 this⟩
theorem add_eq (p q : Rat) : Rat.divInt (p.num * q.den + q.num * p.den) (p.den * q.den) = p + q := by
  rw [← Rat.divInt_add_divInt _ _ (den_ne p) (den_ne q), Rat.num_divInt_den, Rat.num_divInt_den]
theorem mul_eq (p q : Rat) : Rat.divInt (p.num * q.num) (p.den * q.den) = p * q := by
  rw [← Rat.divInt_mul_divInt, Rat.num_divInt_den, Rat.num_divInt_den]
theorem sm_add {n m : Nat} {p q : Rat} (hp : sm n p) (hq : sm m q) : sm (n + m + 1) (p + q) := by
  rw [← add_eq]
  have hb : ((p.den : Int) * q.den) ≠ 0 := Int.mul_ne_zero (den_ne p) (den_ne q)
  obtain ⟨h1, h2⟩ := num_le (a := p.num * q.den + q.num * p.den) hb
  have e1 : (p.num * q.den).natAbs < 2 ^ (n + m) := by
    rw [Int.natAbs_mul]
    exact mul_lt hp.1 (by simpa using hq.2)
  have e2 : (q.num * p.den).natAbs < 2 ^ (n + m) := by
    rw [Int.natAbs_mul, Nat.add_comm]
    exact mul_lt hq.1 (by simpa using hp.2)
  have e3 : ((p.den : Int) * q.den).natAbs < 2 ^ (n + m) := by
    rw [Int.natAbs_mul]
    exact mul_lt (by simpa using hp.2) (by simpa using hq.2)
  refine ⟨Nat.lt_of_le_of_lt h1 (natAbs_add_lt e1 e2), Nat.lt_of_le_of_lt h2 (Nat.lt_of_lt_of_le e3 ?_)⟩
  exact Nat.pow_le_pow_right (by omega) (by omega)
theorem sm_mul {n m : Nat} {p q : Rat} (hp : sm n p) (hq : sm m q) : sm (n + m) (p * q) := by
  rw [← mul_eq]
  have hb : ((p.den : Int) * q.den) ≠ 0 := Int.mul_ne_zero (den_ne p) (den_ne q)
  obtain ⟨h1, h2⟩ := num_le (a := p.num * q.num) hb
  have e1 : (p.num * q.num).natAbs < 2 ^ (n + m) := by
    rw [Int.natAbs_mul]
    exact mul_lt hp.1 hq.1
  have e3 : ((p.den : Int) * q.den).natAbs < 2 ^ (n + m) := by
    rw [Int.natAbs_mul]
    exact mul_lt (by simpa using hp.2) (by simpa using hq.2)
  exact ⟨Nat.lt_of_le_of_lt h1 e1, Nat.lt_of_le_of_lt h2 e3⟩
theorem dd_log {n m : Nat} {p q : Rat} (hp : sm n p) (hq : sm m q) (hs : n + m ≤ 8999) : ((p.den : Int) * q.den).natAbs.log2 < 9000 := by
  refine log_lt (Nat.lt_of_lt_of_le (m := 2 ^ (n + m)) ?_ (Nat.pow_le_pow_right (by omega) (by omega))) (by omega)
  rw [Int.natAbs_mul]
  exact mul_lt (by simpa using hp.2) (by simpa using hq.2)
theorem sm.bn {n : Nat} {q : Rat} (h : sm n q) (hn : n ≤ 400000) : big q.num := big_of h.1 hn
theorem sm.bd {n : Nat} {q : Rat} (h : sm n q) (hn : n ≤ 400000) : big (q.den : Int) := big_of (by simpa using h.2) hn
theorem plus_ok {p q : Rat} {n m : Nat} (hp : sm n p) (hq : sm m q) (hs : n + m ≤ 8999) (h : DH) : f_plus [fr p, fr q] h = .ok (fr (p + q)) h := by
  unfold f_plus d_plus
  simp only [fr, b_ok, b_ex, b_bad, o_ok, o_ex, o_bad, n_ok, s_seq, s_nx, s_rt, s_bk, s_ct, s_ex, e_var, e_c, e_bin, e_un, e_blt, e_if, e_and, e_or, e_chain, a_nil, a_cons, e_tup, e_lst, e_call, e_callK, e_met, e_sl, g_nx, g_expr, g_ret, g_retN, g_bk, g_ct, g_if, g_asg, g_par, g_raise, t_name, t_unp, t_nil, t_cons, t_sub, g_for, i_val, i_rng1, i_rng2, e_ref, f_rt, f_nx, f_ex, drop_id, g_aug, o_iadd, e_lc, w_nil, w_cons, e_yes, i_tup, i_rol, al, lim_eq, Nat.reduceLeDiff, Nat.reduceLT, x_t0, x_t1, x_t2, x_t3, l_tup, l_rol, u_tup, o_cmp, o_add, o_sub, o_neg, o_not, o_abs, o_int, o_max, o_min, q_int, q_nint, q_bl, q_nbl, q_str, q_nstr, fnD, List.map_cons, List.map_nil, List.length_cons, List.length_nil, List.replicate_succ, List.replicate_zero, List.cons_append, List.nil_append, List.append_nil, List.getElem?_cons_zero, List.getElem?_cons_succ, List.getElem?_nil, List.set_cons_zero, List.set_cons_succ, List.zip_cons_cons, List.zip_nil_left, List.foldl_cons, List.foldl_nil, Nat.reduceSub, Nat.reduceAdd, Nat.zero_add, Nat.add_zero, if_true, if_false, reduceIte, ite_true, ite_false, eq_self, and_true, true_and, and_self, decide_true, decide_false, is_int_int, is_int_bl, is_int_str, is_int_tup, is_int_rol, is_int_non, is_bool_int, is_bool_bl, is_bool_str, is_bool_tup, is_bool_rol, is_bool_non, is_tuple_int, is_tuple_bl, is_tuple_str, is_tuple_tup, is_tuple_rol, is_tuple_non, is_str_int, is_str_bl, is_str_str, is_str_tup, is_str_rol, is_str_non, is_list_int, is_list_bl, is_list_str, is_list_tup, is_list_rol, is_list_non, Bool.not_true, Bool.not_false, o_mul (hp.bn (by omega)) (hq.bd (by omega)), o_mul (hq.bn (by omega)) (hp.bd (by omega)), o_mul (hp.bd (by omega)) (hq.bd (by omega)), ratio_ok _ _ (Int.mul_ne_zero (den_ne p) (den_ne q)) (dd_log hp hq hs), add_eq]
theorem times_ok {p q : Rat} {n m : Nat} (hp : sm n p) (hq : sm m q) (hs : n + m ≤ 8999) (h : DH) : f_times [fr p, fr q] h = .ok (fr (p * q)) h := by
  unfold f_times d_times
  simp only [fr, b_ok, b_ex, b_bad, o_ok, o_ex, o_bad, n_ok, s_seq, s_nx, s_rt, s_bk, s_ct, s_ex, e_var, e_c, e_bin, e_un, e_blt, e_if, e_and, e_or, e_chain, a_nil, a_cons, e_tup, e_lst, e_call, e_callK, e_met, e_sl, g_nx, g_expr, g_ret, g_retN, g_bk, g_ct, g_if, g_asg, g_par, g_raise, t_name, t_unp, t_nil, t_cons, t_sub, g_for, i_val, i_rng1, i_rng2, e_ref, f_rt, f_nx, f_ex, drop_id, g_aug, o_iadd, e_lc, w_nil, w_cons, e_yes, i_tup, i_rol, al, lim_eq, Nat.reduceLeDiff, Nat.reduceLT, x_t0, x_t1, x_t2, x_t3, l_tup, l_rol, u_tup, o_cmp, o_add, o_sub, o_neg, o_not, o_abs, o_int, o_max, o_min, q_int, q_nint, q_bl, q_nbl, q_str, q_nstr, fnD, List.map_cons, List.map_nil, List.length_cons, List.length_nil, List.replicate_succ, List.replicate_zero, List.cons_append, List.nil_append, List.append_nil, List.getElem?_cons_zero, List.getElem?_cons_succ, List.getElem?_nil, List.set_cons_zero, List.set_cons_succ, List.zip_cons_cons, List.zip_nil_left, List.foldl_cons, List.foldl_nil, Nat.reduceSub, Nat.reduceAdd, Nat.zero_add, Nat.add_zero, if_true, if_false, reduceIte, ite_true, ite_false, eq_self, and_true, true_and, and_self, decide_true, decide_false, is_int_int, is_int_bl, is_int_str, is_int_tup, is_int_rol, is_int_non, is_bool_int, is_bool_bl, is_bool_str, is_bool_tup, is_bool_rol, is_bool_non, is_tuple_int, is_tuple_bl, is_tuple_str, is_tuple_tup, is_tuple_rol, is_tuple_non, is_str_int, is_str_bl, is_str_str, is_str_tup, is_str_rol, is_str_non, is_list_int, is_list_bl, is_list_str, is_list_tup, is_list_rol, is_list_non, Bool.not_true, Bool.not_false, o_mul (hp.bn (by omega)) (hq.bn (by omega)), o_mul (hp.bd (by omega)) (hq.bd (by omega)), ratio_ok _ _ (Int.mul_ne_zero (den_ne p) (den_ne q)) (dd_log hp hq hs), mul_eq]
theorem is_less_ok {p q : Rat} {n m : Nat} (hp : sm n p) (hq : sm m q) (hs : n + m ≤ 8999) (h : DH) : f_is_less [fr p, fr q] h = .ok (.bl (decide (p < q))) h := by
  unfold f_is_less d_is_less
  simp only [fr, b_ok, b_ex, b_bad, o_ok, o_ex, o_bad, n_ok, s_seq, s_nx, s_rt, s_bk, s_ct, s_ex, e_var, e_c, e_bin, e_un, e_blt, e_if, e_and, e_or, e_chain, a_nil, a_cons, e_tup, e_lst, e_call, e_callK, e_met, e_sl, g_nx, g_expr, g_ret, g_retN, g_bk, g_ct, g_if, g_asg, g_par, g_raise, t_name, t_unp, t_nil, t_cons, t_sub, g_for, i_val, i_rng1, i_rng2, e_ref, f_rt, f_nx, f_ex, drop_id, g_aug, o_iadd, e_lc, w_nil, w_cons, e_yes, i_tup, i_rol, al, lim_eq, Nat.reduceLeDiff, Nat.reduceLT, x_t0, x_t1, x_t2, x_t3, l_tup, l_rol, u_tup, o_cmp, o_add, o_sub, o_neg, o_not, o_abs, o_int, o_max, o_min, q_int, q_nint, q_bl, q_nbl, q_str, q_nstr, fnD, List.map_cons, List.map_nil, List.length_cons, List.length_nil, List.replicate_succ, List.replicate_zero, List.cons_append, List.nil_append, List.append_nil, List.getElem?_cons_zero, List.getElem?_cons_succ, List.getElem?_nil, List.set_cons_zero, List.set_cons_succ, List.zip_cons_cons, List.zip_nil_left, List.foldl_cons, List.foldl_nil, Nat.reduceSub, Nat.reduceAdd, Nat.zero_add, Nat.add_zero, if_true, if_false, reduceIte, ite_true, ite_false, eq_self, and_true, true_and, and_self, decide_true, decide_false, is_int_int, is_int_bl, is_int_str, is_int_tup, is_int_rol, is_int_non, is_bool_int, is_bool_bl, is_bool_str, is_bool_tup, is_bool_rol, is_bool_non, is_tuple_int, is_tuple_bl, is_tuple_str, is_tuple_tup, is_tuple_rol, is_tuple_non, is_str_int, is_str_bl, is_str_str, is_str_tup, is_str_rol, is_str_non, is_list_int, is_list_bl, is_list_str, is_list_tup, is_list_rol, is_list_non, Bool.not_true, Bool.not_false, o_mul (hp.bn (by omega)) (hq.bd (by omega)), o_mul (hq.bn (by omega)) (hp.bd (by omega)), Rat.lt_iff]
theorem sm_neg {n : Nat} {q : Rat} (h : sm n q) : sm n (-q) := by
  refine ⟨?_, ?_⟩
  · rw [Rat.neg_num, Int.natAbs_neg]; exact h.1
  · rw [Rat.neg_den]; exact h.2
theorem negative_ok (q : Rat) (h : DH) : f_negative [fr q] h = .ok (fr (-q)) h := by
  unfold f_negative d_negative
  simp only [fr, b_ok, b_ex, b_bad, o_ok, o_ex, o_bad, n_ok, s_seq, s_nx, s_rt, s_bk, s_ct, s_ex, e_var, e_c, e_bin, e_un, e_blt, e_if, e_and, e_or, e_chain, a_nil, a_cons, e_tup, e_lst, e_call, e_callK, e_met, e_sl, g_nx, g_expr, g_ret, g_retN, g_bk, g_ct, g_if, g_asg, g_par, g_raise, t_name, t_unp, t_nil, t_cons, t_sub, g_for, i_val, i_rng1, i_rng2, e_ref, f_rt, f_nx, f_ex, drop_id, g_aug, o_iadd, e_lc, w_nil, w_cons, e_yes, i_tup, i_rol, al, lim_eq, Nat.reduceLeDiff, Nat.reduceLT, x_t0, x_t1, x_t2, x_t3, l_tup, l_rol, u_tup, o_cmp, o_add, o_sub, o_neg, o_not, o_abs, o_int, o_max, o_min, q_int, q_nint, q_bl, q_nbl, q_str, q_nstr, fnD, List.map_cons, List.map_nil, List.length_cons, List.length_nil, List.replicate_succ, List.replicate_zero, List.cons_append, List.nil_append, List.append_nil, List.getElem?_cons_zero, List.getElem?_cons_succ, List.getElem?_nil, List.set_cons_zero, List.set_cons_succ, List.zip_cons_cons, List.zip_nil_left, List.foldl_cons, List.foldl_nil, Nat.reduceSub, Nat.reduceAdd, Nat.zero_add, Nat.add_zero, if_true, if_false, reduceIte, ite_true, ite_false, eq_self, and_true, true_and, and_self, decide_true, decide_false, is_int_int, is_int_bl, is_int_str, is_int_tup, is_int_rol, is_int_non, is_bool_int, is_bool_bl, is_bool_str, is_bool_tup, is_bool_rol, is_bool_non, is_tuple_int, is_tuple_bl, is_tuple_str, is_tuple_tup, is_tuple_rol, is_tuple_non, is_str_int, is_str_bl, is_str_str, is_str_tup, is_str_rol, is_str_non, is_list_int, is_list_bl, is_list_str, is_list_tup, is_list_rol, is_list_non, Bool.not_true, Bool.not_false, lim2, Rat.neg_num, Rat.neg_den]
  rw [show (0 : Int) - q.num = -q.num by omega]
theorem minus_ok {p q : Rat} {n m : Nat} (hp : sm n p) (hq : sm m q) (hs : n + m ≤ 8999) (h : DH) : f_minus [fr p, fr q] h = .ok (fr (p - q)) h := by
  unfold f_minus d_minus
  simp only [b_ok, b_ex, b_bad, o_ok, o_ex, o_bad, n_ok, s_seq, s_nx, s_rt, s_bk, s_ct, s_ex, e_var, e_c, e_bin, e_un, e_blt, e_if, e_and, e_or, e_chain, a_nil, a_cons, e_tup, e_lst, e_call, e_callK, e_met, e_sl, g_nx, g_expr, g_ret, g_retN, g_bk, g_ct, g_if, g_asg, g_par, g_raise, t_name, t_unp, t_nil, t_cons, t_sub, g_for, i_val, i_rng1, i_rng2, e_ref, f_rt, f_nx, f_ex, drop_id, g_aug, o_iadd, e_lc, w_nil, w_cons, e_yes, i_tup, i_rol, al, lim_eq, Nat.reduceLeDiff, Nat.reduceLT, x_t0, x_t1, x_t2, x_t3, l_tup, l_rol, u_tup, o_cmp, o_add, o_sub, o_neg, o_not, o_abs, o_int, o_max, o_min, q_int, q_nint, q_bl, q_nbl, q_str, q_nstr, fnD, List.map_cons, List.map_nil, List.length_cons, List.length_nil, List.replicate_succ, List.replicate_zero, List.cons_append, List.nil_append, List.append_nil, List.getElem?_cons_zero, List.getElem?_cons_succ, List.getElem?_nil, List.set_cons_zero, List.set_cons_succ, List.zip_cons_cons, List.zip_nil_left, List.foldl_cons, List.foldl_nil, Nat.reduceSub, Nat.reduceAdd, Nat.zero_add, Nat.add_zero, if_true, if_false, reduceIte, ite_true, ite_false, eq_self, and_true, true_and, and_self, decide_true, decide_false, is_int_int, is_int_bl, is_int_str, is_int_tup, is_int_rol, is_int_non, is_bool_int, is_bool_bl, is_bool_str, is_bool_tup, is_bool_rol, is_bool_non, is_tuple_int, is_tuple_bl, is_tuple_str, is_tuple_tup, is_tuple_rol, is_tuple_non, is_str_int, is_str_bl, is_str_str, is_str_tup, is_str_rol, is_str_non, is_list_int, is_list_bl, is_list_str, is_list_tup, is_list_rol, is_list_non, Bool.not_true, Bool.not_false, negative_ok, plus_ok hp (sm_neg hq) hs]
  rw [Rat.sub_eq_add_neg]
theorem sm_sub {n m : Nat} {p q : Rat} (hp : sm n p) (hq : sm m q) : sm (n + m + 1) (p - q) := by
  rw [Rat.sub_eq_add_neg]
  exact sm_add hp (sm_neg hq)
theorem num_ne {q : Rat} (h : q ≠ 0) : q.num ≠ 0 := fun e => h (Rat.num_eq_zero.mp e)
theorem div_eq (p q : Rat) : Rat.divInt (p.num * q.den) (p.den * q.num) = p / q := by
  rw [Rat.div_def, ← Rat.divInt_mul_divInt, Rat.num_divInt_den, ← Rat.inv_divInt, Rat.num_divInt_den]
theorem sm_div {n m : Nat} {p q : Rat} (hp : sm n p) (hq : sm m q) (h0 : q ≠ 0) : sm (n + m) (p / q) := by
  rw [← div_eq]
  have hb : ((p.den : Int) * q.num) ≠ 0 := Int.mul_ne_zero (den_ne p) (num_ne h0)
  obtain ⟨h1, h2⟩ := num_le (a := p.num * q.den) hb
  have e1 : (p.num * (q.den : Int)).natAbs < 2 ^ (n + m) := by
    rw [Int.natAbs_mul]
    exact mul_lt hp.1 (by simpa using hq.2)
  have e3 : ((p.den : Int) * q.num).natAbs < 2 ^ (n + m) := by
    rw [Int.natAbs_mul]
    exact mul_lt (by simpa using hp.2) hq.1
  exact ⟨Nat.lt_of_le_of_lt h1 e1, Nat.lt_of_le_of_lt h2 e3⟩
theorem dn_log {n m : Nat} {p q : Rat} (hp : sm n p) (hq : sm m q) (hs : n + m ≤ 8999) : ((p.den : Int) * q.num).natAbs.log2 < 9000 := by
  refine log_lt (Nat.lt_of_lt_of_le (m := 2 ^ (n + m)) ?_ (Nat.pow_le_pow_right (by omega) (by omega))) (by omega)
  rw [Int.natAbs_mul]
  exact mul_lt (by simpa using hp.2) hq.1
theorem over_ok {p q : Rat} {n m : Nat} (hp : sm n p) (hq : sm m q) (hs : n + m ≤ 8999) (h0 : q ≠ 0) (h : DH) : f_over [fr p, fr q] h = .ok (fr (p / q)) h := by
  unfold f_over d_over
  simp only [fr, b_ok, b_ex, b_bad, o_ok, o_ex, o_bad, n_ok, s_seq, s_nx, s_rt, s_bk, s_ct, s_ex, e_var, e_c, e_bin, e_un, e_blt, e_if, e_and, e_or, e_chain, a_nil, a_cons, e_tup, e_lst, e_call, e_callK, e_met, e_sl, g_nx, g_expr, g_ret, g_retN, g_bk, g_ct, g_if, g_asg, g_par, g_raise, t_name, t_unp, t_nil, t_cons, t_sub, g_for, i_val, i_rng1, i_rng2, e_ref, f_rt, f_nx, f_ex, drop_id, g_aug, o_iadd, e_lc, w_nil, w_cons, e_yes, i_tup, i_rol, al, lim_eq, Nat.reduceLeDiff, Nat.reduceLT, x_t0, x_t1, x_t2, x_t3, l_tup, l_rol, u_tup, o_cmp, o_add, o_sub, o_neg, o_not, o_abs, o_int, o_max, o_min, q_int, q_nint, q_bl, q_nbl, q_str, q_nstr, fnD, List.map_cons, List.map_nil, List.length_cons, List.length_nil, List.replicate_succ, List.replicate_zero, List.cons_append, List.nil_append, List.append_nil, List.getElem?_cons_zero, List.getElem?_cons_succ, List.getElem?_nil, List.set_cons_zero, List.set_cons_succ, List.zip_cons_cons, List.zip_nil_left, List.foldl_cons, List.foldl_nil, Nat.reduceSub, Nat.reduceAdd, Nat.zero_add, Nat.add_zero, if_true, if_false, reduceIte, ite_true, ite_false, eq_self, and_true, true_and, and_self, decide_true, decide_false, is_int_int, is_int_bl, is_int_str, is_int_tup, is_int_rol, is_int_non, is_bool_int, is_bool_bl, is_bool_str, is_bool_tup, is_bool_rol, is_bool_non, is_tuple_int, is_tuple_bl, is_tuple_str, is_tuple_tup, is_tuple_rol, is_tuple_non, is_str_int, is_str_bl, is_str_str, is_str_tup, is_str_rol, is_str_non, is_list_int, is_list_bl, is_list_str, is_list_tup, is_list_rol, is_list_non, Bool.not_true, Bool.not_false, o_mul (hp.bn (by omega)) (hq.bd (by omega)), o_mul (hp.bd (by omega)) (hq.bn (by omega)), ratio_ok _ _ (Int.mul_ne_zero (den_ne p) (num_ne h0)) (dn_log hp hq hs), div_eq]
/-! what is a number -/
def noObj : D → Bool
  | .obj _ => false
  | _ => true
def isInt : D → Bool
  | .int _ => true
  | _ => false
theorem is_integer_ok {d : D} (hd : noObj d = true) (h : DH) : f_is_integer [d] h = .ok (.bl (isInt d)) h := by
  cases d with
  | obj n => cases hd
  | _ =>
    unfold f_is_integer d_is_integer
    simp only [b_ok, b_ex, b_bad, o_ok, o_ex, o_bad, n_ok, s_seq, s_nx, s_rt, s_bk, s_ct, s_ex, e_var, e_c, e_bin, e_un, e_blt, e_if, e_and, e_or, e_chain, a_nil, a_cons, e_tup, e_lst, e_call, e_callK, e_met, e_sl, g_nx, g_expr, g_ret, g_retN, g_bk, g_ct, g_if, g_asg, g_par, g_raise, t_name, t_unp, t_nil, t_cons, t_sub, g_for, i_val, i_rng1, i_rng2, e_ref, f_rt, f_nx, f_ex, drop_id, g_aug, o_iadd, e_lc, w_nil, w_cons, e_yes, i_tup, i_rol, al, lim_eq, Nat.reduceLeDiff, Nat.reduceLT, x_t0, x_t1, x_t2, x_t3, l_tup, l_rol, u_tup, o_cmp, o_add, o_sub, o_neg, o_not, o_abs, o_int, o_max, o_min, q_int, q_nint, q_bl, q_nbl, q_str, q_nstr, fnD, List.map_cons, List.map_nil, List.length_cons, List.length_nil, List.replicate_succ, List.replicate_zero, List.cons_append, List.nil_append, List.append_nil, List.getElem?_cons_zero, List.getElem?_cons_succ, List.getElem?_nil, List.set_cons_zero, List.set_cons_succ, List.zip_cons_cons, List.zip_nil_left, List.foldl_cons, List.foldl_nil, Nat.reduceSub, Nat.reduceAdd, Nat.zero_add, Nat.add_zero, if_true, if_false, reduceIte, ite_true, ite_false, eq_self, and_true, true_and, and_self, decide_true, decide_false, is_int_int, is_int_bl, is_int_str, is_int_tup, is_int_rol, is_int_non, is_bool_int, is_bool_bl, is_bool_str, is_bool_tup, is_bool_rol, is_bool_non, is_tuple_int, is_tuple_bl, is_tuple_str, is_tuple_tup, is_tuple_rol, is_tuple_non, is_str_int, is_str_bl, is_str_str, is_str_tup, is_str_rol, is_str_non, is_list_int, is_list_bl, is_list_str, is_list_tup, is_list_rol, is_list_non, Bool.not_true, Bool.not_false, isInt]
def isFr : D → Bool
  | .tup [.int x, .int y] => decide (1 ≤ y) && decide (Int.gcd x y = 1)
  | _ => false
def isNum : D → Bool
  | .tup [.int x, .int y] => decide (1 ≤ y) && decide (Int.gcd x y = 1) && decide (x.natAbs ≤ 1000000000000) && decide (y ≤ 1000000000000)
  | _ => false
def flat : D → Bool
  | .obj _ => false
  | .tup xs => xs.all noObj
  | _ => true
theorem is_fraction_ok {d : D} (hd : flat d = true) (h : DH) : f_is_fraction [d] h = .ok (.bl (isFr d)) h := by
  unfold f_is_fraction d_is_fraction
  cases d with
  | obj n => cases hd
  | tup xs =>
    match xs, hd with
    | [], _ => simp [b_ok, b_ex, b_bad, o_ok, o_ex, o_bad, n_ok, s_seq, s_nx, s_rt, s_bk, s_ct, s_ex, e_var, e_c, e_bin, e_un, e_blt, e_if, e_and, e_or, e_chain, a_nil, a_cons, e_tup, e_lst, e_call, e_callK, e_met, e_sl, g_nx, g_expr, g_ret, g_retN, g_bk, g_ct, g_if, g_asg, g_par, g_raise, t_name, t_unp, t_nil, t_cons, t_sub, g_for, i_val, i_rng1, i_rng2, e_ref, f_rt, f_nx, f_ex, drop_id, g_aug, o_iadd, e_lc, w_nil, w_cons, e_yes, i_tup, i_rol, al, lim_eq, Nat.reduceLeDiff, Nat.reduceLT, x_t0, x_t1, x_t2, x_t3, l_tup, l_rol, u_tup, o_cmp, o_add, o_sub, o_neg, o_not, o_abs, o_int, o_max, o_min, q_int, q_nint, q_bl, q_nbl, q_str, q_nstr, fnD, List.map_cons, List.map_nil, List.length_cons, List.length_nil, List.replicate_succ, List.replicate_zero, List.cons_append, List.nil_append, List.append_nil, List.getElem?_cons_zero, List.getElem?_cons_succ, List.getElem?_nil, List.set_cons_zero, List.set_cons_succ, List.zip_cons_cons, List.zip_nil_left, List.foldl_cons, List.foldl_nil, Nat.reduceSub, Nat.reduceAdd, Nat.zero_add, Nat.add_zero, if_true, if_false, reduceIte, ite_true, ite_false, eq_self, and_true, true_and, and_self, decide_true, decide_false, is_int_int, is_int_bl, is_int_str, is_int_tup, is_int_rol, is_int_non, is_bool_int, is_bool_bl, is_bool_str, is_bool_tup, is_bool_rol, is_bool_non, is_tuple_int, is_tuple_bl, is_tuple_str, is_tuple_tup, is_tuple_rol, is_tuple_non, is_str_int, is_str_bl, is_str_str, is_str_tup, is_str_rol, is_str_non, is_list_int, is_list_bl, is_list_str, is_list_tup, is_list_rol, is_list_non, Bool.not_true, Bool.not_false, isFr]
    | [_], _ => simp [b_ok, b_ex, b_bad, o_ok, o_ex, o_bad, n_ok, s_seq, s_nx, s_rt, s_bk, s_ct, s_ex, e_var, e_c, e_bin, e_un, e_blt, e_if, e_and, e_or, e_chain, a_nil, a_cons, e_tup, e_lst, e_call, e_callK, e_met, e_sl, g_nx, g_expr, g_ret, g_retN, g_bk, g_ct, g_if, g_asg, g_par, g_raise, t_name, t_unp, t_nil, t_cons, t_sub, g_for, i_val, i_rng1, i_rng2, e_ref, f_rt, f_nx, f_ex, drop_id, g_aug, o_iadd, e_lc, w_nil, w_cons, e_yes, i_tup, i_rol, al, lim_eq, Nat.reduceLeDiff, Nat.reduceLT, x_t0, x_t1, x_t2, x_t3, l_tup, l_rol, u_tup, o_cmp, o_add, o_sub, o_neg, o_not, o_abs, o_int, o_max, o_min, q_int, q_nint, q_bl, q_nbl, q_str, q_nstr, fnD, List.map_cons, List.map_nil, List.length_cons, List.length_nil, List.replicate_succ, List.replicate_zero, List.cons_append, List.nil_append, List.append_nil, List.getElem?_cons_zero, List.getElem?_cons_succ, List.getElem?_nil, List.set_cons_zero, List.set_cons_succ, List.zip_cons_cons, List.zip_nil_left, List.foldl_cons, List.foldl_nil, Nat.reduceSub, Nat.reduceAdd, Nat.zero_add, Nat.add_zero, if_true, if_false, reduceIte, ite_true, ite_false, eq_self, and_true, true_and, and_self, decide_true, decide_false, is_int_int, is_int_bl, is_int_str, is_int_tup, is_int_rol, is_int_non, is_bool_int, is_bool_bl, is_bool_str, is_bool_tup, is_bool_rol, is_bool_non, is_tuple_int, is_tuple_bl, is_tuple_str, is_tuple_tup, is_tuple_rol, is_tuple_non, is_str_int, is_str_bl, is_str_str, is_str_tup, is_str_rol, is_str_non, is_list_int, is_list_bl, is_list_str, is_list_tup, is_list_rol, is_list_non, Bool.not_true, Bool.not_false, isFr]
    | a :: b :: c :: r, _ =>
      have e : ((((a :: b :: c :: r).length : Nat) : Int) = 2) = False := by simp; omega
      simp only [b_ok, b_ex, b_bad, o_ok, o_ex, o_bad, n_ok, s_seq, s_nx, s_rt, s_bk, s_ct, s_ex, e_var, e_c, e_bin, e_un, e_blt, e_if, e_and, e_or, e_chain, a_nil, a_cons, e_tup, e_lst, e_call, e_callK, e_met, e_sl, g_nx, g_expr, g_ret, g_retN, g_bk, g_ct, g_if, g_asg, g_par, g_raise, t_name, t_unp, t_nil, t_cons, t_sub, g_for, i_val, i_rng1, i_rng2, e_ref, f_rt, f_nx, f_ex, drop_id, g_aug, o_iadd, e_lc, w_nil, w_cons, e_yes, i_tup, i_rol, al, lim_eq, Nat.reduceLeDiff, Nat.reduceLT, x_t0, x_t1, x_t2, x_t3, l_tup, l_rol, u_tup, o_cmp, o_add, o_sub, o_neg, o_not, o_abs, o_int, o_max, o_min, q_int, q_nint, q_bl, q_nbl, q_str, q_nstr, fnD, List.map_cons, List.map_nil, List.length_cons, List.length_nil, List.replicate_succ, List.replicate_zero, List.cons_append, List.nil_append, List.append_nil, List.getElem?_cons_zero, List.getElem?_cons_succ, List.getElem?_nil, List.set_cons_zero, List.set_cons_succ, List.zip_cons_cons, List.zip_nil_left, List.foldl_cons, List.foldl_nil, Nat.reduceSub, Nat.reduceAdd, Nat.zero_add, Nat.add_zero, if_true, if_false, reduceIte, ite_true, ite_false, eq_self, and_true, true_and, and_self, decide_true, decide_false, is_int_int, is_int_bl, is_int_str, is_int_tup, is_int_rol, is_int_non, is_bool_int, is_bool_bl, is_bool_str, is_bool_tup, is_bool_rol, is_bool_non, is_tuple_int, is_tuple_bl, is_tuple_str, is_tuple_tup, is_tuple_rol, is_tuple_non, is_str_int, is_str_bl, is_str_str, is_str_tup, is_str_rol, is_str_non, is_list_int, is_list_bl, is_list_str, is_list_tup, is_list_rol, is_list_non, Bool.not_true, Bool.not_false] at e ⊢
      simp only [e, b_ok, b_ex, b_bad, o_ok, o_ex, o_bad, n_ok, s_seq, s_nx, s_rt, s_bk, s_ct, s_ex, e_var, e_c, e_bin, e_un, e_blt, e_if, e_and, e_or, e_chain, a_nil, a_cons, e_tup, e_lst, e_call, e_callK, e_met, e_sl, g_nx, g_expr, g_ret, g_retN, g_bk, g_ct, g_if, g_asg, g_par, g_raise, t_name, t_unp, t_nil, t_cons, t_sub, g_for, i_val, i_rng1, i_rng2, e_ref, f_rt, f_nx, f_ex, drop_id, g_aug, o_iadd, e_lc, w_nil, w_cons, e_yes, i_tup, i_rol, al, lim_eq, Nat.reduceLeDiff, Nat.reduceLT, x_t0, x_t1, x_t2, x_t3, l_tup, l_rol, u_tup, o_cmp, o_add, o_sub, o_neg, o_not, o_abs, o_int, o_max, o_min, q_int, q_nint, q_bl, q_nbl, q_str, q_nstr, fnD, List.map_cons, List.map_nil, List.length_cons, List.length_nil, List.replicate_succ, List.replicate_zero, List.cons_append, List.nil_append, List.append_nil, List.getElem?_cons_zero, List.getElem?_cons_succ, List.getElem?_nil, List.set_cons_zero, List.set_cons_succ, List.zip_cons_cons, List.zip_nil_left, List.foldl_cons, List.foldl_nil, Nat.reduceSub, Nat.reduceAdd, Nat.zero_add, Nat.add_zero, if_true, if_false, reduceIte, ite_true, ite_false, eq_self, and_true, true_and, and_self, decide_true, decide_false, is_int_int, is_int_bl, is_int_str, is_int_tup, is_int_rol, is_int_non, is_bool_int, is_bool_bl, is_bool_str, is_bool_tup, is_bool_rol, is_bool_non, is_tuple_int, is_tuple_bl, is_tuple_str, is_tuple_tup, is_tuple_rol, is_tuple_non, is_str_int, is_str_bl, is_str_str, is_str_tup, is_str_rol, is_str_non, is_list_int, is_list_bl, is_list_str, is_list_tup, is_list_rol, is_list_non, Bool.not_true, Bool.not_false, isFr]
    | [x, y], hd =>
      simp only [flat, List.all_cons, List.all_nil, Bool.and_true, Bool.and_eq_true] at hd
      obtain ⟨hx, hy⟩ := hd
      have e : (((2 : Nat) : Int) = 2) = True := by simp
      simp only [b_ok, b_ex, b_bad, o_ok, o_ex, o_bad, n_ok, s_seq, s_nx, s_rt, s_bk, s_ct, s_ex, e_var, e_c, e_bin, e_un, e_blt, e_if, e_and, e_or, e_chain, a_nil, a_cons, e_tup, e_lst, e_call, e_callK, e_met, e_sl, g_nx, g_expr, g_ret, g_retN, g_bk, g_ct, g_if, g_asg, g_par, g_raise, t_name, t_unp, t_nil, t_cons, t_sub, g_for, i_val, i_rng1, i_rng2, e_ref, f_rt, f_nx, f_ex, drop_id, g_aug, o_iadd, e_lc, w_nil, w_cons, e_yes, i_tup, i_rol, al, lim_eq, Nat.reduceLeDiff, Nat.reduceLT, x_t0, x_t1, x_t2, x_t3, l_tup, l_rol, u_tup, o_cmp, o_add, o_sub, o_neg, o_not, o_abs, o_int, o_max, o_min, q_int, q_nint, q_bl, q_nbl, q_str, q_nstr, fnD, List.map_cons, List.map_nil, List.length_cons, List.length_nil, List.replicate_succ, List.replicate_zero, List.cons_append, List.nil_append, List.append_nil, List.getElem?_cons_zero, List.getElem?_cons_succ, List.getElem?_nil, List.set_cons_zero, List.set_cons_succ, List.zip_cons_cons, List.zip_nil_left, List.foldl_cons, List.foldl_nil, Nat.reduceSub, Nat.reduceAdd, Nat.zero_add, Nat.add_zero, if_true, if_false, reduceIte, ite_true, ite_false, eq_self, and_true, true_and, and_self, decide_true, decide_false, is_int_int, is_int_bl, is_int_str, is_int_tup, is_int_rol, is_int_non, is_bool_int, is_bool_bl, is_bool_str, is_bool_tup, is_bool_rol, is_bool_non, is_tuple_int, is_tuple_bl, is_tuple_str, is_tuple_tup, is_tuple_rol, is_tuple_non, is_str_int, is_str_bl, is_str_str, is_str_tup, is_str_rol, is_str_non, is_list_int, is_list_bl, is_list_str, is_list_tup, is_list_rol, is_list_non, Bool.not_true, Bool.not_false, e, is_integer_ok hx, is_integer_ok hy]
      cases x <;> cases y <;> simp only [b_ok, b_ex, b_bad, o_ok, o_ex, o_bad, n_ok, s_seq, s_nx, s_rt, s_bk, s_ct, s_ex, e_var, e_c, e_bin, e_un, e_blt, e_if, e_and, e_or, e_chain, a_nil, a_cons, e_tup, e_lst, e_call, e_callK, e_met, e_sl, g_nx, g_expr, g_ret, g_retN, g_bk, g_ct, g_if, g_asg, g_par, g_raise, t_name, t_unp, t_nil, t_cons, t_sub, g_for, i_val, i_rng1, i_rng2, e_ref, f_rt, f_nx, f_ex, drop_id, g_aug, o_iadd, e_lc, w_nil, w_cons, e_yes, i_tup, i_rol, al, lim_eq, Nat.reduceLeDiff, Nat.reduceLT, x_t0, x_t1, x_t2, x_t3, l_tup, l_rol, u_tup, o_cmp, o_add, o_sub, o_neg, o_not, o_abs, o_int, o_max, o_min, q_int, q_nint, q_bl, q_nbl, q_str, q_nstr, fnD, List.map_cons, List.map_nil, List.length_cons, List.length_nil, List.replicate_succ, List.replicate_zero, List.cons_append, List.nil_append, List.append_nil, List.getElem?_cons_zero, List.getElem?_cons_succ, List.getElem?_nil, List.set_cons_zero, List.set_cons_succ, List.zip_cons_cons, List.zip_nil_left, List.foldl_cons, List.foldl_nil, Nat.reduceSub, Nat.reduceAdd, Nat.zero_add, Nat.add_zero, if_true, if_false, reduceIte, ite_true, ite_false, eq_self, and_true, true_and, and_self, decide_true, decide_false, is_int_int, is_int_bl, is_int_str, is_int_tup, is_int_rol, is_int_non, is_bool_int, is_bool_bl, is_bool_str, is_bool_tup, is_bool_rol, is_bool_non, is_tuple_int, is_tuple_bl, is_tuple_str, is_tuple_tup, is_tuple_rol, is_tuple_non, is_str_int, is_str_bl, is_str_str, is_str_tup, is_str_rol, is_str_non, is_list_int, is_list_bl, is_list_str, is_list_tup, is_list_rol, is_list_non, Bool.not_true, Bool.not_false, isInt, isFr, common_ok]
      rename_i i j
      by_cases hj : j < 1
      · simp [hj, b_ok, b_ex, b_bad, o_ok, o_ex, o_bad, n_ok, s_seq, s_nx, s_rt, s_bk, s_ct, s_ex, e_var, e_c, e_bin, e_un, e_blt, e_if, e_and, e_or, e_chain, a_nil, a_cons, e_tup, e_lst, e_call, e_callK, e_met, e_sl, g_nx, g_expr, g_ret, g_retN, g_bk, g_ct, g_if, g_asg, g_par, g_raise, t_name, t_unp, t_nil, t_cons, t_sub, g_for, i_val, i_rng1, i_rng2, e_ref, f_rt, f_nx, f_ex, drop_id, g_aug, o_iadd, e_lc, w_nil, w_cons, e_yes, i_tup, i_rol, al, lim_eq, Nat.reduceLeDiff, Nat.reduceLT, x_t0, x_t1, x_t2, x_t3, l_tup, l_rol, u_tup, o_cmp, o_add, o_sub, o_neg, o_not, o_abs, o_int, o_max, o_min, q_int, q_nint, q_bl, q_nbl, q_str, q_nstr, fnD, List.map_cons, List.map_nil, List.length_cons, List.length_nil, List.replicate_succ, List.replicate_zero, List.cons_append, List.nil_append, List.append_nil, List.getElem?_cons_zero, List.getElem?_cons_succ, List.getElem?_nil, List.set_cons_zero, List.set_cons_succ, List.zip_cons_cons, List.zip_nil_left, List.foldl_cons, List.foldl_nil, Nat.reduceSub, Nat.reduceAdd, Nat.zero_add, Nat.add_zero, if_true, if_false, reduceIte, ite_true, ite_false, eq_self, and_true, true_and, and_self, decide_true, decide_false, is_int_int, is_int_bl, is_int_str, is_int_tup, is_int_rol, is_int_non, is_bool_int, is_bool_bl, is_bool_str, is_bool_tup, is_bool_rol, is_bool_non, is_tuple_int, is_tuple_bl, is_tuple_str, is_tuple_tup, is_tuple_rol, is_tuple_non, is_str_int, is_str_bl, is_str_str, is_str_tup, is_str_rol, is_str_non, is_list_int, is_list_bl, is_list_str, is_list_tup, is_list_rol, is_list_non, Bool.not_true, Bool.not_false]
        omega
      · have : 1 ≤ j := by omega
        have e1 : ((Int.gcd i j : Int) = 1) = (Int.gcd i j = 1) := by
          simp only [eq_iff_iff]
          omega
        simp [hj, this, b_ok, b_ex, b_bad, o_ok, o_ex, o_bad, n_ok, s_seq, s_nx, s_rt, s_bk, s_ct, s_ex, e_var, e_c, e_bin, e_un, e_blt, e_if, e_and, e_or, e_chain, a_nil, a_cons, e_tup, e_lst, e_call, e_callK, e_met, e_sl, g_nx, g_expr, g_ret, g_retN, g_bk, g_ct, g_if, g_asg, g_par, g_raise, t_name, t_unp, t_nil, t_cons, t_sub, g_for, i_val, i_rng1, i_rng2, e_ref, f_rt, f_nx, f_ex, drop_id, g_aug, o_iadd, e_lc, w_nil, w_cons, e_yes, i_tup, i_rol, al, lim_eq, Nat.reduceLeDiff, Nat.reduceLT, x_t0, x_t1, x_t2, x_t3, l_tup, l_rol, u_tup, o_cmp, o_add, o_sub, o_neg, o_not, o_abs, o_int, o_max, o_min, q_int, q_nint, q_bl, q_nbl, q_str, q_nstr, fnD, List.map_cons, List.map_nil, List.length_cons, List.length_nil, List.replicate_succ, List.replicate_zero, List.cons_append, List.nil_append, List.append_nil, List.getElem?_cons_zero, List.getElem?_cons_succ, List.getElem?_nil, List.set_cons_zero, List.set_cons_succ, List.zip_cons_cons, List.zip_nil_left, List.foldl_cons, List.foldl_nil, Nat.reduceSub, Nat.reduceAdd, Nat.zero_add, Nat.add_zero, if_true, if_false, reduceIte, ite_true, ite_false, eq_self, and_true, true_and, and_self, decide_true, decide_false, is_int_int, is_int_bl, is_int_str, is_int_tup, is_int_rol, is_int_non, is_bool_int, is_bool_bl, is_bool_str, is_bool_tup, is_bool_rol, is_bool_non, is_tuple_int, is_tuple_bl, is_tuple_str, is_tuple_tup, is_tuple_rol, is_tuple_non, is_str_int, is_str_bl, is_str_str, is_str_tup, is_str_rol, is_str_non, is_list_int, is_list_bl, is_list_str, is_list_tup, is_list_rol, is_list_non, Bool.not_true, Bool.not_false, common_ok, e1]
  | _ => simp only [b_ok, b_ex, b_bad, o_ok, o_ex, o_bad, n_ok, s_seq, s_nx, s_rt, s_bk, s_ct, s_ex, e_var, e_c, e_bin, e_un, e_blt, e_if, e_and, e_or, e_chain, a_nil, a_cons, e_tup, e_lst, e_call, e_callK, e_met, e_sl, g_nx, g_expr, g_ret, g_retN, g_bk, g_ct, g_if, g_asg, g_par, g_raise, t_name, t_unp, t_nil, t_cons, t_sub, g_for, i_val, i_rng1, i_rng2, e_ref, f_rt, f_nx, f_ex, drop_id, g_aug, o_iadd, e_lc, w_nil, w_cons, e_yes, i_tup, i_rol, al, lim_eq, Nat.reduceLeDiff, Nat.reduceLT, x_t0, x_t1, x_t2, x_t3, l_tup, l_rol, u_tup, o_cmp, o_add, o_sub, o_neg, o_not, o_abs, o_int, o_max, o_min, q_int, q_nint, q_bl, q_nbl, q_str, q_nstr, fnD, List.map_cons, List.map_nil, List.length_cons, List.length_nil, List.replicate_succ, List.replicate_zero, List.cons_append, List.nil_append, List.append_nil, List.getElem?_cons_zero, List.getElem?_cons_succ, List.getElem?_nil, List.set_cons_zero, List.set_cons_succ, List.zip_cons_cons, List.zip_nil_left, List.foldl_cons, List.foldl_nil, Nat.reduceSub, Nat.reduceAdd, Nat.zero_add, Nat.add_zero, if_true, if_false, reduceIte, ite_true, ite_false, eq_self, and_true, true_and, and_self, decide_true, decide_false, is_int_int, is_int_bl, is_int_str, is_int_tup, is_int_rol, is_int_non, is_bool_int, is_bool_bl, is_bool_str, is_bool_tup, is_bool_rol, is_bool_non, is_tuple_int, is_tuple_bl, is_tuple_str, is_tuple_tup, is_tuple_rol, is_tuple_non, is_str_int, is_str_bl, is_str_str, is_str_tup, is_str_rol, is_str_non, is_list_int, is_list_bl, is_list_str, is_list_tup, is_list_rol, is_list_non, Bool.not_true, Bool.not_false, isFr]
theorem is_small_ok {d : D} (hd : flat d = true) (h : DH) : f_is_small [d] h = .ok (.bl (isNum d)) h := by
  unfold f_is_small d_is_small
  simp only [b_ok, b_ex, b_bad, o_ok, o_ex, o_bad, n_ok, s_seq, s_nx, s_rt, s_bk, s_ct, s_ex, e_var, e_c, e_bin, e_un, e_blt, e_if, e_and, e_or, e_chain, a_nil, a_cons, e_tup, e_lst, e_call, e_callK, e_met, e_sl, g_nx, g_expr, g_ret, g_retN, g_bk, g_ct, g_if, g_asg, g_par, g_raise, t_name, t_unp, t_nil, t_cons, t_sub, g_for, i_val, i_rng1, i_rng2, e_ref, f_rt, f_nx, f_ex, drop_id, g_aug, o_iadd, e_lc, w_nil, w_cons, e_yes, i_tup, i_rol, al, lim_eq, Nat.reduceLeDiff, Nat.reduceLT, x_t0, x_t1, x_t2, x_t3, l_tup, l_rol, u_tup, o_cmp, o_add, o_sub, o_neg, o_not, o_abs, o_int, o_max, o_min, q_int, q_nint, q_bl, q_nbl, q_str, q_nstr, fnD, List.map_cons, List.map_nil, List.length_cons, List.length_nil, List.replicate_succ, List.replicate_zero, List.cons_append, List.nil_append, List.append_nil, List.getElem?_cons_zero, List.getElem?_cons_succ, List.getElem?_nil, List.set_cons_zero, List.set_cons_succ, List.zip_cons_cons, List.zip_nil_left, List.foldl_cons, List.foldl_nil, Nat.reduceSub, Nat.reduceAdd, Nat.zero_add, Nat.add_zero, if_true, if_false, reduceIte, ite_true, ite_false, eq_self, and_true, true_and, and_self, decide_true, decide_false, is_int_int, is_int_bl, is_int_str, is_int_tup, is_int_rol, is_int_non, is_bool_int, is_bool_bl, is_bool_str, is_bool_tup, is_bool_rol, is_bool_non, is_tuple_int, is_tuple_bl, is_tuple_str, is_tuple_tup, is_tuple_rol, is_tuple_non, is_str_int, is_str_bl, is_str_str, is_str_tup, is_str_rol, is_str_non, is_list_int, is_list_bl, is_list_str, is_list_tup, is_list_rol, is_list_non, Bool.not_true, Bool.not_false, is_fraction_ok hd]
  cases hf : isFr d with
  | false =>
    simp only [b_ok, b_ex, b_bad, o_ok, o_ex, o_bad, n_ok, s_seq, s_nx, s_rt, s_bk, s_ct, s_ex, e_var, e_c, e_bin, e_un, e_blt, e_if, e_and, e_or, e_chain, a_nil, a_cons, e_tup, e_lst, e_call, e_callK, e_met, e_sl, g_nx, g_expr, g_ret, g_retN, g_bk, g_ct, g_if, g_asg, g_par, g_raise, t_name, t_unp, t_nil, t_cons, t_sub, g_for, i_val, i_rng1, i_rng2, e_ref, f_rt, f_nx, f_ex, drop_id, g_aug, o_iadd, e_lc, w_nil, w_cons, e_yes, i_tup, i_rol, al, lim_eq, Nat.reduceLeDiff, Nat.reduceLT, x_t0, x_t1, x_t2, x_t3, l_tup, l_rol, u_tup, o_cmp, o_add, o_sub, o_neg, o_not, o_abs, o_int, o_max, o_min, q_int, q_nint, q_bl, q_nbl, q_str, q_nstr, fnD, List.map_cons, List.map_nil, List.length_cons, List.length_nil, List.replicate_succ, List.replicate_zero, List.cons_append, List.nil_append, List.append_nil, List.getElem?_cons_zero, List.getElem?_cons_succ, List.getElem?_nil, List.set_cons_zero, List.set_cons_succ, List.zip_cons_cons, List.zip_nil_left, List.foldl_cons, List.foldl_nil, Nat.reduceSub, Nat.reduceAdd, Nat.zero_add, Nat.add_zero, if_true, if_false, reduceIte, ite_true, ite_false, eq_self, and_true, true_and, and_self, decide_true, decide_false, is_int_int, is_int_bl, is_int_str, is_int_tup, is_int_rol, is_int_non, is_bool_int, is_bool_bl, is_bool_str, is_bool_tup, is_bool_rol, is_bool_non, is_tuple_int, is_tuple_bl, is_tuple_str, is_tuple_tup, is_tuple_rol, is_tuple_non, is_str_int, is_str_bl, is_str_str, is_str_tup, is_str_rol, is_str_non, is_list_int, is_list_bl, is_list_str, is_list_tup, is_list_rol, is_list_non, Bool.not_true, Bool.not_false]
    unfold isFr at hf
    unfold isNum
    split
    · rename_i x y
      have hf' : (decide (1 ≤ y) && decide (Int.gcd x y = 1)) = false := hf
      rw [hf']
      simp
    · rfl
  | true =>
    unfold isFr at hf
    split at hf
    · rename_i x y
      simp only [isNum, hf, b_ok, b_ex, b_bad, o_ok, o_ex, o_bad, n_ok, s_seq, s_nx, s_rt, s_bk, s_ct, s_ex, e_var, e_c, e_bin, e_un, e_blt, e_if, e_and, e_or, e_chain, a_nil, a_cons, e_tup, e_lst, e_call, e_callK, e_met, e_sl, g_nx, g_expr, g_ret, g_retN, g_bk, g_ct, g_if, g_asg, g_par, g_raise, t_name, t_unp, t_nil, t_cons, t_sub, g_for, i_val, i_rng1, i_rng2, e_ref, f_rt, f_nx, f_ex, drop_id, g_aug, o_iadd, e_lc, w_nil, w_cons, e_yes, i_tup, i_rol, al, lim_eq, Nat.reduceLeDiff, Nat.reduceLT, x_t0, x_t1, x_t2, x_t3, l_tup, l_rol, u_tup, o_cmp, o_add, o_sub, o_neg, o_not, o_abs, o_int, o_max, o_min, q_int, q_nint, q_bl, q_nbl, q_str, q_nstr, fnD, List.map_cons, List.map_nil, List.length_cons, List.length_nil, List.replicate_succ, List.replicate_zero, List.cons_append, List.nil_append, List.append_nil, List.getElem?_cons_zero, List.getElem?_cons_succ, List.getElem?_nil, List.set_cons_zero, List.set_cons_succ, List.zip_cons_cons, List.zip_nil_left, List.foldl_cons, List.foldl_nil, Nat.reduceSub, Nat.reduceAdd, Nat.zero_add, Nat.add_zero, if_true, if_false, reduceIte, ite_true, ite_false, eq_self, and_true, true_and, and_self, decide_true, decide_false, is_int_int, is_int_bl, is_int_str, is_int_tup, is_int_rol, is_int_non, is_bool_int, is_bool_bl, is_bool_str, is_bool_tup, is_bool_rol, is_bool_non, is_tuple_int, is_tuple_bl, is_tuple_str, is_tuple_tup, is_tuple_rol, is_tuple_non, is_str_int, is_str_bl, is_str_str, is_str_tup, is_str_rol, is_str_non, is_list_int, is_list_bl, is_list_str, is_list_tup, is_list_rol, is_list_non, Bool.not_true, Bool.not_false]
      by_cases h1 : x.natAbs ≤ 1000000000000
      · have h1' : (x.natAbs : Int) ≤ 1000000000000 := by omega
        simp [h1, h1', b_ok, b_ex, b_bad, o_ok, o_ex, o_bad, n_ok, s_seq, s_nx, s_rt, s_bk, s_ct, s_ex, e_var, e_c, e_bin, e_un, e_blt, e_if, e_and, e_or, e_chain, a_nil, a_cons, e_tup, e_lst, e_call, e_callK, e_met, e_sl, g_nx, g_expr, g_ret, g_retN, g_bk, g_ct, g_if, g_asg, g_par, g_raise, t_name, t_unp, t_nil, t_cons, t_sub, g_for, i_val, i_rng1, i_rng2, e_ref, f_rt, f_nx, f_ex, drop_id, g_aug, o_iadd, e_lc, w_nil, w_cons, e_yes, i_tup, i_rol, al, lim_eq, Nat.reduceLeDiff, Nat.reduceLT, x_t0, x_t1, x_t2, x_t3, l_tup, l_rol, u_tup, o_cmp, o_add, o_sub, o_neg, o_not, o_abs, o_int, o_max, o_min, q_int, q_nint, q_bl, q_nbl, q_str, q_nstr, fnD, List.map_cons, List.map_nil, List.length_cons, List.length_nil, List.replicate_succ, List.replicate_zero, List.cons_append, List.nil_append, List.append_nil, List.getElem?_cons_zero, List.getElem?_cons_succ, List.getElem?_nil, List.set_cons_zero, List.set_cons_succ, List.zip_cons_cons, List.zip_nil_left, List.foldl_cons, List.foldl_nil, Nat.reduceSub, Nat.reduceAdd, Nat.zero_add, Nat.add_zero, if_true, if_false, reduceIte, ite_true, ite_false, eq_self, and_true, true_and, and_self, decide_true, decide_false, is_int_int, is_int_bl, is_int_str, is_int_tup, is_int_rol, is_int_non, is_bool_int, is_bool_bl, is_bool_str, is_bool_tup, is_bool_rol, is_bool_non, is_tuple_int, is_tuple_bl, is_tuple_str, is_tuple_tup, is_tuple_rol, is_tuple_non, is_str_int, is_str_bl, is_str_str, is_str_tup, is_str_rol, is_str_non, is_list_int, is_list_bl, is_list_str, is_list_tup, is_list_rol, is_list_non, Bool.not_true, Bool.not_false]
      · have h1' : ¬ (x.natAbs : Int) ≤ 1000000000000 := by omega
        simp [h1, h1', b_ok, b_ex, b_bad, o_ok, o_ex, o_bad, n_ok, s_seq, s_nx, s_rt, s_bk, s_ct, s_ex, e_var, e_c, e_bin, e_un, e_blt, e_if, e_and, e_or, e_chain, a_nil, a_cons, e_tup, e_lst, e_call, e_callK, e_met, e_sl, g_nx, g_expr, g_ret, g_retN, g_bk, g_ct, g_if, g_asg, g_par, g_raise, t_name, t_unp, t_nil, t_cons, t_sub, g_for, i_val, i_rng1, i_rng2, e_ref, f_rt, f_nx, f_ex, drop_id, g_aug, o_iadd, e_lc, w_nil, w_cons, e_yes, i_tup, i_rol, al, lim_eq, Nat.reduceLeDiff, Nat.reduceLT, x_t0, x_t1, x_t2, x_t3, l_tup, l_rol, u_tup, o_cmp, o_add, o_sub, o_neg, o_not, o_abs, o_int, o_max, o_min, q_int, q_nint, q_bl, q_nbl, q_str, q_nstr, fnD, List.map_cons, List.map_nil, List.length_cons, List.length_nil, List.replicate_succ, List.replicate_zero, List.cons_append, List.nil_append, List.append_nil, List.getElem?_cons_zero, List.getElem?_cons_succ, List.getElem?_nil, List.set_cons_zero, List.set_cons_succ, List.zip_cons_cons, List.zip_nil_left, List.foldl_cons, List.foldl_nil, Nat.reduceSub, Nat.reduceAdd, Nat.zero_add, Nat.add_zero, if_true, if_false, reduceIte, ite_true, ite_false, eq_self, and_true, true_and, and_self, decide_true, decide_false, is_int_int, is_int_bl, is_int_str, is_int_tup, is_int_rol, is_int_non, is_bool_int, is_bool_bl, is_bool_str, is_bool_tup, is_bool_rol, is_bool_non, is_tuple_int, is_tuple_bl, is_tuple_str, is_tuple_tup, is_tuple_rol, is_tuple_non, is_str_int, is_str_bl, is_str_str, is_str_tup, is_str_rol, is_str_non, is_list_int, is_list_bl, is_list_str, is_list_tup, is_list_rol, is_list_non, Bool.not_true, Bool.not_false]
    · cases hf
theorem fr_flat (q : Rat) : flat (fr q) = true := rfl
theorem isNum_fr (q : Rat) : isNum (fr q) = (decide (q.num.natAbs ≤ 1000000000000) && decide (q.den ≤ 1000000000000)) := by
  have h1 : (1 : Int) ≤ q.den := by
    have := q.den_pos
    omega
  have h2 : Int.gcd q.num q.den = 1 := by
    have := q.reduced
    unfold Nat.Coprime at this
    unfold Int.gcd
    simpa using this
  have h3 : ((q.den : Int) ≤ 1000000000000) ↔ q.den ≤ 1000000000000 := by omega
  simp [isNum, fr, h1, h2, h3]
theorem need_number_ok {d : D} {n : Str} (hd : flat d = true) (hn : n.length ≤ 1000) (h : DH) : f_need_number [d, .str n] h = if isNum d = true then .ok .non h else .ex 0 (.str n) h := by
  unfold f_need_number d_need_number
  have : okName (.str n) = true := decide_eq_true hn
  cases e : isNum d <;> simp [b_ok, b_ex, b_bad, o_ok, o_ex, o_bad, n_ok, s_seq, s_nx, s_rt, s_bk, s_ct, s_ex, e_var, e_c, e_bin, e_un, e_blt, e_if, e_and, e_or, e_chain, a_nil, a_cons, e_tup, e_lst, e_call, e_callK, e_met, e_sl, g_nx, g_expr, g_ret, g_retN, g_bk, g_ct, g_if, g_asg, g_par, g_raise, t_name, t_unp, t_nil, t_cons, t_sub, g_for, i_val, i_rng1, i_rng2, e_ref, f_rt, f_nx, f_ex, drop_id, g_aug, o_iadd, e_lc, w_nil, w_cons, e_yes, i_tup, i_rol, al, lim_eq, Nat.reduceLeDiff, Nat.reduceLT, x_t0, x_t1, x_t2, x_t3, l_tup, l_rol, u_tup, o_cmp, o_add, o_sub, o_neg, o_not, o_abs, o_int, o_max, o_min, q_int, q_nint, q_bl, q_nbl, q_str, q_nstr, fnD, List.map_cons, List.map_nil, List.length_cons, List.length_nil, List.replicate_succ, List.replicate_zero, List.cons_append, List.nil_append, List.append_nil, List.getElem?_cons_zero, List.getElem?_cons_succ, List.getElem?_nil, List.set_cons_zero, List.set_cons_succ, List.zip_cons_cons, List.zip_nil_left, List.foldl_cons, List.foldl_nil, Nat.reduceSub, Nat.reduceAdd, Nat.zero_add, Nat.add_zero, if_true, if_false, reduceIte, ite_true, ite_false, eq_self, and_true, true_and, and_self, decide_true, decide_false, is_int_int, is_int_bl, is_int_str, is_int_tup, is_int_rol, is_int_non, is_bool_int, is_bool_bl, is_bool_str, is_bool_tup, is_bool_rol, is_bool_non, is_tuple_int, is_tuple_bl, is_tuple_str, is_tuple_tup, is_tuple_rol, is_tuple_non, is_str_int, is_str_bl, is_str_str, is_str_tup, is_str_rol, is_str_non, is_list_int, is_list_bl, is_list_str, is_list_tup, is_list_rol, is_list_non, Bool.not_true, Bool.not_false, is_small_ok hd, e, this]
/-- how many turns Euclid's loop takes -/
def eu (x y : Nat) : Nat := if h : y = 0 then 0 else 1 + eu y (x % y)
termination_by y
decreasing_by exact Nat.mod_lt _ (by omega)
theorem eu_zero (x : Nat) : eu x 0 = 0 := by unfold eu; simp
theorem eu_pos (x y : Nat) (h : y ≠ 0) : eu x y = 1 + eu y (x % y) := by rw [eu]; simp [h]
theorem eu_le : ∀ (n x y : Nat), y < n → y ≠ 0 → eu x y ≤ 2 * y.log2 + 2
  | 0, _, _, h, _ => by omega
  | n + 1, x, y, h, h0 => by
    rw [eu_pos x y h0]
    by_cases hr : x % y = 0
    · rw [hr, eu_zero]
      omega
    · rw [eu_pos y _ hr]
      have l1 : x % y < y := Nat.mod_lt _ (by omega)
      by_cases hs : y % (x % y) = 0
      · rw [hs, eu_zero]
        have : 1 ≤ y.log2 := by
          by_cases q : y = 1
          · omega
          · exact (Nat.le_log2 h0).mpr (by omega)
        omega
      · have l2 : y % (x % y) < x % y := Nat.mod_lt _ (by omega)
        have l3 := Nat.div_add_mod y (x % y)
        have l4 : 1 ≤ y / (x % y) := Nat.div_pos (by omega) (by omega)
        have l5 : x % y ≤ (x % y) * (y / (x % y)) := Nat.le_mul_of_pos_right _ l4
        have l6 : 2 * (y % (x % y)) < y := by omega
        have ih := eu_le n (x % y) (y % (x % y)) (by omega) hs
        have l7 : (y % (x % y)).log2 + 1 ≤ y.log2 := by
          rw [Nat.le_log2 h0, Nat.pow_succ]
          have := (Nat.le_log2 hs).mp (Nat.le_refl _)
          omega
        omega
theorem law_f_ok (a b : Int) (hb : b ≠ 0) (hz : b.natAbs.log2 < 2999) (h : DH) : f_law_f [.int a, .int b] h = .ok (fr (Rat.divInt a b)) h := by
  have core : ∀ a b : Int, 0 < b → b.natAbs.log2 < 2999 → ∀ (u v w : Option D),
      sq (forA (tName 4) (gSeq (gIf (eBin oEq (eVar 3) (eC (.int 0))) gBk gNx) (gPar [2, 3] (aCons (eVar 3) (aCons (eBin oMod (eBlt oInt (aCons (eVar 2) aNil)) (eVar 3)) aNil)))) (rngItems 0 6000) [some (.int a), some (.int b), some (.int a.natAbs), some (.int b), w] h) (gRet (eTup (aCons (eBin oDiv (eVar 0) (eVar 2)) (aCons (eBin oDiv (eVar 1) (eVar 2)) aNil)))) = .rt (fr (Rat.divInt a b)) h := by
    intro a b hb hz _ _ w
    refine forA_rule (fun r ρ k => k = h ∧ ∃ (x y : Nat) (w : Option D), ρ = [some (.int a), some (.int b), some (.int x), some (.int y), w] ∧ Nat.gcd x y = Int.gcd a b ∧ eu x y ≤ r.length)
      (fun s => sq s (gRet (eTup (aCons (eBin oDiv (eVar 0) (eVar 2)) (aCons (eBin oDiv (eVar 1) (eVar 2)) aNil)))) = .rt (fr (Rat.divInt a b)) h) ?_ ?_ _ _ _ ?_
    · rintro z r ρ k ⟨rfl, x, y, w, rfl, g, hl⟩
      refine ⟨_, _, t_name, ?_⟩
      simp only [b_ok, b_ex, b_bad, o_ok, o_ex, o_bad, n_ok, s_seq, s_nx, s_rt, s_bk, s_ct, s_ex, e_var, e_c, e_bin, e_un, e_blt, e_if, e_and, e_or, e_chain, a_nil, a_cons, e_tup, e_lst, e_call, e_callK, e_met, e_sl, g_nx, g_expr, g_ret, g_retN, g_bk, g_ct, g_if, g_asg, g_par, g_raise, t_name, t_unp, t_nil, t_cons, t_sub, g_for, i_val, i_rng1, i_rng2, e_ref, f_rt, f_nx, f_ex, drop_id, g_aug, o_iadd, e_lc, w_nil, w_cons, e_yes, i_tup, i_rol, al, lim_eq, Nat.reduceLeDiff, Nat.reduceLT, x_t0, x_t1, x_t2, x_t3, l_tup, l_rol, u_tup, o_cmp, o_add, o_sub, o_neg, o_not, o_abs, o_int, o_max, o_min, q_int, q_nint, q_bl, q_nbl, q_str, q_nstr, fnD, List.map_cons, List.map_nil, List.length_cons, List.length_nil, List.replicate_succ, List.replicate_zero, List.cons_append, List.nil_append, List.append_nil, List.getElem?_cons_zero, List.getElem?_cons_succ, List.getElem?_nil, List.set_cons_zero, List.set_cons_succ, List.zip_cons_cons, List.zip_nil_left, List.foldl_cons, List.foldl_nil, Nat.reduceSub, Nat.reduceAdd, Nat.zero_add, Nat.add_zero, if_true, if_false, reduceIte, ite_true, ite_false, eq_self, and_true, true_and, and_self, decide_true, decide_false, is_int_int, is_int_bl, is_int_str, is_int_tup, is_int_rol, is_int_non, is_bool_int, is_bool_bl, is_bool_str, is_bool_tup, is_bool_rol, is_bool_non, is_tuple_int, is_tuple_bl, is_tuple_str, is_tuple_tup, is_tuple_rol, is_tuple_non, is_str_int, is_str_bl, is_str_str, is_str_tup, is_str_rol, is_str_non, is_list_int, is_list_bl, is_list_str, is_list_tup, is_list_rol, is_list_non, Bool.not_true, Bool.not_false]
      by_cases hy : y = 0
      · subst hy
        rw [Nat.gcd_zero_right] at g
        have e : (((0 : Nat) : Int) = 0) = True := by simp
        simp only [b_ok, b_ex, b_bad, o_ok, o_ex, o_bad, n_ok, s_seq, s_nx, s_rt, s_bk, s_ct, s_ex, e_var, e_c, e_bin, e_un, e_blt, e_if, e_and, e_or, e_chain, a_nil, a_cons, e_tup, e_lst, e_call, e_callK, e_met, e_sl, g_nx, g_expr, g_ret, g_retN, g_bk, g_ct, g_if, g_asg, g_par, g_raise, t_name, t_unp, t_nil, t_cons, t_sub, g_for, i_val, i_rng1, i_rng2, e_ref, f_rt, f_nx, f_ex, drop_id, g_aug, o_iadd, e_lc, w_nil, w_cons, e_yes, i_tup, i_rol, al, lim_eq, Nat.reduceLeDiff, Nat.reduceLT, x_t0, x_t1, x_t2, x_t3, l_tup, l_rol, u_tup, o_cmp, o_add, o_sub, o_neg, o_not, o_abs, o_int, o_max, o_min, q_int, q_nint, q_bl, q_nbl, q_str, q_nstr, fnD, List.map_cons, List.map_nil, List.length_cons, List.length_nil, List.replicate_succ, List.replicate_zero, List.cons_append, List.nil_append, List.append_nil, List.getElem?_cons_zero, List.getElem?_cons_succ, List.getElem?_nil, List.set_cons_zero, List.set_cons_succ, List.zip_cons_cons, List.zip_nil_left, List.foldl_cons, List.foldl_nil, Nat.reduceSub, Nat.reduceAdd, Nat.zero_add, Nat.add_zero, if_true, if_false, reduceIte, ite_true, ite_false, eq_self, and_true, true_and, and_self, decide_true, decide_false, is_int_int, is_int_bl, is_int_str, is_int_tup, is_int_rol, is_int_non, is_bool_int, is_bool_bl, is_bool_str, is_bool_tup, is_bool_rol, is_bool_non, is_tuple_int, is_tuple_bl, is_tuple_str, is_tuple_tup, is_tuple_rol, is_tuple_non, is_str_int, is_str_bl, is_str_str, is_str_tup, is_str_rol, is_str_non, is_list_int, is_list_bl, is_list_str, is_list_tup, is_list_rol, is_list_non, Bool.not_true, Bool.not_false, e]
        subst g
        obtain ⟨e1, e2⟩ := low_pos (a := a) hb
        simp only [b_ok, b_ex, b_bad, o_ok, o_ex, o_bad, n_ok, s_seq, s_nx, s_rt, s_bk, s_ct, s_ex, e_var, e_c, e_bin, e_un, e_blt, e_if, e_and, e_or, e_chain, a_nil, a_cons, e_tup, e_lst, e_call, e_callK, e_met, e_sl, g_nx, g_expr, g_ret, g_retN, g_bk, g_ct, g_if, g_asg, g_par, g_raise, t_name, t_unp, t_nil, t_cons, t_sub, g_for, i_val, i_rng1, i_rng2, e_ref, f_rt, f_nx, f_ex, drop_id, g_aug, o_iadd, e_lc, w_nil, w_cons, e_yes, i_tup, i_rol, al, lim_eq, Nat.reduceLeDiff, Nat.reduceLT, x_t0, x_t1, x_t2, x_t3, l_tup, l_rol, u_tup, o_cmp, o_add, o_sub, o_neg, o_not, o_abs, o_int, o_max, o_min, q_int, q_nint, q_bl, q_nbl, q_str, q_nstr, fnD, List.map_cons, List.map_nil, List.length_cons, List.length_nil, List.replicate_succ, List.replicate_zero, List.cons_append, List.nil_append, List.append_nil, List.getElem?_cons_zero, List.getElem?_cons_succ, List.getElem?_nil, List.set_cons_zero, List.set_cons_succ, List.zip_cons_cons, List.zip_nil_left, List.foldl_cons, List.foldl_nil, Nat.reduceSub, Nat.reduceAdd, Nat.zero_add, Nat.add_zero, if_true, if_false, reduceIte, ite_true, ite_false, eq_self, and_true, true_and, and_self, decide_true, decide_false, is_int_int, is_int_bl, is_int_str, is_int_tup, is_int_rol, is_int_non, is_bool_int, is_bool_bl, is_bool_str, is_bool_tup, is_bool_rol, is_bool_non, is_tuple_int, is_tuple_bl, is_tuple_str, is_tuple_tup, is_tuple_rol, is_tuple_non, is_str_int, is_str_bl, is_str_str, is_str_tup, is_str_rol, is_str_non, is_list_int, is_list_bl, is_list_str, is_list_tup, is_list_rol, is_list_non, Bool.not_true, Bool.not_false, o_div (gcd_pos_of (a := a) (b := b) (by omega)) (gcd_log (by omega) (by omega)), lim2]
        rw [e1, e2]
        rfl
      · have e : ((y : Int) = 0) = False := by simp [hy]
        have hy' : (0 : Int) < (y : Int) := by omega
        simp only [b_ok, b_ex, b_bad, o_ok, o_ex, o_bad, n_ok, s_seq, s_nx, s_rt, s_bk, s_ct, s_ex, e_var, e_c, e_bin, e_un, e_blt, e_if, e_and, e_or, e_chain, a_nil, a_cons, e_tup, e_lst, e_call, e_callK, e_met, e_sl, g_nx, g_expr, g_ret, g_retN, g_bk, g_ct, g_if, g_asg, g_par, g_raise, t_name, t_unp, t_nil, t_cons, t_sub, g_for, i_val, i_rng1, i_rng2, e_ref, f_rt, f_nx, f_ex, drop_id, g_aug, o_iadd, e_lc, w_nil, w_cons, e_yes, i_tup, i_rol, al, lim_eq, Nat.reduceLeDiff, Nat.reduceLT, x_t0, x_t1, x_t2, x_t3, l_tup, l_rol, u_tup, o_cmp, o_add, o_sub, o_neg, o_not, o_abs, o_int, o_max, o_min, q_int, q_nint, q_bl, q_nbl, q_str, q_nstr, fnD, List.map_cons, List.map_nil, List.length_cons, List.length_nil, List.replicate_succ, List.replicate_zero, List.cons_append, List.nil_append, List.append_nil, List.getElem?_cons_zero, List.getElem?_cons_succ, List.getElem?_nil, List.set_cons_zero, List.set_cons_succ, List.zip_cons_cons, List.zip_nil_left, List.foldl_cons, List.foldl_nil, Nat.reduceSub, Nat.reduceAdd, Nat.zero_add, Nat.add_zero, if_true, if_false, reduceIte, ite_true, ite_false, eq_self, and_true, true_and, and_self, decide_true, decide_false, is_int_int, is_int_bl, is_int_str, is_int_tup, is_int_rol, is_int_non, is_bool_int, is_bool_bl, is_bool_str, is_bool_tup, is_bool_rol, is_bool_non, is_tuple_int, is_tuple_bl, is_tuple_str, is_tuple_tup, is_tuple_rol, is_tuple_non, is_str_int, is_str_bl, is_str_str, is_str_tup, is_str_rol, is_str_non, is_list_int, is_list_bl, is_list_str, is_list_tup, is_list_rol, is_list_non, Bool.not_true, Bool.not_false, e, o_mod hy']
        refine ⟨y, x % y, some z, by simp, ?_, ?_⟩
        · rw [← g, Nat.gcd_comm y, ← Nat.gcd_rec, Nat.gcd_comm]
        · rw [eu_pos x y hy] at hl
          simp only [List.length_cons] at hl
          omega
    · rintro ρ k ⟨rfl, x, y, w, rfl, g, hl⟩
      have hy : y = 0 := by
        by_cases q : y = 0
        · exact q
        · rw [eu_pos x y q] at hl
          simp at hl
      subst hy
      rw [Nat.gcd_zero_right] at g
      subst g
      obtain ⟨e1, e2⟩ := low_pos (a := a) hb
      simp only [b_ok, b_ex, b_bad, o_ok, o_ex, o_bad, n_ok, s_seq, s_nx, s_rt, s_bk, s_ct, s_ex, e_var, e_c, e_bin, e_un, e_blt, e_if, e_and, e_or, e_chain, a_nil, a_cons, e_tup, e_lst, e_call, e_callK, e_met, e_sl, g_nx, g_expr, g_ret, g_retN, g_bk, g_ct, g_if, g_asg, g_par, g_raise, t_name, t_unp, t_nil, t_cons, t_sub, g_for, i_val, i_rng1, i_rng2, e_ref, f_rt, f_nx, f_ex, drop_id, g_aug, o_iadd, e_lc, w_nil, w_cons, e_yes, i_tup, i_rol, al, lim_eq, Nat.reduceLeDiff, Nat.reduceLT, x_t0, x_t1, x_t2, x_t3, l_tup, l_rol, u_tup, o_cmp, o_add, o_sub, o_neg, o_not, o_abs, o_int, o_max, o_min, q_int, q_nint, q_bl, q_nbl, q_str, q_nstr, fnD, List.map_cons, List.map_nil, List.length_cons, List.length_nil, List.replicate_succ, List.replicate_zero, List.cons_append, List.nil_append, List.append_nil, List.getElem?_cons_zero, List.getElem?_cons_succ, List.getElem?_nil, List.set_cons_zero, List.set_cons_succ, List.zip_cons_cons, List.zip_nil_left, List.foldl_cons, List.foldl_nil, Nat.reduceSub, Nat.reduceAdd, Nat.zero_add, Nat.add_zero, if_true, if_false, reduceIte, ite_true, ite_false, eq_self, and_true, true_and, and_self, decide_true, decide_false, is_int_int, is_int_bl, is_int_str, is_int_tup, is_int_rol, is_int_non, is_bool_int, is_bool_bl, is_bool_str, is_bool_tup, is_bool_rol, is_bool_non, is_tuple_int, is_tuple_bl, is_tuple_str, is_tuple_tup, is_tuple_rol, is_tuple_non, is_str_int, is_str_bl, is_str_str, is_str_tup, is_str_rol, is_str_non, is_list_int, is_list_bl, is_list_str, is_list_tup, is_list_rol, is_list_non, Bool.not_true, Bool.not_false, o_div (gcd_pos_of (a := a) (b := b) (by omega)) (gcd_log (by omega) (by omega)), lim2]
      rw [e1, e2]
      rfl
    · refine ⟨rfl, a.natAbs, b.natAbs, w, ?_, rfl, ?_⟩
      · rw [show ((b.natAbs : Nat) : Int) = b by omega]
      · have := eu_le (b.natAbs + 1) a.natAbs b.natAbs (by omega) (by omega)
        have e : (rngItems 0 6000).length = 6000 := by unfold rngItems; simp
        rw [e]
        omega
  unfold f_law_f d_law_f
  by_cases hn : b < 0
  · have e3 : Rat.divInt (0 - a) (0 - b) = Rat.divInt a b := by
      rw [show (0 - a) = -a by omega, show 0 - b = -b by omega, Rat.neg_divInt_neg]
    have := core (-a) (-b) (by omega) (by rw [Int.natAbs_neg]; exact hz) none none none
    rw [Rat.neg_divInt_neg, Int.natAbs_neg] at this
    have e6 : (6000 : Int).toNat = 6000 := rfl
    simp only [b_ok, b_ex, b_bad, o_ok, o_ex, o_bad, n_ok, s_seq, s_nx, s_rt, s_bk, s_ct, s_ex, e_var, e_c, e_bin, e_un, e_blt, e_if, e_and, e_or, e_chain, a_nil, a_cons, e_tup, e_lst, e_call, e_callK, e_met, e_sl, g_nx, g_expr, g_ret, g_retN, g_bk, g_ct, g_if, g_asg, g_par, g_raise, t_name, t_unp, t_nil, t_cons, t_sub, g_for, i_val, i_rng1, i_rng2, e_ref, f_rt, f_nx, f_ex, drop_id, g_aug, o_iadd, e_lc, w_nil, w_cons, e_yes, i_tup, i_rol, al, lim_eq, Nat.reduceLeDiff, Nat.reduceLT, x_t0, x_t1, x_t2, x_t3, l_tup, l_rol, u_tup, o_cmp, o_add, o_sub, o_neg, o_not, o_abs, o_int, o_max, o_min, q_int, q_nint, q_bl, q_nbl, q_str, q_nstr, fnD, List.map_cons, List.map_nil, List.length_cons, List.length_nil, List.replicate_succ, List.replicate_zero, List.cons_append, List.nil_append, List.append_nil, List.getElem?_cons_zero, List.getElem?_cons_succ, List.getElem?_nil, List.set_cons_zero, List.set_cons_succ, List.zip_cons_cons, List.zip_nil_left, List.foldl_cons, List.foldl_nil, Nat.reduceSub, Nat.reduceAdd, Nat.zero_add, Nat.add_zero, if_true, if_false, reduceIte, ite_true, ite_false, eq_self, and_true, true_and, and_self, decide_true, decide_false, is_int_int, is_int_bl, is_int_str, is_int_tup, is_int_rol, is_int_non, is_bool_int, is_bool_bl, is_bool_str, is_bool_tup, is_bool_rol, is_bool_non, is_tuple_int, is_tuple_bl, is_tuple_str, is_tuple_tup, is_tuple_rol, is_tuple_non, is_str_int, is_str_bl, is_str_str, is_str_tup, is_str_rol, is_str_non, is_list_int, is_list_bl, is_list_str, is_list_tup, is_list_rol, is_list_non, Bool.not_true, Bool.not_false, hn]
    simp [this, b_ok, b_ex, b_bad, o_ok, o_ex, o_bad, n_ok, s_seq, s_nx, s_rt, s_bk, s_ct, s_ex, e_var, e_c, e_bin, e_un, e_blt, e_if, e_and, e_or, e_chain, a_nil, a_cons, e_tup, e_lst, e_call, e_callK, e_met, e_sl, g_nx, g_expr, g_ret, g_retN, g_bk, g_ct, g_if, g_asg, g_par, g_raise, t_name, t_unp, t_nil, t_cons, t_sub, g_for, i_val, i_rng1, i_rng2, e_ref, f_rt, f_nx, f_ex, drop_id, g_aug, o_iadd, e_lc, w_nil, w_cons, e_yes, i_tup, i_rol, al, lim_eq, Nat.reduceLeDiff, Nat.reduceLT, x_t0, x_t1, x_t2, x_t3, l_tup, l_rol, u_tup, o_cmp, o_add, o_sub, o_neg, o_not, o_abs, o_int, o_max, o_min, q_int, q_nint, q_bl, q_nbl, q_str, q_nstr, fnD, List.map_cons, List.map_nil, List.length_cons, List.length_nil, List.replicate_succ, List.replicate_zero, List.cons_append, List.nil_append, List.append_nil, List.getElem?_cons_zero, List.getElem?_cons_succ, List.getElem?_nil, List.set_cons_zero, List.set_cons_succ, List.zip_cons_cons, List.zip_nil_left, List.foldl_cons, List.foldl_nil, Nat.reduceSub, Nat.reduceAdd, Nat.zero_add, Nat.add_zero, if_true, if_false, reduceIte, ite_true, ite_false, eq_self, and_true, true_and, and_self, decide_true, decide_false, is_int_int, is_int_bl, is_int_str, is_int_tup, is_int_rol, is_int_non, is_bool_int, is_bool_bl, is_bool_str, is_bool_tup, is_bool_rol, is_bool_non, is_tuple_int, is_tuple_bl, is_tuple_str, is_tuple_tup, is_tuple_rol, is_tuple_non, is_str_int, is_str_bl, is_str_str, is_str_tup, is_str_rol, is_str_non, is_list_int, is_list_bl, is_list_str, is_list_tup, is_list_rol, is_list_non, Bool.not_true, Bool.not_false, e6]
  · have := core a b (by omega) hz none none none
    have e6 : (6000 : Int).toNat = 6000 := rfl
    simp only [b_ok, b_ex, b_bad, o_ok, o_ex, o_bad, n_ok, s_seq, s_nx, s_rt, s_bk, s_ct, s_ex, e_var, e_c, e_bin, e_un, e_blt, e_if, e_and, e_or, e_chain, a_nil, a_cons, e_tup, e_lst, e_call, e_callK, e_met, e_sl, g_nx, g_expr, g_ret, g_retN, g_bk, g_ct, g_if, g_asg, g_par, g_raise, t_name, t_unp, t_nil, t_cons, t_sub, g_for, i_val, i_rng1, i_rng2, e_ref, f_rt, f_nx, f_ex, drop_id, g_aug, o_iadd, e_lc, w_nil, w_cons, e_yes, i_tup, i_rol, al, lim_eq, Nat.reduceLeDiff, Nat.reduceLT, x_t0, x_t1, x_t2, x_t3, l_tup, l_rol, u_tup, o_cmp, o_add, o_sub, o_neg, o_not, o_abs, o_int, o_max, o_min, q_int, q_nint, q_bl, q_nbl, q_str, q_nstr, fnD, List.map_cons, List.map_nil, List.length_cons, List.length_nil, List.replicate_succ, List.replicate_zero, List.cons_append, List.nil_append, List.append_nil, List.getElem?_cons_zero, List.getElem?_cons_succ, List.getElem?_nil, List.set_cons_zero, List.set_cons_succ, List.zip_cons_cons, List.zip_nil_left, List.foldl_cons, List.foldl_nil, Nat.reduceSub, Nat.reduceAdd, Nat.zero_add, Nat.add_zero, if_true, if_false, reduceIte, ite_true, ite_false, eq_self, and_true, true_and, and_self, decide_true, decide_false, is_int_int, is_int_bl, is_int_str, is_int_tup, is_int_rol, is_int_non, is_bool_int, is_bool_bl, is_bool_str, is_bool_tup, is_bool_rol, is_bool_non, is_tuple_int, is_tuple_bl, is_tuple_str, is_tuple_tup, is_tuple_rol, is_tuple_non, is_str_int, is_str_bl, is_str_str, is_str_tup, is_str_rol, is_str_non, is_list_int, is_list_bl, is_list_str, is_list_tup, is_list_rol, is_list_non, Bool.not_true, Bool.not_false, hn]
    simp [this, b_ok, b_ex, b_bad, o_ok, o_ex, o_bad, n_ok, s_seq, s_nx, s_rt, s_bk, s_ct, s_ex, e_var, e_c, e_bin, e_un, e_blt, e_if, e_and, e_or, e_chain, a_nil, a_cons, e_tup, e_lst, e_call, e_callK, e_met, e_sl, g_nx, g_expr, g_ret, g_retN, g_bk, g_ct, g_if, g_asg, g_par, g_raise, t_name, t_unp, t_nil, t_cons, t_sub, g_for, i_val, i_rng1, i_rng2, e_ref, f_rt, f_nx, f_ex, drop_id, g_aug, o_iadd, e_lc, w_nil, w_cons, e_yes, i_tup, i_rol, al, lim_eq, Nat.reduceLeDiff, Nat.reduceLT, x_t0, x_t1, x_t2, x_t3, l_tup, l_rol, u_tup, o_cmp, o_add, o_sub, o_neg, o_not, o_abs, o_int, o_max, o_min, q_int, q_nint, q_bl, q_nbl, q_str, q_nstr, fnD, List.map_cons, List.map_nil, List.length_cons, List.length_nil, List.replicate_succ, List.replicate_zero, List.cons_append, List.nil_append, List.append_nil, List.getElem?_cons_zero, List.getElem?_cons_succ, List.getElem?_nil, List.set_cons_zero, List.set_cons_succ, List.zip_cons_cons, List.zip_nil_left, List.foldl_cons, List.foldl_nil, Nat.reduceSub, Nat.reduceAdd, Nat.zero_add, Nat.add_zero, if_true, if_false, reduceIte, ite_true, ite_false, eq_self, and_true, true_and, and_self, decide_true, decide_false, is_int_int, is_int_bl, is_int_str, is_int_tup, is_int_rol, is_int_non, is_bool_int, is_bool_bl, is_bool_str, is_bool_tup, is_bool_rol, is_bool_non, is_tuple_int, is_tuple_bl, is_tuple_str, is_tuple_tup, is_tuple_rol, is_tuple_non, is_str_int, is_str_bl, is_str_str, is_str_tup, is_str_rol, is_str_non, is_list_int, is_list_bl, is_list_str, is_list_tup, is_list_rol, is_list_non, Bool.not_true, Bool.not_false, e6]
end Law
/-! the laws' dice -/
namespace Law
open PySem L2 DL
/-- dice at n, rolled at most k times without a script's number -/
def DOK (n k : Nat) (h : DH) : Prop := ∃ x y z : Int, h[n]? = some (.lst [.int x, .int y, .int z]) ∧ 0 ≤ x ∧ 0 ≤ y ∧ y < 2147480009 ∧ 0 ≤ z ∧ z ≤ k
/-- but for the dice all is as it was -/
def Fr (n : Nat) (h h' : DH) : Prop := h'.length = h.length ∧ ∀ i, i ≠ n → h'[i]? = h[i]?
/-- .. and what is new comes behind -/
def Grow (n : Nat) (h h' : DH) : Prop := h.length ≤ h'.length ∧ ∀ i, i < h.length → i ≠ n → h'[i]? = h[i]?
theorem Fr.refl {n : Nat} {h : DH} : Fr n h h := ⟨rfl, fun _ _ => rfl⟩
theorem Fr.trans {n : Nat} {h h1 h2 : DH} (a : Fr n h h1) (b : Fr n h1 h2) : Fr n h h2 := ⟨b.1.trans a.1, fun i hi => (b.2 i hi).trans (a.2 i hi)⟩
theorem Fr.grow {n : Nat} {h h1 : DH} (a : Fr n h h1) : Grow n h h1 := ⟨Nat.le_of_eq a.1.symm, fun i _ hi => a.2 i hi⟩
theorem Grow.refl {n : Nat} {h : DH} : Grow n h h := Fr.refl.grow
theorem Grow.trans {n : Nat} {h h1 h2 : DH} (a : Grow n h h1) (b : Grow n h1 h2) : Grow n h h2 := ⟨Nat.le_trans a.1 b.1, fun i hi hn => (b.2 i (Nat.lt_of_lt_of_le hi a.1) hn).trans (a.2 i hi hn)⟩
theorem Grow.add {n : Nat} {h j : DH} : Grow n h (h ++ j) := ⟨by simp, fun i hi _ => List.getElem?_append_left hi⟩
theorem DOK.mono {n k j : Nat} {h : DH} (d : DOK n k h) (l : k ≤ j) : DOK n j h := by
  obtain ⟨x, y, z, e, a, b, c, d, f⟩ := d
  exact ⟨x, y, z, e, a, b, c, d, by omega⟩
theorem DOK.lt {n k : Nat} {h : DH} (d : DOK n k h) : n < h.length := by
  obtain ⟨x, y, z, e, _⟩ := d
  exact (List.getElem?_eq_some_iff.mp e).1
theorem DOK.add {n k : Nat} {h : DH} (d : DOK n k h) (j : DH) : DOK n k (h ++ j) := by
  have l := d.lt
  obtain ⟨x, y, z, e, r⟩ := d
  exact ⟨x, y, z, by rw [List.getElem?_append_left l]; exact e, r⟩
theorem set_at {h : DH} {n : Nat} {o : MO} (l : n < h.length) : (h.set n o)[n]? = some o := List.getElem?_set_self l
theorem fr_set {h : DH} {n : Nat} {o : MO} : Fr n h (h.set n o) := ⟨by simp, fun i hi => List.getElem?_set_ne (Ne.symm hi)⟩
section
variable {h : DH} {n : Nat} {a b c : D} {r : List D}
theorem x_o0 (q : h[n]? = some (.lst (a :: r))) : oIx (.obj n) (.int 0) h = .ok a h := x_obj (n := 0) q rfl
theorem x_o1 (q : h[n]? = some (.lst (a :: b :: r))) : oIx (.obj n) (.int 1) h = .ok b h := x_obj (n := 1) q rfl
theorem x_o2 (q : h[n]? = some (.lst (a :: b :: c :: r))) : oIx (.obj n) (.int 2) h = .ok c h := x_obj (n := 2) q rfl
theorem o_set {xs : List D} {k : Int} {v : D} (q : h[n]? = some (.lst xs)) (h0 : 0 ≤ k) (h1 : k < xs.length) : oSet (.obj n) (.int k) v h = .ok .non (h.set n (.lst (xs.set k.toNat v))) := by
  show (match h[n]? with
    | some (.lst xs) => (match ixN xs.length k with
      | some j => Rs.ok D.non (h.set n (.lst (xs.set j v)))
      | none => .bad)
    | _ => .bad) = _
  rw [q]
  show (match ixN xs.length k with
      | some j => Rs.ok D.non (h.set n (.lst (xs.set j v)))
      | none => .bad) = _
  have e : ixN xs.length k = some k.toNat := by
    unfold L2.ixN
    rw [if_pos h0, if_pos h1]
  rw [e]
end
theorem roll_ok {n k : Nat} {h : DH} (d : DOK n k h) (hk : k ≤ 2 ^ 100) {m : Int} (hm : 0 < m) (hm2 : m.natAbs.log2 < 9000) :
    ∃ (r : Int) (h' : DH), f_law_roll [.obj n, .int m] h = .ok (.int r) h' ∧ 0 ≤ r ∧ r < m ∧ DOK n (k + 1) h' ∧ Fr n h h' := by
  have l := d.lt
  obtain ⟨x, y, z, e, hx, hy, hy2, hz, hz2⟩ := d
  unfold f_law_roll d_law_roll
  by_cases hp : 0 < x
  · have e1 := x_o0 e
    refine ⟨x % m, h.set n (.lst [.int (x / m), .int y, .int z]), ?_, Int.emod_nonneg _ (by omega), Int.emod_lt_of_pos _ hm, ⟨x / m, y, z, set_at l, Int.ediv_nonneg hx (by omega), hy, hy2, hz, by omega⟩, fr_set⟩
    simp only [b_ok, b_ex, b_bad, o_ok, o_ex, o_bad, n_ok, s_seq, s_nx, s_rt, s_bk, s_ct, s_ex, e_var, e_c, e_bin, e_un, e_blt, e_if, e_and, e_or, e_chain, a_nil, a_cons, e_tup, e_lst, e_call, e_callK, e_met, e_sl, g_nx, g_expr, g_ret, g_retN, g_bk, g_ct, g_if, g_asg, g_par, g_raise, t_name, t_unp, t_nil, t_cons, t_sub, g_for, i_val, i_rng1, i_rng2, e_ref, f_rt, f_nx, f_ex, drop_id, g_aug, o_iadd, e_lc, w_nil, w_cons, e_yes, i_tup, i_rol, al, lim_eq, Nat.reduceLeDiff, Nat.reduceLT, x_t0, x_t1, x_t2, x_t3, l_tup, l_rol, u_tup, o_cmp, o_add, o_sub, o_neg, o_not, o_abs, o_int, o_max, o_min, q_int, q_nint, q_bl, q_nbl, q_str, q_nstr, fnD, List.map_cons, List.map_nil, List.length_cons, List.length_nil, List.replicate_succ, List.replicate_zero, List.cons_append, List.nil_append, List.append_nil, List.getElem?_cons_zero, List.getElem?_cons_succ, List.getElem?_nil, List.set_cons_zero, List.set_cons_succ, List.zip_cons_cons, List.zip_nil_left, List.foldl_cons, List.foldl_nil, Nat.reduceSub, Nat.reduceAdd, Nat.zero_add, Nat.add_zero, if_true, if_false, reduceIte, ite_true, ite_false, eq_self, and_true, true_and, and_self, decide_true, decide_false, is_int_int, is_int_bl, is_int_str, is_int_tup, is_int_rol, is_int_non, is_bool_int, is_bool_bl, is_bool_str, is_bool_tup, is_bool_rol, is_bool_non, is_tuple_int, is_tuple_bl, is_tuple_str, is_tuple_tup, is_tuple_rol, is_tuple_non, is_str_int, is_str_bl, is_str_str, is_str_tup, is_str_rol, is_str_non, is_list_int, is_list_bl, is_list_str, is_list_tup, is_list_rol, is_list_non, Bool.not_true, Bool.not_false, e1, hp, o_mod hm, o_div hm hm2, o_set e (Int.le_refl 0) (by simp)]
    rw [drop_len (by simp)]
    rfl
  · have e1 := x_o0 e
    have e2 := x_o2 e
    have l1 : n < (h.set n (.lst [.int x, .int y, .int (z + 1)])).length := by simpa using l
    have q1 : (h.set n (.lst [.int x, .int y, .int (z + 1)]))[n]? = some (.lst [.int x, .int y, .int (z + 1)]) := set_at l
    have bz : big (z + 1) := big_of (n := 101) (by omega) (by omega)
    have bz2 : big ((z + 1) * (z + 1)) := big_of (n := 202) (by
      rw [Int.natAbs_mul]
      exact mul_lt (n := 101) (m := 101) (by omega) (by omega)) (by omega)
    have b1 : big y := big_of (n := 100) (by omega) (by omega)
    refine ⟨((y * 52501 + (z + 1) * (z + 1) * 1009 + 77) % 2147480009 / 211) % m, h.set n (.lst [.int x, .int ((y * 52501 + (z + 1) * (z + 1) * 1009 + 77) % 2147480009), .int (z + 1)]), ?_, Int.emod_nonneg _ (by omega), Int.emod_lt_of_pos _ hm,
      ⟨x, _, z + 1, set_at l, hx, Int.emod_nonneg _ (by omega), Int.emod_lt_of_pos _ (by omega), by omega, by omega⟩, fr_set⟩
    have bb : big 52501 := by decide
    have bc : big 1009 := by decide
    have q2 : ((h.set n (.lst [.int x, .int y, .int (z + 1)])).set n (.lst [.int x, .int ((y * 52501 + (z + 1) * (z + 1) * 1009 + 77) % 2147480009), .int (z + 1)])) = h.set n (.lst [.int x, .int ((y * 52501 + (z + 1) * (z + 1) * 1009 + 77) % 2147480009), .int (z + 1)]) := List.set_set ..
    have q3 : (h.set n (.lst [.int x, .int ((y * 52501 + (z + 1) * (z + 1) * 1009 + 77) % 2147480009), .int (z + 1)]))[n]? = some (.lst [.int x, .int ((y * 52501 + (z + 1) * (z + 1) * 1009 + 77) % 2147480009), .int (z + 1)]) := set_at l
    have s1 := o_set (v := .int (z + 1)) e (k := 2) (by omega) (by simp)
    have s2 := o_set (v := .int ((y * 52501 + (z + 1) * (z + 1) * 1009 + 77) % 2147480009)) q1 (k := 1) (by omega) (by simp)
    have t1 : (2 : Int).toNat = 2 := rfl
    have t2 : (1 : Int).toNat = 1 := rfl
    rw [t1] at s1
    rw [t2] at s2
    simp only [b_ok, b_ex, b_bad, o_ok, o_ex, o_bad, n_ok, s_seq, s_nx, s_rt, s_bk, s_ct, s_ex, e_var, e_c, e_bin, e_un, e_blt, e_if, e_and, e_or, e_chain, a_nil, a_cons, e_tup, e_lst, e_call, e_callK, e_met, e_sl, g_nx, g_expr, g_ret, g_retN, g_bk, g_ct, g_if, g_asg, g_par, g_raise, t_name, t_unp, t_nil, t_cons, t_sub, g_for, i_val, i_rng1, i_rng2, e_ref, f_rt, f_nx, f_ex, drop_id, g_aug, o_iadd, e_lc, w_nil, w_cons, e_yes, i_tup, i_rol, al, lim_eq, Nat.reduceLeDiff, Nat.reduceLT, x_t0, x_t1, x_t2, x_t3, l_tup, l_rol, u_tup, o_cmp, o_add, o_sub, o_neg, o_not, o_abs, o_int, o_max, o_min, q_int, q_nint, q_bl, q_nbl, q_str, q_nstr, fnD, List.map_cons, List.map_nil, List.length_cons, List.length_nil, List.replicate_succ, List.replicate_zero, List.cons_append, List.nil_append, List.append_nil, List.getElem?_cons_zero, List.getElem?_cons_succ, List.getElem?_nil, List.set_cons_zero, List.set_cons_succ, List.zip_cons_cons, List.zip_nil_left, List.foldl_cons, List.foldl_nil, Nat.reduceSub, Nat.reduceAdd, Nat.zero_add, Nat.add_zero, if_true, if_false, reduceIte, ite_true, ite_false, eq_self, and_true, true_and, and_self, decide_true, decide_false, is_int_int, is_int_bl, is_int_str, is_int_tup, is_int_rol, is_int_non, is_bool_int, is_bool_bl, is_bool_str, is_bool_tup, is_bool_rol, is_bool_non, is_tuple_int, is_tuple_bl, is_tuple_str, is_tuple_tup, is_tuple_rol, is_tuple_non, is_str_int, is_str_bl, is_str_str, is_str_tup, is_str_rol, is_str_non, is_list_int, is_list_bl, is_list_str, is_list_tup, is_list_rol, is_list_non, Bool.not_true, Bool.not_false] at s1 s2
    rw [q2] at s2
    simp only [b_ok, b_ex, b_bad, o_ok, o_ex, o_bad, n_ok, s_seq, s_nx, s_rt, s_bk, s_ct, s_ex, e_var, e_c, e_bin, e_un, e_blt, e_if, e_and, e_or, e_chain, a_nil, a_cons, e_tup, e_lst, e_call, e_callK, e_met, e_sl, g_nx, g_expr, g_ret, g_retN, g_bk, g_ct, g_if, g_asg, g_par, g_raise, t_name, t_unp, t_nil, t_cons, t_sub, g_for, i_val, i_rng1, i_rng2, e_ref, f_rt, f_nx, f_ex, drop_id, g_aug, o_iadd, e_lc, w_nil, w_cons, e_yes, i_tup, i_rol, al, lim_eq, Nat.reduceLeDiff, Nat.reduceLT, x_t0, x_t1, x_t2, x_t3, l_tup, l_rol, u_tup, o_cmp, o_add, o_sub, o_neg, o_not, o_abs, o_int, o_max, o_min, q_int, q_nint, q_bl, q_nbl, q_str, q_nstr, fnD, List.map_cons, List.map_nil, List.length_cons, List.length_nil, List.replicate_succ, List.replicate_zero, List.cons_append, List.nil_append, List.append_nil, List.getElem?_cons_zero, List.getElem?_cons_succ, List.getElem?_nil, List.set_cons_zero, List.set_cons_succ, List.zip_cons_cons, List.zip_nil_left, List.foldl_cons, List.foldl_nil, Nat.reduceSub, Nat.reduceAdd, Nat.zero_add, Nat.add_zero, if_true, if_false, reduceIte, ite_true, ite_false, eq_self, and_true, true_and, and_self, decide_true, decide_false, is_int_int, is_int_bl, is_int_str, is_int_tup, is_int_rol, is_int_non, is_bool_int, is_bool_bl, is_bool_str, is_bool_tup, is_bool_rol, is_bool_non, is_tuple_int, is_tuple_bl, is_tuple_str, is_tuple_tup, is_tuple_rol, is_tuple_non, is_str_int, is_str_bl, is_str_str, is_str_tup, is_str_rol, is_str_non, is_list_int, is_list_bl, is_list_str, is_list_tup, is_list_rol, is_list_non, Bool.not_true, Bool.not_false, e1, hp, e2, s1, x_o1 q1, x_o2 q1, o_mul b1 bb, o_mul bz bz, o_mul bz2 bc, o_mod (show (0 : Int) < 2147480009 by omega), s2, x_o1 q3, o_div (show (0 : Int) < 211 by omega) (show (211 : Int).natAbs.log2 < 9000 by decide), o_mod hm]
    rw [drop_len (by simp)]
/-- a pick off a list -/
theorem pick_ok {n k m : Nat} {h : DH} {xs : List D} (d : DOK n k h) (hk : k ≤ 2 ^ 100) (q : h[m]? = some (.lst xs)) (hmn : m ≠ n) (hx : xs ≠ []) (hl : xs.length < 1000000) :
    ∃ (i : Nat) (x : D) (h' : DH), xs[i]? = some x ∧ f_law_pick [.obj n, .obj m] h = .ok x h' ∧ DOK n (k + 1) h' ∧ Fr n h h' := by
  have l0 : 0 < xs.length := List.length_pos_iff.mpr hx
  obtain ⟨r, h', e, r0, r1, d', f⟩ := roll_ok d hk (m := (xs.length : Int)) (by omega) (by
    rw [Int.natAbs_natCast]
    exact log_lt (Nat.lt_of_lt_of_le (m := 2 ^ 20) (by omega) (Nat.pow_le_pow_right (by omega) (by omega))) (by omega))
  have hi : r.toNat < xs.length := by omega
  refine ⟨r.toNat, xs[r.toNat], h', List.getElem?_eq_getElem hi, ?_, d', f⟩
  unfold f_law_pick d_law_pick
  have q' : h'[m]? = some (.lst xs) := by rw [f.2 m hmn]; exact q
  have e2 := x_obj (n := r.toNat) q' (List.getElem?_eq_getElem hi)
  rw [show ((r.toNat : Nat) : Int) = r by omega] at e2
  simp only [b_ok, b_ex, b_bad, o_ok, o_ex, o_bad, n_ok, s_seq, s_nx, s_rt, s_bk, s_ct, s_ex, e_var, e_c, e_bin, e_un, e_blt, e_if, e_and, e_or, e_chain, a_nil, a_cons, e_tup, e_lst, e_call, e_callK, e_met, e_sl, g_nx, g_expr, g_ret, g_retN, g_bk, g_ct, g_if, g_asg, g_par, g_raise, t_name, t_unp, t_nil, t_cons, t_sub, g_for, i_val, i_rng1, i_rng2, e_ref, f_rt, f_nx, f_ex, drop_id, g_aug, o_iadd, e_lc, w_nil, w_cons, e_yes, i_tup, i_rol, al, lim_eq, Nat.reduceLeDiff, Nat.reduceLT, x_t0, x_t1, x_t2, x_t3, l_tup, l_rol, u_tup, o_cmp, o_add, o_sub, o_neg, o_not, o_abs, o_int, o_max, o_min, q_int, q_nint, q_bl, q_nbl, q_str, q_nstr, fnD, List.map_cons, List.map_nil, List.length_cons, List.length_nil, List.replicate_succ, List.replicate_zero, List.cons_append, List.nil_append, List.append_nil, List.getElem?_cons_zero, List.getElem?_cons_succ, List.getElem?_nil, List.set_cons_zero, List.set_cons_succ, List.zip_cons_cons, List.zip_nil_left, List.foldl_cons, List.foldl_nil, Nat.reduceSub, Nat.reduceAdd, Nat.zero_add, Nat.add_zero, if_true, if_false, reduceIte, ite_true, ite_false, eq_self, and_true, true_and, and_self, decide_true, decide_false, is_int_int, is_int_bl, is_int_str, is_int_tup, is_int_rol, is_int_non, is_bool_int, is_bool_bl, is_bool_str, is_bool_tup, is_bool_rol, is_bool_non, is_tuple_int, is_tuple_bl, is_tuple_str, is_tuple_tup, is_tuple_rol, is_tuple_non, is_str_int, is_str_bl, is_str_str, is_str_tup, is_str_rol, is_str_non, is_list_int, is_list_bl, is_list_str, is_list_tup, is_list_rol, is_list_non, Bool.not_true, Bool.not_false, l_obj q, e, e2]
  rw [drop_len f.1]
theorem pick_tup {n k : Nat} {h : DH} {xs : List D} (d : DOK n k h) (hk : k ≤ 2 ^ 100) (hx : xs ≠ []) (hl : xs.length < 1000000) :
    ∃ (i : Nat) (x : D) (h' : DH), xs[i]? = some x ∧ f_law_pick [.obj n, .tup xs] h = .ok x h' ∧ DOK n (k + 1) h' ∧ Fr n h h' := by
  have l0 : 0 < xs.length := List.length_pos_iff.mpr hx
  obtain ⟨r, h', e, r0, r1, d', f⟩ := roll_ok d hk (m := (xs.length : Int)) (by omega) (by
    rw [Int.natAbs_natCast]
    exact log_lt (Nat.lt_of_lt_of_le (m := 2 ^ 20) (by omega) (Nat.pow_le_pow_right (by omega) (by omega))) (by omega))
  have hi : r.toNat < xs.length := by omega
  refine ⟨r.toNat, xs[r.toNat], h', List.getElem?_eq_getElem hi, ?_, d', f⟩
  unfold f_law_pick d_law_pick
  have e2 := x_tup (h := h') (n := r.toNat) (List.getElem?_eq_getElem hi)
  rw [show ((r.toNat : Nat) : Int) = r by omega] at e2
  simp only [b_ok, b_ex, b_bad, o_ok, o_ex, o_bad, n_ok, s_seq, s_nx, s_rt, s_bk, s_ct, s_ex, e_var, e_c, e_bin, e_un, e_blt, e_if, e_and, e_or, e_chain, a_nil, a_cons, e_tup, e_lst, e_call, e_callK, e_met, e_sl, g_nx, g_expr, g_ret, g_retN, g_bk, g_ct, g_if, g_asg, g_par, g_raise, t_name, t_unp, t_nil, t_cons, t_sub, g_for, i_val, i_rng1, i_rng2, e_ref, f_rt, f_nx, f_ex, drop_id, g_aug, o_iadd, e_lc, w_nil, w_cons, e_yes, i_tup, i_rol, al, lim_eq, Nat.reduceLeDiff, Nat.reduceLT, x_t0, x_t1, x_t2, x_t3, l_tup, l_rol, u_tup, o_cmp, o_add, o_sub, o_neg, o_not, o_abs, o_int, o_max, o_min, q_int, q_nint, q_bl, q_nbl, q_str, q_nstr, fnD, List.map_cons, List.map_nil, List.length_cons, List.length_nil, List.replicate_succ, List.replicate_zero, List.cons_append, List.nil_append, List.append_nil, List.getElem?_cons_zero, List.getElem?_cons_succ, List.getElem?_nil, List.set_cons_zero, List.set_cons_succ, List.zip_cons_cons, List.zip_nil_left, List.foldl_cons, List.foldl_nil, Nat.reduceSub, Nat.reduceAdd, Nat.zero_add, Nat.add_zero, if_true, if_false, reduceIte, ite_true, ite_false, eq_self, and_true, true_and, and_self, decide_true, decide_false, is_int_int, is_int_bl, is_int_str, is_int_tup, is_int_rol, is_int_non, is_bool_int, is_bool_bl, is_bool_str, is_bool_tup, is_bool_rol, is_bool_non, is_tuple_int, is_tuple_bl, is_tuple_str, is_tuple_tup, is_tuple_rol, is_tuple_non, is_str_int, is_str_bl, is_str_str, is_str_tup, is_str_rol, is_str_non, is_list_int, is_list_bl, is_list_str, is_list_tup, is_list_rol, is_list_non, Bool.not_true, Bool.not_false, e, e2]
  rw [drop_len f.1]
/-- a def that has the dice ends: what is new is thrown away -/
theorem ret_dice {n k : Nat} {h h1 : DH} {d : D} (g : Grow n h h1) (dk : DOK n k h1) (hn : n < h.length) (hb : D.bel h.length d = true) : ∃ h', DL.finish h (.rt d h1) = .ok d h' ∧ Fr n h h' ∧ DOK n k h' := by
  have hd : drop h d h1 = h1.take h.length := by
    unfold drop
    rw [if_pos]
    refine ⟨hb, g.1, fun i o hi e => ?_⟩
    by_cases z : i = n
    · subst z
      obtain ⟨x, y, zz, e1, _⟩ := dk
      rw [e1] at e
      cases e
      exact .inr rfl
    · rw [g.2 i hi z] at e
      exact .inl e
  refine ⟨h1.take h.length, by rw [f_rt, hd], ⟨?_, fun i hi => ?_⟩, ?_⟩
  · rw [List.length_take]
    have := g.1
    omega
  · by_cases l : i < h.length
    · rw [List.getElem?_take_of_lt l]
      exact g.2 i l hi
    · rw [List.getElem?_eq_none (by rw [List.length_take]; omega), List.getElem?_eq_none (by omega)]
  · obtain ⟨x, y, z, e, r⟩ := dk
    exact ⟨x, y, z, by rw [List.getElem?_take_of_lt hn]; exact e, r⟩
theorem law_add_ok {p q : Rat} {n m : Nat} (hp : sm n p) (hq : sm m q) (hs : n + m ≤ 2998) (h : DH) : f_law_add [fr p, fr q] h = .ok (fr (p + q)) h := by
  unfold f_law_add d_law_add
  have hz : ((p.den : Int) * q.den).natAbs.log2 < 2999 := by
    refine log_lt (Nat.lt_of_lt_of_le (m := 2 ^ (n + m)) ?_ (Nat.pow_le_pow_right (by omega) (by omega))) (by omega)
    rw [Int.natAbs_mul]
    exact mul_lt (by simpa using hp.2) (by simpa using hq.2)
  simp only [fr, b_ok, b_ex, b_bad, o_ok, o_ex, o_bad, n_ok, s_seq, s_nx, s_rt, s_bk, s_ct, s_ex, e_var, e_c, e_bin, e_un, e_blt, e_if, e_and, e_or, e_chain, a_nil, a_cons, e_tup, e_lst, e_call, e_callK, e_met, e_sl, g_nx, g_expr, g_ret, g_retN, g_bk, g_ct, g_if, g_asg, g_par, g_raise, t_name, t_unp, t_nil, t_cons, t_sub, g_for, i_val, i_rng1, i_rng2, e_ref, f_rt, f_nx, f_ex, drop_id, g_aug, o_iadd, e_lc, w_nil, w_cons, e_yes, i_tup, i_rol, al, lim_eq, Nat.reduceLeDiff, Nat.reduceLT, x_t0, x_t1, x_t2, x_t3, l_tup, l_rol, u_tup, o_cmp, o_add, o_sub, o_neg, o_not, o_abs, o_int, o_max, o_min, q_int, q_nint, q_bl, q_nbl, q_str, q_nstr, fnD, List.map_cons, List.map_nil, List.length_cons, List.length_nil, List.replicate_succ, List.replicate_zero, List.cons_append, List.nil_append, List.append_nil, List.getElem?_cons_zero, List.getElem?_cons_succ, List.getElem?_nil, List.set_cons_zero, List.set_cons_succ, List.zip_cons_cons, List.zip_nil_left, List.foldl_cons, List.foldl_nil, Nat.reduceSub, Nat.reduceAdd, Nat.zero_add, Nat.add_zero, if_true, if_false, reduceIte, ite_true, ite_false, eq_self, and_true, true_and, and_self, decide_true, decide_false, is_int_int, is_int_bl, is_int_str, is_int_tup, is_int_rol, is_int_non, is_bool_int, is_bool_bl, is_bool_str, is_bool_tup, is_bool_rol, is_bool_non, is_tuple_int, is_tuple_bl, is_tuple_str, is_tuple_tup, is_tuple_rol, is_tuple_non, is_str_int, is_str_bl, is_str_str, is_str_tup, is_str_rol, is_str_non, is_list_int, is_list_bl, is_list_str, is_list_tup, is_list_rol, is_list_non, Bool.not_true, Bool.not_false, o_mul (hp.bn (by omega)) (hq.bd (by omega)), o_mul (hq.bn (by omega)) (hp.bd (by omega)), o_mul (hp.bd (by omega)) (hq.bd (by omega)), law_f_ok _ _ (Int.mul_ne_zero (den_ne p) (den_ne q)) hz, add_eq]
theorem law_mul_ok {p q : Rat} {n m : Nat} (hp : sm n p) (hq : sm m q) (hs : n + m ≤ 2998) (h : DH) : f_law_mul [fr p, fr q] h = .ok (fr (p * q)) h := by
  unfold f_law_mul d_law_mul
  have hz : ((p.den : Int) * q.den).natAbs.log2 < 2999 := by
    refine log_lt (Nat.lt_of_lt_of_le (m := 2 ^ (n + m)) ?_ (Nat.pow_le_pow_right (by omega) (by omega))) (by omega)
    rw [Int.natAbs_mul]
    exact mul_lt (by simpa using hp.2) (by simpa using hq.2)
  simp only [fr, b_ok, b_ex, b_bad, o_ok, o_ex, o_bad, n_ok, s_seq, s_nx, s_rt, s_bk, s_ct, s_ex, e_var, e_c, e_bin, e_un, e_blt, e_if, e_and, e_or, e_chain, a_nil, a_cons, e_tup, e_lst, e_call, e_callK, e_met, e_sl, g_nx, g_expr, g_ret, g_retN, g_bk, g_ct, g_if, g_asg, g_par, g_raise, t_name, t_unp, t_nil, t_cons, t_sub, g_for, i_val, i_rng1, i_rng2, e_ref, f_rt, f_nx, f_ex, drop_id, g_aug, o_iadd, e_lc, w_nil, w_cons, e_yes, i_tup, i_rol, al, lim_eq, Nat.reduceLeDiff, Nat.reduceLT, x_t0, x_t1, x_t2, x_t3, l_tup, l_rol, u_tup, o_cmp, o_add, o_sub, o_neg, o_not, o_abs, o_int, o_max, o_min, q_int, q_nint, q_bl, q_nbl, q_str, q_nstr, fnD, List.map_cons, List.map_nil, List.length_cons, List.length_nil, List.replicate_succ, List.replicate_zero, List.cons_append, List.nil_append, List.append_nil, List.getElem?_cons_zero, List.getElem?_cons_succ, List.getElem?_nil, List.set_cons_zero, List.set_cons_succ, List.zip_cons_cons, List.zip_nil_left, List.foldl_cons, List.foldl_nil, Nat.reduceSub, Nat.reduceAdd, Nat.zero_add, Nat.add_zero, if_true, if_false, reduceIte, ite_true, ite_false, eq_self, and_true, true_and, and_self, decide_true, decide_false, is_int_int, is_int_bl, is_int_str, is_int_tup, is_int_rol, is_int_non, is_bool_int, is_bool_bl, is_bool_str, is_bool_tup, is_bool_rol, is_bool_non, is_tuple_int, is_tuple_bl, is_tuple_str, is_tuple_tup, is_tuple_rol, is_tuple_non, is_str_int, is_str_bl, is_str_str, is_str_tup, is_str_rol, is_str_non, is_list_int, is_list_bl, is_list_str, is_list_tup, is_list_rol, is_list_non, Bool.not_true, Bool.not_false, o_mul (hp.bn (by omega)) (hq.bn (by omega)), o_mul (hp.bd (by omega)) (hq.bd (by omega)), law_f_ok _ _ (Int.mul_ne_zero (den_ne p) (den_ne q)) hz, mul_eq]
theorem law_neg_ok (q : Rat) (h : DH) : f_law_neg [fr q] h = .ok (fr (-q)) h := by
  unfold f_law_neg d_law_neg
  simp only [fr, b_ok, b_ex, b_bad, o_ok, o_ex, o_bad, n_ok, s_seq, s_nx, s_rt, s_bk, s_ct, s_ex, e_var, e_c, e_bin, e_un, e_blt, e_if, e_and, e_or, e_chain, a_nil, a_cons, e_tup, e_lst, e_call, e_callK, e_met, e_sl, g_nx, g_expr, g_ret, g_retN, g_bk, g_ct, g_if, g_asg, g_par, g_raise, t_name, t_unp, t_nil, t_cons, t_sub, g_for, i_val, i_rng1, i_rng2, e_ref, f_rt, f_nx, f_ex, drop_id, g_aug, o_iadd, e_lc, w_nil, w_cons, e_yes, i_tup, i_rol, al, lim_eq, Nat.reduceLeDiff, Nat.reduceLT, x_t0, x_t1, x_t2, x_t3, l_tup, l_rol, u_tup, o_cmp, o_add, o_sub, o_neg, o_not, o_abs, o_int, o_max, o_min, q_int, q_nint, q_bl, q_nbl, q_str, q_nstr, fnD, List.map_cons, List.map_nil, List.length_cons, List.length_nil, List.replicate_succ, List.replicate_zero, List.cons_append, List.nil_append, List.append_nil, List.getElem?_cons_zero, List.getElem?_cons_succ, List.getElem?_nil, List.set_cons_zero, List.set_cons_succ, List.zip_cons_cons, List.zip_nil_left, List.foldl_cons, List.foldl_nil, Nat.reduceSub, Nat.reduceAdd, Nat.zero_add, Nat.add_zero, if_true, if_false, reduceIte, ite_true, ite_false, eq_self, and_true, true_and, and_self, decide_true, decide_false, is_int_int, is_int_bl, is_int_str, is_int_tup, is_int_rol, is_int_non, is_bool_int, is_bool_bl, is_bool_str, is_bool_tup, is_bool_rol, is_bool_non, is_tuple_int, is_tuple_bl, is_tuple_str, is_tuple_tup, is_tuple_rol, is_tuple_non, is_str_int, is_str_bl, is_str_str, is_str_tup, is_str_rol, is_str_non, is_list_int, is_list_bl, is_list_str, is_list_tup, is_list_rol, is_list_non, Bool.not_true, Bool.not_false, lim2, Rat.neg_num, Rat.neg_den]
  rw [show (0 : Int) - q.num = -q.num by omega]
theorem law_div_ok {p q : Rat} {n m : Nat} (hp : sm n p) (hq : sm m q) (hs : n + m ≤ 2998) (h0 : q ≠ 0) (h : DH) : f_law_div [fr p, fr q] h = .ok (fr (p / q)) h := by
  unfold f_law_div d_law_div
  have hz : ((p.den : Int) * q.num).natAbs.log2 < 2999 := by
    refine log_lt (Nat.lt_of_lt_of_le (m := 2 ^ (n + m)) ?_ (Nat.pow_le_pow_right (by omega) (by omega))) (by omega)
    rw [Int.natAbs_mul]
    exact mul_lt (by simpa using hp.2) hq.1
  simp only [fr, b_ok, b_ex, b_bad, o_ok, o_ex, o_bad, n_ok, s_seq, s_nx, s_rt, s_bk, s_ct, s_ex, e_var, e_c, e_bin, e_un, e_blt, e_if, e_and, e_or, e_chain, a_nil, a_cons, e_tup, e_lst, e_call, e_callK, e_met, e_sl, g_nx, g_expr, g_ret, g_retN, g_bk, g_ct, g_if, g_asg, g_par, g_raise, t_name, t_unp, t_nil, t_cons, t_sub, g_for, i_val, i_rng1, i_rng2, e_ref, f_rt, f_nx, f_ex, drop_id, g_aug, o_iadd, e_lc, w_nil, w_cons, e_yes, i_tup, i_rol, al, lim_eq, Nat.reduceLeDiff, Nat.reduceLT, x_t0, x_t1, x_t2, x_t3, l_tup, l_rol, u_tup, o_cmp, o_add, o_sub, o_neg, o_not, o_abs, o_int, o_max, o_min, q_int, q_nint, q_bl, q_nbl, q_str, q_nstr, fnD, List.map_cons, List.map_nil, List.length_cons, List.length_nil, List.replicate_succ, List.replicate_zero, List.cons_append, List.nil_append, List.append_nil, List.getElem?_cons_zero, List.getElem?_cons_succ, List.getElem?_nil, List.set_cons_zero, List.set_cons_succ, List.zip_cons_cons, List.zip_nil_left, List.foldl_cons, List.foldl_nil, Nat.reduceSub, Nat.reduceAdd, Nat.zero_add, Nat.add_zero, if_true, if_false, reduceIte, ite_true, ite_false, eq_self, and_true, true_and, and_self, decide_true, decide_false, is_int_int, is_int_bl, is_int_str, is_int_tup, is_int_rol, is_int_non, is_bool_int, is_bool_bl, is_bool_str, is_bool_tup, is_bool_rol, is_bool_non, is_tuple_int, is_tuple_bl, is_tuple_str, is_tuple_tup, is_tuple_rol, is_tuple_non, is_str_int, is_str_bl, is_str_str, is_str_tup, is_str_rol, is_str_non, is_list_int, is_list_bl, is_list_str, is_list_tup, is_list_rol, is_list_non, Bool.not_true, Bool.not_false, o_mul (hp.bn (by omega)) (hq.bd (by omega)), o_mul (hp.bd (by omega)) (hq.bn (by omega)), law_f_ok _ _ (Int.mul_ne_zero (den_ne p) (num_ne h0)) hz, div_eq]
/-- small enough for the program -/
def good (q : Rat) : Prop := q.num.natAbs ≤ 1000000000000 ∧ q.den ≤ 1000000000000
theorem good.sm {q : Rat} (g : good q) : sm 40 q := ⟨Nat.lt_of_le_of_lt g.1 (by decide), Nat.lt_of_le_of_lt g.2 (by decide)⟩
theorem good_num {q : Rat} (g : good q) : isNum (fr q) = true := by
  rw [isNum_fr]
  simp [g.1, g.2]
theorem good_div {a b : Int} (hb : b ≠ 0) (ha : a.natAbs ≤ 1000000000000) (hb2 : b.natAbs ≤ 1000000000000) : good (Rat.divInt a b) := by
  obtain ⟨h1, h2⟩ := num_le (a := a) hb
  exact ⟨Nat.le_trans h1 ha, Nat.le_trans h2 hb2⟩
theorem log40 {b : Int} (hb2 : b.natAbs ≤ 1000000000000) : b.natAbs.log2 < 2999 :=
  Nat.lt_of_lt_of_le (log_lt (n := 40) (Nat.lt_of_le_of_lt hb2 (by decide)) (by omega)) (by omega)
theorem num_ok {n k : Nat} {h : DH} (d : DOK n k h) (hk : k + 10 ≤ 2 ^ 100) : ∃ (q : Rat) (h' : DH), f_law_num [.obj n] h = .ok (fr q) h' ∧ good q ∧ DOK n (k + 4) h' ∧ Fr n h h' := by
  have ln := d.lt
  obtain ⟨r, h1, e1, r0, r1, d1, g1⟩ := roll_ok d (by omega) (m := 8) (by omega) (by decide)
  unfold f_law_num d_law_num
  have fin : ∀ (a b : Int) (k' : Nat) (h2 : DH), b ≠ 0 → a.natAbs ≤ 1000000000000 → b.natAbs ≤ 1000000000000 → Fr n h h2 → DOK n k' h2 → k' ≤ k + 4 →
      ∃ (q : Rat) (h' : DH), Rs.ok (fr (Rat.divInt a b)) (drop h (fr (Rat.divInt a b)) h2) = .ok (fr q) h' ∧ good q ∧ DOK n (k + 4) h' ∧ Fr n h h' := by
    intro a b k' h2 hb ha hb2 g d' hk'
    rw [drop_len g.1]
    exact ⟨_, _, rfl, good_div hb ha hb2, d'.mono hk', g⟩
  by_cases c1 : r < 2
  · simp only [b_ok, b_ex, b_bad, o_ok, o_ex, o_bad, n_ok, s_seq, s_nx, s_rt, s_bk, s_ct, s_ex, e_var, e_c, e_bin, e_un, e_blt, e_if, e_and, e_or, e_chain, a_nil, a_cons, e_tup, e_lst, e_call, e_callK, e_met, e_sl, g_nx, g_expr, g_ret, g_retN, g_bk, g_ct, g_if, g_asg, g_par, g_raise, t_name, t_unp, t_nil, t_cons, t_sub, g_for, i_val, i_rng1, i_rng2, e_ref, f_rt, f_nx, f_ex, drop_id, g_aug, o_iadd, e_lc, w_nil, w_cons, e_yes, i_tup, i_rol, al, lim_eq, Nat.reduceLeDiff, Nat.reduceLT, x_t0, x_t1, x_t2, x_t3, l_tup, l_rol, u_tup, o_cmp, o_add, o_sub, o_neg, o_not, o_abs, o_int, o_max, o_min, q_int, q_nint, q_bl, q_nbl, q_str, q_nstr, fnD, List.map_cons, List.map_nil, List.length_cons, List.length_nil, List.replicate_succ, List.replicate_zero, List.cons_append, List.nil_append, List.append_nil, List.getElem?_cons_zero, List.getElem?_cons_succ, List.getElem?_nil, List.set_cons_zero, List.set_cons_succ, List.zip_cons_cons, List.zip_nil_left, List.foldl_cons, List.foldl_nil, Nat.reduceSub, Nat.reduceAdd, Nat.zero_add, Nat.add_zero, if_true, if_false, reduceIte, ite_true, ite_false, eq_self, and_true, true_and, and_self, decide_true, decide_false, is_int_int, is_int_bl, is_int_str, is_int_tup, is_int_rol, is_int_non, is_bool_int, is_bool_bl, is_bool_str, is_bool_tup, is_bool_rol, is_bool_non, is_tuple_int, is_tuple_bl, is_tuple_str, is_tuple_tup, is_tuple_rol, is_tuple_non, is_str_int, is_str_bl, is_str_str, is_str_tup, is_str_rol, is_str_non, is_list_int, is_list_bl, is_list_str, is_list_tup, is_list_rol, is_list_non, Bool.not_true, Bool.not_false, e1, c1]
    have ln1 : n < h1.length := d1.lt
    have q1 : (h1 ++ [MO.lst [.tup [.int 0, .int 1], .tup [.int 1, .int 1], .tup [.int (-1), .int 1], .tup [.int 2, .int 1], .tup [.int 1, .int 2]]])[h1.length]? = some (.lst [.tup [.int 0, .int 1], .tup [.int 1, .int 1], .tup [.int (-1), .int 1], .tup [.int 2, .int 1], .tup [.int 1, .int 2]]) := at_new
    obtain ⟨i, x, h2, ei, e2, d2, g2⟩ := pick_ok (d1.add _) (by omega) q1 (by omega) (by simp) (by simp)
    rw [e2]
    simp only [b_ok, b_ex, b_bad, o_ok, o_ex, o_bad, n_ok, s_seq, s_nx, s_rt, s_bk, s_ct, s_ex, e_var, e_c, e_bin, e_un, e_blt, e_if, e_and, e_or, e_chain, a_nil, a_cons, e_tup, e_lst, e_call, e_callK, e_met, e_sl, g_nx, g_expr, g_ret, g_retN, g_bk, g_ct, g_if, g_asg, g_par, g_raise, t_name, t_unp, t_nil, t_cons, t_sub, g_for, i_val, i_rng1, i_rng2, e_ref, f_rt, f_nx, f_ex, drop_id, g_aug, o_iadd, e_lc, w_nil, w_cons, e_yes, i_tup, i_rol, al, lim_eq, Nat.reduceLeDiff, Nat.reduceLT, x_t0, x_t1, x_t2, x_t3, l_tup, l_rol, u_tup, o_cmp, o_add, o_sub, o_neg, o_not, o_abs, o_int, o_max, o_min, q_int, q_nint, q_bl, q_nbl, q_str, q_nstr, fnD, List.map_cons, List.map_nil, List.length_cons, List.length_nil, List.replicate_succ, List.replicate_zero, List.cons_append, List.nil_append, List.append_nil, List.getElem?_cons_zero, List.getElem?_cons_succ, List.getElem?_nil, List.set_cons_zero, List.set_cons_succ, List.zip_cons_cons, List.zip_nil_left, List.foldl_cons, List.foldl_nil, Nat.reduceSub, Nat.reduceAdd, Nat.zero_add, Nat.add_zero, if_true, if_false, reduceIte, ite_true, ite_false, eq_self, and_true, true_and, and_self, decide_true, decide_false, is_int_int, is_int_bl, is_int_str, is_int_tup, is_int_rol, is_int_non, is_bool_int, is_bool_bl, is_bool_str, is_bool_tup, is_bool_rol, is_bool_non, is_tuple_int, is_tuple_bl, is_tuple_str, is_tuple_tup, is_tuple_rol, is_tuple_non, is_str_int, is_str_bl, is_str_str, is_str_tup, is_str_rol, is_str_non, is_list_int, is_list_bl, is_list_str, is_list_tup, is_list_rol, is_list_non, Bool.not_true, Bool.not_false]
    have gq : ∃ q : Rat, x = fr q ∧ good q := by
      match i, ei with
      | 0, ei => cases ei; exact ⟨0, rfl, by decide, by decide⟩
      | 1, ei => cases ei; exact ⟨1, rfl, by decide, by decide⟩
      | 2, ei => cases ei; exact ⟨-1, rfl, by decide, by decide⟩
      | 3, ei => cases ei; exact ⟨2, rfl, by decide, by decide⟩
      | 4, ei => cases ei; exact ⟨Rat.divInt 1 2, rfl, by decide, by decide⟩
      | i + 5, ei => simp at ei
    obtain ⟨q, rfl, gq⟩ := gq
    obtain ⟨h', e', f', d'⟩ := ret_dice (d := fr q) (g1.grow.trans (Grow.add.trans g2.grow)) d2 ln rfl
    rw [f_rt] at e'
    rw [e']
    exact ⟨q, h', rfl, gq, d'.mono (by omega), f'⟩
  · simp only [b_ok, b_ex, b_bad, o_ok, o_ex, o_bad, n_ok, s_seq, s_nx, s_rt, s_bk, s_ct, s_ex, e_var, e_c, e_bin, e_un, e_blt, e_if, e_and, e_or, e_chain, a_nil, a_cons, e_tup, e_lst, e_call, e_callK, e_met, e_sl, g_nx, g_expr, g_ret, g_retN, g_bk, g_ct, g_if, g_asg, g_par, g_raise, t_name, t_unp, t_nil, t_cons, t_sub, g_for, i_val, i_rng1, i_rng2, e_ref, f_rt, f_nx, f_ex, drop_id, g_aug, o_iadd, e_lc, w_nil, w_cons, e_yes, i_tup, i_rol, al, lim_eq, Nat.reduceLeDiff, Nat.reduceLT, x_t0, x_t1, x_t2, x_t3, l_tup, l_rol, u_tup, o_cmp, o_add, o_sub, o_neg, o_not, o_abs, o_int, o_max, o_min, q_int, q_nint, q_bl, q_nbl, q_str, q_nstr, fnD, List.map_cons, List.map_nil, List.length_cons, List.length_nil, List.replicate_succ, List.replicate_zero, List.cons_append, List.nil_append, List.append_nil, List.getElem?_cons_zero, List.getElem?_cons_succ, List.getElem?_nil, List.set_cons_zero, List.set_cons_succ, List.zip_cons_cons, List.zip_nil_left, List.foldl_cons, List.foldl_nil, Nat.reduceSub, Nat.reduceAdd, Nat.zero_add, Nat.add_zero, if_true, if_false, reduceIte, ite_true, ite_false, eq_self, and_true, true_and, and_self, decide_true, decide_false, is_int_int, is_int_bl, is_int_str, is_int_tup, is_int_rol, is_int_non, is_bool_int, is_bool_bl, is_bool_str, is_bool_tup, is_bool_rol, is_bool_non, is_tuple_int, is_tuple_bl, is_tuple_str, is_tuple_tup, is_tuple_rol, is_tuple_non, is_str_int, is_str_bl, is_str_str, is_str_tup, is_str_rol, is_str_non, is_list_int, is_list_bl, is_list_str, is_list_tup, is_list_rol, is_list_non, Bool.not_true, Bool.not_false, e1, c1]
    by_cases c2 : r < 7
    · obtain ⟨u, h2, e2, u0, u1, d2, g2⟩ := roll_ok d1 (by omega) (m := 19) (by omega) (by decide)
      obtain ⟨v, h3, e3, v0, v1, d3, g3⟩ := roll_ok d2 (by omega) (m := 6) (by omega) (by decide)
      simp only [b_ok, b_ex, b_bad, o_ok, o_ex, o_bad, n_ok, s_seq, s_nx, s_rt, s_bk, s_ct, s_ex, e_var, e_c, e_bin, e_un, e_blt, e_if, e_and, e_or, e_chain, a_nil, a_cons, e_tup, e_lst, e_call, e_callK, e_met, e_sl, g_nx, g_expr, g_ret, g_retN, g_bk, g_ct, g_if, g_asg, g_par, g_raise, t_name, t_unp, t_nil, t_cons, t_sub, g_for, i_val, i_rng1, i_rng2, e_ref, f_rt, f_nx, f_ex, drop_id, g_aug, o_iadd, e_lc, w_nil, w_cons, e_yes, i_tup, i_rol, al, lim_eq, Nat.reduceLeDiff, Nat.reduceLT, x_t0, x_t1, x_t2, x_t3, l_tup, l_rol, u_tup, o_cmp, o_add, o_sub, o_neg, o_not, o_abs, o_int, o_max, o_min, q_int, q_nint, q_bl, q_nbl, q_str, q_nstr, fnD, List.map_cons, List.map_nil, List.length_cons, List.length_nil, List.replicate_succ, List.replicate_zero, List.cons_append, List.nil_append, List.append_nil, List.getElem?_cons_zero, List.getElem?_cons_succ, List.getElem?_nil, List.set_cons_zero, List.set_cons_succ, List.zip_cons_cons, List.zip_nil_left, List.foldl_cons, List.foldl_nil, Nat.reduceSub, Nat.reduceAdd, Nat.zero_add, Nat.add_zero, if_true, if_false, reduceIte, ite_true, ite_false, eq_self, and_true, true_and, and_self, decide_true, decide_false, is_int_int, is_int_bl, is_int_str, is_int_tup, is_int_rol, is_int_non, is_bool_int, is_bool_bl, is_bool_str, is_bool_tup, is_bool_rol, is_bool_non, is_tuple_int, is_tuple_bl, is_tuple_str, is_tuple_tup, is_tuple_rol, is_tuple_non, is_str_int, is_str_bl, is_str_str, is_str_tup, is_str_rol, is_str_non, is_list_int, is_list_bl, is_list_str, is_list_tup, is_list_rol, is_list_non, Bool.not_true, Bool.not_false, c2, e2, e3]
      rw [law_f_ok _ _ (by omega) (log40 (by omega))]
      simp only [b_ok, b_ex, b_bad, o_ok, o_ex, o_bad, n_ok, s_seq, s_nx, s_rt, s_bk, s_ct, s_ex, e_var, e_c, e_bin, e_un, e_blt, e_if, e_and, e_or, e_chain, a_nil, a_cons, e_tup, e_lst, e_call, e_callK, e_met, e_sl, g_nx, g_expr, g_ret, g_retN, g_bk, g_ct, g_if, g_asg, g_par, g_raise, t_name, t_unp, t_nil, t_cons, t_sub, g_for, i_val, i_rng1, i_rng2, e_ref, f_rt, f_nx, f_ex, drop_id, g_aug, o_iadd, e_lc, w_nil, w_cons, e_yes, i_tup, i_rol, al, lim_eq, Nat.reduceLeDiff, Nat.reduceLT, x_t0, x_t1, x_t2, x_t3, l_tup, l_rol, u_tup, o_cmp, o_add, o_sub, o_neg, o_not, o_abs, o_int, o_max, o_min, q_int, q_nint, q_bl, q_nbl, q_str, q_nstr, fnD, List.map_cons, List.map_nil, List.length_cons, List.length_nil, List.replicate_succ, List.replicate_zero, List.cons_append, List.nil_append, List.append_nil, List.getElem?_cons_zero, List.getElem?_cons_succ, List.getElem?_nil, List.set_cons_zero, List.set_cons_succ, List.zip_cons_cons, List.zip_nil_left, List.foldl_cons, List.foldl_nil, Nat.reduceSub, Nat.reduceAdd, Nat.zero_add, Nat.add_zero, if_true, if_false, reduceIte, ite_true, ite_false, eq_self, and_true, true_and, and_self, decide_true, decide_false, is_int_int, is_int_bl, is_int_str, is_int_tup, is_int_rol, is_int_non, is_bool_int, is_bool_bl, is_bool_str, is_bool_tup, is_bool_rol, is_bool_non, is_tuple_int, is_tuple_bl, is_tuple_str, is_tuple_tup, is_tuple_rol, is_tuple_non, is_str_int, is_str_bl, is_str_str, is_str_tup, is_str_rol, is_str_non, is_list_int, is_list_bl, is_list_str, is_list_tup, is_list_rol, is_list_non, Bool.not_true, Bool.not_false]
      refine fin _ _ _ _ ?_ ?_ ?_ (g1.trans (g2.trans g3)) d3 ?_ <;> omega
    · obtain ⟨u, h2, e2, u0, u1, d2, g2⟩ := roll_ok d1 (by omega) (m := 3) (by omega) (by decide)
      simp only [b_ok, b_ex, b_bad, o_ok, o_ex, o_bad, n_ok, s_seq, s_nx, s_rt, s_bk, s_ct, s_ex, e_var, e_c, e_bin, e_un, e_blt, e_if, e_and, e_or, e_chain, a_nil, a_cons, e_tup, e_lst, e_call, e_callK, e_met, e_sl, g_nx, g_expr, g_ret, g_retN, g_bk, g_ct, g_if, g_asg, g_par, g_raise, t_name, t_unp, t_nil, t_cons, t_sub, g_for, i_val, i_rng1, i_rng2, e_ref, f_rt, f_nx, f_ex, drop_id, g_aug, o_iadd, e_lc, w_nil, w_cons, e_yes, i_tup, i_rol, al, lim_eq, Nat.reduceLeDiff, Nat.reduceLT, x_t0, x_t1, x_t2, x_t3, l_tup, l_rol, u_tup, o_cmp, o_add, o_sub, o_neg, o_not, o_abs, o_int, o_max, o_min, q_int, q_nint, q_bl, q_nbl, q_str, q_nstr, fnD, List.map_cons, List.map_nil, List.length_cons, List.length_nil, List.replicate_succ, List.replicate_zero, List.cons_append, List.nil_append, List.append_nil, List.getElem?_cons_zero, List.getElem?_cons_succ, List.getElem?_nil, List.set_cons_zero, List.set_cons_succ, List.zip_cons_cons, List.zip_nil_left, List.foldl_cons, List.foldl_nil, Nat.reduceSub, Nat.reduceAdd, Nat.zero_add, Nat.add_zero, if_true, if_false, reduceIte, ite_true, ite_false, eq_self, and_true, true_and, and_self, decide_true, decide_false, is_int_int, is_int_bl, is_int_str, is_int_tup, is_int_rol, is_int_non, is_bool_int, is_bool_bl, is_bool_str, is_bool_tup, is_bool_rol, is_bool_non, is_tuple_int, is_tuple_bl, is_tuple_str, is_tuple_tup, is_tuple_rol, is_tuple_non, is_str_int, is_str_bl, is_str_str, is_str_tup, is_str_rol, is_str_non, is_list_int, is_list_bl, is_list_str, is_list_tup, is_list_rol, is_list_non, Bool.not_true, Bool.not_false, c2, e2]
      by_cases c3 : u = 0
      · obtain ⟨v, h3, e3, v0, v1, d3, g3⟩ := roll_ok d2 (by omega) (m := 1999901) (by omega) (by decide)
        obtain ⟨w, h4, e4, w0, w1, d4, g4⟩ := roll_ok d3 (by omega) (m := 1000000) (by omega) (by decide)
        have b1 : big v := big_of (n := 100) (by omega) (by omega)
        have b2 : big w := big_of (n := 100) (by omega) (by omega)
        have p6 : oPow (.int 10) (.int 6) h3 = .ok (.int 1000000) h3 := rfl
        simp only [b_ok, b_ex, b_bad, o_ok, o_ex, o_bad, n_ok, s_seq, s_nx, s_rt, s_bk, s_ct, s_ex, e_var, e_c, e_bin, e_un, e_blt, e_if, e_and, e_or, e_chain, a_nil, a_cons, e_tup, e_lst, e_call, e_callK, e_met, e_sl, g_nx, g_expr, g_ret, g_retN, g_bk, g_ct, g_if, g_asg, g_par, g_raise, t_name, t_unp, t_nil, t_cons, t_sub, g_for, i_val, i_rng1, i_rng2, e_ref, f_rt, f_nx, f_ex, drop_id, g_aug, o_iadd, e_lc, w_nil, w_cons, e_yes, i_tup, i_rol, al, lim_eq, Nat.reduceLeDiff, Nat.reduceLT, x_t0, x_t1, x_t2, x_t3, l_tup, l_rol, u_tup, o_cmp, o_add, o_sub, o_neg, o_not, o_abs, o_int, o_max, o_min, q_int, q_nint, q_bl, q_nbl, q_str, q_nstr, fnD, List.map_cons, List.map_nil, List.length_cons, List.length_nil, List.replicate_succ, List.replicate_zero, List.cons_append, List.nil_append, List.append_nil, List.getElem?_cons_zero, List.getElem?_cons_succ, List.getElem?_nil, List.set_cons_zero, List.set_cons_succ, List.zip_cons_cons, List.zip_nil_left, List.foldl_cons, List.foldl_nil, Nat.reduceSub, Nat.reduceAdd, Nat.zero_add, Nat.add_zero, if_true, if_false, reduceIte, ite_true, ite_false, eq_self, and_true, true_and, and_self, decide_true, decide_false, is_int_int, is_int_bl, is_int_str, is_int_tup, is_int_rol, is_int_non, is_bool_int, is_bool_bl, is_bool_str, is_bool_tup, is_bool_rol, is_bool_non, is_tuple_int, is_tuple_bl, is_tuple_str, is_tuple_tup, is_tuple_rol, is_tuple_non, is_str_int, is_str_bl, is_str_str, is_str_tup, is_str_rol, is_str_non, is_list_int, is_list_bl, is_list_str, is_list_tup, is_list_rol, is_list_non, Bool.not_true, Bool.not_false, c3, e3, e4, o_mul b1 (show big 1000000 by decide), p6, o_mul (show big 999950 by decide) (show big 1000000 by decide), o_mul b2 (show big 999983 by decide)]
        rw [law_f_ok _ _ (by omega) (log40 (by omega))]
        simp only [b_ok, b_ex, b_bad, o_ok, o_ex, o_bad, n_ok, s_seq, s_nx, s_rt, s_bk, s_ct, s_ex, e_var, e_c, e_bin, e_un, e_blt, e_if, e_and, e_or, e_chain, a_nil, a_cons, e_tup, e_lst, e_call, e_callK, e_met, e_sl, g_nx, g_expr, g_ret, g_retN, g_bk, g_ct, g_if, g_asg, g_par, g_raise, t_name, t_unp, t_nil, t_cons, t_sub, g_for, i_val, i_rng1, i_rng2, e_ref, f_rt, f_nx, f_ex, drop_id, g_aug, o_iadd, e_lc, w_nil, w_cons, e_yes, i_tup, i_rol, al, lim_eq, Nat.reduceLeDiff, Nat.reduceLT, x_t0, x_t1, x_t2, x_t3, l_tup, l_rol, u_tup, o_cmp, o_add, o_sub, o_neg, o_not, o_abs, o_int, o_max, o_min, q_int, q_nint, q_bl, q_nbl, q_str, q_nstr, fnD, List.map_cons, List.map_nil, List.length_cons, List.length_nil, List.replicate_succ, List.replicate_zero, List.cons_append, List.nil_append, List.append_nil, List.getElem?_cons_zero, List.getElem?_cons_succ, List.getElem?_nil, List.set_cons_zero, List.set_cons_succ, List.zip_cons_cons, List.zip_nil_left, List.foldl_cons, List.foldl_nil, Nat.reduceSub, Nat.reduceAdd, Nat.zero_add, Nat.add_zero, if_true, if_false, reduceIte, ite_true, ite_false, eq_self, and_true, true_and, and_self, decide_true, decide_false, is_int_int, is_int_bl, is_int_str, is_int_tup, is_int_rol, is_int_non, is_bool_int, is_bool_bl, is_bool_str, is_bool_tup, is_bool_rol, is_bool_non, is_tuple_int, is_tuple_bl, is_tuple_str, is_tuple_tup, is_tuple_rol, is_tuple_non, is_str_int, is_str_bl, is_str_str, is_str_tup, is_str_rol, is_str_non, is_list_int, is_list_bl, is_list_str, is_list_tup, is_list_rol, is_list_non, Bool.not_true, Bool.not_false]
        refine fin _ _ _ _ ?_ ?_ ?_ (g1.trans (g2.trans (g3.trans g4))) d4 ?_ <;> omega
      · obtain ⟨v, h3, e3, v0, v1, d3, g3⟩ := roll_ok d2 (by omega) (m := 2000001) (by omega) (by decide)
        obtain ⟨w, h4, e4, w0, w1, d4, g4⟩ := roll_ok d3 (by omega) (m := 1000000) (by omega) (by decide)
        simp only [b_ok, b_ex, b_bad, o_ok, o_ex, o_bad, n_ok, s_seq, s_nx, s_rt, s_bk, s_ct, s_ex, e_var, e_c, e_bin, e_un, e_blt, e_if, e_and, e_or, e_chain, a_nil, a_cons, e_tup, e_lst, e_call, e_callK, e_met, e_sl, g_nx, g_expr, g_ret, g_retN, g_bk, g_ct, g_if, g_asg, g_par, g_raise, t_name, t_unp, t_nil, t_cons, t_sub, g_for, i_val, i_rng1, i_rng2, e_ref, f_rt, f_nx, f_ex, drop_id, g_aug, o_iadd, e_lc, w_nil, w_cons, e_yes, i_tup, i_rol, al, lim_eq, Nat.reduceLeDiff, Nat.reduceLT, x_t0, x_t1, x_t2, x_t3, l_tup, l_rol, u_tup, o_cmp, o_add, o_sub, o_neg, o_not, o_abs, o_int, o_max, o_min, q_int, q_nint, q_bl, q_nbl, q_str, q_nstr, fnD, List.map_cons, List.map_nil, List.length_cons, List.length_nil, List.replicate_succ, List.replicate_zero, List.cons_append, List.nil_append, List.append_nil, List.getElem?_cons_zero, List.getElem?_cons_succ, List.getElem?_nil, List.set_cons_zero, List.set_cons_succ, List.zip_cons_cons, List.zip_nil_left, List.foldl_cons, List.foldl_nil, Nat.reduceSub, Nat.reduceAdd, Nat.zero_add, Nat.add_zero, if_true, if_false, reduceIte, ite_true, ite_false, eq_self, and_true, true_and, and_self, decide_true, decide_false, is_int_int, is_int_bl, is_int_str, is_int_tup, is_int_rol, is_int_non, is_bool_int, is_bool_bl, is_bool_str, is_bool_tup, is_bool_rol, is_bool_non, is_tuple_int, is_tuple_bl, is_tuple_str, is_tuple_tup, is_tuple_rol, is_tuple_non, is_str_int, is_str_bl, is_str_str, is_str_tup, is_str_rol, is_str_non, is_list_int, is_list_bl, is_list_str, is_list_tup, is_list_rol, is_list_non, Bool.not_true, Bool.not_false, c3, e3, e4]
        rw [law_f_ok _ _ (by omega) (log40 (by omega))]
        simp only [b_ok, b_ex, b_bad, o_ok, o_ex, o_bad, n_ok, s_seq, s_nx, s_rt, s_bk, s_ct, s_ex, e_var, e_c, e_bin, e_un, e_blt, e_if, e_and, e_or, e_chain, a_nil, a_cons, e_tup, e_lst, e_call, e_callK, e_met, e_sl, g_nx, g_expr, g_ret, g_retN, g_bk, g_ct, g_if, g_asg, g_par, g_raise, t_name, t_unp, t_nil, t_cons, t_sub, g_for, i_val, i_rng1, i_rng2, e_ref, f_rt, f_nx, f_ex, drop_id, g_aug, o_iadd, e_lc, w_nil, w_cons, e_yes, i_tup, i_rol, al, lim_eq, Nat.reduceLeDiff, Nat.reduceLT, x_t0, x_t1, x_t2, x_t3, l_tup, l_rol, u_tup, o_cmp, o_add, o_sub, o_neg, o_not, o_abs, o_int, o_max, o_min, q_int, q_nint, q_bl, q_nbl, q_str, q_nstr, fnD, List.map_cons, List.map_nil, List.length_cons, List.length_nil, List.replicate_succ, List.replicate_zero, List.cons_append, List.nil_append, List.append_nil, List.getElem?_cons_zero, List.getElem?_cons_succ, List.getElem?_nil, List.set_cons_zero, List.set_cons_succ, List.zip_cons_cons, List.zip_nil_left, List.foldl_cons, List.foldl_nil, Nat.reduceSub, Nat.reduceAdd, Nat.zero_add, Nat.add_zero, if_true, if_false, reduceIte, ite_true, ite_false, eq_self, and_true, true_and, and_self, decide_true, decide_false, is_int_int, is_int_bl, is_int_str, is_int_tup, is_int_rol, is_int_non, is_bool_int, is_bool_bl, is_bool_str, is_bool_tup, is_bool_rol, is_bool_non, is_tuple_int, is_tuple_bl, is_tuple_str, is_tuple_tup, is_tuple_rol, is_tuple_non, is_str_int, is_str_bl, is_str_str, is_str_tup, is_str_rol, is_str_non, is_list_int, is_list_bl, is_list_str, is_list_tup, is_list_rol, is_list_non, Bool.not_true, Bool.not_false]
        refine fin _ _ _ _ ?_ ?_ ?_ (g1.trans (g2.trans (g3.trans g4))) d4 ?_ <;> omega
end Law
/-! equality and membership of plain data -/
namespace Law
open PySem L2 DL
mutual
def toP : D → PyData
  | .non => .none
  | .bl b => .bool b
  | .int i => .int i
  | .str x => .str x
  | .tup xs => .tuple (toPs xs)
  | .rol xs => .list (toPs xs)
  | .obj _ => .none
def toPs : List D → List PyData
  | [] => []
  | x :: xs => toP x :: toPs xs
end
mutual
/-- plain, at most n deep -/
def pl (n : Nat) : D → Bool
  | .str x => PyData.strOk x
  | .tup xs => match n with
    | 0 => false
    | n + 1 => pls n xs
  | .rol xs => match n with
    | 0 => false
    | n + 1 => pls n xs
  | .obj _ => false
  | _ => true
def pls (n : Nat) : List D → Bool
  | [] => true
  | x :: xs => pl n x && pls n xs
end
mutual
theorem pyOf_pl (h : DH) : ∀ (n : Nat) (d : D), pl n d = true → pyOf h (n + 1) d = some (toP d) ∧ PyData.canLay0 (toP d) = true ∧ PyData.depth (toP d) ≤ n
  | n, .non, _ => ⟨by simp only [pyOf, toP], by simp only [toP, PyData.canLay0], by simp only [toP, PyData.depth]; omega⟩
  | n, .bl b, _ => ⟨by simp only [pyOf, toP], by simp only [toP, PyData.canLay0], by simp only [toP, PyData.depth]; omega⟩
  | n, .int i, _ => ⟨by simp only [pyOf, toP], by simp only [toP, PyData.canLay0], by simp only [toP, PyData.depth]; omega⟩
  | n, .str x, e => ⟨by simp only [pyOf, toP], by simp only [toP, PyData.canLay0]; simpa only [pl] using e, by simp only [toP, PyData.depth]; omega⟩
  | 0, .tup xs, e => by simp only [pl] at e; cases e
  | n + 1, .tup xs, e => by
    simp only [pl] at e
    obtain ⟨a, b, c⟩ := pyAll_pl h n xs e
    refine ⟨by simp only [pyOf, toP, a, Option.map_some], by simp only [toP, PyData.canLay0]; exact b, by simp only [toP, PyData.depth]; omega⟩
  | 0, .rol xs, e => by simp only [pl] at e; cases e
  | n + 1, .rol xs, e => by
    simp only [pl] at e
    obtain ⟨a, b, c⟩ := pyAll_pl h n xs e
    refine ⟨by simp only [pyOf, toP, a, Option.map_some], by simp only [toP, PyData.canLay0]; exact b, by simp only [toP, PyData.depth]; omega⟩
  | n, .obj k, e => by simp only [pl] at e; cases e
theorem pyAll_pl (h : DH) : ∀ (n : Nat) (xs : List D), pls n xs = true → pyAll (pyOf h (n + 1)) xs = some (toPs xs) ∧ PyData.canLayAll0 (toPs xs) = true ∧ PyData.depthAll (toPs xs) ≤ n
  | n, [], _ => ⟨by simp only [pyAll, toPs], by simp only [toPs, PyData.canLayAll0], by simp only [toPs, PyData.depthAll]; omega⟩
  | n, x :: xs, e => by
    simp only [pls, Bool.and_eq_true] at e
    obtain ⟨a, b, c⟩ := pyOf_pl h n x e.1
    obtain ⟨a', b', c'⟩ := pyAll_pl h n xs e.2
    refine ⟨by simp only [pyAll, toPs, a, a'], by simp only [toPs, PyData.canLayAll0, b, b', Bool.and_self], by simp only [toPs, PyData.depthAll]; omega⟩
end
theorem shp {n : Nat} {d : PyData} (h1 : PyData.canLay0 d = true) (h2 : PyData.depth d ≤ n) (hn : n ≤ 64) : SeqAt.shaped d = true := by
  unfold SeqAt.shaped
  rw [h1, Bool.true_and]
  exact decide_eq_true (by omega)
theorem eqD_pl {h : DH} {x y : D} (hx : pl 19 x = true) (hy : pl 19 y = true) : eqD h x y = some (PyData.eqv (toP x) (toP y)) := by
  obtain ⟨a, b, c⟩ := pyOf_pl h 19 x hx
  obtain ⟨a', b', c'⟩ := pyOf_pl h 19 y hy
  have gen : (match pyOf h deep x, pyOf h deep y with
    | some p, some q => if SeqAt.shaped p = true ∧ SeqAt.shaped q = true then some (PyData.eqv p q) else none
    | _, _ => none) = some (PyData.eqv (toP x) (toP y)) := by
    show (match pyOf h (19 + 1) x, pyOf h (19 + 1) y with
    | some p, some q => if SeqAt.shaped p = true ∧ SeqAt.shaped q = true then some (PyData.eqv p q) else none
    | _, _ => none) = some (PyData.eqv (toP x) (toP y))
    rw [a, a']
    exact if_pos ⟨shp b c (by omega), shp b' c' (by omega)⟩
  cases x <;> cases y <;> first
    | exact gen
    | (simp only [eqD, toP, PyData.eqv]; first | done | rfl | (congr 1) | simp)
theorem q_pl {h : DH} {x y : D} (hx : pl 19 x = true) (hy : pl 19 y = true) : oEq x y h = .ok (.bl (PyData.eqv (toP x) (toP y))) h := by
  unfold oEq
  rw [eqD_pl hx hy]
theorem q_npl {h : DH} {x y : D} (hx : pl 19 x = true) (hy : pl 19 y = true) : oNe x y h = .ok (.bl (!PyData.eqv (toP x) (toP y))) h := by
  unfold oNe
  rw [eqD_pl hx hy]
end Law
/-! the shell of a law: the dice are made, the law's own def asked for each spot -/
namespace Law
open PySem L2 DL
/-- the script: a list that is only read, or a list of the heap -/
def Scr (ns : List Int) (d : D) (h : DH) : Prop := d = .rol (ns.map .int) ∨ ∃ k, d = .obj k ∧ h[k]? = some (.lst (ns.map .int))
theorem scr_len {ns : List Int} {d : D} {h : DH} (s : Scr ns d h) : oLen [d] h = .ok (.int ns.length) h := by
  rcases s with rfl | ⟨k, rfl, e⟩
  · simp only [l_rol, List.length_map]
  · rw [l_obj e, List.length_map]
theorem scr_at {ns : List Int} {d : D} {h : DH} (s : Scr ns d h) {i : Nat} (hi : i < ns.length) : ∃ z : Int, oIx d (.int i) h = .ok (.int z) h := by
  have e : (ns.map D.int)[i]? = some (.int ns[i]) := by simp [hi]
  rcases s with rfl | ⟨k, rfl, q⟩
  · exact ⟨_, x_rol e⟩
  · exact ⟨_, x_obj q e⟩
theorem scr_cut {ns : List Int} {d : D} {h : DH} (s : Scr ns d h) (lo hi : Option Int) : oSl d lo hi h = .ok (.obj h.length) (h ++ [.lst ((cutL ns lo hi).map .int)]) := by
  have e : cutL (ns.map D.int) lo hi = (cutL ns lo hi).map .int := by
    unfold cutL
    simp [List.map_take, List.map_drop]
  rcases s with rfl | ⟨k, rfl, q⟩
  · show alloc (.lst (cutL (ns.map D.int) lo hi)) h = _
    rw [e] <;> rfl
  · show (match h[k]? with
      | some (.lst xs) => alloc (.lst (cutL xs lo hi)) h
      | _ => .bad) = _
    rw [q]
    show alloc (.lst (cutL (ns.map D.int) lo hi)) h = _
    rw [e] <;> rfl
theorem cut_len {α : Type} {xs : List α} {lo hi : Option Int} : (cutL xs lo hi).length ≤ xs.length := by
  unfold cutL
  simp only [List.length_take, List.length_drop]
  omega
theorem dice_ok {ns : List Int} {d : D} {h : DH} (s : Scr ns d h) (hn : ns.length ≤ 63) {spot : Nat} (hs : spot ≤ 100) :
    ∃ (m : Nat) (h' : DH), f_law_dice [d, .int spot] h = .ok (.obj m) h' ∧ DOK m 0 h' ∧ h.length ≤ m ∧ (∃ j, h' = h ++ j) := by
  unfold f_law_dice d_law_dice
  have b1 : big 733 := by decide
  have b2 : big 7907 := by decide
  have b3 : big (spot : Int) := big_of (n := 100) (by omega) (by omega)
  have own : ∃ z : Int, (eIf (eBin oLt (eVar 1) (eBlt oLen (aCons (eVar 0) aNil))) (eBin oIx (eVar 0) (eVar 1)) (eBin oAdd (eBin oMul (eC (.int 733)) (eVar 1)) (eC (.int 29)))) [some d, some (.int spot), none, none, none] h = .ok (.int z) h := by
    by_cases c : (spot : Int) < ns.length
    · obtain ⟨z, e⟩ := scr_at s (i := spot) (by omega)
      exact ⟨z, by simp only [b_ok, b_ex, b_bad, o_ok, o_ex, o_bad, n_ok, s_seq, s_nx, s_rt, s_bk, s_ct, s_ex, e_var, e_c, e_bin, e_un, e_blt, e_if, e_and, e_or, e_chain, a_nil, a_cons, e_tup, e_lst, e_call, e_callK, e_met, e_sl, g_nx, g_expr, g_ret, g_retN, g_bk, g_ct, g_if, g_asg, g_par, g_raise, t_name, t_unp, t_nil, t_cons, t_sub, g_for, i_val, i_rng1, i_rng2, e_ref, f_rt, f_nx, f_ex, drop_id, g_aug, o_iadd, e_lc, w_nil, w_cons, e_yes, i_tup, i_rol, al, lim_eq, Nat.reduceLeDiff, Nat.reduceLT, x_t0, x_t1, x_t2, x_t3, l_tup, l_rol, u_tup, o_cmp, o_add, o_sub, o_neg, o_not, o_abs, o_int, o_max, o_min, q_int, q_nint, q_bl, q_nbl, q_str, q_nstr, fnD, List.map_cons, List.map_nil, List.length_cons, List.length_nil, List.replicate_succ, List.replicate_zero, List.cons_append, List.nil_append, List.append_nil, List.getElem?_cons_zero, List.getElem?_cons_succ, List.getElem?_nil, List.set_cons_zero, List.set_cons_succ, List.zip_cons_cons, List.zip_nil_left, List.foldl_cons, List.foldl_nil, Nat.reduceSub, Nat.reduceAdd, Nat.zero_add, Nat.add_zero, if_true, if_false, reduceIte, ite_true, ite_false, eq_self, and_true, true_and, and_self, decide_true, decide_false, is_int_int, is_int_bl, is_int_str, is_int_tup, is_int_rol, is_int_non, is_bool_int, is_bool_bl, is_bool_str, is_bool_tup, is_bool_rol, is_bool_non, is_tuple_int, is_tuple_bl, is_tuple_str, is_tuple_tup, is_tuple_rol, is_tuple_non, is_str_int, is_str_bl, is_str_str, is_str_tup, is_str_rol, is_str_non, is_list_int, is_list_bl, is_list_str, is_list_tup, is_list_rol, is_list_non, Bool.not_true, Bool.not_false, scr_len s, c, e]⟩
    · exact ⟨733 * spot + 29, by simp only [b_ok, b_ex, b_bad, o_ok, o_ex, o_bad, n_ok, s_seq, s_nx, s_rt, s_bk, s_ct, s_ex, e_var, e_c, e_bin, e_un, e_blt, e_if, e_and, e_or, e_chain, a_nil, a_cons, e_tup, e_lst, e_call, e_callK, e_met, e_sl, g_nx, g_expr, g_ret, g_retN, g_bk, g_ct, g_if, g_asg, g_par, g_raise, t_name, t_unp, t_nil, t_cons, t_sub, g_for, i_val, i_rng1, i_rng2, e_ref, f_rt, f_nx, f_ex, drop_id, g_aug, o_iadd, e_lc, w_nil, w_cons, e_yes, i_tup, i_rol, al, lim_eq, Nat.reduceLeDiff, Nat.reduceLT, x_t0, x_t1, x_t2, x_t3, l_tup, l_rol, u_tup, o_cmp, o_add, o_sub, o_neg, o_not, o_abs, o_int, o_max, o_min, q_int, q_nint, q_bl, q_nbl, q_str, q_nstr, fnD, List.map_cons, List.map_nil, List.length_cons, List.length_nil, List.replicate_succ, List.replicate_zero, List.cons_append, List.nil_append, List.append_nil, List.getElem?_cons_zero, List.getElem?_cons_succ, List.getElem?_nil, List.set_cons_zero, List.set_cons_succ, List.zip_cons_cons, List.zip_nil_left, List.foldl_cons, List.foldl_nil, Nat.reduceSub, Nat.reduceAdd, Nat.zero_add, Nat.add_zero, if_true, if_false, reduceIte, ite_true, ite_false, eq_self, and_true, true_and, and_self, decide_true, decide_false, is_int_int, is_int_bl, is_int_str, is_int_tup, is_int_rol, is_int_non, is_bool_int, is_bool_bl, is_bool_str, is_bool_tup, is_bool_rol, is_bool_non, is_tuple_int, is_tuple_bl, is_tuple_str, is_tuple_tup, is_tuple_rol, is_tuple_non, is_str_int, is_str_bl, is_str_str, is_str_tup, is_str_rol, is_str_non, is_list_int, is_list_bl, is_list_str, is_list_tup, is_list_rol, is_list_non, Bool.not_true, Bool.not_false, scr_len s, c, o_mul b1 b3]⟩
  obtain ⟨z, own⟩ := own
  have fin : ∀ (mix : Int) (w : Option D) (h2 : DH) (j : DH), h2 = h ++ j → 0 ≤ mix → mix < 2147480009 →
      ∃ (m : Nat) (h' : DH), DL.finish h (gRet (eLst (aCons (eIf (eOr (eBin oLt (eVar 2) (eC (.int 0))) (eBin oGe (eVar 2) (eBin oPow (eC (.int 10)) (eC (.int 16))))) (eBlt oAbs (aCons (eVar 2) aNil)) (eC (.int 0))) (aCons (eVar 3) (aCons (eC (.int 0)) aNil)))) [some d, some (.int spot), some (.int z), some (.int mix), w] h2) = .ok (.obj m) h' ∧ DOK m 0 h' ∧ h.length ≤ m ∧ (∃ j, h' = h ++ j) := by
    intro mix w h2 j e2 m0 m1
    subst e2
    have p16 : oPow (.int 10) (.int 16) (h ++ j) = .ok (.int 10000000000000000) (h ++ j) := rfl
    have key : ∃ y : Int, 0 ≤ y ∧ (eIf (eOr (eBin oLt (eVar 2) (eC (.int 0))) (eBin oGe (eVar 2) (eBin oPow (eC (.int 10)) (eC (.int 16))))) (eBlt oAbs (aCons (eVar 2) aNil)) (eC (.int 0))) [some d, some (.int spot), some (.int z), some (.int mix), w] (h ++ j) = .ok (.int y) (h ++ j) := by
      by_cases c1 : z < 0
      · exact ⟨z.natAbs, by omega, by simp only [b_ok, b_ex, b_bad, o_ok, o_ex, o_bad, n_ok, s_seq, s_nx, s_rt, s_bk, s_ct, s_ex, e_var, e_c, e_bin, e_un, e_blt, e_if, e_and, e_or, e_chain, a_nil, a_cons, e_tup, e_lst, e_call, e_callK, e_met, e_sl, g_nx, g_expr, g_ret, g_retN, g_bk, g_ct, g_if, g_asg, g_par, g_raise, t_name, t_unp, t_nil, t_cons, t_sub, g_for, i_val, i_rng1, i_rng2, e_ref, f_rt, f_nx, f_ex, drop_id, g_aug, o_iadd, e_lc, w_nil, w_cons, e_yes, i_tup, i_rol, al, lim_eq, Nat.reduceLeDiff, Nat.reduceLT, x_t0, x_t1, x_t2, x_t3, l_tup, l_rol, u_tup, o_cmp, o_add, o_sub, o_neg, o_not, o_abs, o_int, o_max, o_min, q_int, q_nint, q_bl, q_nbl, q_str, q_nstr, fnD, List.map_cons, List.map_nil, List.length_cons, List.length_nil, List.replicate_succ, List.replicate_zero, List.cons_append, List.nil_append, List.append_nil, List.getElem?_cons_zero, List.getElem?_cons_succ, List.getElem?_nil, List.set_cons_zero, List.set_cons_succ, List.zip_cons_cons, List.zip_nil_left, List.foldl_cons, List.foldl_nil, Nat.reduceSub, Nat.reduceAdd, Nat.zero_add, Nat.add_zero, if_true, if_false, reduceIte, ite_true, ite_false, eq_self, and_true, true_and, and_self, decide_true, decide_false, is_int_int, is_int_bl, is_int_str, is_int_tup, is_int_rol, is_int_non, is_bool_int, is_bool_bl, is_bool_str, is_bool_tup, is_bool_rol, is_bool_non, is_tuple_int, is_tuple_bl, is_tuple_str, is_tuple_tup, is_tuple_rol, is_tuple_non, is_str_int, is_str_bl, is_str_str, is_str_tup, is_str_rol, is_str_non, is_list_int, is_list_bl, is_list_str, is_list_tup, is_list_rol, is_list_non, Bool.not_true, Bool.not_false, c1]⟩
      · by_cases c2 : (10000000000000000 : Int) ≤ z
        · exact ⟨z.natAbs, by omega, by simp only [b_ok, b_ex, b_bad, o_ok, o_ex, o_bad, n_ok, s_seq, s_nx, s_rt, s_bk, s_ct, s_ex, e_var, e_c, e_bin, e_un, e_blt, e_if, e_and, e_or, e_chain, a_nil, a_cons, e_tup, e_lst, e_call, e_callK, e_met, e_sl, g_nx, g_expr, g_ret, g_retN, g_bk, g_ct, g_if, g_asg, g_par, g_raise, t_name, t_unp, t_nil, t_cons, t_sub, g_for, i_val, i_rng1, i_rng2, e_ref, f_rt, f_nx, f_ex, drop_id, g_aug, o_iadd, e_lc, w_nil, w_cons, e_yes, i_tup, i_rol, al, lim_eq, Nat.reduceLeDiff, Nat.reduceLT, x_t0, x_t1, x_t2, x_t3, l_tup, l_rol, u_tup, o_cmp, o_add, o_sub, o_neg, o_not, o_abs, o_int, o_max, o_min, q_int, q_nint, q_bl, q_nbl, q_str, q_nstr, fnD, List.map_cons, List.map_nil, List.length_cons, List.length_nil, List.replicate_succ, List.replicate_zero, List.cons_append, List.nil_append, List.append_nil, List.getElem?_cons_zero, List.getElem?_cons_succ, List.getElem?_nil, List.set_cons_zero, List.set_cons_succ, List.zip_cons_cons, List.zip_nil_left, List.foldl_cons, List.foldl_nil, Nat.reduceSub, Nat.reduceAdd, Nat.zero_add, Nat.add_zero, if_true, if_false, reduceIte, ite_true, ite_false, eq_self, and_true, true_and, and_self, decide_true, decide_false, is_int_int, is_int_bl, is_int_str, is_int_tup, is_int_rol, is_int_non, is_bool_int, is_bool_bl, is_bool_str, is_bool_tup, is_bool_rol, is_bool_non, is_tuple_int, is_tuple_bl, is_tuple_str, is_tuple_tup, is_tuple_rol, is_tuple_non, is_str_int, is_str_bl, is_str_str, is_str_tup, is_str_rol, is_str_non, is_list_int, is_list_bl, is_list_str, is_list_tup, is_list_rol, is_list_non, Bool.not_true, Bool.not_false, c1, p16, c2]⟩
        · exact ⟨0, by omega, by simp only [b_ok, b_ex, b_bad, o_ok, o_ex, o_bad, n_ok, s_seq, s_nx, s_rt, s_bk, s_ct, s_ex, e_var, e_c, e_bin, e_un, e_blt, e_if, e_and, e_or, e_chain, a_nil, a_cons, e_tup, e_lst, e_call, e_callK, e_met, e_sl, g_nx, g_expr, g_ret, g_retN, g_bk, g_ct, g_if, g_asg, g_par, g_raise, t_name, t_unp, t_nil, t_cons, t_sub, g_for, i_val, i_rng1, i_rng2, e_ref, f_rt, f_nx, f_ex, drop_id, g_aug, o_iadd, e_lc, w_nil, w_cons, e_yes, i_tup, i_rol, al, lim_eq, Nat.reduceLeDiff, Nat.reduceLT, x_t0, x_t1, x_t2, x_t3, l_tup, l_rol, u_tup, o_cmp, o_add, o_sub, o_neg, o_not, o_abs, o_int, o_max, o_min, q_int, q_nint, q_bl, q_nbl, q_str, q_nstr, fnD, List.map_cons, List.map_nil, List.length_cons, List.length_nil, List.replicate_succ, List.replicate_zero, List.cons_append, List.nil_append, List.append_nil, List.getElem?_cons_zero, List.getElem?_cons_succ, List.getElem?_nil, List.set_cons_zero, List.set_cons_succ, List.zip_cons_cons, List.zip_nil_left, List.foldl_cons, List.foldl_nil, Nat.reduceSub, Nat.reduceAdd, Nat.zero_add, Nat.add_zero, if_true, if_false, reduceIte, ite_true, ite_false, eq_self, and_true, true_and, and_self, decide_true, decide_false, is_int_int, is_int_bl, is_int_str, is_int_tup, is_int_rol, is_int_non, is_bool_int, is_bool_bl, is_bool_str, is_bool_tup, is_bool_rol, is_bool_non, is_tuple_int, is_tuple_bl, is_tuple_str, is_tuple_tup, is_tuple_rol, is_tuple_non, is_str_int, is_str_bl, is_str_str, is_str_tup, is_str_rol, is_str_non, is_list_int, is_list_bl, is_list_str, is_list_tup, is_list_rol, is_list_non, Bool.not_true, Bool.not_false, c1, p16, c2]⟩
    obtain ⟨y, y0, key⟩ := key
    rw [g_ret, e_lst, a_cons, key]
    simp only [b_ok, b_ex, b_bad, o_ok, o_ex, o_bad, n_ok, s_seq, s_nx, s_rt, s_bk, s_ct, s_ex, e_var, e_c, e_bin, e_un, e_blt, e_if, e_and, e_or, e_chain, a_nil, a_cons, e_tup, e_lst, e_call, e_callK, e_met, e_sl, g_nx, g_expr, g_ret, g_retN, g_bk, g_ct, g_if, g_asg, g_par, g_raise, t_name, t_unp, t_nil, t_cons, t_sub, g_for, i_val, i_rng1, i_rng2, e_ref, f_rt, f_nx, f_ex, drop_id, g_aug, o_iadd, e_lc, w_nil, w_cons, e_yes, i_tup, i_rol, al, lim_eq, Nat.reduceLeDiff, Nat.reduceLT, x_t0, x_t1, x_t2, x_t3, l_tup, l_rol, u_tup, o_cmp, o_add, o_sub, o_neg, o_not, o_abs, o_int, o_max, o_min, q_int, q_nint, q_bl, q_nbl, q_str, q_nstr, fnD, List.map_cons, List.map_nil, List.length_cons, List.length_nil, List.replicate_succ, List.replicate_zero, List.cons_append, List.nil_append, List.append_nil, List.getElem?_cons_zero, List.getElem?_cons_succ, List.getElem?_nil, List.set_cons_zero, List.set_cons_succ, List.zip_cons_cons, List.zip_nil_left, List.foldl_cons, List.foldl_nil, Nat.reduceSub, Nat.reduceAdd, Nat.zero_add, Nat.add_zero, if_true, if_false, reduceIte, ite_true, ite_false, eq_self, and_true, true_and, and_self, decide_true, decide_false, is_int_int, is_int_bl, is_int_str, is_int_tup, is_int_rol, is_int_non, is_bool_int, is_bool_bl, is_bool_str, is_bool_tup, is_bool_rol, is_bool_non, is_tuple_int, is_tuple_bl, is_tuple_str, is_tuple_tup, is_tuple_rol, is_tuple_non, is_str_int, is_str_bl, is_str_str, is_str_tup, is_str_rol, is_str_non, is_list_int, is_list_bl, is_list_str, is_list_tup, is_list_rol, is_list_non, Bool.not_true, Bool.not_false]
    have nb : D.bel h.length (.obj (h ++ j).length) = false := by
      simp only [D.bel, List.length_append]
      exact decide_eq_false (by omega)
    have hd : drop h (.obj (h ++ j).length) ((h ++ j) ++ [.lst [.int y, .int mix, .int 0]]) = (h ++ j) ++ [.lst [.int y, .int mix, .int 0]] := by
      unfold drop
      rw [if_neg]
      rintro ⟨q, _⟩
      rw [nb] at q
      cases q
    rw [hd]
    exact ⟨_, _, rfl, ⟨y, mix, 0, at_new, y0, m0, m1, by omega, by omega⟩, by simp, ⟨j ++ [.lst [.int y, .int mix, .int 0]], by simp⟩⟩
  have cl : (cutL ns none (some 6)).length ≤ 63 := Nat.le_trans cut_len hn
  have q1 : (h ++ [MO.lst ((cutL ns none (some 6)).map D.int)] ++ [MO.lst [D.int z]])[h.length]? = some (.lst ((cutL ns none (some 6)).map D.int)) := by simp
  have q2 : (h ++ [MO.lst ((cutL ns none (some 6)).map D.int)] ++ [MO.lst [D.int z]])[h.length + 1]? = some (.lst [D.int z]) := by simp
  have ad := o_addl q1 q2 (by simp only [List.length_map, lim_eq, List.length_cons, List.length_nil]; omega)
  have ep : ∀ (ρ : En) (k : DH), ePart none ρ k = .ok none k := fun _ _ => rfl
  have ep6 : ∀ (ρ : En) (k : DH), ePart (some (eC (.int 6))) ρ k = .ok (some 6) k := fun _ _ => rfl
  have l3 : (h ++ [MO.lst ((cutL ns none (some 6)).map D.int)] ++ [MO.lst [D.int z]] ++ [MO.lst ((cutL ns none (some 6)).map D.int ++ [D.int z])])[(h ++ [MO.lst ((cutL ns none (some 6)).map D.int)] ++ [MO.lst [D.int z]]).length]? = some (.lst ((cutL ns none (some 6)).map D.int ++ [D.int z])) := at_new
  simp only [fnD, List.map_cons, List.map_nil, List.length_cons, List.length_nil, Nat.zero_add, Nat.reduceAdd, Nat.reduceSub, List.replicate_succ, List.replicate_zero, List.cons_append, List.nil_append]
  rw [s_seq, g_asg, own]
  simp only [b_ok, b_ex, b_bad, o_ok, o_ex, o_bad, n_ok, s_seq, s_nx, s_rt, s_bk, s_ct, s_ex, e_var, e_c, e_bin, e_un, e_blt, e_if, e_and, e_or, e_chain, a_nil, a_cons, e_tup, e_lst, e_call, e_callK, e_met, e_sl, g_nx, g_expr, g_ret, g_retN, g_bk, g_ct, g_if, g_asg, g_par, g_raise, t_name, t_unp, t_nil, t_cons, t_sub, g_for, i_val, i_rng1, i_rng2, e_ref, f_rt, f_nx, f_ex, drop_id, g_aug, o_iadd, e_lc, w_nil, w_cons, e_yes, i_tup, i_rol, al, lim_eq, Nat.reduceLeDiff, Nat.reduceLT, x_t0, x_t1, x_t2, x_t3, l_tup, l_rol, u_tup, o_cmp, o_add, o_sub, o_neg, o_not, o_abs, o_int, o_max, o_min, q_int, q_nint, q_bl, q_nbl, q_str, q_nstr, fnD, List.map_cons, List.map_nil, List.length_cons, List.length_nil, List.replicate_succ, List.replicate_zero, List.cons_append, List.nil_append, List.append_nil, List.getElem?_cons_zero, List.getElem?_cons_succ, List.getElem?_nil, List.set_cons_zero, List.set_cons_succ, List.zip_cons_cons, List.zip_nil_left, List.foldl_cons, List.foldl_nil, Nat.reduceSub, Nat.reduceAdd, Nat.zero_add, Nat.add_zero, if_true, if_false, reduceIte, ite_true, ite_false, eq_self, and_true, true_and, and_self, decide_true, decide_false, is_int_int, is_int_bl, is_int_str, is_int_tup, is_int_rol, is_int_non, is_bool_int, is_bool_bl, is_bool_str, is_bool_tup, is_bool_rol, is_bool_non, is_tuple_int, is_tuple_bl, is_tuple_str, is_tuple_tup, is_tuple_rol, is_tuple_non, is_str_int, is_str_bl, is_str_str, is_str_tup, is_str_rol, is_str_non, is_list_int, is_list_bl, is_list_str, is_list_tup, is_list_rol, is_list_non, Bool.not_true, Bool.not_false, o_mul b2 b3, scr_cut s, ep, ep6]
  have ln1 : (h ++ [MO.lst ((cutL ns none (some 6)).map D.int)]).length = h.length + 1 := by simp
  rw [ln1, ad]
  simp only [b_ok, b_ex, b_bad, o_ok, o_ex, o_bad, n_ok, s_seq, s_nx, s_rt, s_bk, s_ct, s_ex, e_var, e_c, e_bin, e_un, e_blt, e_if, e_and, e_or, e_chain, a_nil, a_cons, e_tup, e_lst, e_call, e_callK, e_met, e_sl, g_nx, g_expr, g_ret, g_retN, g_bk, g_ct, g_if, g_asg, g_par, g_raise, t_name, t_unp, t_nil, t_cons, t_sub, g_for, i_val, i_rng1, i_rng2, e_ref, f_rt, f_nx, f_ex, drop_id, g_aug, o_iadd, e_lc, w_nil, w_cons, e_yes, i_tup, i_rol, al, lim_eq, Nat.reduceLeDiff, Nat.reduceLT, x_t0, x_t1, x_t2, x_t3, l_tup, l_rol, u_tup, o_cmp, o_add, o_sub, o_neg, o_not, o_abs, o_int, o_max, o_min, q_int, q_nint, q_bl, q_nbl, q_str, q_nstr, fnD, List.map_cons, List.map_nil, List.length_cons, List.length_nil, List.replicate_succ, List.replicate_zero, List.cons_append, List.nil_append, List.append_nil, List.getElem?_cons_zero, List.getElem?_cons_succ, List.getElem?_nil, List.set_cons_zero, List.set_cons_succ, List.zip_cons_cons, List.zip_nil_left, List.foldl_cons, List.foldl_nil, Nat.reduceSub, Nat.reduceAdd, Nat.zero_add, Nat.add_zero, if_true, if_false, reduceIte, ite_true, ite_false, eq_self, and_true, true_and, and_self, decide_true, decide_false, is_int_int, is_int_bl, is_int_str, is_int_tup, is_int_rol, is_int_non, is_bool_int, is_bool_bl, is_bool_str, is_bool_tup, is_bool_rol, is_bool_non, is_tuple_int, is_tuple_bl, is_tuple_str, is_tuple_tup, is_tuple_rol, is_tuple_non, is_str_int, is_str_bl, is_str_str, is_str_tup, is_str_rol, is_str_non, is_list_int, is_list_bl, is_list_str, is_list_tup, is_list_rol, is_list_non, Bool.not_true, Bool.not_false, i_obj l3]
  refine forO_rule (fun r ρ k => k = (h ++ [MO.lst ((cutL ns none (some 6)).map D.int)] ++ [MO.lst [D.int z]] ++ [MO.lst ((cutL ns none (some 6)).map D.int ++ [D.int z])]) ∧ (∀ x ∈ r, ∃ i : Int, x = .int i) ∧ ∃ (mix : Int) (w : Option D), ρ = [some d, some (.int spot), some (.int z), some (.int mix), w] ∧ 0 ≤ mix ∧ mix < 2147480009)
    (fun r => ∃ (m : Nat) (h' : DH), DL.finish h (sq r (gRet (eLst (aCons (eIf (eOr (eBin oLt (eVar 2) (eC (.int 0))) (eBin oGe (eVar 2) (eBin oPow (eC (.int 10)) (eC (.int 16))))) (eBlt oAbs (aCons (eVar 2) aNil)) (eC (.int 0))) (aCons (eVar 3) (aCons (eC (.int 0)) aNil)))))) = .ok (.obj m) h' ∧ DOK m 0 h' ∧ h.length ≤ m ∧ (∃ j, h' = h ++ j)) ?_ ?_ ?_ _ _ _ ?_
  · rintro r ρ k ⟨rfl, _⟩
    exact l3
  · rintro x r ρ k ⟨rfl, hx, mix, w, rfl, m0, m1⟩
    obtain ⟨i, rfl⟩ := hx x List.mem_cons_self
    have b4 : big mix := big_of (n := 100) (by omega) (by omega)
    refine ⟨_, _, t_name, ?_⟩
    simp only [b_ok, b_ex, b_bad, o_ok, o_ex, o_bad, n_ok, s_seq, s_nx, s_rt, s_bk, s_ct, s_ex, e_var, e_c, e_bin, e_un, e_blt, e_if, e_and, e_or, e_chain, a_nil, a_cons, e_tup, e_lst, e_call, e_callK, e_met, e_sl, g_nx, g_expr, g_ret, g_retN, g_bk, g_ct, g_if, g_asg, g_par, g_raise, t_name, t_unp, t_nil, t_cons, t_sub, g_for, i_val, i_rng1, i_rng2, e_ref, f_rt, f_nx, f_ex, drop_id, g_aug, o_iadd, e_lc, w_nil, w_cons, e_yes, i_tup, i_rol, al, lim_eq, Nat.reduceLeDiff, Nat.reduceLT, x_t0, x_t1, x_t2, x_t3, l_tup, l_rol, u_tup, o_cmp, o_add, o_sub, o_neg, o_not, o_abs, o_int, o_max, o_min, q_int, q_nint, q_bl, q_nbl, q_str, q_nstr, fnD, List.map_cons, List.map_nil, List.length_cons, List.length_nil, List.replicate_succ, List.replicate_zero, List.cons_append, List.nil_append, List.append_nil, List.getElem?_cons_zero, List.getElem?_cons_succ, List.getElem?_nil, List.set_cons_zero, List.set_cons_succ, List.zip_cons_cons, List.zip_nil_left, List.foldl_cons, List.foldl_nil, Nat.reduceSub, Nat.reduceAdd, Nat.zero_add, Nat.add_zero, if_true, if_false, reduceIte, ite_true, ite_false, eq_self, and_true, true_and, and_self, decide_true, decide_false, is_int_int, is_int_bl, is_int_str, is_int_tup, is_int_rol, is_int_non, is_bool_int, is_bool_bl, is_bool_str, is_bool_tup, is_bool_rol, is_bool_non, is_tuple_int, is_tuple_bl, is_tuple_str, is_tuple_tup, is_tuple_rol, is_tuple_non, is_str_int, is_str_bl, is_str_str, is_str_tup, is_str_rol, is_str_non, is_list_int, is_list_bl, is_list_str, is_list_tup, is_list_rol, is_list_non, Bool.not_true, Bool.not_false, o_mul b4 (show big 48271 by decide), o_mod (show (0 : Int) < 2147480009 by omega)]
    exact ⟨fun x hx' => hx x (List.mem_cons_of_mem _ hx'), _, _, rfl, Int.emod_nonneg _ (by omega), Int.emod_lt_of_pos _ (by omega)⟩
  · rintro ρ k ⟨rfl, _, mix, w, rfl, m0, m1⟩
    rw [s_nx]
    exact fin mix w _ _ (by simp only [List.append_assoc]; rfl) m0 m1
  · refine ⟨rfl, fun x hx => ?_, _, _, rfl, by omega, by omega⟩
    rcases List.mem_append.mp hx with hx | hx
    · obtain ⟨i, _, rfl⟩ := List.mem_map.mp hx
      exact ⟨i, rfl⟩
    · exact ⟨z, List.mem_singleton.mp hx⟩
/-- the law's def -/
noncomputable def lawD (c : Int) (right : Fn) : Ds := (gSeq (gFor (DL.iRng1 (eBlt oMax (aCons (eC (.int 1)) (aCons (eBlt oMin (aCons (eC (.int c)) (aCons (eBlt oLen (aCons (eVar 0) aNil)) aNil))) aNil)))) (tName 1) (gIf (eUn oNot (eCall right 1 [] (aCons (eCall f_law_dice 2 [] (aCons (eVar 0) (aCons (eVar 1) aNil))) aNil))) (gRet (eC (.bl false))) gNx)) (gRet (eC (.bl true))))
theorem law_ok {c : Int} {right : Fn} (hc : 0 ≤ c ∧ c ≤ 50) (hr : ∀ (n : Nat) (h : DH), DOK n 0 h → ∃ h', right [.obj n] h = .ok (.bl true) h' ∧ Fr n h h') (ns : List Int) (hn : ns.length ≤ 63) : Says (fnD 2 (lawD c right)) ns := by
  have core : ∀ (d : D) (h : DH), Scr ns d h → ∃ h', fnD 2 (lawD c right) [d] h = .ok (.bl true) h' := by
    intro d h s
    unfold lawD
    simp only [b_ok, b_ex, b_bad, o_ok, o_ex, o_bad, n_ok, s_seq, s_nx, s_rt, s_bk, s_ct, s_ex, e_var, e_c, e_bin, e_un, e_blt, e_if, e_and, e_or, e_chain, a_nil, a_cons, e_tup, e_lst, e_call, e_callK, e_met, e_sl, g_nx, g_expr, g_ret, g_retN, g_bk, g_ct, g_if, g_asg, g_par, g_raise, t_name, t_unp, t_nil, t_cons, t_sub, g_for, i_val, i_rng1, i_rng2, e_ref, f_rt, f_nx, f_ex, drop_id, g_aug, o_iadd, e_lc, w_nil, w_cons, e_yes, i_tup, i_rol, al, lim_eq, Nat.reduceLeDiff, Nat.reduceLT, x_t0, x_t1, x_t2, x_t3, l_tup, l_rol, u_tup, o_cmp, o_add, o_sub, o_neg, o_not, o_abs, o_int, o_max, o_min, q_int, q_nint, q_bl, q_nbl, q_str, q_nstr, fnD, List.map_cons, List.map_nil, List.length_cons, List.length_nil, List.replicate_succ, List.replicate_zero, List.cons_append, List.nil_append, List.append_nil, List.getElem?_cons_zero, List.getElem?_cons_succ, List.getElem?_nil, List.set_cons_zero, List.set_cons_succ, List.zip_cons_cons, List.zip_nil_left, List.foldl_cons, List.foldl_nil, Nat.reduceSub, Nat.reduceAdd, Nat.zero_add, Nat.add_zero, if_true, if_false, reduceIte, ite_true, ite_false, eq_self, and_true, true_and, and_self, decide_true, decide_false, is_int_int, is_int_bl, is_int_str, is_int_tup, is_int_rol, is_int_non, is_bool_int, is_bool_bl, is_bool_str, is_bool_tup, is_bool_rol, is_bool_non, is_tuple_int, is_tuple_bl, is_tuple_str, is_tuple_tup, is_tuple_rol, is_tuple_non, is_str_int, is_str_bl, is_str_str, is_str_tup, is_str_rol, is_str_non, is_list_int, is_list_bl, is_list_str, is_list_tup, is_list_rol, is_list_non, Bool.not_true, Bool.not_false, scr_len s]
    have hm : max (1 : Int) (min c ns.length) ≤ 63 := by omega
    have hm0 : 0 ≤ max (1 : Int) (min c ns.length) := by omega
    rw [if_pos ⟨by omega, by omega⟩]
    simp only [b_ok, b_ex, b_bad, o_ok, o_ex, o_bad, n_ok, s_seq, s_nx, s_rt, s_bk, s_ct, s_ex, e_var, e_c, e_bin, e_un, e_blt, e_if, e_and, e_or, e_chain, a_nil, a_cons, e_tup, e_lst, e_call, e_callK, e_met, e_sl, g_nx, g_expr, g_ret, g_retN, g_bk, g_ct, g_if, g_asg, g_par, g_raise, t_name, t_unp, t_nil, t_cons, t_sub, g_for, i_val, i_rng1, i_rng2, e_ref, f_rt, f_nx, f_ex, drop_id, g_aug, o_iadd, e_lc, w_nil, w_cons, e_yes, i_tup, i_rol, al, lim_eq, Nat.reduceLeDiff, Nat.reduceLT, x_t0, x_t1, x_t2, x_t3, l_tup, l_rol, u_tup, o_cmp, o_add, o_sub, o_neg, o_not, o_abs, o_int, o_max, o_min, q_int, q_nint, q_bl, q_nbl, q_str, q_nstr, fnD, List.map_cons, List.map_nil, List.length_cons, List.length_nil, List.replicate_succ, List.replicate_zero, List.cons_append, List.nil_append, List.append_nil, List.getElem?_cons_zero, List.getElem?_cons_succ, List.getElem?_nil, List.set_cons_zero, List.set_cons_succ, List.zip_cons_cons, List.zip_nil_left, List.foldl_cons, List.foldl_nil, Nat.reduceSub, Nat.reduceAdd, Nat.zero_add, Nat.add_zero, if_true, if_false, reduceIte, ite_true, ite_false, eq_self, and_true, true_and, and_self, decide_true, decide_false, is_int_int, is_int_bl, is_int_str, is_int_tup, is_int_rol, is_int_non, is_bool_int, is_bool_bl, is_bool_str, is_bool_tup, is_bool_rol, is_bool_non, is_tuple_int, is_tuple_bl, is_tuple_str, is_tuple_tup, is_tuple_rol, is_tuple_non, is_str_int, is_str_bl, is_str_str, is_str_tup, is_str_rol, is_str_non, is_list_int, is_list_bl, is_list_str, is_list_tup, is_list_rol, is_list_non, Bool.not_true, Bool.not_false]
    refine forA_rule (fun r ρ k => Scr ns d k ∧ (∀ x ∈ r, ∃ i : Nat, x = .int i ∧ i ≤ 100) ∧ ∃ (w : Option D), ρ = [some d, w]) (fun r => ∃ h', DL.finish h (sq r (gRet (eC (.bl true)))) = .ok (.bl true) h') ?_ ?_ _ _ _ ?_
    · rintro x r ρ k ⟨s, hx, w, rfl⟩
      obtain ⟨i, rfl, hi⟩ := hx x List.mem_cons_self
      obtain ⟨m, h1, e1, d1, lm, j, rfl⟩ := dice_ok s hn hi
      obtain ⟨h2, e2, f2⟩ := hr m _ d1
      refine ⟨_, _, t_name, ?_⟩
      simp only [b_ok, b_ex, b_bad, o_ok, o_ex, o_bad, n_ok, s_seq, s_nx, s_rt, s_bk, s_ct, s_ex, e_var, e_c, e_bin, e_un, e_blt, e_if, e_and, e_or, e_chain, a_nil, a_cons, e_tup, e_lst, e_call, e_callK, e_met, e_sl, g_nx, g_expr, g_ret, g_retN, g_bk, g_ct, g_if, g_asg, g_par, g_raise, t_name, t_unp, t_nil, t_cons, t_sub, g_for, i_val, i_rng1, i_rng2, e_ref, f_rt, f_nx, f_ex, drop_id, g_aug, o_iadd, e_lc, w_nil, w_cons, e_yes, i_tup, i_rol, al, lim_eq, Nat.reduceLeDiff, Nat.reduceLT, x_t0, x_t1, x_t2, x_t3, l_tup, l_rol, u_tup, o_cmp, o_add, o_sub, o_neg, o_not, o_abs, o_int, o_max, o_min, q_int, q_nint, q_bl, q_nbl, q_str, q_nstr, fnD, List.map_cons, List.map_nil, List.length_cons, List.length_nil, List.replicate_succ, List.replicate_zero, List.cons_append, List.nil_append, List.append_nil, List.getElem?_cons_zero, List.getElem?_cons_succ, List.getElem?_nil, List.set_cons_zero, List.set_cons_succ, List.zip_cons_cons, List.zip_nil_left, List.foldl_cons, List.foldl_nil, Nat.reduceSub, Nat.reduceAdd, Nat.zero_add, Nat.add_zero, if_true, if_false, reduceIte, ite_true, ite_false, eq_self, and_true, true_and, and_self, decide_true, decide_false, is_int_int, is_int_bl, is_int_str, is_int_tup, is_int_rol, is_int_non, is_bool_int, is_bool_bl, is_bool_str, is_bool_tup, is_bool_rol, is_bool_non, is_tuple_int, is_tuple_bl, is_tuple_str, is_tuple_tup, is_tuple_rol, is_tuple_non, is_str_int, is_str_bl, is_str_str, is_str_tup, is_str_rol, is_str_non, is_list_int, is_list_bl, is_list_str, is_list_tup, is_list_rol, is_list_non, Bool.not_true, Bool.not_false, e1, e2]
      refine ⟨?_, fun x hx' => hx x (List.mem_cons_of_mem _ hx'), _, rfl⟩
      rcases s with rfl | ⟨q, rfl, e⟩
      · exact .inl rfl
      · have lq : q < k.length := (List.getElem?_eq_some_iff.mp e).1
        refine .inr ⟨q, rfl, ?_⟩
        rw [f2.2 q (by omega), List.getElem?_append_left lq]
        exact e
    · rintro ρ k ⟨s, _, w, rfl⟩
      simp only [b_ok, b_ex, b_bad, o_ok, o_ex, o_bad, n_ok, s_seq, s_nx, s_rt, s_bk, s_ct, s_ex, e_var, e_c, e_bin, e_un, e_blt, e_if, e_and, e_or, e_chain, a_nil, a_cons, e_tup, e_lst, e_call, e_callK, e_met, e_sl, g_nx, g_expr, g_ret, g_retN, g_bk, g_ct, g_if, g_asg, g_par, g_raise, t_name, t_unp, t_nil, t_cons, t_sub, g_for, i_val, i_rng1, i_rng2, e_ref, f_rt, f_nx, f_ex, drop_id, g_aug, o_iadd, e_lc, w_nil, w_cons, e_yes, i_tup, i_rol, al, lim_eq, Nat.reduceLeDiff, Nat.reduceLT, x_t0, x_t1, x_t2, x_t3, l_tup, l_rol, u_tup, o_cmp, o_add, o_sub, o_neg, o_not, o_abs, o_int, o_max, o_min, q_int, q_nint, q_bl, q_nbl, q_str, q_nstr, fnD, List.map_cons, List.map_nil, List.length_cons, List.length_nil, List.replicate_succ, List.replicate_zero, List.cons_append, List.nil_append, List.append_nil, List.getElem?_cons_zero, List.getElem?_cons_succ, List.getElem?_nil, List.set_cons_zero, List.set_cons_succ, List.zip_cons_cons, List.zip_nil_left, List.foldl_cons, List.foldl_nil, Nat.reduceSub, Nat.reduceAdd, Nat.zero_add, Nat.add_zero, if_true, if_false, reduceIte, ite_true, ite_false, eq_self, and_true, true_and, and_self, decide_true, decide_false, is_int_int, is_int_bl, is_int_str, is_int_tup, is_int_rol, is_int_non, is_bool_int, is_bool_bl, is_bool_str, is_bool_tup, is_bool_rol, is_bool_non, is_tuple_int, is_tuple_bl, is_tuple_str, is_tuple_tup, is_tuple_rol, is_tuple_non, is_str_int, is_str_bl, is_str_str, is_str_tup, is_str_rol, is_str_non, is_list_int, is_list_bl, is_list_str, is_list_tup, is_list_rol, is_list_non, Bool.not_true, Bool.not_false]
      exact ⟨_, rfl⟩
    · refine ⟨s, fun x hx => ?_, _, rfl⟩
      unfold rngItems at hx
      obtain ⟨i, hi, rfl⟩ := List.mem_map.mp hx
      have := List.mem_range.mp hi
      exact ⟨i, by simp, by omega⟩
  exact ⟨core _ _ (.inl rfl), core _ _ (.inr ⟨0, rfl, rfl⟩)⟩
end Law
/-! fractions compared, steps, picks: what several laws want -/
namespace Law
open PySem L2 DL
theorem step {f g : Ds} {ρ ρ' : En} {h h' : DH} {O : Ss → Prop} (e : f ρ h = .nx ρ' h') (k : O (g ρ' h')) : O (gSeq f g ρ h) := by
  rw [s_seq, e]
  exact k
theorem stepx {f g : Ds} {ρ : En} {h : DH} {O : Ss → Prop} (P : En → DH → Prop) (e : ∃ ρ' h', f ρ h = .nx ρ' h' ∧ P ρ' h') (k : ∀ ρ' h', P ρ' h' → O (g ρ' h')) : O (gSeq f g ρ h) := by
  obtain ⟨ρ', h', e, p⟩ := e
  rw [s_seq, e]
  exact k _ _ p
theorem zero_fr : k_ZERO = fr 0 := rfl
theorem one_fr : k_ONE = fr 1 := rfl
theorem fr0 : D.tup [.int 0, .int 1] = fr 0 := rfl
theorem fr1 : D.tup [.int 1, .int 1] = fr 1 := rfl
theorem sm_zero : sm 1 0 := ⟨by decide, by decide⟩
theorem sm_one : sm 1 1 := ⟨by decide, by decide⟩
theorem eqv_fr (p q : Rat) : PyData.eqv (toP (fr p)) (toP (fr q)) = decide (p = q) := by
  unfold fr
  simp only [toP, toPs, PyData.eqv, PyData.eqvAll, Bool.and_true]
  by_cases h : p = q
  · subst h
    simp
  · rw [decide_eq_false h]
    have : ¬ (p.num = q.num ∧ p.den = q.den) := fun z => h (Rat.ext z.1 z.2)
    simp only [Bool.and_eq_false_iff, beq_eq_false_iff_ne, ne_eq]
    omega
theorem pl_fr (n : Nat) (q : Rat) : pl (n + 1) (fr q) = true := by simp [fr, pl, pls]
theorem q_fr {p q : Rat} {h : DH} : oEq (fr p) (fr q) h = .ok (.bl (decide (p = q))) h := by rw [q_pl (pl_fr 18 p) (pl_fr 18 q), eqv_fr]
theorem q_nfr {p q : Rat} {h : DH} : oNe (fr p) (fr q) h = .ok (.bl (!decide (p = q))) h := by rw [q_npl (pl_fr 18 p) (pl_fr 18 q), eqv_fr]
theorem pl_pair (n : Nat) (p q : Rat) : pl (n + 2) (.tup [fr p, fr q]) = true := by simp [fr, pl, pls]
theorem eqv_pair (p q r s : Rat) : PyData.eqv (toP (.tup [fr p, fr q])) (toP (.tup [fr r, fr s])) = decide (p = r ∧ q = s) := by
  simp only [toP, toPs, PyData.eqv, PyData.eqvAll, eqv_fr, Bool.and_true, Bool.decide_and]
theorem q_pair {p q r s : Rat} {h : DH} : oEq (.tup [fr p, fr q]) (.tup [fr r, fr s]) h = .ok (.bl (decide (p = r ∧ q = s))) h := by rw [q_pl (pl_pair 17 p q) (pl_pair 17 r s), eqv_pair]
theorem q_npair {p q r s : Rat} {h : DH} : oNe (.tup [fr p, fr q]) (.tup [fr r, fr s]) h = .ok (.bl (!decide (p = r ∧ q = s))) h := by rw [q_npl (pl_pair 17 p q) (pl_pair 17 r s), eqv_pair]
theorem is_tuple_fr {q : Rat} {h : DH} : oIsi "tuple" (fr q) h = .ok (.bl true) h := is_tuple_tup
theorem x_fr0 {q : Rat} {h : DH} : oIx (fr q) (.int 0) h = .ok (.int q.num) h := x_t0
theorem x_fr1 {q : Rat} {h : DH} : oIx (fr q) (.int 1) h = .ok (.int q.den) h := x_t1
theorem n_fr {q : Rat} {h : DH} : oIs (fr q) .non h = .ok (.bl false) h := rfl
theorem nn_fr {q : Rat} {h : DH} : oIsNot (fr q) .non h = .ok (.bl true) h := rfl
theorem n_tup {xs : List D} {h : DH} : oIs (.tup xs) .non h = .ok (.bl false) h := rfl
theorem nn_tup {xs : List D} {h : DH} : oIsNot (.tup xs) .non h = .ok (.bl true) h := rfl
theorem n_non {h : DH} : oIs .non .non h = .ok (.bl true) h := rfl
theorem nn_non {h : DH} : oIsNot .non .non h = .ok (.bl false) h := rfl
theorem num0 {q : Rat} : (q.num = 0) = (q = 0) := propext Rat.num_eq_zero
/-- lists of plain things compared -/
theorem py_lst {m : Nat} {xs : List D} {h : DH} (p : h[m]? = some (.lst xs)) (hx : pls 18 xs = true) : pyOf h deep (.obj m) = some (.list (toPs xs)) ∧ SeqAt.shaped (.list (toPs xs)) = true := by
  obtain ⟨a, b, c⟩ := pyAll_pl h 18 xs hx
  refine ⟨?_, shp (n := 19) (by simp only [PyData.canLay0]; exact b) (by simp only [PyData.depth]; omega) (by omega)⟩
  show (match h[m]? with | some (.lst xs) => (pyAll (pyOf h 19) xs).map PyData.list | _ => none) = _
  rw [p]
  show (pyAll (pyOf h (18 + 1)) xs).map PyData.list = _
  rw [a] <;> rfl
theorem eqD_lst {m n : Nat} {xs ys : List D} {h : DH} (p : h[m]? = some (.lst xs)) (q : h[n]? = some (.lst ys)) (hx : pls 18 xs = true) (hy : pls 18 ys = true) : eqD h (.obj m) (.obj n) = some (PyData.eqvAll (toPs xs) (toPs ys)) := by
  obtain ⟨e1, s1⟩ := py_lst p hx
  obtain ⟨e2, s2⟩ := py_lst q hy
  have e3 : eqD h (.obj m) (.obj n) = some (PyData.eqv (.list (toPs xs)) (.list (toPs ys))) := by
    show (match pyOf h deep (.obj m), pyOf h deep (.obj n) with
    | some p, some q => if SeqAt.shaped p = true ∧ SeqAt.shaped q = true then some (PyData.eqv p q) else none
    | _, _ => none) = _
    rw [e1, e2]
    exact if_pos ⟨s1, s2⟩
  rw [e3]
  simp only [PyData.eqv]
theorem q_lst {m n : Nat} {xs ys : List D} {h : DH} (p : h[m]? = some (.lst xs)) (q : h[n]? = some (.lst ys)) (hx : pls 18 xs = true) (hy : pls 18 ys = true) : oEq (.obj m) (.obj n) h = .ok (.bl (PyData.eqvAll (toPs xs) (toPs ys))) h := by
  unfold oEq
  rw [eqD_lst p q hx hy]
theorem q_nlst {m n : Nat} {xs ys : List D} {h : DH} (p : h[m]? = some (.lst xs)) (q : h[n]? = some (.lst ys)) (hx : pls 18 xs = true) (hy : pls 18 ys = true) : oNe (.obj m) (.obj n) h = .ok (.bl (!PyData.eqvAll (toPs xs) (toPs ys))) h := by
  unfold oNe
  rw [eqD_lst p q hx hy]
theorem eqvAll_self : ∀ {n : Nat} {xs : List D}, pls n xs = true → PyData.eqvAll (toPs xs) (toPs xs) = true := fun {n xs} hx => by
  obtain ⟨a, b, c⟩ := pyAll_pl [] n xs hx
  have := SeqAt.eqv_refl (.list (toPs xs)) (by simp only [PyData.canLay0]; exact b)
  simpa only [PyData.eqv] using this
/-- two lists just laid, the same -/
theorem q_self2 {xs : List D} {m : Nat} {h : DH} (p : h[m]? = some (.lst xs)) (hx : pls 18 xs = true) : oEq (.obj m) (.obj h.length) (h ++ [.lst xs]) = .ok (.bl true) (h ++ [.lst xs]) := by
  have l := (List.getElem?_eq_some_iff.mp p).1
  rw [q_lst (by rw [List.getElem?_append_left l]; exact p) at_new hx hx, eqvAll_self hx]
/-- a pick off a list just laid -/
theorem pick_new {n k : Nat} {h : DH} {T : List D} {P : D → Prop} (d : DOK n k h) (hk : k ≤ 2 ^ 100) (hP : ∀ x ∈ T, P x) (h0 : T ≠ []) (hl : T.length < 1000000) :
    ∃ (x : D) (h' : DH), P x ∧ f_law_pick [.obj n, .obj h.length] (h ++ [.lst T]) = .ok x h' ∧ DOK n (k + 1) h' ∧ Grow n h h' ∧ h.length ≤ h'.length := by
  have ln := d.lt
  obtain ⟨i, x, h2, ei, e2, d2, g2⟩ := pick_ok (d.add [.lst T]) hk at_new (by omega) h0 hl
  have gr : Grow n h h2 := Grow.add.trans g2.grow
  exact ⟨x, h2, hP x (List.mem_of_getElem? ei), e2, d2, gr, gr.1⟩
theorem Grow.put {n m : Nat} {h k : DH} {o : MO} (g : Grow n h k) (hm : h.length ≤ m) : Grow n h (k.set m o) := ⟨by simpa using g.1, fun i hi hn => by rw [List.getElem?_set_ne (by omega)]; exact g.2 i hi hn⟩
theorem DOK.put {n m c : Nat} {k : DH} {o : MO} (d : DOK n c k) (hm : m ≠ n) : DOK n c (k.set m o) := by
  obtain ⟨x, y, z, e, r⟩ := d
  exact ⟨x, y, z, by rw [List.getElem?_set_ne hm]; exact e, r⟩
/-! ### small numbers, rays, parts, matrices -/
abbrev pr (p q : Rat) : D := .tup [fr p, fr q]
abbrev mat (a b c d : Rat) : D := .tup [.tup [fr a, fr b], .tup [fr c, fr d]]
theorem bel_fr (n : Nat) (q : Rat) : D.bel n (fr q) = true := by simp [D.bel, D.belL, fr]
theorem bel_pr (n : Nat) (p q : Rat) : D.bel n (pr p q) = true := by simp [D.bel, D.belL, fr]
theorem bel_mat (n : Nat) (a b c d : Rat) : D.bel n (mat a b c d) = true := by simp [D.bel, D.belL, fr]
/-- at most 6, in halves or thirds -/
def tiny (q : Rat) : Prop := ∃ n d : Int, q = Rat.divInt n d ∧ n.natAbs ≤ 6 ∧ 1 ≤ d ∧ d ≤ 3
theorem tiny.sm {q : Rat} (h : tiny q) : sm 3 q := by
  obtain ⟨n, d, rfl, a, b, c⟩ := h
  obtain ⟨h1, h2⟩ := num_le (a := n) (b := d) (by omega)
  exact ⟨by omega, by omega⟩
theorem tiny.good {q : Rat} (h : tiny q) : good q := by
  obtain ⟨n, d, rfl, a, b, c⟩ := h
  exact good_div (by omega) (by omega) (by omega)
theorem small_ok {n k : Nat} {h : DH} (d : DOK n k h) (hk : k + 2 ≤ 2 ^ 100) : ∃ (q : Rat) (h' : DH), f_law_small [.obj n] h = .ok (fr q) h' ∧ tiny q ∧ DOK n (k + 2) h' ∧ Fr n h h' := by
  have ln := d.lt
  obtain ⟨r, h1, e1, r0, r1, d1, f1⟩ := roll_ok d (by omega) (m := 13) (by omega) (by decide)
  obtain ⟨x, h2, ⟨i, rfl, i0, i1⟩, e2, d2, g2, _⟩ := pick_new (T := [.int 1, .int 1, .int 2, .int 3]) (P := fun x => ∃ i : Int, x = .int i ∧ 1 ≤ i ∧ i ≤ 3) d1 (by omega) (by
    simp only [List.mem_cons, List.not_mem_nil, or_false, forall_eq_or_imp, forall_eq, D.int.injEq, exists_eq_left']
    omega) (by simp) (by simp)
  unfold f_law_small d_law_small
  simp only [b_ok, b_ex, b_bad, o_ok, o_ex, o_bad, n_ok, s_seq, s_nx, s_rt, s_bk, s_ct, s_ex, e_var, e_c, e_bin, e_un, e_blt, e_if, e_and, e_or, e_chain, a_nil, a_cons, e_tup, e_lst, e_call, e_callK, e_met, e_sl, g_nx, g_expr, g_ret, g_retN, g_bk, g_ct, g_if, g_asg, g_par, g_raise, t_name, t_unp, t_nil, t_cons, t_sub, g_for, i_val, i_rng1, i_rng2, e_ref, f_rt, f_nx, f_ex, drop_id, g_aug, o_iadd, e_lc, w_nil, w_cons, e_yes, i_tup, i_rol, al, lim_eq, Nat.reduceLeDiff, Nat.reduceLT, x_t0, x_t1, x_t2, x_t3, l_tup, l_rol, u_tup, o_cmp, o_add, o_sub, o_neg, o_not, o_abs, o_int, o_max, o_min, q_int, q_nint, q_bl, q_nbl, q_str, q_nstr, fnD, List.map_cons, List.map_nil, List.length_cons, List.length_nil, List.replicate_succ, List.replicate_zero, List.cons_append, List.nil_append, List.append_nil, List.getElem?_cons_zero, List.getElem?_cons_succ, List.getElem?_nil, List.set_cons_zero, List.set_cons_succ, List.zip_cons_cons, List.zip_nil_left, List.foldl_cons, List.foldl_nil, Nat.reduceSub, Nat.reduceAdd, Nat.zero_add, Nat.add_zero, if_true, if_false, reduceIte, ite_true, ite_false, eq_self, and_true, true_and, and_self, decide_true, decide_false, is_int_int, is_int_bl, is_int_str, is_int_tup, is_int_rol, is_int_non, is_bool_int, is_bool_bl, is_bool_str, is_bool_tup, is_bool_rol, is_bool_non, is_tuple_int, is_tuple_bl, is_tuple_str, is_tuple_tup, is_tuple_rol, is_tuple_non, is_str_int, is_str_bl, is_str_str, is_str_tup, is_str_rol, is_str_non, is_list_int, is_list_bl, is_list_str, is_list_tup, is_list_rol, is_list_non, Bool.not_true, Bool.not_false, e1, e2, law_f_ok (r - 6) i (by omega) (log40 (by omega))]
  obtain ⟨h', e', f', d'⟩ := ret_dice (d := fr (Rat.divInt (r - 6) i)) (f1.grow.trans g2) d2 ln (bel_fr _ _)
  rw [f_rt] at e'
  exact ⟨_, h', e', ⟨r - 6, i, rfl, by omega, i0, i1⟩, d', f'⟩
/-- a part: a gap, or a lens -/
def part (p : Bool × Rat) : D := .tup [.str (if p.1 = true then "gap" else "lens"), fr p.2]
def stepQ (p : Bool × Rat) (r : Rat × Rat) : Rat × Rat := if p.1 = true then (r.1 + p.2 * r.2, r.2) else (r.1, r.2 + -(p.2 * r.1))
theorem ne_lg : (("lens" : Str) = "gap") = False := by simp only [eq_iff_iff, iff_false]; decide
theorem step_ok {p : Bool × Rat} {r : Rat × Rat} {n m : Nat} (hp : sm n p.2) (h1 : sm m r.1) (h2 : sm m r.2) (hs : n + m + m ≤ 2998) (h : DH) : f_law_step [part p, pr r.1 r.2] h = .ok (pr (stepQ p r).1 (stepQ p r).2) h := by
  obtain ⟨b, q⟩ := p
  unfold f_law_step d_law_step part stepQ
  cases b
  · simp only [b_ok, b_ex, b_bad, o_ok, o_ex, o_bad, n_ok, s_seq, s_nx, s_rt, s_bk, s_ct, s_ex, e_var, e_c, e_bin, e_un, e_blt, e_if, e_and, e_or, e_chain, a_nil, a_cons, e_tup, e_lst, e_call, e_callK, e_met, e_sl, g_nx, g_expr, g_ret, g_retN, g_bk, g_ct, g_if, g_asg, g_par, g_raise, t_name, t_unp, t_nil, t_cons, t_sub, g_for, i_val, i_rng1, i_rng2, e_ref, f_rt, f_nx, f_ex, drop_id, g_aug, o_iadd, e_lc, w_nil, w_cons, e_yes, i_tup, i_rol, al, lim_eq, Nat.reduceLeDiff, Nat.reduceLT, x_t0, x_t1, x_t2, x_t3, l_tup, l_rol, u_tup, o_cmp, o_add, o_sub, o_neg, o_not, o_abs, o_int, o_max, o_min, q_int, q_nint, q_bl, q_nbl, q_str, q_nstr, fnD, List.map_cons, List.map_nil, List.length_cons, List.length_nil, List.replicate_succ, List.replicate_zero, List.cons_append, List.nil_append, List.append_nil, List.getElem?_cons_zero, List.getElem?_cons_succ, List.getElem?_nil, List.set_cons_zero, List.set_cons_succ, List.zip_cons_cons, List.zip_nil_left, List.foldl_cons, List.foldl_nil, Nat.reduceSub, Nat.reduceAdd, Nat.zero_add, Nat.add_zero, if_true, if_false, reduceIte, ite_true, ite_false, eq_self, and_true, true_and, and_self, decide_true, decide_false, is_int_int, is_int_bl, is_int_str, is_int_tup, is_int_rol, is_int_non, is_bool_int, is_bool_bl, is_bool_str, is_bool_tup, is_bool_rol, is_bool_non, is_tuple_int, is_tuple_bl, is_tuple_str, is_tuple_tup, is_tuple_rol, is_tuple_non, is_str_int, is_str_bl, is_str_str, is_str_tup, is_str_rol, is_str_non, is_list_int, is_list_bl, is_list_str, is_list_tup, is_list_rol, is_list_non, Bool.not_true, Bool.not_false, Bool.false_eq_true, ne_lg, law_mul_ok hp h1 (by omega), law_neg_ok, law_add_ok h2 (sm_neg (sm_mul hp h1)) (by omega), lim2]
  · simp only [b_ok, b_ex, b_bad, o_ok, o_ex, o_bad, n_ok, s_seq, s_nx, s_rt, s_bk, s_ct, s_ex, e_var, e_c, e_bin, e_un, e_blt, e_if, e_and, e_or, e_chain, a_nil, a_cons, e_tup, e_lst, e_call, e_callK, e_met, e_sl, g_nx, g_expr, g_ret, g_retN, g_bk, g_ct, g_if, g_asg, g_par, g_raise, t_name, t_unp, t_nil, t_cons, t_sub, g_for, i_val, i_rng1, i_rng2, e_ref, f_rt, f_nx, f_ex, drop_id, g_aug, o_iadd, e_lc, w_nil, w_cons, e_yes, i_tup, i_rol, al, lim_eq, Nat.reduceLeDiff, Nat.reduceLT, x_t0, x_t1, x_t2, x_t3, l_tup, l_rol, u_tup, o_cmp, o_add, o_sub, o_neg, o_not, o_abs, o_int, o_max, o_min, q_int, q_nint, q_bl, q_nbl, q_str, q_nstr, fnD, List.map_cons, List.map_nil, List.length_cons, List.length_nil, List.replicate_succ, List.replicate_zero, List.cons_append, List.nil_append, List.append_nil, List.getElem?_cons_zero, List.getElem?_cons_succ, List.getElem?_nil, List.set_cons_zero, List.set_cons_succ, List.zip_cons_cons, List.zip_nil_left, List.foldl_cons, List.foldl_nil, Nat.reduceSub, Nat.reduceAdd, Nat.zero_add, Nat.add_zero, if_true, if_false, reduceIte, ite_true, ite_false, eq_self, and_true, true_and, and_self, decide_true, decide_false, is_int_int, is_int_bl, is_int_str, is_int_tup, is_int_rol, is_int_non, is_bool_int, is_bool_bl, is_bool_str, is_bool_tup, is_bool_rol, is_bool_non, is_tuple_int, is_tuple_bl, is_tuple_str, is_tuple_tup, is_tuple_rol, is_tuple_non, is_str_int, is_str_bl, is_str_str, is_str_tup, is_str_rol, is_str_non, is_list_int, is_list_bl, is_list_str, is_list_tup, is_list_rol, is_list_non, Bool.not_true, Bool.not_false, law_mul_ok hp h2 (by omega), law_add_ok h1 (sm_mul hp h2) (by omega), lim2]
theorem step_sm {p : Bool × Rat} {r : Rat × Rat} {n m : Nat} (hp : sm n p.2) (h1 : sm m r.1) (h2 : sm m r.2) : sm (m + (n + m) + 1) (stepQ p r).1 ∧ sm (m + (n + m) + 1) (stepQ p r).2 := by
  obtain ⟨b, q⟩ := p
  unfold stepQ
  cases b
  · exact ⟨h1.mono (by omega), sm_add h2 (sm_neg (sm_mul hp h1))⟩
  · exact ⟨sm_add h1 (sm_mul hp h2), h2.mono (by omega)⟩
def outQ (ps : List (Bool × Rat)) (r : Rat × Rat) : Rat × Rat := ps.foldl (fun r p => stepQ p r) r
/-- how many bits behind i parts -/
def outB (n m : Nat) : Nat → Nat
  | 0 => m
  | i + 1 => outB n (m + (n + m) + 1) i
theorem outB_le (n : Nat) : ∀ (i m j : Nat), j ≤ i → m ≤ outB n m j ∧ outB n m j ≤ outB n m i
  | 0, m, j, h => by
    have : j = 0 := by omega
    subst this
    exact ⟨Nat.le_refl _, Nat.le_refl _⟩
  | i + 1, m, 0, h => by
    have := (outB_le n i (m + (n + m) + 1) i (Nat.le_refl _)).1
    exact ⟨Nat.le_refl _, by show m ≤ outB n (m + (n + m) + 1) i; omega⟩
  | i + 1, m, j + 1, h => by
    have := outB_le n i (m + (n + m) + 1) j (by omega)
    exact ⟨by show m ≤ outB n (m + (n + m) + 1) j; omega, this.2⟩
theorem out_ok {ps : List (Bool × Rat)} {r : Rat × Rat} {n m k : Nat} {h : DH} (hp : ∀ p ∈ ps, sm n p.2) (h1 : sm m r.1) (h2 : sm m r.2) (hs : n + 2 * outB n m ps.length ≤ 2998) (q : h[k]? = some (.lst (ps.map part))) :
    f_law_out [.obj k, pr r.1 r.2] h = .ok (pr (outQ ps r).1 (outQ ps r).2) h := by
  unfold f_law_out d_law_out
  simp only [b_ok, b_ex, b_bad, o_ok, o_ex, o_bad, n_ok, s_seq, s_nx, s_rt, s_bk, s_ct, s_ex, e_var, e_c, e_bin, e_un, e_blt, e_if, e_and, e_or, e_chain, a_nil, a_cons, e_tup, e_lst, e_call, e_callK, e_met, e_sl, g_nx, g_expr, g_ret, g_retN, g_bk, g_ct, g_if, g_asg, g_par, g_raise, t_name, t_unp, t_nil, t_cons, t_sub, g_for, i_val, i_rng1, i_rng2, e_ref, f_rt, f_nx, f_ex, drop_id, g_aug, o_iadd, e_lc, w_nil, w_cons, e_yes, i_tup, i_rol, al, lim_eq, Nat.reduceLeDiff, Nat.reduceLT, x_t0, x_t1, x_t2, x_t3, l_tup, l_rol, u_tup, o_cmp, o_add, o_sub, o_neg, o_not, o_abs, o_int, o_max, o_min, q_int, q_nint, q_bl, q_nbl, q_str, q_nstr, fnD, List.map_cons, List.map_nil, List.length_cons, List.length_nil, List.replicate_succ, List.replicate_zero, List.cons_append, List.nil_append, List.append_nil, List.getElem?_cons_zero, List.getElem?_cons_succ, List.getElem?_nil, List.set_cons_zero, List.set_cons_succ, List.zip_cons_cons, List.zip_nil_left, List.foldl_cons, List.foldl_nil, Nat.reduceSub, Nat.reduceAdd, Nat.zero_add, Nat.add_zero, if_true, if_false, reduceIte, ite_true, ite_false, eq_self, and_true, true_and, and_self, decide_true, decide_false, is_int_int, is_int_bl, is_int_str, is_int_tup, is_int_rol, is_int_non, is_bool_int, is_bool_bl, is_bool_str, is_bool_tup, is_bool_rol, is_bool_non, is_tuple_int, is_tuple_bl, is_tuple_str, is_tuple_tup, is_tuple_rol, is_tuple_non, is_str_int, is_str_bl, is_str_str, is_str_tup, is_str_rol, is_str_non, is_list_int, is_list_bl, is_list_str, is_list_tup, is_list_rol, is_list_non, Bool.not_true, Bool.not_false, i_obj q]
  refine forO_rule (fun t ρ g => g = h ∧ ∃ (us : List (Bool × Rat)) (s : Rat × Rat) (j : Nat) (w : Option D), t = us.map part ∧ (∀ p ∈ us, sm n p.2) ∧ outQ us s = outQ ps r ∧ sm j s.1 ∧ sm j s.2 ∧ n + 2 * outB n j us.length ≤ 2998 ∧ ρ = [some (.obj k), some (pr s.1 s.2), w])
    (fun t => DL.finish h (sq t (gRet (eVar 1))) = .ok (pr (outQ ps r).1 (outQ ps r).2) h) ?_ ?_ ?_ _ _ _ ⟨rfl, ps, r, m, none, rfl, hp, rfl, h1, h2, hs, rfl⟩
  · rintro t ρ g ⟨rfl, _⟩
    exact q
  · rintro x t ρ g ⟨rfl, us, s, j, w, e, hu, ho, s1, s2, hz, rfl⟩
    match us, e with
    | u :: us, e =>
      simp only [List.map_cons, List.cons.injEq] at e
      obtain ⟨rfl, rfl⟩ := e
      have gu := hu u List.mem_cons_self
      have hj := outB_le n (us.length + 1) j (us.length + 1) (Nat.le_refl _)
      simp only [List.length_cons] at hz
      refine ⟨_, _, t_name, ?_⟩
      have hj2 : j + (n + j) + 1 ≤ outB n j (us.length + 1) := (outB_le n us.length (j + (n + j) + 1) us.length (Nat.le_refl _)).1
      simp only [b_ok, b_ex, b_bad, o_ok, o_ex, o_bad, n_ok, s_seq, s_nx, s_rt, s_bk, s_ct, s_ex, e_var, e_c, e_bin, e_un, e_blt, e_if, e_and, e_or, e_chain, a_nil, a_cons, e_tup, e_lst, e_call, e_callK, e_met, e_sl, g_nx, g_expr, g_ret, g_retN, g_bk, g_ct, g_if, g_asg, g_par, g_raise, t_name, t_unp, t_nil, t_cons, t_sub, g_for, i_val, i_rng1, i_rng2, e_ref, f_rt, f_nx, f_ex, drop_id, g_aug, o_iadd, e_lc, w_nil, w_cons, e_yes, i_tup, i_rol, al, lim_eq, Nat.reduceLeDiff, Nat.reduceLT, x_t0, x_t1, x_t2, x_t3, l_tup, l_rol, u_tup, o_cmp, o_add, o_sub, o_neg, o_not, o_abs, o_int, o_max, o_min, q_int, q_nint, q_bl, q_nbl, q_str, q_nstr, fnD, List.map_cons, List.map_nil, List.length_cons, List.length_nil, List.replicate_succ, List.replicate_zero, List.cons_append, List.nil_append, List.append_nil, List.getElem?_cons_zero, List.getElem?_cons_succ, List.getElem?_nil, List.set_cons_zero, List.set_cons_succ, List.zip_cons_cons, List.zip_nil_left, List.foldl_cons, List.foldl_nil, Nat.reduceSub, Nat.reduceAdd, Nat.zero_add, Nat.add_zero, if_true, if_false, reduceIte, ite_true, ite_false, eq_self, and_true, true_and, and_self, decide_true, decide_false, is_int_int, is_int_bl, is_int_str, is_int_tup, is_int_rol, is_int_non, is_bool_int, is_bool_bl, is_bool_str, is_bool_tup, is_bool_rol, is_bool_non, is_tuple_int, is_tuple_bl, is_tuple_str, is_tuple_tup, is_tuple_rol, is_tuple_non, is_str_int, is_str_bl, is_str_str, is_str_tup, is_str_rol, is_str_non, is_list_int, is_list_bl, is_list_str, is_list_tup, is_list_rol, is_list_non, Bool.not_true, Bool.not_false, step_ok gu s1 s2 (by omega)]
      obtain ⟨z1, z2⟩ := step_sm gu s1 s2
      exact ⟨us, stepQ u s, _, _, rfl, fun p hp' => hu p (List.mem_cons_of_mem _ hp'), ho, z1, z2, hz, rfl⟩
  · rintro ρ g ⟨rfl, us, s, j, w, e, hu, ho, s1, s2, hz, rfl⟩
    have : us = [] := by
      cases us with
      | nil => rfl
      | cons a b => cases e
    subst this
    have ho' : s = outQ ps r := ho
    subst ho'
    simp only [b_ok, b_ex, b_bad, o_ok, o_ex, o_bad, n_ok, s_seq, s_nx, s_rt, s_bk, s_ct, s_ex, e_var, e_c, e_bin, e_un, e_blt, e_if, e_and, e_or, e_chain, a_nil, a_cons, e_tup, e_lst, e_call, e_callK, e_met, e_sl, g_nx, g_expr, g_ret, g_retN, g_bk, g_ct, g_if, g_asg, g_par, g_raise, t_name, t_unp, t_nil, t_cons, t_sub, g_for, i_val, i_rng1, i_rng2, e_ref, f_rt, f_nx, f_ex, drop_id, g_aug, o_iadd, e_lc, w_nil, w_cons, e_yes, i_tup, i_rol, al, lim_eq, Nat.reduceLeDiff, Nat.reduceLT, x_t0, x_t1, x_t2, x_t3, l_tup, l_rol, u_tup, o_cmp, o_add, o_sub, o_neg, o_not, o_abs, o_int, o_max, o_min, q_int, q_nint, q_bl, q_nbl, q_str, q_nstr, fnD, List.map_cons, List.map_nil, List.length_cons, List.length_nil, List.replicate_succ, List.replicate_zero, List.cons_append, List.nil_append, List.append_nil, List.getElem?_cons_zero, List.getElem?_cons_succ, List.getElem?_nil, List.set_cons_zero, List.set_cons_succ, List.zip_cons_cons, List.zip_nil_left, List.foldl_cons, List.foldl_nil, Nat.reduceSub, Nat.reduceAdd, Nat.zero_add, Nat.add_zero, if_true, if_false, reduceIte, ite_true, ite_false, eq_self, and_true, true_and, and_self, decide_true, decide_false, is_int_int, is_int_bl, is_int_str, is_int_tup, is_int_rol, is_int_non, is_bool_int, is_bool_bl, is_bool_str, is_bool_tup, is_bool_rol, is_bool_non, is_tuple_int, is_tuple_bl, is_tuple_str, is_tuple_tup, is_tuple_rol, is_tuple_non, is_str_int, is_str_bl, is_str_str, is_str_tup, is_str_rol, is_str_non, is_list_int, is_list_bl, is_list_str, is_list_tup, is_list_rol, is_list_non, Bool.not_true, Bool.not_false]
theorem out_sm {n : Nat} : ∀ (ps : List (Bool × Rat)) (r : Rat × Rat) (m : Nat), (∀ p ∈ ps, sm n p.2) → sm m r.1 → sm m r.2 → sm (outB n m ps.length) (outQ ps r).1 ∧ sm (outB n m ps.length) (outQ ps r).2
  | [], r, m, _, h1, h2 => ⟨h1, h2⟩
  | p :: ps, r, m, hp, h1, h2 => by
    obtain ⟨z1, z2⟩ := step_sm (hp p List.mem_cons_self) h1 h2
    exact out_sm ps (stepQ p r) _ (fun q hq => hp q (List.mem_cons_of_mem _ hq)) z1 z2
theorem out_det : ∀ (ps : List (Bool × Rat)) (r s : Rat × Rat), (outQ ps r).1 * (outQ ps s).2 - (outQ ps s).1 * (outQ ps r).2 = r.1 * s.2 - s.1 * r.2
  | [], r, s => rfl
  | p :: ps, r, s => by
    show (outQ ps (stepQ p r)).1 * (outQ ps (stepQ p s)).2 - (outQ ps (stepQ p s)).1 * (outQ ps (stepQ p r)).2 = _
    rw [out_det ps]
    obtain ⟨b, q⟩ := p
    cases b <;> simp only [stepQ, Bool.false_eq_true, if_true, if_false] <;> grind
theorem matrix_ok {ps : List (Bool × Rat)} {n k : Nat} {h : DH} (hp : ∀ p ∈ ps, sm n p.2) (hs : n + 2 * outB n 1 ps.length ≤ 2998) (q : h[k]? = some (.lst (ps.map part))) :
    ∃ a b c d : Rat, f_law_matrix [.obj k] h = .ok (mat a b c d) h ∧ a * d - b * c = 1 ∧ sm (outB n 1 ps.length) a ∧ sm (outB n 1 ps.length) b ∧ sm (outB n 1 ps.length) c ∧ sm (outB n 1 ps.length) d := by
  have o1 := out_ok (r := (1, 0)) hp sm_one sm_zero hs q
  have o2 := out_ok (r := (0, 1)) hp sm_zero sm_one hs q
  obtain ⟨a1, a2⟩ := out_sm ps (1, 0) 1 hp sm_one sm_zero
  obtain ⟨b1, b2⟩ := out_sm ps (0, 1) 1 hp sm_zero sm_one
  refine ⟨(outQ ps (1, 0)).1, (outQ ps (0, 1)).1, (outQ ps (1, 0)).2, (outQ ps (0, 1)).2, ?_, ?_, a1, b1, a2, b2⟩
  · unfold f_law_matrix d_law_matrix
    simp only [b_ok, b_ex, b_bad, o_ok, o_ex, o_bad, n_ok, s_seq, s_nx, s_rt, s_bk, s_ct, s_ex, e_var, e_c, e_bin, e_un, e_blt, e_if, e_and, e_or, e_chain, a_nil, a_cons, e_tup, e_lst, e_call, e_callK, e_met, e_sl, g_nx, g_expr, g_ret, g_retN, g_bk, g_ct, g_if, g_asg, g_par, g_raise, t_name, t_unp, t_nil, t_cons, t_sub, g_for, i_val, i_rng1, i_rng2, e_ref, f_rt, f_nx, f_ex, drop_id, g_aug, o_iadd, e_lc, w_nil, w_cons, e_yes, i_tup, i_rol, al, lim_eq, Nat.reduceLeDiff, Nat.reduceLT, x_t0, x_t1, x_t2, x_t3, l_tup, l_rol, u_tup, o_cmp, o_add, o_sub, o_neg, o_not, o_abs, o_int, o_max, o_min, q_int, q_nint, q_bl, q_nbl, q_str, q_nstr, fnD, List.map_cons, List.map_nil, List.length_cons, List.length_nil, List.replicate_succ, List.replicate_zero, List.cons_append, List.nil_append, List.append_nil, List.getElem?_cons_zero, List.getElem?_cons_succ, List.getElem?_nil, List.set_cons_zero, List.set_cons_succ, List.zip_cons_cons, List.zip_nil_left, List.foldl_cons, List.foldl_nil, Nat.reduceSub, Nat.reduceAdd, Nat.zero_add, Nat.add_zero, if_true, if_false, reduceIte, ite_true, ite_false, eq_self, and_true, true_and, and_self, decide_true, decide_false, is_int_int, is_int_bl, is_int_str, is_int_tup, is_int_rol, is_int_non, is_bool_int, is_bool_bl, is_bool_str, is_bool_tup, is_bool_rol, is_bool_non, is_tuple_int, is_tuple_bl, is_tuple_str, is_tuple_tup, is_tuple_rol, is_tuple_non, is_str_int, is_str_bl, is_str_str, is_str_tup, is_str_rol, is_str_non, is_list_int, is_list_bl, is_list_str, is_list_tup, is_list_rol, is_list_non, Bool.not_true, Bool.not_false, fr0, fr1, o1, o2]
  · have := out_det ps (1, 0) (0, 1)
    grind
end Law
/-! drawn matrices, what is asked of matrices -/
namespace Law
open PySem L2 DL
theorem obv : outB 3 1 5 = 249 - 0 ∨ outB 3 1 5 ≤ 400 := by right; decide
theorem ob5 {i : Nat} (h : i ≤ 5) : outB 3 1 i ≤ 311 := by
  have := (outB_le 3 5 1 i h).2
  have e : outB 3 1 5 ≤ 311 := by decide
  omega
/-- a drawn matrix -/
theorem drawn_ok {n k : Nat} {h : DH} (d0 : DOK n k h) (hk : k + 20 ≤ 2 ^ 100) : ∃ (a b c d : Rat) (h' : DH), f_law_drawn [.obj n] h = .ok (mat a b c d) h' ∧ a * d - b * c = 1 ∧ sm 320 a ∧ sm 320 b ∧ sm 320 c ∧ sm 320 d ∧ DOK n (k + 20) h' ∧ Fr n h h' := by
  have ln := d0.lt
  unfold f_law_drawn d_law_drawn
  simp only [fnD, List.map_cons, List.map_nil, List.length_cons, List.length_nil, Nat.zero_add, Nat.reduceAdd, Nat.reduceSub, List.replicate_succ, List.replicate_zero, List.cons_append, List.nil_append]
  obtain ⟨r, h1, e1, r0, r1, d1, f1⟩ := roll_ok d0 (by omega) (m := 6) (by omega) (by decide)
  refine step (O := fun t => ∃ (a b c d : Rat) (h' : DH), DL.finish h t = .ok (mat a b c d) h' ∧ a * d - b * c = 1 ∧ sm 320 a ∧ sm 320 b ∧ sm 320 c ∧ sm 320 d ∧ DOK n (k + 20) h' ∧ Fr n h h') (ρ' := [some (.obj n), some (.int r), some (.obj h1.length), none, none, none]) (h' := h1 ++ [.lst []]) (by simp only [b_ok, b_ex, b_bad, o_ok, o_ex, o_bad, n_ok, s_seq, s_nx, s_rt, s_bk, s_ct, s_ex, e_var, e_c, e_bin, e_un, e_blt, e_if, e_and, e_or, e_chain, a_nil, a_cons, e_tup, e_lst, e_call, e_callK, e_met, e_sl, g_nx, g_expr, g_ret, g_retN, g_bk, g_ct, g_if, g_asg, g_par, g_raise, t_name, t_unp, t_nil, t_cons, t_sub, g_for, i_val, i_rng1, i_rng2, e_ref, f_rt, f_nx, f_ex, drop_id, g_aug, o_iadd, e_lc, w_nil, w_cons, e_yes, i_tup, i_rol, al, lim_eq, Nat.reduceLeDiff, Nat.reduceLT, x_t0, x_t1, x_t2, x_t3, l_tup, l_rol, u_tup, o_cmp, o_add, o_sub, o_neg, o_not, o_abs, o_int, o_max, o_min, q_int, q_nint, q_bl, q_nbl, q_str, q_nstr, fnD, List.map_cons, List.map_nil, List.length_cons, List.length_nil, List.replicate_succ, List.replicate_zero, List.cons_append, List.nil_append, List.append_nil, List.getElem?_cons_zero, List.getElem?_cons_succ, List.getElem?_nil, List.set_cons_zero, List.set_cons_succ, List.zip_cons_cons, List.zip_nil_left, List.foldl_cons, List.foldl_nil, Nat.reduceSub, Nat.reduceAdd, Nat.zero_add, Nat.add_zero, if_true, if_false, reduceIte, ite_true, ite_false, eq_self, and_true, true_and, and_self, decide_true, decide_false, is_int_int, is_int_bl, is_int_str, is_int_tup, is_int_rol, is_int_non, is_bool_int, is_bool_bl, is_bool_str, is_bool_tup, is_bool_rol, is_bool_non, is_tuple_int, is_tuple_bl, is_tuple_str, is_tuple_tup, is_tuple_rol, is_tuple_non, is_str_int, is_str_bl, is_str_str, is_str_tup, is_str_rol, is_str_non, is_list_int, is_list_bl, is_list_str, is_list_tup, is_list_rol, is_list_non, Bool.not_true, Bool.not_false, e1]) ?_
  have g1 : Grow n h (h1 ++ [.lst []]) := f1.grow.trans Grow.add
  have d1' : DOK n (k + 1) (h1 ++ [.lst []]) := d1.add _
  by_cases c : r = 0
  · -- a matrix with b = 0
    rw [s_seq]
    obtain ⟨s, h2, e2, ts, d2, f2⟩ := small_ok d1' (by omega)
    obtain ⟨x, h3, ⟨a, rfl, sa⟩, e3, d3, g3, _⟩ := pick_new (T := [.tup [.int 1, .int 1], .tup [.int (-1), .int 1], .tup [.int 2, .int 1], .tup [.int (-1), .int 2], fr s]) (P := fun x => ∃ a : Rat, x = fr a ∧ sm 3 a) d2 (by omega) (by
      intro x hx
      simp only [List.mem_cons, List.not_mem_nil, or_false] at hx
      rcases hx with rfl | rfl | rfl | rfl | rfl
      · exact ⟨1, rfl, by decide, by decide⟩
      · exact ⟨-1, rfl, by decide, by decide⟩
      · exact ⟨2, rfl, by decide, by decide⟩
      · exact ⟨Rat.divInt (-1) 2, rfl, by decide, by decide⟩
      · exact ⟨s, rfl, ts.sm⟩) (by simp) (by simp)
    obtain ⟨u, h4, e4, tu, d4, f4⟩ := small_ok d3 (by omega)
    obtain ⟨y, h5, ⟨v, rfl, sv⟩, e5, d5, g5, _⟩ := pick_new (T := [.tup [.int 0, .int 1], fr u]) (P := fun x => ∃ a : Rat, x = fr a ∧ sm 3 a) d4 (by omega) (by
      intro x hx
      simp only [List.mem_cons, List.not_mem_nil, or_false] at hx
      rcases hx with rfl | rfl
      · exact ⟨0, rfl, by decide, by decide⟩
      · exact ⟨u, rfl, tu.sm⟩) (by simp) (by simp)
    have gg : Grow n h h5 := g1.trans (f2.grow.trans (g3.trans (f4.grow.trans g5)))
    have fin : ∀ aw : Rat, aw ≠ 0 → sm 3 aw → ∃ (a b c d : Rat) (h' : DH), DL.finish h (.rt (mat aw 0 v (1 / aw)) h5) = .ok (mat a b c d) h' ∧ a * d - b * c = 1 ∧ sm 320 a ∧ sm 320 b ∧ sm 320 c ∧ sm 320 d ∧ DOK n (k + 20) h' ∧ Fr n h h' := by
      intro aw a0 sa
      obtain ⟨h', e', f', d'⟩ := ret_dice (d := mat aw 0 v (1 / aw)) gg d5 ln (bel_mat _ _ _ _ _)
      refine ⟨aw, 0, v, 1 / aw, h', e', ?_, sa.mono (by omega), sm_zero.mono (by omega), sv.mono (by omega), (sm_div sm_one sa a0).mono (by omega), d'.mono (by omega), f'⟩
      grind
    simp only [fr1, fr0] at e3 e5
    by_cases a0 : a = 0
    · subst a0
      have := fin 1 (by decide) (sm_one.mono (by omega))
      have dv : ∀ g : DH, f_law_div [fr 1, fr 1] g = .ok (fr (1 / 1)) g := law_div_ok sm_one sm_one (by omega) (by decide)
      simp only [b_ok, b_ex, b_bad, o_ok, o_ex, o_bad, n_ok, s_seq, s_nx, s_rt, s_bk, s_ct, s_ex, e_var, e_c, e_bin, e_un, e_blt, e_if, e_and, e_or, e_chain, a_nil, a_cons, e_tup, e_lst, e_call, e_callK, e_met, e_sl, g_nx, g_expr, g_ret, g_retN, g_bk, g_ct, g_if, g_asg, g_par, g_raise, t_name, t_unp, t_nil, t_cons, t_sub, g_for, i_val, i_rng1, i_rng2, e_ref, f_rt, f_nx, f_ex, drop_id, g_aug, o_iadd, e_lc, w_nil, w_cons, e_yes, i_tup, i_rol, al, lim_eq, Nat.reduceLeDiff, Nat.reduceLT, x_t0, x_t1, x_t2, x_t3, l_tup, l_rol, u_tup, o_cmp, o_add, o_sub, o_neg, o_not, o_abs, o_int, o_max, o_min, q_int, q_nint, q_bl, q_nbl, q_str, q_nstr, fnD, List.map_cons, List.map_nil, List.length_cons, List.length_nil, List.replicate_succ, List.replicate_zero, List.cons_append, List.nil_append, List.append_nil, List.getElem?_cons_zero, List.getElem?_cons_succ, List.getElem?_nil, List.set_cons_zero, List.set_cons_succ, List.zip_cons_cons, List.zip_nil_left, List.foldl_cons, List.foldl_nil, Nat.reduceSub, Nat.reduceAdd, Nat.zero_add, Nat.add_zero, if_true, if_false, reduceIte, ite_true, ite_false, eq_self, and_true, true_and, and_self, decide_true, decide_false, is_int_int, is_int_bl, is_int_str, is_int_tup, is_int_rol, is_int_non, is_bool_int, is_bool_bl, is_bool_str, is_bool_tup, is_bool_rol, is_bool_non, is_tuple_int, is_tuple_bl, is_tuple_str, is_tuple_tup, is_tuple_rol, is_tuple_non, is_str_int, is_str_bl, is_str_str, is_str_tup, is_str_rol, is_str_non, is_list_int, is_list_bl, is_list_str, is_list_tup, is_list_rol, is_list_non, Bool.not_true, Bool.not_false, c, e2, e3, x_fr0, num0, e4, e5, fr1, dv, fr0] at this ⊢
      exact this
    · have := fin a a0 sa
      simp only [b_ok, b_ex, b_bad, o_ok, o_ex, o_bad, n_ok, s_seq, s_nx, s_rt, s_bk, s_ct, s_ex, e_var, e_c, e_bin, e_un, e_blt, e_if, e_and, e_or, e_chain, a_nil, a_cons, e_tup, e_lst, e_call, e_callK, e_met, e_sl, g_nx, g_expr, g_ret, g_retN, g_bk, g_ct, g_if, g_asg, g_par, g_raise, t_name, t_unp, t_nil, t_cons, t_sub, g_for, i_val, i_rng1, i_rng2, e_ref, f_rt, f_nx, f_ex, drop_id, g_aug, o_iadd, e_lc, w_nil, w_cons, e_yes, i_tup, i_rol, al, lim_eq, Nat.reduceLeDiff, Nat.reduceLT, x_t0, x_t1, x_t2, x_t3, l_tup, l_rol, u_tup, o_cmp, o_add, o_sub, o_neg, o_not, o_abs, o_int, o_max, o_min, q_int, q_nint, q_bl, q_nbl, q_str, q_nstr, fnD, List.map_cons, List.map_nil, List.length_cons, List.length_nil, List.replicate_succ, List.replicate_zero, List.cons_append, List.nil_append, List.append_nil, List.getElem?_cons_zero, List.getElem?_cons_succ, List.getElem?_nil, List.set_cons_zero, List.set_cons_succ, List.zip_cons_cons, List.zip_nil_left, List.foldl_cons, List.foldl_nil, Nat.reduceSub, Nat.reduceAdd, Nat.zero_add, Nat.add_zero, if_true, if_false, reduceIte, ite_true, ite_false, eq_self, and_true, true_and, and_self, decide_true, decide_false, is_int_int, is_int_bl, is_int_str, is_int_tup, is_int_rol, is_int_non, is_bool_int, is_bool_bl, is_bool_str, is_bool_tup, is_bool_rol, is_bool_non, is_tuple_int, is_tuple_bl, is_tuple_str, is_tuple_tup, is_tuple_rol, is_tuple_non, is_str_int, is_str_bl, is_str_str, is_str_tup, is_str_rol, is_str_non, is_list_int, is_list_bl, is_list_str, is_list_tup, is_list_rol, is_list_non, Bool.not_true, Bool.not_false, c, e2, e3, x_fr0, num0, a0, e4, e5, fr1, law_div_ok sm_one sa (by omega) a0, fr0] at this ⊢
      exact this
  · refine step (O := fun t => ∃ (a b c d : Rat) (h' : DH), DL.finish h t = .ok (mat a b c d) h' ∧ a * d - b * c = 1 ∧ sm 320 a ∧ sm 320 b ∧ sm 320 c ∧ sm 320 d ∧ DOK n (k + 20) h' ∧ Fr n h h') (ρ' := [some (.obj n), some (.int r), some (.obj h1.length), none, none, none]) (h' := h1 ++ [.lst []]) (by simp only [b_ok, b_ex, b_bad, o_ok, o_ex, o_bad, n_ok, s_seq, s_nx, s_rt, s_bk, s_ct, s_ex, e_var, e_c, e_bin, e_un, e_blt, e_if, e_and, e_or, e_chain, a_nil, a_cons, e_tup, e_lst, e_call, e_callK, e_met, e_sl, g_nx, g_expr, g_ret, g_retN, g_bk, g_ct, g_if, g_asg, g_par, g_raise, t_name, t_unp, t_nil, t_cons, t_sub, g_for, i_val, i_rng1, i_rng2, e_ref, f_rt, f_nx, f_ex, drop_id, g_aug, o_iadd, e_lc, w_nil, w_cons, e_yes, i_tup, i_rol, al, lim_eq, Nat.reduceLeDiff, Nat.reduceLT, x_t0, x_t1, x_t2, x_t3, l_tup, l_rol, u_tup, o_cmp, o_add, o_sub, o_neg, o_not, o_abs, o_int, o_max, o_min, q_int, q_nint, q_bl, q_nbl, q_str, q_nstr, fnD, List.map_cons, List.map_nil, List.length_cons, List.length_nil, List.replicate_succ, List.replicate_zero, List.cons_append, List.nil_append, List.append_nil, List.getElem?_cons_zero, List.getElem?_cons_succ, List.getElem?_nil, List.set_cons_zero, List.set_cons_succ, List.zip_cons_cons, List.zip_nil_left, List.foldl_cons, List.foldl_nil, Nat.reduceSub, Nat.reduceAdd, Nat.zero_add, Nat.add_zero, if_true, if_false, reduceIte, ite_true, ite_false, eq_self, and_true, true_and, and_self, decide_true, decide_false, is_int_int, is_int_bl, is_int_str, is_int_tup, is_int_rol, is_int_non, is_bool_int, is_bool_bl, is_bool_str, is_bool_tup, is_bool_rol, is_bool_non, is_tuple_int, is_tuple_bl, is_tuple_str, is_tuple_tup, is_tuple_rol, is_tuple_non, is_str_int, is_str_bl, is_str_str, is_str_tup, is_str_rol, is_str_non, is_list_int, is_list_bl, is_list_str, is_list_tup, is_list_rol, is_list_non, Bool.not_true, Bool.not_false, c]) ?_
    have lh1 : h.length = h1.length := f1.1.symm
    -- the row
    refine stepx (O := fun t => ∃ (a b c d : Rat) (h' : DH), DL.finish h t = .ok (mat a b c d) h' ∧ a * d - b * c = 1 ∧ sm 320 a ∧ sm 320 b ∧ sm 320 c ∧ sm 320 d ∧ DOK n (k + 20) h' ∧ Fr n h h') (fun ρ g => ∃ (ps : List (Bool × Rat)) (w1 w2 w3 : Option D), g[h1.length]? = some (.lst (ps.map part)) ∧ (∀ p ∈ ps, sm 3 p.2) ∧ ps.length ≤ 5 ∧ DOK n (k + 20) g ∧ Grow n h g ∧ ρ = [some (.obj n), some (.int r), some (.obj h1.length), w1, w2, w3]) ?_ ?_
    · obtain ⟨s, h2, e2, s0, s1, d2, f2⟩ := roll_ok d1' (by omega) (m := 5) (by omega) (by decide)
      have cs : (-1000000000 : Int) ≤ 1 + s ∧ 1 + s ≤ 1000000000 := by omega
      have ls : (rngItems 0 (1 + s).toNat).length ≤ 5 := by unfold rngItems; simp; omega
      have q2 : h2[h1.length]? = some (.lst []) := by
        rw [f2.2 _ (by have := d1.lt; omega)]
        exact at_new
      simp only [g_for, i_rng1, e_bin, e_c, b_ok, e_call, a_cons, a_nil, e_var, List.getElem?_cons_zero, List.cons_append, List.nil_append, List.append_nil, List.length_cons, List.length_nil, Nat.zero_add, Nat.reduceAdd, if_true, e2, o_add, if_pos cs, o_ok]
      generalize rngItems 0 (1 + s).toNat = items at ls ⊢
      refine forA_rule (fun t ρ g => ∃ (ps : List (Bool × Rat)) (w1 w2 w3 : Option D), g[h1.length]? = some (.lst (ps.map part)) ∧ (∀ p ∈ ps, sm 3 p.2) ∧ ps.length + t.length ≤ 5 ∧ DOK n (k + 2 + 3 * ps.length) g ∧ Grow n h g ∧ ρ = [some (.obj n), some (.int r), some (.obj h1.length), w1, w2, w3]) (fun t => ∃ ρ' g, t = .nx ρ' g ∧ ∃ (ps : List (Bool × Rat)) (w1 w2 w3 : Option D), g[h1.length]? = some (.lst (ps.map part)) ∧ (∀ p ∈ ps, sm 3 p.2) ∧ ps.length ≤ 5 ∧ DOK n (k + 20) g ∧ Grow n h g ∧ ρ' = [some (.obj n), some (.int r), some (.obj h1.length), w1, w2, w3]) ?_ ?_ _ _ _ ⟨[], none, none, none, q2, (fun p hp => by cases hp), by simpa using ls, d2.mono (by simp), g1.trans f2.grow, rfl⟩
      · rintro x t ρ g ⟨ps, w1, w2, w3, qg, hp, hl, dg, gg, rfl⟩
        simp only [List.length_cons] at hl
        obtain ⟨q, h3, e3, tq, d3, f3⟩ := small_ok dg (by omega)
        obtain ⟨y, h4, ⟨b, rfl⟩, e4, d4, g4, _⟩ := pick_new (T := [.tup [.str "gap", fr q], .tup [.str "lens", fr q]]) (P := fun x => ∃ b : Bool, x = part (b, q)) d3 (by omega) (by
          intro x hx
          simp only [List.mem_cons, List.not_mem_nil, or_false] at hx
          rcases hx with rfl | rfl
          · exact ⟨true, rfl⟩
          · exact ⟨false, rfl⟩) (by simp) (by simp)
        have q3 : h3[h1.length]? = some (.lst (ps.map part)) := by
          rw [f3.2 _ (by have := d1.lt; omega)]
          exact qg
        have q4 : h4[h1.length]? = some (.lst (ps.map part)) := by
          rw [g4.2 _ (List.getElem?_eq_some_iff.mp q3).1 (by have := d1.lt; omega)]
          exact q3
        have l4 := (List.getElem?_eq_some_iff.mp q4).1
        have i3 := isl q3
        have ap := m_app (y := part (b, q)) q4 (by rw [List.length_map, lim_eq]; omega)
        refine ⟨_, _, t_name, ?_⟩
        simp only [b_ok, b_ex, b_bad, o_ok, o_ex, o_bad, n_ok, s_seq, s_nx, s_rt, s_bk, s_ct, s_ex, e_var, e_c, e_bin, e_un, e_blt, e_if, e_and, e_or, e_chain, a_nil, a_cons, e_tup, e_lst, e_call, e_callK, e_met, e_sl, g_nx, g_expr, g_ret, g_retN, g_bk, g_ct, g_if, g_asg, g_par, g_raise, t_name, t_unp, t_nil, t_cons, t_sub, g_for, i_val, i_rng1, i_rng2, e_ref, f_rt, f_nx, f_ex, drop_id, g_aug, o_iadd, e_lc, w_nil, w_cons, e_yes, i_tup, i_rol, al, lim_eq, Nat.reduceLeDiff, Nat.reduceLT, x_t0, x_t1, x_t2, x_t3, l_tup, l_rol, u_tup, o_cmp, o_add, o_sub, o_neg, o_not, o_abs, o_int, o_max, o_min, q_int, q_nint, q_bl, q_nbl, q_str, q_nstr, fnD, List.map_cons, List.map_nil, List.length_cons, List.length_nil, List.replicate_succ, List.replicate_zero, List.cons_append, List.nil_append, List.append_nil, List.getElem?_cons_zero, List.getElem?_cons_succ, List.getElem?_nil, List.set_cons_zero, List.set_cons_succ, List.zip_cons_cons, List.zip_nil_left, List.foldl_cons, List.foldl_nil, Nat.reduceSub, Nat.reduceAdd, Nat.zero_add, Nat.add_zero, if_true, if_false, reduceIte, ite_true, ite_false, eq_self, and_true, true_and, and_self, decide_true, decide_false, is_int_int, is_int_bl, is_int_str, is_int_tup, is_int_rol, is_int_non, is_bool_int, is_bool_bl, is_bool_str, is_bool_tup, is_bool_rol, is_bool_non, is_tuple_int, is_tuple_bl, is_tuple_str, is_tuple_tup, is_tuple_rol, is_tuple_non, is_str_int, is_str_bl, is_str_str, is_str_tup, is_str_rol, is_str_non, is_list_int, is_list_bl, is_list_str, is_list_tup, is_list_rol, is_list_non, Bool.not_true, Bool.not_false, e3, i3, e4, ap]
        refine ⟨ps ++ [(b, q)], w1, some x, some (fr q), ?_, ?_, by simp; omega, ?_, ?_, rfl⟩
        · rw [set_at l4]
          simp
        · intro p hp'
          rcases List.mem_append.mp hp' with hp' | hp'
          · exact hp p hp'
          · rw [List.mem_singleton.mp hp']
            exact tq.sm
        · refine (d4.put (by have := d1.lt; omega)).mono ?_
          simp only [List.length_append, List.length_cons, List.length_nil]
          omega
        · exact (gg.trans (f3.grow.trans g4)).put (by omega)
      · rintro ρ g ⟨ps, w1, w2, w3, qg, hp, hl, dg, gg, rfl⟩
        simp only [List.length_nil] at hl
        exact ⟨_, _, rfl, ps, w1, w2, w3, qg, hp, hl, dg.mono (by omega), gg, rfl⟩
    · rintro ρ g ⟨ps, w1, w2, w3, qg, hp, hl, dg, gg, rfl⟩
      have o5 := ob5 hl
      obtain ⟨a, b, c, d, em, det, sa, sb, sc, sd⟩ := matrix_ok hp (by omega) qg
      simp only [b_ok, b_ex, b_bad, o_ok, o_ex, o_bad, n_ok, s_seq, s_nx, s_rt, s_bk, s_ct, s_ex, e_var, e_c, e_bin, e_un, e_blt, e_if, e_and, e_or, e_chain, a_nil, a_cons, e_tup, e_lst, e_call, e_callK, e_met, e_sl, g_nx, g_expr, g_ret, g_retN, g_bk, g_ct, g_if, g_asg, g_par, g_raise, t_name, t_unp, t_nil, t_cons, t_sub, g_for, i_val, i_rng1, i_rng2, e_ref, f_rt, f_nx, f_ex, drop_id, g_aug, o_iadd, e_lc, w_nil, w_cons, e_yes, i_tup, i_rol, al, lim_eq, Nat.reduceLeDiff, Nat.reduceLT, x_t0, x_t1, x_t2, x_t3, l_tup, l_rol, u_tup, o_cmp, o_add, o_sub, o_neg, o_not, o_abs, o_int, o_max, o_min, q_int, q_nint, q_bl, q_nbl, q_str, q_nstr, fnD, List.map_cons, List.map_nil, List.length_cons, List.length_nil, List.replicate_succ, List.replicate_zero, List.cons_append, List.nil_append, List.append_nil, List.getElem?_cons_zero, List.getElem?_cons_succ, List.getElem?_nil, List.set_cons_zero, List.set_cons_succ, List.zip_cons_cons, List.zip_nil_left, List.foldl_cons, List.foldl_nil, Nat.reduceSub, Nat.reduceAdd, Nat.zero_add, Nat.add_zero, if_true, if_false, reduceIte, ite_true, ite_false, eq_self, and_true, true_and, and_self, decide_true, decide_false, is_int_int, is_int_bl, is_int_str, is_int_tup, is_int_rol, is_int_non, is_bool_int, is_bool_bl, is_bool_str, is_bool_tup, is_bool_rol, is_bool_non, is_tuple_int, is_tuple_bl, is_tuple_str, is_tuple_tup, is_tuple_rol, is_tuple_non, is_str_int, is_str_bl, is_str_str, is_str_tup, is_str_rol, is_str_non, is_list_int, is_list_bl, is_list_str, is_list_tup, is_list_rol, is_list_non, Bool.not_true, Bool.not_false, em]
      obtain ⟨h', e', f', d'⟩ := ret_dice (d := mat a b c d) gg dg ln (bel_mat _ _ _ _ _)
      rw [f_rt] at e'
      exact ⟨a, b, c, d, h', e', det, sa.mono (by omega), sb.mono (by omega), sc.mono (by omega), sd.mono (by omega), d', f'⟩
end Law
/-! what is asked of matrices and rays -/
namespace Law
open PySem L2 DL
theorem gone_ok {p q s : Rat} {n m k : Nat} (hp : sm n p) (hq : sm m q) (hs : sm k s) (hl : n + (k + m) ≤ 2998) (h : DH) : f_law_gone [pr p q, fr s] h = .ok (pr (p + s * q) q) h := by
  unfold f_law_gone d_law_gone
  simp only [b_ok, b_ex, b_bad, o_ok, o_ex, o_bad, n_ok, s_seq, s_nx, s_rt, s_bk, s_ct, s_ex, e_var, e_c, e_bin, e_un, e_blt, e_if, e_and, e_or, e_chain, a_nil, a_cons, e_tup, e_lst, e_call, e_callK, e_met, e_sl, g_nx, g_expr, g_ret, g_retN, g_bk, g_ct, g_if, g_asg, g_par, g_raise, t_name, t_unp, t_nil, t_cons, t_sub, g_for, i_val, i_rng1, i_rng2, e_ref, f_rt, f_nx, f_ex, drop_id, g_aug, o_iadd, e_lc, w_nil, w_cons, e_yes, i_tup, i_rol, al, lim_eq, Nat.reduceLeDiff, Nat.reduceLT, x_t0, x_t1, x_t2, x_t3, l_tup, l_rol, u_tup, o_cmp, o_add, o_sub, o_neg, o_not, o_abs, o_int, o_max, o_min, q_int, q_nint, q_bl, q_nbl, q_str, q_nstr, fnD, List.map_cons, List.map_nil, List.length_cons, List.length_nil, List.replicate_succ, List.replicate_zero, List.cons_append, List.nil_append, List.append_nil, List.getElem?_cons_zero, List.getElem?_cons_succ, List.getElem?_nil, List.set_cons_zero, List.set_cons_succ, List.zip_cons_cons, List.zip_nil_left, List.foldl_cons, List.foldl_nil, Nat.reduceSub, Nat.reduceAdd, Nat.zero_add, Nat.add_zero, if_true, if_false, reduceIte, ite_true, ite_false, eq_self, and_true, true_and, and_self, decide_true, decide_false, is_int_int, is_int_bl, is_int_str, is_int_tup, is_int_rol, is_int_non, is_bool_int, is_bool_bl, is_bool_str, is_bool_tup, is_bool_rol, is_bool_non, is_tuple_int, is_tuple_bl, is_tuple_str, is_tuple_tup, is_tuple_rol, is_tuple_non, is_str_int, is_str_bl, is_str_str, is_str_tup, is_str_rol, is_str_non, is_list_int, is_list_bl, is_list_str, is_list_tup, is_list_rol, is_list_non, Bool.not_true, Bool.not_false, law_mul_ok hs hq (by omega), law_add_ok hp (sm_mul hs hq) (by omega)]
theorem sent_ok {a b c d p q : Rat} {n m : Nat} (ha : sm n a) (hb : sm n b) (hc : sm n c) (hd : sm n d) (hp : sm m p) (hq : sm m q) (hl : (n + m) + (n + m) ≤ 2998) (h : DH) : f_law_sent [mat a b c d, pr p q] h = .ok (pr (a * p + b * q) (c * p + d * q)) h := by
  unfold f_law_sent d_law_sent
  simp only [b_ok, b_ex, b_bad, o_ok, o_ex, o_bad, n_ok, s_seq, s_nx, s_rt, s_bk, s_ct, s_ex, e_var, e_c, e_bin, e_un, e_blt, e_if, e_and, e_or, e_chain, a_nil, a_cons, e_tup, e_lst, e_call, e_callK, e_met, e_sl, g_nx, g_expr, g_ret, g_retN, g_bk, g_ct, g_if, g_asg, g_par, g_raise, t_name, t_unp, t_nil, t_cons, t_sub, g_for, i_val, i_rng1, i_rng2, e_ref, f_rt, f_nx, f_ex, drop_id, g_aug, o_iadd, e_lc, w_nil, w_cons, e_yes, i_tup, i_rol, al, lim_eq, Nat.reduceLeDiff, Nat.reduceLT, x_t0, x_t1, x_t2, x_t3, l_tup, l_rol, u_tup, o_cmp, o_add, o_sub, o_neg, o_not, o_abs, o_int, o_max, o_min, q_int, q_nint, q_bl, q_nbl, q_str, q_nstr, fnD, List.map_cons, List.map_nil, List.length_cons, List.length_nil, List.replicate_succ, List.replicate_zero, List.cons_append, List.nil_append, List.append_nil, List.getElem?_cons_zero, List.getElem?_cons_succ, List.getElem?_nil, List.set_cons_zero, List.set_cons_succ, List.zip_cons_cons, List.zip_nil_left, List.foldl_cons, List.foldl_nil, Nat.reduceSub, Nat.reduceAdd, Nat.zero_add, Nat.add_zero, if_true, if_false, reduceIte, ite_true, ite_false, eq_self, and_true, true_and, and_self, decide_true, decide_false, is_int_int, is_int_bl, is_int_str, is_int_tup, is_int_rol, is_int_non, is_bool_int, is_bool_bl, is_bool_str, is_bool_tup, is_bool_rol, is_bool_non, is_tuple_int, is_tuple_bl, is_tuple_str, is_tuple_tup, is_tuple_rol, is_tuple_non, is_str_int, is_str_bl, is_str_str, is_str_tup, is_str_rol, is_str_non, is_list_int, is_list_bl, is_list_str, is_list_tup, is_list_rol, is_list_non, Bool.not_true, Bool.not_false, law_mul_ok ha hp (by omega), law_mul_ok hb hq (by omega), law_mul_ok hc hp (by omega), law_mul_ok hd hq (by omega), law_add_ok (sm_mul ha hp) (sm_mul hb hq) (by omega), law_add_ok (sm_mul hc hp) (sm_mul hd hq) (by omega)]
def goodB (q : Rat) : Bool := decide (q.num.natAbs ≤ 1000000000000) && decide (q.den ≤ 1000000000000)
theorem goodB_iff {q : Rat} : goodB q = true ↔ good q := by simp [goodB, good]
theorem goodB_of {q : Rat} (h : good q) : goodB q = true := goodB_iff.mpr h
theorem good_of {q : Rat} (h : goodB q = true) : good q := goodB_iff.mp h
theorem goodB_dec (q : Rat) : goodB q = (!decide ((1000000000000 : Int) < (q.num.natAbs : Int)) && !decide ((1000000000000 : Int) < (q.den : Int))) := by
  unfold goodB
  have e1 : decide (q.num.natAbs ≤ 1000000000000) = !decide ((1000000000000 : Int) < (q.num.natAbs : Int)) := by
    rw [← decide_not]
    simp only [decide_eq_decide]
    omega
  have e2 : decide (q.den ≤ 1000000000000) = !decide ((1000000000000 : Int) < (q.den : Int)) := by
    rw [← decide_not]
    simp only [decide_eq_decide]
    omega
  rw [e1, e2]
theorem fits_pr (i : Nat) (p q : Rat) (h : DH) : r_law_fits (i + 1) [pr p q] h = .ok (.bl (goodB p && goodB q)) h := by
  unfold r_law_fits d_law_fits
  have p12 : ∀ h : DH, oPow (.int 10) (.int 12) h = .ok (.int 1000000000000) h := fun _ => rfl
  rw [goodB_dec, goodB_dec]
  by_cases c1 : (1000000000000 : Int) < (p.num.natAbs : Int)
  · simp [b_ok, b_ex, b_bad, o_ok, o_ex, o_bad, n_ok, s_seq, s_nx, s_rt, s_bk, s_ct, s_ex, e_var, e_c, e_bin, e_un, e_blt, e_if, e_and, e_or, e_chain, a_nil, a_cons, e_tup, e_lst, e_call, e_callK, e_met, e_sl, g_nx, g_expr, g_ret, g_retN, g_bk, g_ct, g_if, g_asg, g_par, g_raise, t_name, t_unp, t_nil, t_cons, t_sub, g_for, i_val, i_rng1, i_rng2, e_ref, f_rt, f_nx, f_ex, drop_id, g_aug, o_iadd, e_lc, w_nil, w_cons, e_yes, i_tup, i_rol, al, lim_eq, Nat.reduceLeDiff, Nat.reduceLT, x_t0, x_t1, x_t2, x_t3, l_tup, l_rol, u_tup, o_cmp, o_add, o_sub, o_neg, o_not, o_abs, o_int, o_max, o_min, q_int, q_nint, q_bl, q_nbl, q_str, q_nstr, fnD, List.map_cons, List.map_nil, List.length_cons, List.length_nil, List.replicate_succ, List.replicate_zero, List.cons_append, List.nil_append, List.append_nil, List.getElem?_cons_zero, List.getElem?_cons_succ, List.getElem?_nil, List.set_cons_zero, List.set_cons_succ, List.zip_cons_cons, List.zip_nil_left, List.foldl_cons, List.foldl_nil, Nat.reduceSub, Nat.reduceAdd, Nat.zero_add, Nat.add_zero, if_true, if_false, reduceIte, ite_true, ite_false, eq_self, and_true, true_and, and_self, decide_true, decide_false, is_int_int, is_int_bl, is_int_str, is_int_tup, is_int_rol, is_int_non, is_bool_int, is_bool_bl, is_bool_str, is_bool_tup, is_bool_rol, is_bool_non, is_tuple_int, is_tuple_bl, is_tuple_str, is_tuple_tup, is_tuple_rol, is_tuple_non, is_str_int, is_str_bl, is_str_str, is_str_tup, is_str_rol, is_str_non, is_list_int, is_list_bl, is_list_str, is_list_tup, is_list_rol, is_list_non, Bool.not_true, Bool.not_false, forA, x_fr0, x_fr1, p12, c1]
  · by_cases c2 : (1000000000000 : Int) < (p.den : Int)
    · simp [b_ok, b_ex, b_bad, o_ok, o_ex, o_bad, n_ok, s_seq, s_nx, s_rt, s_bk, s_ct, s_ex, e_var, e_c, e_bin, e_un, e_blt, e_if, e_and, e_or, e_chain, a_nil, a_cons, e_tup, e_lst, e_call, e_callK, e_met, e_sl, g_nx, g_expr, g_ret, g_retN, g_bk, g_ct, g_if, g_asg, g_par, g_raise, t_name, t_unp, t_nil, t_cons, t_sub, g_for, i_val, i_rng1, i_rng2, e_ref, f_rt, f_nx, f_ex, drop_id, g_aug, o_iadd, e_lc, w_nil, w_cons, e_yes, i_tup, i_rol, al, lim_eq, Nat.reduceLeDiff, Nat.reduceLT, x_t0, x_t1, x_t2, x_t3, l_tup, l_rol, u_tup, o_cmp, o_add, o_sub, o_neg, o_not, o_abs, o_int, o_max, o_min, q_int, q_nint, q_bl, q_nbl, q_str, q_nstr, fnD, List.map_cons, List.map_nil, List.length_cons, List.length_nil, List.replicate_succ, List.replicate_zero, List.cons_append, List.nil_append, List.append_nil, List.getElem?_cons_zero, List.getElem?_cons_succ, List.getElem?_nil, List.set_cons_zero, List.set_cons_succ, List.zip_cons_cons, List.zip_nil_left, List.foldl_cons, List.foldl_nil, Nat.reduceSub, Nat.reduceAdd, Nat.zero_add, Nat.add_zero, if_true, if_false, reduceIte, ite_true, ite_false, eq_self, and_true, true_and, and_self, decide_true, decide_false, is_int_int, is_int_bl, is_int_str, is_int_tup, is_int_rol, is_int_non, is_bool_int, is_bool_bl, is_bool_str, is_bool_tup, is_bool_rol, is_bool_non, is_tuple_int, is_tuple_bl, is_tuple_str, is_tuple_tup, is_tuple_rol, is_tuple_non, is_str_int, is_str_bl, is_str_str, is_str_tup, is_str_rol, is_str_non, is_list_int, is_list_bl, is_list_str, is_list_tup, is_list_rol, is_list_non, Bool.not_true, Bool.not_false, forA, x_fr0, x_fr1, p12, c1, c2]
    · by_cases c3 : (1000000000000 : Int) < (q.num.natAbs : Int)
      · simp [b_ok, b_ex, b_bad, o_ok, o_ex, o_bad, n_ok, s_seq, s_nx, s_rt, s_bk, s_ct, s_ex, e_var, e_c, e_bin, e_un, e_blt, e_if, e_and, e_or, e_chain, a_nil, a_cons, e_tup, e_lst, e_call, e_callK, e_met, e_sl, g_nx, g_expr, g_ret, g_retN, g_bk, g_ct, g_if, g_asg, g_par, g_raise, t_name, t_unp, t_nil, t_cons, t_sub, g_for, i_val, i_rng1, i_rng2, e_ref, f_rt, f_nx, f_ex, drop_id, g_aug, o_iadd, e_lc, w_nil, w_cons, e_yes, i_tup, i_rol, al, lim_eq, Nat.reduceLeDiff, Nat.reduceLT, x_t0, x_t1, x_t2, x_t3, l_tup, l_rol, u_tup, o_cmp, o_add, o_sub, o_neg, o_not, o_abs, o_int, o_max, o_min, q_int, q_nint, q_bl, q_nbl, q_str, q_nstr, fnD, List.map_cons, List.map_nil, List.length_cons, List.length_nil, List.replicate_succ, List.replicate_zero, List.cons_append, List.nil_append, List.append_nil, List.getElem?_cons_zero, List.getElem?_cons_succ, List.getElem?_nil, List.set_cons_zero, List.set_cons_succ, List.zip_cons_cons, List.zip_nil_left, List.foldl_cons, List.foldl_nil, Nat.reduceSub, Nat.reduceAdd, Nat.zero_add, Nat.add_zero, if_true, if_false, reduceIte, ite_true, ite_false, eq_self, and_true, true_and, and_self, decide_true, decide_false, is_int_int, is_int_bl, is_int_str, is_int_tup, is_int_rol, is_int_non, is_bool_int, is_bool_bl, is_bool_str, is_bool_tup, is_bool_rol, is_bool_non, is_tuple_int, is_tuple_bl, is_tuple_str, is_tuple_tup, is_tuple_rol, is_tuple_non, is_str_int, is_str_bl, is_str_str, is_str_tup, is_str_rol, is_str_non, is_list_int, is_list_bl, is_list_str, is_list_tup, is_list_rol, is_list_non, Bool.not_true, Bool.not_false, forA, x_fr0, x_fr1, p12, c1, c2, c3]
      · by_cases c4 : (1000000000000 : Int) < (q.den : Int)
        · simp [b_ok, b_ex, b_bad, o_ok, o_ex, o_bad, n_ok, s_seq, s_nx, s_rt, s_bk, s_ct, s_ex, e_var, e_c, e_bin, e_un, e_blt, e_if, e_and, e_or, e_chain, a_nil, a_cons, e_tup, e_lst, e_call, e_callK, e_met, e_sl, g_nx, g_expr, g_ret, g_retN, g_bk, g_ct, g_if, g_asg, g_par, g_raise, t_name, t_unp, t_nil, t_cons, t_sub, g_for, i_val, i_rng1, i_rng2, e_ref, f_rt, f_nx, f_ex, drop_id, g_aug, o_iadd, e_lc, w_nil, w_cons, e_yes, i_tup, i_rol, al, lim_eq, Nat.reduceLeDiff, Nat.reduceLT, x_t0, x_t1, x_t2, x_t3, l_tup, l_rol, u_tup, o_cmp, o_add, o_sub, o_neg, o_not, o_abs, o_int, o_max, o_min, q_int, q_nint, q_bl, q_nbl, q_str, q_nstr, fnD, List.map_cons, List.map_nil, List.length_cons, List.length_nil, List.replicate_succ, List.replicate_zero, List.cons_append, List.nil_append, List.append_nil, List.getElem?_cons_zero, List.getElem?_cons_succ, List.getElem?_nil, List.set_cons_zero, List.set_cons_succ, List.zip_cons_cons, List.zip_nil_left, List.foldl_cons, List.foldl_nil, Nat.reduceSub, Nat.reduceAdd, Nat.zero_add, Nat.add_zero, if_true, if_false, reduceIte, ite_true, ite_false, eq_self, and_true, true_and, and_self, decide_true, decide_false, is_int_int, is_int_bl, is_int_str, is_int_tup, is_int_rol, is_int_non, is_bool_int, is_bool_bl, is_bool_str, is_bool_tup, is_bool_rol, is_bool_non, is_tuple_int, is_tuple_bl, is_tuple_str, is_tuple_tup, is_tuple_rol, is_tuple_non, is_str_int, is_str_bl, is_str_str, is_str_tup, is_str_rol, is_str_non, is_list_int, is_list_bl, is_list_str, is_list_tup, is_list_rol, is_list_non, Bool.not_true, Bool.not_false, forA, x_fr0, x_fr1, p12, c1, c2, c3, c4]
        · simp [b_ok, b_ex, b_bad, o_ok, o_ex, o_bad, n_ok, s_seq, s_nx, s_rt, s_bk, s_ct, s_ex, e_var, e_c, e_bin, e_un, e_blt, e_if, e_and, e_or, e_chain, a_nil, a_cons, e_tup, e_lst, e_call, e_callK, e_met, e_sl, g_nx, g_expr, g_ret, g_retN, g_bk, g_ct, g_if, g_asg, g_par, g_raise, t_name, t_unp, t_nil, t_cons, t_sub, g_for, i_val, i_rng1, i_rng2, e_ref, f_rt, f_nx, f_ex, drop_id, g_aug, o_iadd, e_lc, w_nil, w_cons, e_yes, i_tup, i_rol, al, lim_eq, Nat.reduceLeDiff, Nat.reduceLT, x_t0, x_t1, x_t2, x_t3, l_tup, l_rol, u_tup, o_cmp, o_add, o_sub, o_neg, o_not, o_abs, o_int, o_max, o_min, q_int, q_nint, q_bl, q_nbl, q_str, q_nstr, fnD, List.map_cons, List.map_nil, List.length_cons, List.length_nil, List.replicate_succ, List.replicate_zero, List.cons_append, List.nil_append, List.append_nil, List.getElem?_cons_zero, List.getElem?_cons_succ, List.getElem?_nil, List.set_cons_zero, List.set_cons_succ, List.zip_cons_cons, List.zip_nil_left, List.foldl_cons, List.foldl_nil, Nat.reduceSub, Nat.reduceAdd, Nat.zero_add, Nat.add_zero, if_true, if_false, reduceIte, ite_true, ite_false, eq_self, and_true, true_and, and_self, decide_true, decide_false, is_int_int, is_int_bl, is_int_str, is_int_tup, is_int_rol, is_int_non, is_bool_int, is_bool_bl, is_bool_str, is_bool_tup, is_bool_rol, is_bool_non, is_tuple_int, is_tuple_bl, is_tuple_str, is_tuple_tup, is_tuple_rol, is_tuple_non, is_str_int, is_str_bl, is_str_str, is_str_tup, is_str_rol, is_str_non, is_list_int, is_list_bl, is_list_str, is_list_tup, is_list_rol, is_list_non, Bool.not_true, Bool.not_false, forA, x_fr0, x_fr1, p12, c1, c2, c3, c4]
theorem fits_mat (i : Nat) (a b c d : Rat) (h : DH) : r_law_fits (i + 2) [mat a b c d] h = .ok (.bl (goodB a && goodB b && (goodB c && goodB d))) h := by
  unfold r_law_fits d_law_fits
  simp only [b_ok, b_ex, b_bad, o_ok, o_ex, o_bad, n_ok, s_seq, s_nx, s_rt, s_bk, s_ct, s_ex, e_var, e_c, e_bin, e_un, e_blt, e_if, e_and, e_or, e_chain, a_nil, a_cons, e_tup, e_lst, e_call, e_callK, e_met, e_sl, g_nx, g_expr, g_ret, g_retN, g_bk, g_ct, g_if, g_asg, g_par, g_raise, t_name, t_unp, t_nil, t_cons, t_sub, g_for, i_val, i_rng1, i_rng2, e_ref, f_rt, f_nx, f_ex, drop_id, g_aug, o_iadd, e_lc, w_nil, w_cons, e_yes, i_tup, i_rol, al, lim_eq, Nat.reduceLeDiff, Nat.reduceLT, x_t0, x_t1, x_t2, x_t3, l_tup, l_rol, u_tup, o_cmp, o_add, o_sub, o_neg, o_not, o_abs, o_int, o_max, o_min, q_int, q_nint, q_bl, q_nbl, q_str, q_nstr, fnD, List.map_cons, List.map_nil, List.length_cons, List.length_nil, List.replicate_succ, List.replicate_zero, List.cons_append, List.nil_append, List.append_nil, List.getElem?_cons_zero, List.getElem?_cons_succ, List.getElem?_nil, List.set_cons_zero, List.set_cons_succ, List.zip_cons_cons, List.zip_nil_left, List.foldl_cons, List.foldl_nil, Nat.reduceSub, Nat.reduceAdd, Nat.zero_add, Nat.add_zero, if_true, if_false, reduceIte, ite_true, ite_false, eq_self, and_true, true_and, and_self, decide_true, decide_false, is_int_int, is_int_bl, is_int_str, is_int_tup, is_int_rol, is_int_non, is_bool_int, is_bool_bl, is_bool_str, is_bool_tup, is_bool_rol, is_bool_non, is_tuple_int, is_tuple_bl, is_tuple_str, is_tuple_tup, is_tuple_rol, is_tuple_non, is_str_int, is_str_bl, is_str_str, is_str_tup, is_str_rol, is_str_non, is_list_int, is_list_bl, is_list_str, is_list_tup, is_list_rol, is_list_non, Bool.not_true, Bool.not_false, forA, is_tuple_fr, fits_pr]
  cases hp : goodB a && goodB b <;> cases hq : goodB c && goodB d <;> simp only [b_ok, b_ex, b_bad, o_ok, o_ex, o_bad, n_ok, s_seq, s_nx, s_rt, s_bk, s_ct, s_ex, e_var, e_c, e_bin, e_un, e_blt, e_if, e_and, e_or, e_chain, a_nil, a_cons, e_tup, e_lst, e_call, e_callK, e_met, e_sl, g_nx, g_expr, g_ret, g_retN, g_bk, g_ct, g_if, g_asg, g_par, g_raise, t_name, t_unp, t_nil, t_cons, t_sub, g_for, i_val, i_rng1, i_rng2, e_ref, f_rt, f_nx, f_ex, drop_id, g_aug, o_iadd, e_lc, w_nil, w_cons, e_yes, i_tup, i_rol, al, lim_eq, Nat.reduceLeDiff, Nat.reduceLT, x_t0, x_t1, x_t2, x_t3, l_tup, l_rol, u_tup, o_cmp, o_add, o_sub, o_neg, o_not, o_abs, o_int, o_max, o_min, q_int, q_nint, q_bl, q_nbl, q_str, q_nstr, fnD, List.map_cons, List.map_nil, List.length_cons, List.length_nil, List.replicate_succ, List.replicate_zero, List.cons_append, List.nil_append, List.append_nil, List.getElem?_cons_zero, List.getElem?_cons_succ, List.getElem?_nil, List.set_cons_zero, List.set_cons_succ, List.zip_cons_cons, List.zip_nil_left, List.foldl_cons, List.foldl_nil, Nat.reduceSub, Nat.reduceAdd, Nat.zero_add, Nat.add_zero, if_true, if_false, reduceIte, ite_true, ite_false, eq_self, and_true, true_and, and_self, decide_true, decide_false, is_int_int, is_int_bl, is_int_str, is_int_tup, is_int_rol, is_int_non, is_bool_int, is_bool_bl, is_bool_str, is_bool_tup, is_bool_rol, is_bool_non, is_tuple_int, is_tuple_bl, is_tuple_str, is_tuple_tup, is_tuple_rol, is_tuple_non, is_str_int, is_str_bl, is_str_str, is_str_tup, is_str_rol, is_str_non, is_list_int, is_list_bl, is_list_str, is_list_tup, is_list_rol, is_list_non, Bool.not_true, Bool.not_false, is_tuple_fr, fits_pr, hp, hq, Bool.and_true, Bool.and_false, Bool.true_and, Bool.false_and]
theorem fits2 (p q : Rat) (h : DH) : f_law_fits [pr p q] h = .ok (.bl (goodB p && goodB q)) h := fits_pr 3 p q h
theorem fits4 (a b c d : Rat) (h : DH) : f_law_fits [mat a b c d] h = .ok (.bl (goodB a && goodB b && (goodB c && goodB d))) h := fits_mat 2 a b c d h
/-! ### the program's check of a matrix -/
theorem need_matrix_ok {a b c d : Rat} {n : Str} (ha : good a) (hb : good b) (hc : good c) (hd : good d) (det : a * d - b * c = 1) (hn : n.length ≤ 1000) (h : DH) : f_need_matrix [mat a b c d, .str n] h = .ok .non h := by
  unfold f_need_matrix d_need_matrix
  have e2 : (((2 : Nat) : Int) = 2) = True := by simp
  simp only [b_ok, b_ex, b_bad, o_ok, o_ex, o_bad, n_ok, s_seq, s_nx, s_rt, s_bk, s_ct, s_ex, e_var, e_c, e_bin, e_un, e_blt, e_if, e_and, e_or, e_chain, a_nil, a_cons, e_tup, e_lst, e_call, e_callK, e_met, e_sl, g_nx, g_expr, g_ret, g_retN, g_bk, g_ct, g_if, g_asg, g_par, g_raise, t_name, t_unp, t_nil, t_cons, t_sub, g_for, i_val, i_rng1, i_rng2, e_ref, f_rt, f_nx, f_ex, drop_id, g_aug, o_iadd, e_lc, w_nil, w_cons, e_yes, i_tup, i_rol, al, lim_eq, Nat.reduceLeDiff, Nat.reduceLT, x_t0, x_t1, x_t2, x_t3, l_tup, l_rol, u_tup, o_cmp, o_add, o_sub, o_neg, o_not, o_abs, o_int, o_max, o_min, q_int, q_nint, q_bl, q_nbl, q_str, q_nstr, fnD, List.map_cons, List.map_nil, List.length_cons, List.length_nil, List.replicate_succ, List.replicate_zero, List.cons_append, List.nil_append, List.append_nil, List.getElem?_cons_zero, List.getElem?_cons_succ, List.getElem?_nil, List.set_cons_zero, List.set_cons_succ, List.zip_cons_cons, List.zip_nil_left, List.foldl_cons, List.foldl_nil, Nat.reduceSub, Nat.reduceAdd, Nat.zero_add, Nat.add_zero, if_true, if_false, reduceIte, ite_true, ite_false, eq_self, and_true, true_and, and_self, decide_true, decide_false, is_int_int, is_int_bl, is_int_str, is_int_tup, is_int_rol, is_int_non, is_bool_int, is_bool_bl, is_bool_str, is_bool_tup, is_bool_rol, is_bool_non, is_tuple_int, is_tuple_bl, is_tuple_str, is_tuple_tup, is_tuple_rol, is_tuple_non, is_str_int, is_str_bl, is_str_str, is_str_tup, is_str_rol, is_str_non, is_list_int, is_list_bl, is_list_str, is_list_tup, is_list_rol, is_list_non, Bool.not_true, Bool.not_false, e2, forA, is_small_ok (fr_flat a), is_small_ok (fr_flat b), is_small_ok (fr_flat c), is_small_ok (fr_flat d), good_num ha, good_num hb, good_num hc, good_num hd, times_ok ha.sm hd.sm (by omega), times_ok hb.sm hc.sm (by omega), minus_ok (sm_mul ha.sm hd.sm) (sm_mul hb.sm hc.sm) (by omega), det, one_fr, q_nfr]
theorem need_matrix_non {n : Str} (hn : n.length ≤ 1000) (h : DH) : f_need_matrix [.non, .str n] h = .ex 0 (.str n) h := by
  unfold f_need_matrix d_need_matrix
  have hk : okName (.str n) = true := decide_eq_true hn
  simp only [b_ok, b_ex, b_bad, o_ok, o_ex, o_bad, n_ok, s_seq, s_nx, s_rt, s_bk, s_ct, s_ex, e_var, e_c, e_bin, e_un, e_blt, e_if, e_and, e_or, e_chain, a_nil, a_cons, e_tup, e_lst, e_call, e_callK, e_met, e_sl, g_nx, g_expr, g_ret, g_retN, g_bk, g_ct, g_if, g_asg, g_par, g_raise, t_name, t_unp, t_nil, t_cons, t_sub, g_for, i_val, i_rng1, i_rng2, e_ref, f_rt, f_nx, f_ex, drop_id, g_aug, o_iadd, e_lc, w_nil, w_cons, e_yes, i_tup, i_rol, al, lim_eq, Nat.reduceLeDiff, Nat.reduceLT, x_t0, x_t1, x_t2, x_t3, l_tup, l_rol, u_tup, o_cmp, o_add, o_sub, o_neg, o_not, o_abs, o_int, o_max, o_min, q_int, q_nint, q_bl, q_nbl, q_str, q_nstr, fnD, List.map_cons, List.map_nil, List.length_cons, List.length_nil, List.replicate_succ, List.replicate_zero, List.cons_append, List.nil_append, List.append_nil, List.getElem?_cons_zero, List.getElem?_cons_succ, List.getElem?_nil, List.set_cons_zero, List.set_cons_succ, List.zip_cons_cons, List.zip_nil_left, List.foldl_cons, List.foldl_nil, Nat.reduceSub, Nat.reduceAdd, Nat.zero_add, Nat.add_zero, if_true, if_false, reduceIte, ite_true, ite_false, eq_self, and_true, true_and, and_self, decide_true, decide_false, is_int_int, is_int_bl, is_int_str, is_int_tup, is_int_rol, is_int_non, is_bool_int, is_bool_bl, is_bool_str, is_bool_tup, is_bool_rol, is_bool_non, is_tuple_int, is_tuple_bl, is_tuple_str, is_tuple_tup, is_tuple_rol, is_tuple_non, is_str_int, is_str_bl, is_str_str, is_str_tup, is_str_rol, is_str_non, is_list_int, is_list_bl, is_list_str, is_list_tup, is_list_rol, is_list_non, Bool.not_true, Bool.not_false, hk]
theorem need_matrix_lst {n : Str} {k : Nat} {xs : List D} {h : DH} (hn : n.length ≤ 1000) (q : h[k]? = some (.lst xs)) : f_need_matrix [.obj k, .str n] h = .ex 0 (.str n) h := by
  unfold f_need_matrix d_need_matrix
  have hk : okName (.str n) = true := decide_eq_true hn
  simp only [b_ok, b_ex, b_bad, o_ok, o_ex, o_bad, n_ok, s_seq, s_nx, s_rt, s_bk, s_ct, s_ex, e_var, e_c, e_bin, e_un, e_blt, e_if, e_and, e_or, e_chain, a_nil, a_cons, e_tup, e_lst, e_call, e_callK, e_met, e_sl, g_nx, g_expr, g_ret, g_retN, g_bk, g_ct, g_if, g_asg, g_par, g_raise, t_name, t_unp, t_nil, t_cons, t_sub, g_for, i_val, i_rng1, i_rng2, e_ref, f_rt, f_nx, f_ex, drop_id, g_aug, o_iadd, e_lc, w_nil, w_cons, e_yes, i_tup, i_rol, al, lim_eq, Nat.reduceLeDiff, Nat.reduceLT, x_t0, x_t1, x_t2, x_t3, l_tup, l_rol, u_tup, o_cmp, o_add, o_sub, o_neg, o_not, o_abs, o_int, o_max, o_min, q_int, q_nint, q_bl, q_nbl, q_str, q_nstr, fnD, List.map_cons, List.map_nil, List.length_cons, List.length_nil, List.replicate_succ, List.replicate_zero, List.cons_append, List.nil_append, List.append_nil, List.getElem?_cons_zero, List.getElem?_cons_succ, List.getElem?_nil, List.set_cons_zero, List.set_cons_succ, List.zip_cons_cons, List.zip_nil_left, List.foldl_cons, List.foldl_nil, Nat.reduceSub, Nat.reduceAdd, Nat.zero_add, Nat.add_zero, if_true, if_false, reduceIte, ite_true, ite_false, eq_self, and_true, true_and, and_self, decide_true, decide_false, is_int_int, is_int_bl, is_int_str, is_int_tup, is_int_rol, is_int_non, is_bool_int, is_bool_bl, is_bool_str, is_bool_tup, is_bool_rol, is_bool_non, is_tuple_int, is_tuple_bl, is_tuple_str, is_tuple_tup, is_tuple_rol, is_tuple_non, is_str_int, is_str_bl, is_str_str, is_str_tup, is_str_rol, is_str_non, is_list_int, is_list_bl, is_list_str, is_list_tup, is_list_rol, is_list_non, Bool.not_true, Bool.not_false, hk, is_tuple_obj q]
/-! ### comprehensions over fractions -/
theorem lcO_frs {γ : Dg} {c el : De} {ρ : En} {h : DH} {n : Nat} {all : List D} (q : h[n]? = some (.lst all)) (p : Rat → Bool) (G : Rat → D) : ∀ (qs : List Rat), (∀ x ∈ qs, ∃ ρ1, γ (fr x) ρ h = .ok ρ1 h ∧ c ρ1 h = .ok (.bl (p x)) h ∧ (p x = true → el ρ1 h = .ok (G x) h)) → lcO γ c el ρ n all (qs.map fr) h = .ok ((qs.filter p).map G) h
  | [], _ => by
    show lcO γ c el ρ n all [] h = _
    unfold lcO
    rw [if_pos q]
    rfl
  | x :: xs, st => by
    obtain ⟨ρ1, e1, e2, e3⟩ := st x List.mem_cons_self
    have ih := lcO_frs q p G xs fun y hy => st y (List.mem_cons_of_mem _ hy)
    show lcO γ c el ρ n all (fr x :: xs.map fr) h = _
    unfold lcO
    rw [if_pos q, e1]
    show (noEx (c ρ1 h)).bind _ = _
    rw [e2]
    cases hp : p x with
    | true =>
      show (noEx (el ρ1 h)).bind _ = _
      rw [e3 hp]
      show (lcO γ c el ρ n all (xs.map fr) h).bind _ = _
      rw [ih, List.filter_cons_of_pos hp]
      rfl
    | false =>
      show lcO γ c el ρ n all (xs.map fr) h = _
      rw [ih, List.filter_cons_of_neg (by rw [hp]; decide)]
theorem lcA_frs {γ : Dg} {c el : De} {ρ : En} {h : DH} (p : Rat → Bool) (G : Rat → D) : ∀ (qs : List Rat), (∀ x ∈ qs, ∃ ρ1, γ (fr x) ρ h = .ok ρ1 h ∧ c ρ1 h = .ok (.bl (p x)) h ∧ (p x = true → el ρ1 h = .ok (G x) h)) → lcA γ c el ρ (qs.map fr) h = .ok ((qs.filter p).map G) h
  | [], _ => rfl
  | x :: xs, st => by
    obtain ⟨ρ1, e1, e2, e3⟩ := st x List.mem_cons_self
    have ih := lcA_frs p G xs fun y hy => st y (List.mem_cons_of_mem _ hy)
    show lcA γ c el ρ (fr x :: xs.map fr) h = _
    unfold lcA
    rw [e1]
    show (noEx (c ρ1 h)).bind _ = _
    rw [e2]
    cases hp : p x with
    | true =>
      show (noEx (el ρ1 h)).bind _ = _
      rw [e3 hp]
      show (lcA γ c el ρ (xs.map fr) h).bind _ = _
      rw [ih, List.filter_cons_of_pos hp]
      rfl
    | false =>
      show lcA γ c el ρ (xs.map fr) h = _
      rw [ih, List.filter_cons_of_neg (by rw [hp]; decide)]
/-- two empty lists just laid are alike -/
theorem ne_nil2 {h : DH} : oNe (.obj h.length) (.obj (h ++ [MO.lst []]).length) (h ++ [MO.lst []] ++ [MO.lst []]) = .ok (.bl false) (h ++ [MO.lst []] ++ [MO.lst []]) := by
  have p : (h ++ [MO.lst []] ++ [MO.lst []])[h.length]? = some (.lst []) := by simp
  rw [q_nlst p at_new rfl rfl]
  rfl
theorem tiny_ne {q : Rat} (t : tiny q) : (2 : Rat) * q + Rat.divInt 1 7 ≠ 0 := by
  obtain ⟨n, d, rfl, h1, h2, h3⟩ := t
  intro z
  have hd : d = 1 ∨ d = 2 ∨ d = 3 := by omega
  have e : (2 : Rat) * Rat.divInt n d + Rat.divInt 1 7 = Rat.divInt (14 * n + d) (7 * d) := by
    have e2 : (2 : Rat) = Rat.divInt 2 1 := rfl
    rw [e2, Rat.divInt_mul_divInt, Rat.divInt_add_divInt _ _ (by omega) (by omega)]
    congr 1 <;> omega
  rw [e] at z
  have z2 : Rat.divInt (14 * n + d) (7 * d) = Rat.divInt 0 1 := z
  rw [Rat.divInt_eq_divInt_iff (by omega) (by omega)] at z2
  omega
end Law
/-! rows of gaps, lenses and stops -/
namespace Law
open PySem L2 DL
theorem two2 : (((2 : Nat) : Int) = 2) = True := by simp
theorem sRow : ("row" : Str).length ≤ 1000 := by decide
theorem sRay : ("ray" : Str).length ≤ 1000 := by decide
theorem okRow : okName (.str "row") = true := decide_eq_true sRow
theorem okRay : okName (.str "ray") = true := decide_eq_true sRay
theorem goodB_not {q : Rat} (h : ¬ good q) : goodB q = false := by
  cases e : goodB q with
  | false => rfl
  | true => exact absurd (good_of e) h
/-- the ending: True -/
theorem fin_true {n k : Nat} {h0 h : DH} (ln : n < h0.length) (g : Grow n h0 h) (d : DOK n k h) : ∃ h', DL.finish h0 (.rt (.bl true) h) = .ok (.bl true) h' ∧ Fr n h0 h' := by
  obtain ⟨h', e', f', _⟩ := ret_dice (d := .bl true) g d ln rfl
  exact ⟨h', e', f'⟩
/-- for i in range(n) -/
theorem forR_rule {γ : Dg} {b : Ds} {n : Nat} (I : Nat → En → DH → Prop) (O : Ss → Prop) (hs : ∀ i ρ h, i < n → I i ρ h → ∃ ρ1 h1, γ (.int i) ρ h = .ok ρ1 h1 ∧ (match b ρ1 h1 with
    | .nx ρ' h' => I (i + 1) ρ' h'
    | .ct ρ' h' => I (i + 1) ρ' h'
    | .bk ρ' h' => O (.nx ρ' h')
    | .rt d h' => O (.rt d h')
    | .ex c d h' => O (.ex c d h')
    | .bad => False)) (he : ∀ ρ h, I n ρ h → O (.nx ρ h)) {ρ : En} {h : DH} (i0 : I 0 ρ h) : O (forA γ b (rngItems 0 n) ρ h) := by
  have ln : (rngItems 0 n).length = n := by simp [rngItems]
  refine forA_rule (fun t ρ h => ∃ i, i ≤ n ∧ t = (rngItems 0 n).drop i ∧ I i ρ h) O ?_ ?_ _ _ _ ⟨0, Nat.zero_le _, rfl, i0⟩
  · rintro x t ρ h ⟨i, hi, e, q⟩
    have hl : i < n := by
      rcases Nat.lt_or_ge i n with l | l
      · exact l
      · rw [List.drop_eq_nil_of_le (by omega)] at e
        cases e
    have e2 : (rngItems 0 n).drop i = .int i :: (rngItems 0 n).drop (i + 1) := by
      rw [List.drop_eq_getElem_cons (by omega)]
      simp [rngItems]
    rw [e2] at e
    cases e
    obtain ⟨ρ1, h1, e1, q1⟩ := hs i ρ h hl q
    refine ⟨ρ1, h1, e1, ?_⟩
    cases z : b ρ1 h1 <;> rw [z] at q1 <;> first | exact q1 | exact ⟨i + 1, hl, rfl, q1⟩
  · rintro ρ h ⟨i, hi, e, q⟩
    have := congrArg List.length e
    rw [List.length_drop, ln, List.length_nil] at this
    have : i = n := by omega
    subst this
    exact he _ _ q
theorem rng_if {n : Nat} {α : Type} {a b : α} (hn : n ≤ 1000000) : (if (-1000000000 : Int) ≤ (n : Int) ∧ (n : Int) ≤ 1000000000 then a else b) = a := if_pos ⟨by omega, by omega⟩
/-! ### two numbers over one denominator -/
def cd (k : Nat) (r : Rat × Rat) : Prop := ∃ a b d : Int, 0 < d ∧ r.1 = Rat.divInt a d ∧ r.2 = Rat.divInt b d ∧ a.natAbs < 2 ^ k ∧ b.natAbs < 2 ^ k ∧ d.natAbs < 2 ^ k
theorem cd.mono {k m : Nat} {r : Rat × Rat} (c : cd k r) (l : k ≤ m) : cd m r := by
  obtain ⟨a, b, d, d0, e1, e2, l1, l2, l3⟩ := c
  have := Nat.pow_le_pow_right (n := 2) (by omega) l
  exact ⟨a, b, d, d0, e1, e2, by omega, by omega, by omega⟩
theorem cd.fst {k : Nat} {r : Rat × Rat} (c : cd k r) : sm k r.1 := by
  obtain ⟨a, b, d, d0, e1, e2, l1, l2, l3⟩ := c
  obtain ⟨h1, h2⟩ := num_le (a := a) (b := d) (by omega)
  rw [e1]
  exact ⟨by omega, by omega⟩
theorem cd.snd {k : Nat} {r : Rat × Rat} (c : cd k r) : sm k r.2 := by
  obtain ⟨a, b, d, d0, e1, e2, l1, l2, l3⟩ := c
  obtain ⟨h1, h2⟩ := num_le (a := b) (b := d) (by omega)
  rw [e2]
  exact ⟨by omega, by omega⟩
theorem cd.swap {k : Nat} {x y : Rat} (c : cd k (x, y)) : cd k (y, x) := by
  obtain ⟨a, b, d, d0, e1, e2, l1, l2, l3⟩ := c
  exact ⟨b, a, d, d0, e2, e1, l2, l1, l3⟩
theorem mulabs {a b : Int} {n m : Nat} (ha : a.natAbs < 2 ^ n) (hb : b.natAbs < 2 ^ m) : (a * b).natAbs < 2 ^ (n + m) := by
  rw [Int.natAbs_mul]
  exact mul_lt ha hb
theorem den_lt {n : Nat} {q : Rat} (h : sm n q) : (q.den : Int).natAbs < 2 ^ n := by
  rw [Int.natAbs_natCast]
  exact h.2
theorem cd_of {n m : Nat} {p q : Rat} (hp : sm n p) (hq : sm m q) : cd (n + m) (p, q) := by
  have p0 := p.den_pos
  have q0 := q.den_pos
  refine ⟨p.num * q.den, q.num * p.den, p.den * q.den, Int.mul_pos (by omega) (by omega), ?_, ?_, mulabs hp.1 (den_lt hq), ?_, mulabs (den_lt hp) (den_lt hq)⟩
  · show p = _
    rw [Rat.divInt_mul_right (by omega), Rat.num_divInt_den]
  · show q = _
    rw [Int.mul_comm (p.den : Int), Rat.divInt_mul_right (by omega), Rat.num_divInt_den]
  · rw [Nat.add_comm]
    exact mulabs hq.1 (den_lt hp)
theorem cd_shear {k n : Nat} {x y q : Rat} (c : cd k (x, y)) (hq : sm n q) : cd (k + n + 1) (x + q * y, y) := by
  obtain ⟨a, b, d, d0, e1, e2, l1, l2, l3⟩ := c
  have q0 := q.den_pos
  have e1' : x = Rat.divInt a d := e1
  have e2' : y = Rat.divInt b d := e2
  have up : 2 ^ (k + n) ≤ 2 ^ (k + n + 1) := Nat.pow_le_pow_right (by omega) (by omega)
  refine ⟨a * q.den + q.num * b, b * q.den, d * q.den, Int.mul_pos d0 (by omega), ?_, ?_, ?_, Nat.lt_of_lt_of_le (mulabs l2 (den_lt hq)) up, Nat.lt_of_lt_of_le (mulabs l3 (den_lt hq)) up⟩
  · show x + q * y = _
    have eq : q = Rat.divInt q.num q.den := (Rat.num_divInt_den q).symm
    have d0' : d ≠ 0 := by omega
    have q0' : (q.den : Int) ≠ 0 := by omega
    have qd0 : (q.den : Int) * d ≠ 0 := Int.mul_ne_zero q0' d0'
    rw [e1', e2']
    conv => lhs; rw [eq]
    rw [Rat.divInt_mul_divInt, Rat.divInt_add_divInt _ _ d0' qd0, Rat.divInt_eq_divInt_iff (Int.mul_ne_zero d0' qd0) (Int.mul_ne_zero d0' q0')]
    grind
  · show y = _
    rw [Rat.divInt_mul_right (by omega)]
    exact e2'
  · refine natAbs_add_lt (mulabs l1 (den_lt hq)) ?_
    rw [Nat.add_comm]
    exact mulabs hq.1 l2
/-! ### parts -/
inductive Kd | gap | lens | stop
def Kd.s : Kd → Str
  | .gap => "gap"
  | .lens => "lens"
  | .stop => "stop"
theorem k_lg : (("lens" : Str) = "gap") = False := by simp only [eq_iff_iff, iff_false]; decide
theorem k_gl : (("gap" : Str) = "lens") = False := by simp only [eq_iff_iff, iff_false]; decide
theorem k_sg : (("stop" : Str) = "gap") = False := by simp only [eq_iff_iff, iff_false]; decide
theorem k_gs : (("gap" : Str) = "stop") = False := by simp only [eq_iff_iff, iff_false]; decide
theorem k_sl : (("stop" : Str) = "lens") = False := by simp only [eq_iff_iff, iff_false]; decide
theorem k_ls : (("lens" : Str) = "stop") = False := by simp only [eq_iff_iff, iff_false]; decide
/-- a part -/
def prt (p : Kd × Rat) : D := .tup [.str p.1.s, fr p.2]
structure okP (p : Kd × Rat) : Prop where
  g : good p.2
  a : p.1 = .gap → 0 ≤ p.2
  b : p.1 = .stop → 0 < p.2
abbrev row (ps : List (Kd × Rat)) : D := .tup (ps.map prt)
abbrev prr (r : Rat × Rat) : D := pr r.1 r.2
def stepP : Kd × Rat → Rat × Rat → Rat × Rat
  | (.gap, q), r => (r.1 + q * r.2, r.2)
  | (.lens, q), r => (r.1, r.2 - q * r.1)
  | (.stop, _), r => r
def backP : Kd × Rat → Rat × Rat → Rat × Rat
  | (.gap, q), r => (r.1 - q * r.2, r.2)
  | (.lens, q), r => (r.1, r.2 + q * r.1)
  | (.stop, _), r => r
theorem cd_step {k n : Nat} {p : Kd × Rat} {r : Rat × Rat} (hp : sm n p.2) (c : cd k r) : cd (k + n + 1) (stepP p r) := by
  obtain ⟨t, q⟩ := p
  cases t
  · exact cd_shear c hp
  · have := (cd_shear (c : cd k (r.1, r.2)).swap (sm_neg hp)).swap
    have e : r.2 + -q * r.1 = r.2 - q * r.1 := by grind
    rw [e] at this
    exact this
  · exact c.mono (by omega)
theorem cd_back {k n : Nat} {p : Kd × Rat} {r : Rat × Rat} (hp : sm n p.2) (c : cd k r) : cd (k + n + 1) (backP p r) := by
  obtain ⟨t, q⟩ := p
  cases t
  · have := cd_shear c (sm_neg hp)
    have e : r.1 + -q * r.2 = r.1 - q * r.2 := by grind
    rw [e] at this
    exact this
  · exact (cd_shear (c : cd k (r.1, r.2)).swap hp).swap
  · exact c.mono (by omega)
def outP (ps : List (Kd × Rat)) (r : Rat × Rat) : Rat × Rat := ps.foldl (fun r p => stepP p r) r
def entP (ps : List (Kd × Rat)) (r : Rat × Rat) : Rat × Rat := ps.foldr backP r
def wayP : List (Kd × Rat) → Rat × Rat → List (Rat × Rat)
  | [], _ => []
  | p :: ps, r => stepP p r :: wayP ps (stepP p r)
theorem step_back (p : Kd × Rat) (r : Rat × Rat) : stepP p (backP p r) = r := by
  obtain ⟨t, q⟩ := p
  obtain ⟨x, y⟩ := r
  cases t <;> simp only [stepP, backP] <;> refine Prod.ext ?_ ?_ <;> grind
theorem back_step (p : Kd × Rat) (r : Rat × Rat) : backP p (stepP p r) = r := by
  obtain ⟨t, q⟩ := p
  obtain ⟨x, y⟩ := r
  cases t <;> simp only [stepP, backP] <;> refine Prod.ext ?_ ?_ <;> grind
theorem out_ent : ∀ (ps : List (Kd × Rat)) (r : Rat × Rat), outP ps (entP ps r) = r
  | [], r => rfl
  | p :: ps, r => by
    show outP ps (stepP p (backP p (entP ps r))) = r
    rw [step_back, out_ent ps]
theorem ent_out : ∀ (ps : List (Kd × Rat)) (r : Rat × Rat), entP ps (outP ps r) = r
  | [], r => rfl
  | p :: ps, r => by
    show backP p (entP ps (outP ps (stepP p r))) = r
    rw [ent_out ps, back_step]
/-- rows send rays linearly -/
theorem out_lin (v : Rat) : ∀ (ps : List (Kd × Rat)) (r s : Rat × Rat), outP ps (r.1 + v * s.1, r.2 + v * s.2) = ((outP ps r).1 + v * (outP ps s).1, (outP ps r).2 + v * (outP ps s).2)
  | [], r, s => rfl
  | p :: ps, r, s => by
    show outP ps (stepP p (r.1 + v * s.1, r.2 + v * s.2)) = ((outP ps (stepP p r)).1 + v * (outP ps (stepP p s)).1, (outP ps (stepP p r)).2 + v * (outP ps (stepP p s)).2)
    rw [← out_lin v ps (stepP p r) (stepP p s)]
    congr 1
    obtain ⟨t, q⟩ := p
    cases t <;> simp only [stepP] <;> refine Prod.ext ?_ ?_ <;> grind
theorem way_length : ∀ (ps : List (Kd × Rat)) (r : Rat × Rat), (wayP ps r).length = ps.length
  | [], _ => rfl
  | p :: ps, r => by simp [wayP, way_length ps]
theorem way_at : ∀ (ps : List (Kd × Rat)) (r : Rat × Rat) (i : Nat), i ≤ ps.length → (r :: wayP ps r)[i]? = some (outP (ps.take i) r)
  | _, r, 0, _ => by simp [outP]
  | [], r, i + 1, h => by simp at h
  | p :: ps, r, i + 1, h => by
    show (stepP p r :: wayP ps (stepP p r))[i]? = _
    rw [way_at ps (stepP p r) i (by simpa using h)]
    rfl
theorem way_last (ps : List (Kd × Rat)) (r : Rat × Rat) : (r :: wayP ps r)[ps.length]? = some (outP ps r) := by
  rw [way_at ps r _ (Nat.le_refl _), List.take_length]
theorem out_take {ps : List (Kd × Rat)} {p : Kd × Rat} {i : Nat} (e : ps[i]? = some p) (r : Rat × Rat) : outP (ps.take (i + 1)) r = stepP p (outP (ps.take i) r) := by
  rw [List.take_add_one, e]
  simp [outP]
theorem cd_out {n : Nat} : ∀ (ps : List (Kd × Rat)) (r : Rat × Rat) (k : Nat), (∀ p ∈ ps, sm n p.2) → cd k r → cd (k + (n + 1) * ps.length) (outP ps r)
  | [], r, k, _, c => c
  | p :: ps, r, k, hp, c => by
    have := cd_out ps (stepP p r) _ (fun q hq => hp q (List.mem_cons_of_mem _ hq)) (cd_step (hp p List.mem_cons_self) c)
    refine cd.mono this ?_
    rw [List.length_cons, Nat.mul_succ]
    omega
theorem cd_ent {n k : Nat} (r : Rat × Rat) (c : cd k r) : ∀ (ps : List (Kd × Rat)), (∀ p ∈ ps, sm n p.2) → cd (k + (n + 1) * ps.length) (entP ps r)
  | [], _ => c
  | p :: ps, hp => by
    have := cd_back (hp p List.mem_cons_self) (cd_ent r c ps fun q hq => hp q (List.mem_cons_of_mem _ hq))
    refine cd.mono this ?_
    rw [List.length_cons, Nat.mul_succ]
    omega
theorem cd_take {n k i : Nat} {ps : List (Kd × Rat)} {r : Rat × Rat} (hp : ∀ p ∈ ps, sm n p.2) (c : cd k r) (hi : i ≤ ps.length) : cd (k + (n + 1) * ps.length) (outP (ps.take i) r) := by
  have := cd_out (ps.take i) r k (fun q hq => hp q (List.mem_of_mem_take hq)) c
  refine cd.mono this ?_
  have := Nat.mul_le_mul_left (n + 1) (show (ps.take i).length ≤ ps.length by rw [List.length_take]; omega)
  omega
/-! ### the program's checks -/
theorem inD_tup {x : D} {ys : List D} {h : DH} (hx : pl 19 x = true) (hy : pls 18 ys = true) : inD h x (.tup ys) = some ((toPs ys).any fun z => PyData.eqv z (toP x)) := by
  obtain ⟨c, d, e⟩ := pyOf_pl h 19 x hx
  obtain ⟨c2, d2, e2⟩ := pyOf_pl h 19 (.tup ys) (by simp only [pl]; exact hy)
  have c' : pyOf h deep x = some (toP x) := c
  have c2' : pyOf h deep (.tup ys) = some (.tuple (toPs ys)) := by
    have z := c2
    simp only [toP] at z
    exact z
  simp only [toP] at d2 e2
  unfold inD
  rw [c', c2']
  show (if SeqAt.shaped (toP x) = true ∧ SeqAt.shaped (.tuple (toPs ys)) = true then some ((toPs ys).any fun z => PyData.eqv z (toP x)) else none) = _
  rw [if_pos ⟨shp d e (by omega), shp d2 e2 (by omega)⟩]
theorem in_tup {x : D} {ys : List D} {h : DH} (hx : pl 19 x = true) (hy : pls 18 ys = true) : oIn x (.tup ys) h = .ok (.bl ((toPs ys).any fun z => PyData.eqv z (toP x))) h := by
  unfold oIn
  rw [inD_tup hx hy]
theorem notin_tup {x : D} {ys : List D} {h : DH} (hx : pl 19 x = true) (hy : pls 18 ys = true) : oNotIn x (.tup ys) h = .ok (.bl (!(toPs ys).any fun z => PyData.eqv z (toP x))) h := by
  unfold oNotIn
  rw [inD_tup hx hy]
theorem kinds_in (k : Kd) (h : DH) : oNotIn (.str k.s) k_KINDS h = .ok (.bl false) h := by
  have e : ((toPs [.str "gap", .str "lens", .str "stop"]).any fun z => PyData.eqv z (toP (.str k.s))) = true := by cases k <;> decide +kernel
  unfold k_KINDS
  rw [notin_tup (by cases k <;> decide +kernel) (by decide +kernel), e]
  rfl
theorem allA1 {f : De} {h : DH} (g : D → Bool) : ∀ (xs : List D) (w : Option D), (∀ x ∈ xs, f [some x] h = .ok (.bl (g x)) h) → allA (tName 0) f xs [w] h = .ok (.bl (xs.all g)) h
  | [], _, _ => rfl
  | x :: xs, w, st => by
    have e := st x List.mem_cons_self
    have ih := allA1 g xs (some x) fun y hy => st y (List.mem_cons_of_mem _ hy)
    show (f [some x] h).go _ = _
    rw [e]
    cases hx : g x with
    | true =>
      show allA (tName 0) f xs [some x] h = _
      rw [ih, List.all_cons, hx, Bool.true_and]
    | false =>
      show Rs.ok (D.bl false) h = _
      rw [List.all_cons, hx, Bool.false_and]
theorem num_pos {q : Rat} (h : 0 < q) : 0 < q.num := by
  have := (Rat.lt_iff 0 q).mp h
  have e1 : (0 : Rat).num = 0 := rfl
  have e2 : (((0 : Rat).den : Nat) : Int) = 1 := rfl
  rw [e1, e2] at this
  omega
theorem is_part_ok {p : Kd × Rat} (hp : okP p) (h : DH) : f_is_part [prt p] h = .ok (.bl true) h := by
  obtain ⟨k, q⟩ := p
  have ki := kinds_in k h
  unfold f_is_part d_is_part prt
  cases k
  · have : ((0 : Int) ≤ q.num) = True := eq_true (Rat.num_nonneg.mpr (hp.a rfl))
    simp only [Kd.s] at ki ⊢
    simp only [b_ok, b_ex, b_bad, o_ok, o_ex, o_bad, n_ok, s_seq, s_nx, s_rt, s_bk, s_ct, s_ex, e_var, e_c, e_bin, e_un, e_blt, e_if, e_and, e_or, e_chain, a_nil, a_cons, e_tup, e_lst, e_call, e_callK, e_met, e_sl, g_nx, g_expr, g_ret, g_retN, g_bk, g_ct, g_if, g_asg, g_par, g_raise, t_name, t_unp, t_nil, t_cons, t_sub, g_for, i_val, i_rng1, i_rng2, e_ref, f_rt, f_nx, f_ex, drop_id, g_aug, o_iadd, e_lc, w_nil, w_cons, e_yes, i_tup, i_rol, al, lim_eq, Nat.reduceLeDiff, Nat.reduceLT, x_t0, x_t1, x_t2, x_t3, l_tup, l_rol, u_tup, o_cmp, o_add, o_sub, o_neg, o_not, o_abs, o_int, o_max, o_min, q_int, q_nint, q_bl, q_nbl, q_str, q_nstr, fnD, List.map_cons, List.map_nil, List.length_cons, List.length_nil, List.replicate_succ, List.replicate_zero, List.cons_append, List.nil_append, List.append_nil, List.getElem?_cons_zero, List.getElem?_cons_succ, List.getElem?_nil, List.set_cons_zero, List.set_cons_succ, List.zip_cons_cons, List.zip_nil_left, List.foldl_cons, List.foldl_nil, Nat.reduceSub, Nat.reduceAdd, Nat.zero_add, Nat.add_zero, if_true, if_false, reduceIte, ite_true, ite_false, eq_self, and_true, true_and, and_self, decide_true, decide_false, is_int_int, is_int_bl, is_int_str, is_int_tup, is_int_rol, is_int_non, is_bool_int, is_bool_bl, is_bool_str, is_bool_tup, is_bool_rol, is_bool_non, is_tuple_int, is_tuple_bl, is_tuple_str, is_tuple_tup, is_tuple_rol, is_tuple_non, is_str_int, is_str_bl, is_str_str, is_str_tup, is_str_rol, is_str_non, is_list_int, is_list_bl, is_list_str, is_list_tup, is_list_rol, is_list_non, Bool.not_true, Bool.not_false, two2, ki, is_small_ok (fr_flat q), good_num hp.g, x_fr0, this]
  · simp only [Kd.s] at ki ⊢
    simp only [b_ok, b_ex, b_bad, o_ok, o_ex, o_bad, n_ok, s_seq, s_nx, s_rt, s_bk, s_ct, s_ex, e_var, e_c, e_bin, e_un, e_blt, e_if, e_and, e_or, e_chain, a_nil, a_cons, e_tup, e_lst, e_call, e_callK, e_met, e_sl, g_nx, g_expr, g_ret, g_retN, g_bk, g_ct, g_if, g_asg, g_par, g_raise, t_name, t_unp, t_nil, t_cons, t_sub, g_for, i_val, i_rng1, i_rng2, e_ref, f_rt, f_nx, f_ex, drop_id, g_aug, o_iadd, e_lc, w_nil, w_cons, e_yes, i_tup, i_rol, al, lim_eq, Nat.reduceLeDiff, Nat.reduceLT, x_t0, x_t1, x_t2, x_t3, l_tup, l_rol, u_tup, o_cmp, o_add, o_sub, o_neg, o_not, o_abs, o_int, o_max, o_min, q_int, q_nint, q_bl, q_nbl, q_str, q_nstr, fnD, List.map_cons, List.map_nil, List.length_cons, List.length_nil, List.replicate_succ, List.replicate_zero, List.cons_append, List.nil_append, List.append_nil, List.getElem?_cons_zero, List.getElem?_cons_succ, List.getElem?_nil, List.set_cons_zero, List.set_cons_succ, List.zip_cons_cons, List.zip_nil_left, List.foldl_cons, List.foldl_nil, Nat.reduceSub, Nat.reduceAdd, Nat.zero_add, Nat.add_zero, if_true, if_false, reduceIte, ite_true, ite_false, eq_self, and_true, true_and, and_self, decide_true, decide_false, is_int_int, is_int_bl, is_int_str, is_int_tup, is_int_rol, is_int_non, is_bool_int, is_bool_bl, is_bool_str, is_bool_tup, is_bool_rol, is_bool_non, is_tuple_int, is_tuple_bl, is_tuple_str, is_tuple_tup, is_tuple_rol, is_tuple_non, is_str_int, is_str_bl, is_str_str, is_str_tup, is_str_rol, is_str_non, is_list_int, is_list_bl, is_list_str, is_list_tup, is_list_rol, is_list_non, Bool.not_true, Bool.not_false, two2, ki, is_small_ok (fr_flat q), good_num hp.g, x_fr0, k_lg]
  · have : ((0 : Int) < q.num) = True := eq_true (num_pos (hp.b rfl))
    simp only [Kd.s] at ki ⊢
    simp only [b_ok, b_ex, b_bad, o_ok, o_ex, o_bad, n_ok, s_seq, s_nx, s_rt, s_bk, s_ct, s_ex, e_var, e_c, e_bin, e_un, e_blt, e_if, e_and, e_or, e_chain, a_nil, a_cons, e_tup, e_lst, e_call, e_callK, e_met, e_sl, g_nx, g_expr, g_ret, g_retN, g_bk, g_ct, g_if, g_asg, g_par, g_raise, t_name, t_unp, t_nil, t_cons, t_sub, g_for, i_val, i_rng1, i_rng2, e_ref, f_rt, f_nx, f_ex, drop_id, g_aug, o_iadd, e_lc, w_nil, w_cons, e_yes, i_tup, i_rol, al, lim_eq, Nat.reduceLeDiff, Nat.reduceLT, x_t0, x_t1, x_t2, x_t3, l_tup, l_rol, u_tup, o_cmp, o_add, o_sub, o_neg, o_not, o_abs, o_int, o_max, o_min, q_int, q_nint, q_bl, q_nbl, q_str, q_nstr, fnD, List.map_cons, List.map_nil, List.length_cons, List.length_nil, List.replicate_succ, List.replicate_zero, List.cons_append, List.nil_append, List.append_nil, List.getElem?_cons_zero, List.getElem?_cons_succ, List.getElem?_nil, List.set_cons_zero, List.set_cons_succ, List.zip_cons_cons, List.zip_nil_left, List.foldl_cons, List.foldl_nil, Nat.reduceSub, Nat.reduceAdd, Nat.zero_add, Nat.add_zero, if_true, if_false, reduceIte, ite_true, ite_false, eq_self, and_true, true_and, and_self, decide_true, decide_false, is_int_int, is_int_bl, is_int_str, is_int_tup, is_int_rol, is_int_non, is_bool_int, is_bool_bl, is_bool_str, is_bool_tup, is_bool_rol, is_bool_non, is_tuple_int, is_tuple_bl, is_tuple_str, is_tuple_tup, is_tuple_rol, is_tuple_non, is_str_int, is_str_bl, is_str_str, is_str_tup, is_str_rol, is_str_non, is_list_int, is_list_bl, is_list_str, is_list_tup, is_list_rol, is_list_non, Bool.not_true, Bool.not_false, two2, ki, is_small_ok (fr_flat q), good_num hp.g, x_fr0, k_sg, k_sl, this]
theorem is_row_ok {ps : List (Kd × Rat)} (hp : ∀ p ∈ ps, okP p) (hl : ps.length ≤ 24) (h : DH) : f_is_row [row ps] h = .ok (.bl true) h := by
  unfold f_is_row d_is_row
  have e := allA1 (f := eCall f_is_part 1 [] (aCons (eVar 0) aNil)) (h := h) (fun _ => true) (ps.map prt) none (by
    intro x hx
    obtain ⟨p, hm, rfl⟩ := List.mem_map.mp hx
    simp only [b_ok, b_ex, b_bad, o_ok, o_ex, o_bad, n_ok, s_seq, s_nx, s_rt, s_bk, s_ct, s_ex, e_var, e_c, e_bin, e_un, e_blt, e_if, e_and, e_or, e_chain, a_nil, a_cons, e_tup, e_lst, e_call, e_callK, e_met, e_sl, g_nx, g_expr, g_ret, g_retN, g_bk, g_ct, g_if, g_asg, g_par, g_raise, t_name, t_unp, t_nil, t_cons, t_sub, g_for, i_val, i_rng1, i_rng2, e_ref, f_rt, f_nx, f_ex, drop_id, g_aug, o_iadd, e_lc, w_nil, w_cons, e_yes, i_tup, i_rol, al, lim_eq, Nat.reduceLeDiff, Nat.reduceLT, x_t0, x_t1, x_t2, x_t3, l_tup, l_rol, u_tup, o_cmp, o_add, o_sub, o_neg, o_not, o_abs, o_int, o_max, o_min, q_int, q_nint, q_bl, q_nbl, q_str, q_nstr, fnD, List.map_cons, List.map_nil, List.length_cons, List.length_nil, List.replicate_succ, List.replicate_zero, List.cons_append, List.nil_append, List.append_nil, List.getElem?_cons_zero, List.getElem?_cons_succ, List.getElem?_nil, List.set_cons_zero, List.set_cons_succ, List.zip_cons_cons, List.zip_nil_left, List.foldl_cons, List.foldl_nil, Nat.reduceSub, Nat.reduceAdd, Nat.zero_add, Nat.add_zero, if_true, if_false, reduceIte, ite_true, ite_false, eq_self, and_true, true_and, and_self, decide_true, decide_false, is_int_int, is_int_bl, is_int_str, is_int_tup, is_int_rol, is_int_non, is_bool_int, is_bool_bl, is_bool_str, is_bool_tup, is_bool_rol, is_bool_non, is_tuple_int, is_tuple_bl, is_tuple_str, is_tuple_tup, is_tuple_rol, is_tuple_non, is_str_int, is_str_bl, is_str_str, is_str_tup, is_str_rol, is_str_non, is_list_int, is_list_bl, is_list_str, is_list_tup, is_list_rol, is_list_non, Bool.not_true, Bool.not_false, is_part_ok (hp p hm)])
  have e2 : ((((ps.map prt).length : Nat) : Int) ≤ 24) = True := by
    rw [List.length_map]
    exact eq_true (by omega)
  simp only [b_ok, b_ex, b_bad, o_ok, o_ex, o_bad, n_ok, s_seq, s_nx, s_rt, s_bk, s_ct, s_ex, e_var, e_c, e_bin, e_un, e_blt, e_if, e_and, e_or, e_chain, a_nil, a_cons, e_tup, e_lst, e_call, e_callK, e_met, e_sl, g_nx, g_expr, g_ret, g_retN, g_bk, g_ct, g_if, g_asg, g_par, g_raise, t_name, t_unp, t_nil, t_cons, t_sub, g_for, i_val, i_rng1, i_rng2, e_ref, f_rt, f_nx, f_ex, drop_id, g_aug, o_iadd, e_lc, w_nil, w_cons, e_yes, i_tup, i_rol, al, lim_eq, Nat.reduceLeDiff, Nat.reduceLT, x_t0, x_t1, x_t2, x_t3, l_tup, l_rol, u_tup, o_cmp, o_add, o_sub, o_neg, o_not, o_abs, o_int, o_max, o_min, q_int, q_nint, q_bl, q_nbl, q_str, q_nstr, fnD, List.map_cons, List.map_nil, List.length_cons, List.length_nil, List.replicate_succ, List.replicate_zero, List.cons_append, List.nil_append, List.append_nil, List.getElem?_cons_zero, List.getElem?_cons_succ, List.getElem?_nil, List.set_cons_zero, List.set_cons_succ, List.zip_cons_cons, List.zip_nil_left, List.foldl_cons, List.foldl_nil, Nat.reduceSub, Nat.reduceAdd, Nat.zero_add, Nat.add_zero, if_true, if_false, reduceIte, ite_true, ite_false, eq_self, and_true, true_and, and_self, decide_true, decide_false, is_int_int, is_int_bl, is_int_str, is_int_tup, is_int_rol, is_int_non, is_bool_int, is_bool_bl, is_bool_str, is_bool_tup, is_bool_rol, is_bool_non, is_tuple_int, is_tuple_bl, is_tuple_str, is_tuple_tup, is_tuple_rol, is_tuple_non, is_str_int, is_str_bl, is_str_str, is_str_tup, is_str_rol, is_str_non, is_list_int, is_list_bl, is_list_str, is_list_tup, is_list_rol, is_list_non, Bool.not_true, Bool.not_false, eAll, e2, e]
  simp
theorem need_row_ok {ps : List (Kd × Rat)} {n : Str} (hp : ∀ p ∈ ps, okP p) (hl : ps.length ≤ 24) (h : DH) : f_need_row [row ps, .str n] h = .ok .non h := by
  unfold f_need_row d_need_row
  simp only [b_ok, b_ex, b_bad, o_ok, o_ex, o_bad, n_ok, s_seq, s_nx, s_rt, s_bk, s_ct, s_ex, e_var, e_c, e_bin, e_un, e_blt, e_if, e_and, e_or, e_chain, a_nil, a_cons, e_tup, e_lst, e_call, e_callK, e_met, e_sl, g_nx, g_expr, g_ret, g_retN, g_bk, g_ct, g_if, g_asg, g_par, g_raise, t_name, t_unp, t_nil, t_cons, t_sub, g_for, i_val, i_rng1, i_rng2, e_ref, f_rt, f_nx, f_ex, drop_id, g_aug, o_iadd, e_lc, w_nil, w_cons, e_yes, i_tup, i_rol, al, lim_eq, Nat.reduceLeDiff, Nat.reduceLT, x_t0, x_t1, x_t2, x_t3, l_tup, l_rol, u_tup, o_cmp, o_add, o_sub, o_neg, o_not, o_abs, o_int, o_max, o_min, q_int, q_nint, q_bl, q_nbl, q_str, q_nstr, fnD, List.map_cons, List.map_nil, List.length_cons, List.length_nil, List.replicate_succ, List.replicate_zero, List.cons_append, List.nil_append, List.append_nil, List.getElem?_cons_zero, List.getElem?_cons_succ, List.getElem?_nil, List.set_cons_zero, List.set_cons_succ, List.zip_cons_cons, List.zip_nil_left, List.foldl_cons, List.foldl_nil, Nat.reduceSub, Nat.reduceAdd, Nat.zero_add, Nat.add_zero, if_true, if_false, reduceIte, ite_true, ite_false, eq_self, and_true, true_and, and_self, decide_true, decide_false, is_int_int, is_int_bl, is_int_str, is_int_tup, is_int_rol, is_int_non, is_bool_int, is_bool_bl, is_bool_str, is_bool_tup, is_bool_rol, is_bool_non, is_tuple_int, is_tuple_bl, is_tuple_str, is_tuple_tup, is_tuple_rol, is_tuple_non, is_str_int, is_str_bl, is_str_str, is_str_tup, is_str_rol, is_str_non, is_list_int, is_list_bl, is_list_str, is_list_tup, is_list_rol, is_list_non, Bool.not_true, Bool.not_false, is_row_ok hp hl]
theorem need_row_non {n : Str} (hn : okName (.str n) = true) (h : DH) : f_need_row [.non, .str n] h = .ex 0 (.str n) h := by
  unfold f_need_row d_need_row f_is_row d_is_row
  simp only [b_ok, b_ex, b_bad, o_ok, o_ex, o_bad, n_ok, s_seq, s_nx, s_rt, s_bk, s_ct, s_ex, e_var, e_c, e_bin, e_un, e_blt, e_if, e_and, e_or, e_chain, a_nil, a_cons, e_tup, e_lst, e_call, e_callK, e_met, e_sl, g_nx, g_expr, g_ret, g_retN, g_bk, g_ct, g_if, g_asg, g_par, g_raise, t_name, t_unp, t_nil, t_cons, t_sub, g_for, i_val, i_rng1, i_rng2, e_ref, f_rt, f_nx, f_ex, drop_id, g_aug, o_iadd, e_lc, w_nil, w_cons, e_yes, i_tup, i_rol, al, lim_eq, Nat.reduceLeDiff, Nat.reduceLT, x_t0, x_t1, x_t2, x_t3, l_tup, l_rol, u_tup, o_cmp, o_add, o_sub, o_neg, o_not, o_abs, o_int, o_max, o_min, q_int, q_nint, q_bl, q_nbl, q_str, q_nstr, fnD, List.map_cons, List.map_nil, List.length_cons, List.length_nil, List.replicate_succ, List.replicate_zero, List.cons_append, List.nil_append, List.append_nil, List.getElem?_cons_zero, List.getElem?_cons_succ, List.getElem?_nil, List.set_cons_zero, List.set_cons_succ, List.zip_cons_cons, List.zip_nil_left, List.foldl_cons, List.foldl_nil, Nat.reduceSub, Nat.reduceAdd, Nat.zero_add, Nat.add_zero, if_true, if_false, reduceIte, ite_true, ite_false, eq_self, and_true, true_and, and_self, decide_true, decide_false, is_int_int, is_int_bl, is_int_str, is_int_tup, is_int_rol, is_int_non, is_bool_int, is_bool_bl, is_bool_str, is_bool_tup, is_bool_rol, is_bool_non, is_tuple_int, is_tuple_bl, is_tuple_str, is_tuple_tup, is_tuple_rol, is_tuple_non, is_str_int, is_str_bl, is_str_str, is_str_tup, is_str_rol, is_str_non, is_list_int, is_list_bl, is_list_str, is_list_tup, is_list_rol, is_list_non, Bool.not_true, Bool.not_false, hn]
theorem need_row_lst {n : Str} {k : Nat} {xs : List D} {h : DH} (hn : okName (.str n) = true) (q : h[k]? = some (.lst xs)) : f_need_row [.obj k, .str n] h = .ex 0 (.str n) h := by
  unfold f_need_row d_need_row f_is_row d_is_row
  simp only [b_ok, b_ex, b_bad, o_ok, o_ex, o_bad, n_ok, s_seq, s_nx, s_rt, s_bk, s_ct, s_ex, e_var, e_c, e_bin, e_un, e_blt, e_if, e_and, e_or, e_chain, a_nil, a_cons, e_tup, e_lst, e_call, e_callK, e_met, e_sl, g_nx, g_expr, g_ret, g_retN, g_bk, g_ct, g_if, g_asg, g_par, g_raise, t_name, t_unp, t_nil, t_cons, t_sub, g_for, i_val, i_rng1, i_rng2, e_ref, f_rt, f_nx, f_ex, drop_id, g_aug, o_iadd, e_lc, w_nil, w_cons, e_yes, i_tup, i_rol, al, lim_eq, Nat.reduceLeDiff, Nat.reduceLT, x_t0, x_t1, x_t2, x_t3, l_tup, l_rol, u_tup, o_cmp, o_add, o_sub, o_neg, o_not, o_abs, o_int, o_max, o_min, q_int, q_nint, q_bl, q_nbl, q_str, q_nstr, fnD, List.map_cons, List.map_nil, List.length_cons, List.length_nil, List.replicate_succ, List.replicate_zero, List.cons_append, List.nil_append, List.append_nil, List.getElem?_cons_zero, List.getElem?_cons_succ, List.getElem?_nil, List.set_cons_zero, List.set_cons_succ, List.zip_cons_cons, List.zip_nil_left, List.foldl_cons, List.foldl_nil, Nat.reduceSub, Nat.reduceAdd, Nat.zero_add, Nat.add_zero, if_true, if_false, reduceIte, ite_true, ite_false, eq_self, and_true, true_and, and_self, decide_true, decide_false, is_int_int, is_int_bl, is_int_str, is_int_tup, is_int_rol, is_int_non, is_bool_int, is_bool_bl, is_bool_str, is_bool_tup, is_bool_rol, is_bool_non, is_tuple_int, is_tuple_bl, is_tuple_str, is_tuple_tup, is_tuple_rol, is_tuple_non, is_str_int, is_str_bl, is_str_str, is_str_tup, is_str_rol, is_str_non, is_list_int, is_list_bl, is_list_str, is_list_tup, is_list_rol, is_list_non, Bool.not_true, Bool.not_false, hn, is_tuple_obj q]
theorem need_ray_ok {r : Rat × Rat} {n : Str} (h1 : good r.1) (h2 : good r.2) (h : DH) : f_need_ray [prr r, .str n] h = .ok .non h := by
  unfold f_need_ray d_need_ray
  simp only [b_ok, b_ex, b_bad, o_ok, o_ex, o_bad, n_ok, s_seq, s_nx, s_rt, s_bk, s_ct, s_ex, e_var, e_c, e_bin, e_un, e_blt, e_if, e_and, e_or, e_chain, a_nil, a_cons, e_tup, e_lst, e_call, e_callK, e_met, e_sl, g_nx, g_expr, g_ret, g_retN, g_bk, g_ct, g_if, g_asg, g_par, g_raise, t_name, t_unp, t_nil, t_cons, t_sub, g_for, i_val, i_rng1, i_rng2, e_ref, f_rt, f_nx, f_ex, drop_id, g_aug, o_iadd, e_lc, w_nil, w_cons, e_yes, i_tup, i_rol, al, lim_eq, Nat.reduceLeDiff, Nat.reduceLT, x_t0, x_t1, x_t2, x_t3, l_tup, l_rol, u_tup, o_cmp, o_add, o_sub, o_neg, o_not, o_abs, o_int, o_max, o_min, q_int, q_nint, q_bl, q_nbl, q_str, q_nstr, fnD, List.map_cons, List.map_nil, List.length_cons, List.length_nil, List.replicate_succ, List.replicate_zero, List.cons_append, List.nil_append, List.append_nil, List.getElem?_cons_zero, List.getElem?_cons_succ, List.getElem?_nil, List.set_cons_zero, List.set_cons_succ, List.zip_cons_cons, List.zip_nil_left, List.foldl_cons, List.foldl_nil, Nat.reduceSub, Nat.reduceAdd, Nat.zero_add, Nat.add_zero, if_true, if_false, reduceIte, ite_true, ite_false, eq_self, and_true, true_and, and_self, decide_true, decide_false, is_int_int, is_int_bl, is_int_str, is_int_tup, is_int_rol, is_int_non, is_bool_int, is_bool_bl, is_bool_str, is_bool_tup, is_bool_rol, is_bool_non, is_tuple_int, is_tuple_bl, is_tuple_str, is_tuple_tup, is_tuple_rol, is_tuple_non, is_str_int, is_str_bl, is_str_str, is_str_tup, is_str_rol, is_str_non, is_list_int, is_list_bl, is_list_str, is_list_tup, is_list_rol, is_list_non, Bool.not_true, Bool.not_false, two2, is_small_ok (fr_flat r.1), is_small_ok (fr_flat r.2), good_num h1, good_num h2]
theorem need_ray_non {n : Str} (hn : okName (.str n) = true) (h : DH) : f_need_ray [.non, .str n] h = .ex 0 (.str n) h := by
  unfold f_need_ray d_need_ray
  simp only [b_ok, b_ex, b_bad, o_ok, o_ex, o_bad, n_ok, s_seq, s_nx, s_rt, s_bk, s_ct, s_ex, e_var, e_c, e_bin, e_un, e_blt, e_if, e_and, e_or, e_chain, a_nil, a_cons, e_tup, e_lst, e_call, e_callK, e_met, e_sl, g_nx, g_expr, g_ret, g_retN, g_bk, g_ct, g_if, g_asg, g_par, g_raise, t_name, t_unp, t_nil, t_cons, t_sub, g_for, i_val, i_rng1, i_rng2, e_ref, f_rt, f_nx, f_ex, drop_id, g_aug, o_iadd, e_lc, w_nil, w_cons, e_yes, i_tup, i_rol, al, lim_eq, Nat.reduceLeDiff, Nat.reduceLT, x_t0, x_t1, x_t2, x_t3, l_tup, l_rol, u_tup, o_cmp, o_add, o_sub, o_neg, o_not, o_abs, o_int, o_max, o_min, q_int, q_nint, q_bl, q_nbl, q_str, q_nstr, fnD, List.map_cons, List.map_nil, List.length_cons, List.length_nil, List.replicate_succ, List.replicate_zero, List.cons_append, List.nil_append, List.append_nil, List.getElem?_cons_zero, List.getElem?_cons_succ, List.getElem?_nil, List.set_cons_zero, List.set_cons_succ, List.zip_cons_cons, List.zip_nil_left, List.foldl_cons, List.foldl_nil, Nat.reduceSub, Nat.reduceAdd, Nat.zero_add, Nat.add_zero, if_true, if_false, reduceIte, ite_true, ite_false, eq_self, and_true, true_and, and_self, decide_true, decide_false, is_int_int, is_int_bl, is_int_str, is_int_tup, is_int_rol, is_int_non, is_bool_int, is_bool_bl, is_bool_str, is_bool_tup, is_bool_rol, is_bool_non, is_tuple_int, is_tuple_bl, is_tuple_str, is_tuple_tup, is_tuple_rol, is_tuple_non, is_str_int, is_str_bl, is_str_str, is_str_tup, is_str_rol, is_str_non, is_list_int, is_list_bl, is_list_str, is_list_tup, is_list_rol, is_list_non, Bool.not_true, Bool.not_false, hn]
theorem need_ray_lst {n : Str} {k : Nat} {xs : List D} {h : DH} (hn : okName (.str n) = true) (q : h[k]? = some (.lst xs)) : f_need_ray [.obj k, .str n] h = .ex 0 (.str n) h := by
  unfold f_need_ray d_need_ray
  simp only [b_ok, b_ex, b_bad, o_ok, o_ex, o_bad, n_ok, s_seq, s_nx, s_rt, s_bk, s_ct, s_ex, e_var, e_c, e_bin, e_un, e_blt, e_if, e_and, e_or, e_chain, a_nil, a_cons, e_tup, e_lst, e_call, e_callK, e_met, e_sl, g_nx, g_expr, g_ret, g_retN, g_bk, g_ct, g_if, g_asg, g_par, g_raise, t_name, t_unp, t_nil, t_cons, t_sub, g_for, i_val, i_rng1, i_rng2, e_ref, f_rt, f_nx, f_ex, drop_id, g_aug, o_iadd, e_lc, w_nil, w_cons, e_yes, i_tup, i_rol, al, lim_eq, Nat.reduceLeDiff, Nat.reduceLT, x_t0, x_t1, x_t2, x_t3, l_tup, l_rol, u_tup, o_cmp, o_add, o_sub, o_neg, o_not, o_abs, o_int, o_max, o_min, q_int, q_nint, q_bl, q_nbl, q_str, q_nstr, fnD, List.map_cons, List.map_nil, List.length_cons, List.length_nil, List.replicate_succ, List.replicate_zero, List.cons_append, List.nil_append, List.append_nil, List.getElem?_cons_zero, List.getElem?_cons_succ, List.getElem?_nil, List.set_cons_zero, List.set_cons_succ, List.zip_cons_cons, List.zip_nil_left, List.foldl_cons, List.foldl_nil, Nat.reduceSub, Nat.reduceAdd, Nat.zero_add, Nat.add_zero, if_true, if_false, reduceIte, ite_true, ite_false, eq_self, and_true, true_and, and_self, decide_true, decide_false, is_int_int, is_int_bl, is_int_str, is_int_tup, is_int_rol, is_int_non, is_bool_int, is_bool_bl, is_bool_str, is_bool_tup, is_bool_rol, is_bool_non, is_tuple_int, is_tuple_bl, is_tuple_str, is_tuple_tup, is_tuple_rol, is_tuple_non, is_str_int, is_str_bl, is_str_str, is_str_tup, is_str_rol, is_str_non, is_list_int, is_list_bl, is_list_str, is_list_tup, is_list_rol, is_list_non, Bool.not_true, Bool.not_false, hn, is_tuple_obj q]
theorem need_ray_len {n : Str} {xs : List D} (hn : okName (.str n) = true) (hx : xs.length ≠ 2) (h : DH) : f_need_ray [.tup xs, .str n] h = .ex 0 (.str n) h := by
  unfold f_need_ray d_need_ray
  have e : (((xs.length : Nat) : Int) = 2) = False := eq_false (by omega)
  simp only [b_ok, b_ex, b_bad, o_ok, o_ex, o_bad, n_ok, s_seq, s_nx, s_rt, s_bk, s_ct, s_ex, e_var, e_c, e_bin, e_un, e_blt, e_if, e_and, e_or, e_chain, a_nil, a_cons, e_tup, e_lst, e_call, e_callK, e_met, e_sl, g_nx, g_expr, g_ret, g_retN, g_bk, g_ct, g_if, g_asg, g_par, g_raise, t_name, t_unp, t_nil, t_cons, t_sub, g_for, i_val, i_rng1, i_rng2, e_ref, f_rt, f_nx, f_ex, drop_id, g_aug, o_iadd, e_lc, w_nil, w_cons, e_yes, i_tup, i_rol, al, lim_eq, Nat.reduceLeDiff, Nat.reduceLT, x_t0, x_t1, x_t2, x_t3, l_tup, l_rol, u_tup, o_cmp, o_add, o_sub, o_neg, o_not, o_abs, o_int, o_max, o_min, q_int, q_nint, q_bl, q_nbl, q_str, q_nstr, fnD, List.map_cons, List.map_nil, List.length_cons, List.length_nil, List.replicate_succ, List.replicate_zero, List.cons_append, List.nil_append, List.append_nil, List.getElem?_cons_zero, List.getElem?_cons_succ, List.getElem?_nil, List.set_cons_zero, List.set_cons_succ, List.zip_cons_cons, List.zip_nil_left, List.foldl_cons, List.foldl_nil, Nat.reduceSub, Nat.reduceAdd, Nat.zero_add, Nat.add_zero, if_true, if_false, reduceIte, ite_true, ite_false, eq_self, and_true, true_and, and_self, decide_true, decide_false, is_int_int, is_int_bl, is_int_str, is_int_tup, is_int_rol, is_int_non, is_bool_int, is_bool_bl, is_bool_str, is_bool_tup, is_bool_rol, is_bool_non, is_tuple_int, is_tuple_bl, is_tuple_str, is_tuple_tup, is_tuple_rol, is_tuple_non, is_str_int, is_str_bl, is_str_str, is_str_tup, is_str_rol, is_str_non, is_list_int, is_list_bl, is_list_str, is_list_tup, is_list_rol, is_list_non, Bool.not_true, Bool.not_false, hn, e]
theorem need_ray_two {n : Str} {a b : D} (hn : okName (.str n) = true) (fa : flat a = true) (fb : flat b = true) (hx : (isNum a && isNum b) = false) (h : DH) : f_need_ray [.tup [a, b], .str n] h = .ex 0 (.str n) h := by
  unfold f_need_ray d_need_ray
  cases ea : isNum a with
  | false => simp only [b_ok, b_ex, b_bad, o_ok, o_ex, o_bad, n_ok, s_seq, s_nx, s_rt, s_bk, s_ct, s_ex, e_var, e_c, e_bin, e_un, e_blt, e_if, e_and, e_or, e_chain, a_nil, a_cons, e_tup, e_lst, e_call, e_callK, e_met, e_sl, g_nx, g_expr, g_ret, g_retN, g_bk, g_ct, g_if, g_asg, g_par, g_raise, t_name, t_unp, t_nil, t_cons, t_sub, g_for, i_val, i_rng1, i_rng2, e_ref, f_rt, f_nx, f_ex, drop_id, g_aug, o_iadd, e_lc, w_nil, w_cons, e_yes, i_tup, i_rol, al, lim_eq, Nat.reduceLeDiff, Nat.reduceLT, x_t0, x_t1, x_t2, x_t3, l_tup, l_rol, u_tup, o_cmp, o_add, o_sub, o_neg, o_not, o_abs, o_int, o_max, o_min, q_int, q_nint, q_bl, q_nbl, q_str, q_nstr, fnD, List.map_cons, List.map_nil, List.length_cons, List.length_nil, List.replicate_succ, List.replicate_zero, List.cons_append, List.nil_append, List.append_nil, List.getElem?_cons_zero, List.getElem?_cons_succ, List.getElem?_nil, List.set_cons_zero, List.set_cons_succ, List.zip_cons_cons, List.zip_nil_left, List.foldl_cons, List.foldl_nil, Nat.reduceSub, Nat.reduceAdd, Nat.zero_add, Nat.add_zero, if_true, if_false, reduceIte, ite_true, ite_false, eq_self, and_true, true_and, and_self, decide_true, decide_false, is_int_int, is_int_bl, is_int_str, is_int_tup, is_int_rol, is_int_non, is_bool_int, is_bool_bl, is_bool_str, is_bool_tup, is_bool_rol, is_bool_non, is_tuple_int, is_tuple_bl, is_tuple_str, is_tuple_tup, is_tuple_rol, is_tuple_non, is_str_int, is_str_bl, is_str_str, is_str_tup, is_str_rol, is_str_non, is_list_int, is_list_bl, is_list_str, is_list_tup, is_list_rol, is_list_non, Bool.not_true, Bool.not_false, hn, two2, is_small_ok fa, ea]
  | true =>
    have eb : isNum b = false := by rw [ea, Bool.true_and] at hx; exact hx
    simp only [b_ok, b_ex, b_bad, o_ok, o_ex, o_bad, n_ok, s_seq, s_nx, s_rt, s_bk, s_ct, s_ex, e_var, e_c, e_bin, e_un, e_blt, e_if, e_and, e_or, e_chain, a_nil, a_cons, e_tup, e_lst, e_call, e_callK, e_met, e_sl, g_nx, g_expr, g_ret, g_retN, g_bk, g_ct, g_if, g_asg, g_par, g_raise, t_name, t_unp, t_nil, t_cons, t_sub, g_for, i_val, i_rng1, i_rng2, e_ref, f_rt, f_nx, f_ex, drop_id, g_aug, o_iadd, e_lc, w_nil, w_cons, e_yes, i_tup, i_rol, al, lim_eq, Nat.reduceLeDiff, Nat.reduceLT, x_t0, x_t1, x_t2, x_t3, l_tup, l_rol, u_tup, o_cmp, o_add, o_sub, o_neg, o_not, o_abs, o_int, o_max, o_min, q_int, q_nint, q_bl, q_nbl, q_str, q_nstr, fnD, List.map_cons, List.map_nil, List.length_cons, List.length_nil, List.replicate_succ, List.replicate_zero, List.cons_append, List.nil_append, List.append_nil, List.getElem?_cons_zero, List.getElem?_cons_succ, List.getElem?_nil, List.set_cons_zero, List.set_cons_succ, List.zip_cons_cons, List.zip_nil_left, List.foldl_cons, List.foldl_nil, Nat.reduceSub, Nat.reduceAdd, Nat.zero_add, Nat.add_zero, if_true, if_false, reduceIte, ite_true, ite_false, eq_self, and_true, true_and, and_self, decide_true, decide_false, is_int_int, is_int_bl, is_int_str, is_int_tup, is_int_rol, is_int_non, is_bool_int, is_bool_bl, is_bool_str, is_bool_tup, is_bool_rol, is_bool_non, is_tuple_int, is_tuple_bl, is_tuple_str, is_tuple_tup, is_tuple_rol, is_tuple_non, is_str_int, is_str_bl, is_str_str, is_str_tup, is_str_rol, is_str_non, is_list_int, is_list_bl, is_list_str, is_list_tup, is_list_rol, is_list_non, Bool.not_true, Bool.not_false, hn, two2, is_small_ok fa, ea, is_small_ok fb, eb]
/-! ### the program's steps -/
theorem behind_ok {p : Kd × Rat} {r : Rat × Rat} {n m : Nat} (hp : sm n p.2) (c : cd m r) (hs : n + m + m ≤ 8999) (h : DH) : f_behind [prt p, prr r] h = .ok (prr (stepP p r)) h := by
  obtain ⟨k, q⟩ := p
  unfold f_behind d_behind prt
  have h1 := c.fst
  have h2 := c.snd
  cases k
  · simp only [b_ok, b_ex, b_bad, o_ok, o_ex, o_bad, n_ok, s_seq, s_nx, s_rt, s_bk, s_ct, s_ex, e_var, e_c, e_bin, e_un, e_blt, e_if, e_and, e_or, e_chain, a_nil, a_cons, e_tup, e_lst, e_call, e_callK, e_met, e_sl, g_nx, g_expr, g_ret, g_retN, g_bk, g_ct, g_if, g_asg, g_par, g_raise, t_name, t_unp, t_nil, t_cons, t_sub, g_for, i_val, i_rng1, i_rng2, e_ref, f_rt, f_nx, f_ex, drop_id, g_aug, o_iadd, e_lc, w_nil, w_cons, e_yes, i_tup, i_rol, al, lim_eq, Nat.reduceLeDiff, Nat.reduceLT, x_t0, x_t1, x_t2, x_t3, l_tup, l_rol, u_tup, o_cmp, o_add, o_sub, o_neg, o_not, o_abs, o_int, o_max, o_min, q_int, q_nint, q_bl, q_nbl, q_str, q_nstr, fnD, List.map_cons, List.map_nil, List.length_cons, List.length_nil, List.replicate_succ, List.replicate_zero, List.cons_append, List.nil_append, List.append_nil, List.getElem?_cons_zero, List.getElem?_cons_succ, List.getElem?_nil, List.set_cons_zero, List.set_cons_succ, List.zip_cons_cons, List.zip_nil_left, List.foldl_cons, List.foldl_nil, Nat.reduceSub, Nat.reduceAdd, Nat.zero_add, Nat.add_zero, if_true, if_false, reduceIte, ite_true, ite_false, eq_self, and_true, true_and, and_self, decide_true, decide_false, is_int_int, is_int_bl, is_int_str, is_int_tup, is_int_rol, is_int_non, is_bool_int, is_bool_bl, is_bool_str, is_bool_tup, is_bool_rol, is_bool_non, is_tuple_int, is_tuple_bl, is_tuple_str, is_tuple_tup, is_tuple_rol, is_tuple_non, is_str_int, is_str_bl, is_str_str, is_str_tup, is_str_rol, is_str_non, is_list_int, is_list_bl, is_list_str, is_list_tup, is_list_rol, is_list_non, Bool.not_true, Bool.not_false, Kd.s, stepP, times_ok hp h2 (by omega), plus_ok h1 (sm_mul hp h2) (by omega)]
  · simp only [b_ok, b_ex, b_bad, o_ok, o_ex, o_bad, n_ok, s_seq, s_nx, s_rt, s_bk, s_ct, s_ex, e_var, e_c, e_bin, e_un, e_blt, e_if, e_and, e_or, e_chain, a_nil, a_cons, e_tup, e_lst, e_call, e_callK, e_met, e_sl, g_nx, g_expr, g_ret, g_retN, g_bk, g_ct, g_if, g_asg, g_par, g_raise, t_name, t_unp, t_nil, t_cons, t_sub, g_for, i_val, i_rng1, i_rng2, e_ref, f_rt, f_nx, f_ex, drop_id, g_aug, o_iadd, e_lc, w_nil, w_cons, e_yes, i_tup, i_rol, al, lim_eq, Nat.reduceLeDiff, Nat.reduceLT, x_t0, x_t1, x_t2, x_t3, l_tup, l_rol, u_tup, o_cmp, o_add, o_sub, o_neg, o_not, o_abs, o_int, o_max, o_min, q_int, q_nint, q_bl, q_nbl, q_str, q_nstr, fnD, List.map_cons, List.map_nil, List.length_cons, List.length_nil, List.replicate_succ, List.replicate_zero, List.cons_append, List.nil_append, List.append_nil, List.getElem?_cons_zero, List.getElem?_cons_succ, List.getElem?_nil, List.set_cons_zero, List.set_cons_succ, List.zip_cons_cons, List.zip_nil_left, List.foldl_cons, List.foldl_nil, Nat.reduceSub, Nat.reduceAdd, Nat.zero_add, Nat.add_zero, if_true, if_false, reduceIte, ite_true, ite_false, eq_self, and_true, true_and, and_self, decide_true, decide_false, is_int_int, is_int_bl, is_int_str, is_int_tup, is_int_rol, is_int_non, is_bool_int, is_bool_bl, is_bool_str, is_bool_tup, is_bool_rol, is_bool_non, is_tuple_int, is_tuple_bl, is_tuple_str, is_tuple_tup, is_tuple_rol, is_tuple_non, is_str_int, is_str_bl, is_str_str, is_str_tup, is_str_rol, is_str_non, is_list_int, is_list_bl, is_list_str, is_list_tup, is_list_rol, is_list_non, Bool.not_true, Bool.not_false, Kd.s, k_lg, stepP, times_ok hp h1 (by omega), minus_ok h2 (sm_mul hp h1) (by omega)]
  · simp only [b_ok, b_ex, b_bad, o_ok, o_ex, o_bad, n_ok, s_seq, s_nx, s_rt, s_bk, s_ct, s_ex, e_var, e_c, e_bin, e_un, e_blt, e_if, e_and, e_or, e_chain, a_nil, a_cons, e_tup, e_lst, e_call, e_callK, e_met, e_sl, g_nx, g_expr, g_ret, g_retN, g_bk, g_ct, g_if, g_asg, g_par, g_raise, t_name, t_unp, t_nil, t_cons, t_sub, g_for, i_val, i_rng1, i_rng2, e_ref, f_rt, f_nx, f_ex, drop_id, g_aug, o_iadd, e_lc, w_nil, w_cons, e_yes, i_tup, i_rol, al, lim_eq, Nat.reduceLeDiff, Nat.reduceLT, x_t0, x_t1, x_t2, x_t3, l_tup, l_rol, u_tup, o_cmp, o_add, o_sub, o_neg, o_not, o_abs, o_int, o_max, o_min, q_int, q_nint, q_bl, q_nbl, q_str, q_nstr, fnD, List.map_cons, List.map_nil, List.length_cons, List.length_nil, List.replicate_succ, List.replicate_zero, List.cons_append, List.nil_append, List.append_nil, List.getElem?_cons_zero, List.getElem?_cons_succ, List.getElem?_nil, List.set_cons_zero, List.set_cons_succ, List.zip_cons_cons, List.zip_nil_left, List.foldl_cons, List.foldl_nil, Nat.reduceSub, Nat.reduceAdd, Nat.zero_add, Nat.add_zero, if_true, if_false, reduceIte, ite_true, ite_false, eq_self, and_true, true_and, and_self, decide_true, decide_false, is_int_int, is_int_bl, is_int_str, is_int_tup, is_int_rol, is_int_non, is_bool_int, is_bool_bl, is_bool_str, is_bool_tup, is_bool_rol, is_bool_non, is_tuple_int, is_tuple_bl, is_tuple_str, is_tuple_tup, is_tuple_rol, is_tuple_non, is_str_int, is_str_bl, is_str_str, is_str_tup, is_str_rol, is_str_non, is_list_int, is_list_bl, is_list_str, is_list_tup, is_list_rol, is_list_non, Bool.not_true, Bool.not_false, Kd.s, k_sg, k_sl, stepP]
theorem stepP_ok {p : Kd × Rat} {r : Rat × Rat} {n m : Nat} (hp : sm n p.2) (c : cd m r) (hs : n + m + m ≤ 2998) (h : DH) : f_law_step [prt p, prr r] h = .ok (prr (stepP p r)) h := by
  obtain ⟨k, q⟩ := p
  unfold f_law_step d_law_step prt
  have h1 := c.fst
  have h2 := c.snd
  cases k
  · simp only [b_ok, b_ex, b_bad, o_ok, o_ex, o_bad, n_ok, s_seq, s_nx, s_rt, s_bk, s_ct, s_ex, e_var, e_c, e_bin, e_un, e_blt, e_if, e_and, e_or, e_chain, a_nil, a_cons, e_tup, e_lst, e_call, e_callK, e_met, e_sl, g_nx, g_expr, g_ret, g_retN, g_bk, g_ct, g_if, g_asg, g_par, g_raise, t_name, t_unp, t_nil, t_cons, t_sub, g_for, i_val, i_rng1, i_rng2, e_ref, f_rt, f_nx, f_ex, drop_id, g_aug, o_iadd, e_lc, w_nil, w_cons, e_yes, i_tup, i_rol, al, lim_eq, Nat.reduceLeDiff, Nat.reduceLT, x_t0, x_t1, x_t2, x_t3, l_tup, l_rol, u_tup, o_cmp, o_add, o_sub, o_neg, o_not, o_abs, o_int, o_max, o_min, q_int, q_nint, q_bl, q_nbl, q_str, q_nstr, fnD, List.map_cons, List.map_nil, List.length_cons, List.length_nil, List.replicate_succ, List.replicate_zero, List.cons_append, List.nil_append, List.append_nil, List.getElem?_cons_zero, List.getElem?_cons_succ, List.getElem?_nil, List.set_cons_zero, List.set_cons_succ, List.zip_cons_cons, List.zip_nil_left, List.foldl_cons, List.foldl_nil, Nat.reduceSub, Nat.reduceAdd, Nat.zero_add, Nat.add_zero, if_true, if_false, reduceIte, ite_true, ite_false, eq_self, and_true, true_and, and_self, decide_true, decide_false, is_int_int, is_int_bl, is_int_str, is_int_tup, is_int_rol, is_int_non, is_bool_int, is_bool_bl, is_bool_str, is_bool_tup, is_bool_rol, is_bool_non, is_tuple_int, is_tuple_bl, is_tuple_str, is_tuple_tup, is_tuple_rol, is_tuple_non, is_str_int, is_str_bl, is_str_str, is_str_tup, is_str_rol, is_str_non, is_list_int, is_list_bl, is_list_str, is_list_tup, is_list_rol, is_list_non, Bool.not_true, Bool.not_false, Kd.s, stepP, law_mul_ok hp h2 (by omega), law_add_ok h1 (sm_mul hp h2) (by omega)]
  · simp only [b_ok, b_ex, b_bad, o_ok, o_ex, o_bad, n_ok, s_seq, s_nx, s_rt, s_bk, s_ct, s_ex, e_var, e_c, e_bin, e_un, e_blt, e_if, e_and, e_or, e_chain, a_nil, a_cons, e_tup, e_lst, e_call, e_callK, e_met, e_sl, g_nx, g_expr, g_ret, g_retN, g_bk, g_ct, g_if, g_asg, g_par, g_raise, t_name, t_unp, t_nil, t_cons, t_sub, g_for, i_val, i_rng1, i_rng2, e_ref, f_rt, f_nx, f_ex, drop_id, g_aug, o_iadd, e_lc, w_nil, w_cons, e_yes, i_tup, i_rol, al, lim_eq, Nat.reduceLeDiff, Nat.reduceLT, x_t0, x_t1, x_t2, x_t3, l_tup, l_rol, u_tup, o_cmp, o_add, o_sub, o_neg, o_not, o_abs, o_int, o_max, o_min, q_int, q_nint, q_bl, q_nbl, q_str, q_nstr, fnD, List.map_cons, List.map_nil, List.length_cons, List.length_nil, List.replicate_succ, List.replicate_zero, List.cons_append, List.nil_append, List.append_nil, List.getElem?_cons_zero, List.getElem?_cons_succ, List.getElem?_nil, List.set_cons_zero, List.set_cons_succ, List.zip_cons_cons, List.zip_nil_left, List.foldl_cons, List.foldl_nil, Nat.reduceSub, Nat.reduceAdd, Nat.zero_add, Nat.add_zero, if_true, if_false, reduceIte, ite_true, ite_false, eq_self, and_true, true_and, and_self, decide_true, decide_false, is_int_int, is_int_bl, is_int_str, is_int_tup, is_int_rol, is_int_non, is_bool_int, is_bool_bl, is_bool_str, is_bool_tup, is_bool_rol, is_bool_non, is_tuple_int, is_tuple_bl, is_tuple_str, is_tuple_tup, is_tuple_rol, is_tuple_non, is_str_int, is_str_bl, is_str_str, is_str_tup, is_str_rol, is_str_non, is_list_int, is_list_bl, is_list_str, is_list_tup, is_list_rol, is_list_non, Bool.not_true, Bool.not_false, Kd.s, k_lg, stepP, law_mul_ok hp h1 (by omega), law_neg_ok, law_add_ok h2 (sm_neg (sm_mul hp h1)) (by omega), Rat.sub_eq_add_neg]
  · simp only [b_ok, b_ex, b_bad, o_ok, o_ex, o_bad, n_ok, s_seq, s_nx, s_rt, s_bk, s_ct, s_ex, e_var, e_c, e_bin, e_un, e_blt, e_if, e_and, e_or, e_chain, a_nil, a_cons, e_tup, e_lst, e_call, e_callK, e_met, e_sl, g_nx, g_expr, g_ret, g_retN, g_bk, g_ct, g_if, g_asg, g_par, g_raise, t_name, t_unp, t_nil, t_cons, t_sub, g_for, i_val, i_rng1, i_rng2, e_ref, f_rt, f_nx, f_ex, drop_id, g_aug, o_iadd, e_lc, w_nil, w_cons, e_yes, i_tup, i_rol, al, lim_eq, Nat.reduceLeDiff, Nat.reduceLT, x_t0, x_t1, x_t2, x_t3, l_tup, l_rol, u_tup, o_cmp, o_add, o_sub, o_neg, o_not, o_abs, o_int, o_max, o_min, q_int, q_nint, q_bl, q_nbl, q_str, q_nstr, fnD, List.map_cons, List.map_nil, List.length_cons, List.length_nil, List.replicate_succ, List.replicate_zero, List.cons_append, List.nil_append, List.append_nil, List.getElem?_cons_zero, List.getElem?_cons_succ, List.getElem?_nil, List.set_cons_zero, List.set_cons_succ, List.zip_cons_cons, List.zip_nil_left, List.foldl_cons, List.foldl_nil, Nat.reduceSub, Nat.reduceAdd, Nat.zero_add, Nat.add_zero, if_true, if_false, reduceIte, ite_true, ite_false, eq_self, and_true, true_and, and_self, decide_true, decide_false, is_int_int, is_int_bl, is_int_str, is_int_tup, is_int_rol, is_int_non, is_bool_int, is_bool_bl, is_bool_str, is_bool_tup, is_bool_rol, is_bool_non, is_tuple_int, is_tuple_bl, is_tuple_str, is_tuple_tup, is_tuple_rol, is_tuple_non, is_str_int, is_str_bl, is_str_str, is_str_tup, is_str_rol, is_str_non, is_list_int, is_list_bl, is_list_str, is_list_tup, is_list_rol, is_list_non, Bool.not_true, Bool.not_false, Kd.s, k_sg, k_sl, stepP]
theorem drop_new {h : DH} {o : MO} : drop h (.obj h.length) (h ++ [o]) = h ++ [o] := by
  unfold drop
  rw [if_neg]
  rintro ⟨hb, _⟩
  simp [D.bel] at hb
theorem way_of_ok {ps : List (Kd × Rat)} {r : Rat × Rat} {n m : Nat} {h : DH} (hp : ∀ p ∈ ps, sm n p.2) (c : cd m r) (hl : ps.length ≤ 1000) (hs : n + 2 * (m + (n + 1) * ps.length) ≤ 8999) :
    f_way_of [row ps, prr r] h = .ok (.obj h.length) (h ++ [.lst ((wayP ps r).map prr)]) := by
  unfold f_way_of d_way_of
  simp only [b_ok, b_ex, b_bad, o_ok, o_ex, o_bad, n_ok, s_seq, s_nx, s_rt, s_bk, s_ct, s_ex, e_var, e_c, e_bin, e_un, e_blt, e_if, e_and, e_or, e_chain, a_nil, a_cons, e_tup, e_lst, e_call, e_callK, e_met, e_sl, g_nx, g_expr, g_ret, g_retN, g_bk, g_ct, g_if, g_asg, g_par, g_raise, t_name, t_unp, t_nil, t_cons, t_sub, g_for, i_val, i_rng1, i_rng2, e_ref, f_rt, f_nx, f_ex, drop_id, g_aug, o_iadd, e_lc, w_nil, w_cons, e_yes, i_tup, i_rol, al, lim_eq, Nat.reduceLeDiff, Nat.reduceLT, x_t0, x_t1, x_t2, x_t3, l_tup, l_rol, u_tup, o_cmp, o_add, o_sub, o_neg, o_not, o_abs, o_int, o_max, o_min, q_int, q_nint, q_bl, q_nbl, q_str, q_nstr, fnD, List.map_cons, List.map_nil, List.length_cons, List.length_nil, List.replicate_succ, List.replicate_zero, List.cons_append, List.nil_append, List.append_nil, List.getElem?_cons_zero, List.getElem?_cons_succ, List.getElem?_nil, List.set_cons_zero, List.set_cons_succ, List.zip_cons_cons, List.zip_nil_left, List.foldl_cons, List.foldl_nil, Nat.reduceSub, Nat.reduceAdd, Nat.zero_add, Nat.add_zero, if_true, if_false, reduceIte, ite_true, ite_false, eq_self, and_true, true_and, and_self, decide_true, decide_false, is_int_int, is_int_bl, is_int_str, is_int_tup, is_int_rol, is_int_non, is_bool_int, is_bool_bl, is_bool_str, is_bool_tup, is_bool_rol, is_bool_non, is_tuple_int, is_tuple_bl, is_tuple_str, is_tuple_tup, is_tuple_rol, is_tuple_non, is_str_int, is_str_bl, is_str_str, is_str_tup, is_str_rol, is_str_non, is_list_int, is_list_bl, is_list_str, is_list_tup, is_list_rol, is_list_non, Bool.not_true, Bool.not_false]
  refine forA_rule (fun t ρ g => ∃ (i : Nat) (w : Option D), i ≤ ps.length ∧ t = (ps.drop i).map prt ∧ g = h ++ [.lst (((wayP ps r).take i).map prr)] ∧ ρ = [some (row ps), some (prr (outP (ps.take i) r)), some (.obj h.length), w])
    (fun t => DL.finish h (sq t (gRet (eVar 2))) = .ok (.obj h.length) (h ++ [.lst ((wayP ps r).map prr)])) ?_ ?_ _ _ _ ⟨0, none, Nat.zero_le _, rfl, rfl, rfl⟩
  · rintro x t ρ g ⟨i, w, hi, e, rfl, rfl⟩
    have hl2 : i < ps.length := by
      rcases Nat.lt_or_ge i ps.length with l | l
      · exact l
      · rw [List.drop_eq_nil_of_le l] at e
        cases e
    rw [List.drop_eq_getElem_cons hl2, List.map_cons] at e
    cases e
    have hi2 : ps[i]? = some ps[i] := List.getElem?_eq_getElem hl2
    have hm : ps[i] ∈ ps := List.getElem_mem hl2
    have cc := cd_take hp c (Nat.le_of_lt hl2)
    have q : (h ++ [MO.lst (((wayP ps r).take i).map prr)])[h.length]? = some (.lst (((wayP ps r).take i).map prr)) := at_new
    have ap := m_app (y := prr (stepP ps[i] (outP (ps.take i) r))) q (by rw [List.length_map, List.length_take, lim_eq]; omega)
    refine ⟨_, _, t_name, ?_⟩
    simp only [b_ok, b_ex, b_bad, o_ok, o_ex, o_bad, n_ok, s_seq, s_nx, s_rt, s_bk, s_ct, s_ex, e_var, e_c, e_bin, e_un, e_blt, e_if, e_and, e_or, e_chain, a_nil, a_cons, e_tup, e_lst, e_call, e_callK, e_met, e_sl, g_nx, g_expr, g_ret, g_retN, g_bk, g_ct, g_if, g_asg, g_par, g_raise, t_name, t_unp, t_nil, t_cons, t_sub, g_for, i_val, i_rng1, i_rng2, e_ref, f_rt, f_nx, f_ex, drop_id, g_aug, o_iadd, e_lc, w_nil, w_cons, e_yes, i_tup, i_rol, al, lim_eq, Nat.reduceLeDiff, Nat.reduceLT, x_t0, x_t1, x_t2, x_t3, l_tup, l_rol, u_tup, o_cmp, o_add, o_sub, o_neg, o_not, o_abs, o_int, o_max, o_min, q_int, q_nint, q_bl, q_nbl, q_str, q_nstr, fnD, List.map_cons, List.map_nil, List.length_cons, List.length_nil, List.replicate_succ, List.replicate_zero, List.cons_append, List.nil_append, List.append_nil, List.getElem?_cons_zero, List.getElem?_cons_succ, List.getElem?_nil, List.set_cons_zero, List.set_cons_succ, List.zip_cons_cons, List.zip_nil_left, List.foldl_cons, List.foldl_nil, Nat.reduceSub, Nat.reduceAdd, Nat.zero_add, Nat.add_zero, if_true, if_false, reduceIte, ite_true, ite_false, eq_self, and_true, true_and, and_self, decide_true, decide_false, is_int_int, is_int_bl, is_int_str, is_int_tup, is_int_rol, is_int_non, is_bool_int, is_bool_bl, is_bool_str, is_bool_tup, is_bool_rol, is_bool_non, is_tuple_int, is_tuple_bl, is_tuple_str, is_tuple_tup, is_tuple_rol, is_tuple_non, is_str_int, is_str_bl, is_str_str, is_str_tup, is_str_rol, is_str_non, is_list_int, is_list_bl, is_list_str, is_list_tup, is_list_rol, is_list_non, Bool.not_true, Bool.not_false, behind_ok (hp _ hm) cc (by omega), isl q, ap]
    refine ⟨i + 1, some (prt ps[i]), hl2, rfl, ?_, ?_⟩
    · rw [set_last, List.take_add_one, List.map_append]
      have := way_at ps r (i + 1) hl2
      rw [List.getElem?_cons_succ, out_take hi2] at this
      rw [this]
      rfl
    · rw [out_take hi2]
  · rintro ρ g ⟨i, w, hi, e, rfl, rfl⟩
    have : i = ps.length := by
      have := congrArg List.length e
      simp at this
      omega
    subst this
    have e2 : (wayP ps r).take ps.length = wayP ps r := List.take_of_length_le (by rw [way_length]; exact Nat.le_refl _)
    rw [e2]
    simp only [b_ok, b_ex, b_bad, o_ok, o_ex, o_bad, n_ok, s_seq, s_nx, s_rt, s_bk, s_ct, s_ex, e_var, e_c, e_bin, e_un, e_blt, e_if, e_and, e_or, e_chain, a_nil, a_cons, e_tup, e_lst, e_call, e_callK, e_met, e_sl, g_nx, g_expr, g_ret, g_retN, g_bk, g_ct, g_if, g_asg, g_par, g_raise, t_name, t_unp, t_nil, t_cons, t_sub, g_for, i_val, i_rng1, i_rng2, e_ref, f_rt, f_nx, f_ex, drop_id, g_aug, o_iadd, e_lc, w_nil, w_cons, e_yes, i_tup, i_rol, al, lim_eq, Nat.reduceLeDiff, Nat.reduceLT, x_t0, x_t1, x_t2, x_t3, l_tup, l_rol, u_tup, o_cmp, o_add, o_sub, o_neg, o_not, o_abs, o_int, o_max, o_min, q_int, q_nint, q_bl, q_nbl, q_str, q_nstr, fnD, List.map_cons, List.map_nil, List.length_cons, List.length_nil, List.replicate_succ, List.replicate_zero, List.cons_append, List.nil_append, List.append_nil, List.getElem?_cons_zero, List.getElem?_cons_succ, List.getElem?_nil, List.set_cons_zero, List.set_cons_succ, List.zip_cons_cons, List.zip_nil_left, List.foldl_cons, List.foldl_nil, Nat.reduceSub, Nat.reduceAdd, Nat.zero_add, Nat.add_zero, if_true, if_false, reduceIte, ite_true, ite_false, eq_self, and_true, true_and, and_self, decide_true, decide_false, is_int_int, is_int_bl, is_int_str, is_int_tup, is_int_rol, is_int_non, is_bool_int, is_bool_bl, is_bool_str, is_bool_tup, is_bool_rol, is_bool_non, is_tuple_int, is_tuple_bl, is_tuple_str, is_tuple_tup, is_tuple_rol, is_tuple_non, is_str_int, is_str_bl, is_str_str, is_str_tup, is_str_rol, is_str_non, is_list_int, is_list_bl, is_list_str, is_list_tup, is_list_rol, is_list_non, Bool.not_true, Bool.not_false]
    rw [drop_new]
theorem bel_prrs (n : Nat) : ∀ rs : List (Rat × Rat), D.belL n (rs.map prr) = true
  | [] => rfl
  | r :: rs => by
    show (D.bel n (prr r) && D.belL n (rs.map prr)) = true
    rw [bel_pr, bel_prrs n rs]
    rfl
theorem bel_frs2 (n : Nat) : ∀ rs : List Rat, D.belL n (rs.map fr) = true
  | [] => rfl
  | r :: rs => by
    show (D.bel n (fr r) && D.belL n (rs.map fr)) = true
    rw [bel_fr, bel_frs2 n rs]
    rfl
theorem way_ok {ps : List (Kd × Rat)} {r : Rat × Rat} (hp : ∀ p ∈ ps, okP p) (hl : ps.length ≤ 24) (g1 : good r.1) (g2 : good r.2) (h : DH) : f_way [row ps, prr r] h = .ok (.tup ((r :: wayP ps r).map prr)) h := by
  unfold f_way d_way
  have c : cd 80 r := cd_of g1.sm g2.sm
  have lw : (wayP ps r).length ≤ 24 := by rw [way_length]; exact hl
  simp only [b_ok, b_ex, b_bad, o_ok, o_ex, o_bad, n_ok, s_seq, s_nx, s_rt, s_bk, s_ct, s_ex, e_var, e_c, e_bin, e_un, e_blt, e_if, e_and, e_or, e_chain, a_nil, a_cons, e_tup, e_lst, e_call, e_callK, e_met, e_sl, g_nx, g_expr, g_ret, g_retN, g_bk, g_ct, g_if, g_asg, g_par, g_raise, t_name, t_unp, t_nil, t_cons, t_sub, g_for, i_val, i_rng1, i_rng2, e_ref, f_rt, f_nx, f_ex, drop_id, g_aug, o_iadd, e_lc, w_nil, w_cons, e_yes, i_tup, i_rol, al, lim_eq, Nat.reduceLeDiff, Nat.reduceLT, x_t0, x_t1, x_t2, x_t3, l_tup, l_rol, u_tup, o_cmp, o_add, o_sub, o_neg, o_not, o_abs, o_int, o_max, o_min, q_int, q_nint, q_bl, q_nbl, q_str, q_nstr, fnD, List.map_cons, List.map_nil, List.length_cons, List.length_nil, List.replicate_succ, List.replicate_zero, List.cons_append, List.nil_append, List.append_nil, List.getElem?_cons_zero, List.getElem?_cons_succ, List.getElem?_nil, List.set_cons_zero, List.set_cons_succ, List.zip_cons_cons, List.zip_nil_left, List.foldl_cons, List.foldl_nil, Nat.reduceSub, Nat.reduceAdd, Nat.zero_add, Nat.add_zero, if_true, if_false, reduceIte, ite_true, ite_false, eq_self, and_true, true_and, and_self, decide_true, decide_false, is_int_int, is_int_bl, is_int_str, is_int_tup, is_int_rol, is_int_non, is_bool_int, is_bool_bl, is_bool_str, is_bool_tup, is_bool_rol, is_bool_non, is_tuple_int, is_tuple_bl, is_tuple_str, is_tuple_tup, is_tuple_rol, is_tuple_non, is_str_int, is_str_bl, is_str_str, is_str_tup, is_str_rol, is_str_non, is_list_int, is_list_bl, is_list_str, is_list_tup, is_list_rol, is_list_non, Bool.not_true, Bool.not_false, need_row_ok hp hl, need_ray_ok g1 g2, way_of_ok (n := 40) (fun p h => (hp p h).g.sm) c (by omega) (by omega), m_tup at_new]
  rw [o_addt (by simp [lim_eq]; omega)]
  simp only [b_ok, b_ex, b_bad, o_ok, o_ex, o_bad, n_ok, s_seq, s_nx, s_rt, s_bk, s_ct, s_ex, e_var, e_c, e_bin, e_un, e_blt, e_if, e_and, e_or, e_chain, a_nil, a_cons, e_tup, e_lst, e_call, e_callK, e_met, e_sl, g_nx, g_expr, g_ret, g_retN, g_bk, g_ct, g_if, g_asg, g_par, g_raise, t_name, t_unp, t_nil, t_cons, t_sub, g_for, i_val, i_rng1, i_rng2, e_ref, f_rt, f_nx, f_ex, drop_id, g_aug, o_iadd, e_lc, w_nil, w_cons, e_yes, i_tup, i_rol, al, lim_eq, Nat.reduceLeDiff, Nat.reduceLT, x_t0, x_t1, x_t2, x_t3, l_tup, l_rol, u_tup, o_cmp, o_add, o_sub, o_neg, o_not, o_abs, o_int, o_max, o_min, q_int, q_nint, q_bl, q_nbl, q_str, q_nstr, fnD, List.map_cons, List.map_nil, List.length_cons, List.length_nil, List.replicate_succ, List.replicate_zero, List.cons_append, List.nil_append, List.append_nil, List.getElem?_cons_zero, List.getElem?_cons_succ, List.getElem?_nil, List.set_cons_zero, List.set_cons_succ, List.zip_cons_cons, List.zip_nil_left, List.foldl_cons, List.foldl_nil, Nat.reduceSub, Nat.reduceAdd, Nat.zero_add, Nat.add_zero, if_true, if_false, reduceIte, ite_true, ite_false, eq_self, and_true, true_and, and_self, decide_true, decide_false, is_int_int, is_int_bl, is_int_str, is_int_tup, is_int_rol, is_int_non, is_bool_int, is_bool_bl, is_bool_str, is_bool_tup, is_bool_rol, is_bool_non, is_tuple_int, is_tuple_bl, is_tuple_str, is_tuple_tup, is_tuple_rol, is_tuple_non, is_str_int, is_str_bl, is_str_str, is_str_tup, is_str_rol, is_str_non, is_list_int, is_list_bl, is_list_str, is_list_tup, is_list_rol, is_list_non, Bool.not_true, Bool.not_false]
  rw [drop_app (by simp only [D.bel]; exact bel_prrs _ (r :: wayP ps r))]
theorem x_last {xs : List D} {x : D} {n : Nat} (hn : xs.length = n + 1) (e : xs[n]? = some x) (h : DH) : oIx (.tup xs) (.int (-1)) h = .ok x h := by
  show (match (seqOf (.tup xs) h).bind fun xs => atI xs (-1) with | some d => Rs.ok d h | none => .bad) = _
  have e2 : atI xs (-1) = some x := by
    unfold atI L2.ixN
    rw [if_neg (by omega), if_pos (by omega)]
    have : (-1 + (xs.length : Int)).toNat = n := by omega
    first | (rw [this]; exact e) | (simp only [Option.bind_some]; rw [this]; exact e)
  show (match atI xs (-1) with | some d => Rs.ok d h | none => .bad) = _
  rw [e2]
theorem leaving_ok {ps : List (Kd × Rat)} {r : Rat × Rat} (hp : ∀ p ∈ ps, okP p) (hl : ps.length ≤ 24) (g1 : good r.1) (g2 : good r.2) (h : DH) : f_leaving [row ps, prr r] h = .ok (prr (outP ps r)) h := by
  unfold f_leaving d_leaving
  have e := x_last (xs := (r :: wayP ps r).map prr) (n := ps.length) (x := prr (outP ps r)) (by simp [way_length]) (by rw [List.getElem?_map, way_last]; rfl)
  simp only [List.map_cons] at e
  simp only [b_ok, b_ex, b_bad, o_ok, o_ex, o_bad, n_ok, s_seq, s_nx, s_rt, s_bk, s_ct, s_ex, e_var, e_c, e_bin, e_un, e_blt, e_if, e_and, e_or, e_chain, a_nil, a_cons, e_tup, e_lst, e_call, e_callK, e_met, e_sl, g_nx, g_expr, g_ret, g_retN, g_bk, g_ct, g_if, g_asg, g_par, g_raise, t_name, t_unp, t_nil, t_cons, t_sub, g_for, i_val, i_rng1, i_rng2, e_ref, f_rt, f_nx, f_ex, drop_id, g_aug, o_iadd, e_lc, w_nil, w_cons, e_yes, i_tup, i_rol, al, lim_eq, Nat.reduceLeDiff, Nat.reduceLT, x_t0, x_t1, x_t2, x_t3, l_tup, l_rol, u_tup, o_cmp, o_add, o_sub, o_neg, o_not, o_abs, o_int, o_max, o_min, q_int, q_nint, q_bl, q_nbl, q_str, q_nstr, fnD, List.map_cons, List.map_nil, List.length_cons, List.length_nil, List.replicate_succ, List.replicate_zero, List.cons_append, List.nil_append, List.append_nil, List.getElem?_cons_zero, List.getElem?_cons_succ, List.getElem?_nil, List.set_cons_zero, List.set_cons_succ, List.zip_cons_cons, List.zip_nil_left, List.foldl_cons, List.foldl_nil, Nat.reduceSub, Nat.reduceAdd, Nat.zero_add, Nat.add_zero, if_true, if_false, reduceIte, ite_true, ite_false, eq_self, and_true, true_and, and_self, decide_true, decide_false, is_int_int, is_int_bl, is_int_str, is_int_tup, is_int_rol, is_int_non, is_bool_int, is_bool_bl, is_bool_str, is_bool_tup, is_bool_rol, is_bool_non, is_tuple_int, is_tuple_bl, is_tuple_str, is_tuple_tup, is_tuple_rol, is_tuple_non, is_str_int, is_str_bl, is_str_str, is_str_tup, is_str_rol, is_str_non, is_list_int, is_list_bl, is_list_str, is_list_tup, is_list_rol, is_list_non, Bool.not_true, Bool.not_false, way_ok hp hl g1 g2, e]
theorem getElem?_prt {ps : List (Kd × Rat)} {p : Kd × Rat} {i : Nat} (e : ps[i]? = some p) : (ps.map prt)[i]? = some (prt p) := by rw [List.getElem?_map, e]; rfl
theorem x_row {ps : List (Kd × Rat)} {p : Kd × Rat} {i : Nat} (e : ps[i]? = some p) (h : DH) : oIx (row ps) (.int i) h = .ok (prt p) h := x_tup (getElem?_prt e)
theorem x_way {ps : List (Kd × Rat)} {i : Nat} (r : Rat × Rat) (hi : i ≤ ps.length) (h : DH) : oIx (.tup (prr r :: (wayP ps r).map prr)) (.int i) h = .ok (prr (outP (ps.take i) r)) h := x_tup (by rw [show prr r :: (wayP ps r).map prr = (r :: wayP ps r).map prr from rfl, List.getElem?_map, way_at ps r i hi]; rfl)
theorem x_prt0 {p : Kd × Rat} {h : DH} : oIx (prt p) (.int 0) h = .ok (.str p.1.s) h := x_t0
theorem x_prt1 {p : Kd × Rat} {h : DH} : oIx (prt p) (.int 1) h = .ok (fr p.2) h := x_t1
theorem x_pr0 {p q : Rat} {h : DH} : oIx (pr p q) (.int 0) h = .ok (fr p) h := x_t0
theorem x_pr1 {p q : Rat} {h : DH} : oIx (pr p q) (.int 1) h = .ok (fr q) h := x_t1
/-! ### which stop -/
def stp (p : Kd × Rat) (r : Rat × Rat) : Bool := match p.1 with
  | .stop => decide (p.2.num * (r.1.den : Int) < (r.1.num.natAbs : Int) * p.2.den)
  | _ => false
def cQ : List (Kd × Rat) → Rat × Rat → Nat → Option Nat
  | [], _, _ => none
  | p :: ps, r, i => if stp p r = true then some i else cQ ps (stepP p r) (i + 1)
def oN : Option Nat → D
  | none => .non
  | some i => .int i
theorem is_less_raw {a b c d : Int} (ha : big a) (hb : big b) (hc : big c) (hd : big d) (h : DH) : f_is_less [.tup [.int a, .int b], .tup [.int c, .int d]] h = .ok (.bl (decide (a * d < c * b))) h := by
  unfold f_is_less d_is_less
  simp only [b_ok, b_ex, b_bad, o_ok, o_ex, o_bad, n_ok, s_seq, s_nx, s_rt, s_bk, s_ct, s_ex, e_var, e_c, e_bin, e_un, e_blt, e_if, e_and, e_or, e_chain, a_nil, a_cons, e_tup, e_lst, e_call, e_callK, e_met, e_sl, g_nx, g_expr, g_ret, g_retN, g_bk, g_ct, g_if, g_asg, g_par, g_raise, t_name, t_unp, t_nil, t_cons, t_sub, g_for, i_val, i_rng1, i_rng2, e_ref, f_rt, f_nx, f_ex, drop_id, g_aug, o_iadd, e_lc, w_nil, w_cons, e_yes, i_tup, i_rol, al, lim_eq, Nat.reduceLeDiff, Nat.reduceLT, x_t0, x_t1, x_t2, x_t3, l_tup, l_rol, u_tup, o_cmp, o_add, o_sub, o_neg, o_not, o_abs, o_int, o_max, o_min, q_int, q_nint, q_bl, q_nbl, q_str, q_nstr, fnD, List.map_cons, List.map_nil, List.length_cons, List.length_nil, List.replicate_succ, List.replicate_zero, List.cons_append, List.nil_append, List.append_nil, List.getElem?_cons_zero, List.getElem?_cons_succ, List.getElem?_nil, List.set_cons_zero, List.set_cons_succ, List.zip_cons_cons, List.zip_nil_left, List.foldl_cons, List.foldl_nil, Nat.reduceSub, Nat.reduceAdd, Nat.zero_add, Nat.add_zero, if_true, if_false, reduceIte, ite_true, ite_false, eq_self, and_true, true_and, and_self, decide_true, decide_false, is_int_int, is_int_bl, is_int_str, is_int_tup, is_int_rol, is_int_non, is_bool_int, is_bool_bl, is_bool_str, is_bool_tup, is_bool_rol, is_bool_non, is_tuple_int, is_tuple_bl, is_tuple_str, is_tuple_tup, is_tuple_rol, is_tuple_non, is_str_int, is_str_bl, is_str_str, is_str_tup, is_str_rol, is_str_non, is_list_int, is_list_bl, is_list_str, is_list_tup, is_list_rol, is_list_non, Bool.not_true, Bool.not_false, o_mul ha hd, o_mul hc hb]
theorem size_of_ok (q : Rat) (h : DH) : f_size_of [fr q] h = .ok (.tup [.int q.num.natAbs, .int q.den]) h := by
  unfold f_size_of d_size_of
  simp only [b_ok, b_ex, b_bad, o_ok, o_ex, o_bad, n_ok, s_seq, s_nx, s_rt, s_bk, s_ct, s_ex, e_var, e_c, e_bin, e_un, e_blt, e_if, e_and, e_or, e_chain, a_nil, a_cons, e_tup, e_lst, e_call, e_callK, e_met, e_sl, g_nx, g_expr, g_ret, g_retN, g_bk, g_ct, g_if, g_asg, g_par, g_raise, t_name, t_unp, t_nil, t_cons, t_sub, g_for, i_val, i_rng1, i_rng2, e_ref, f_rt, f_nx, f_ex, drop_id, g_aug, o_iadd, e_lc, w_nil, w_cons, e_yes, i_tup, i_rol, al, lim_eq, Nat.reduceLeDiff, Nat.reduceLT, x_t0, x_t1, x_t2, x_t3, l_tup, l_rol, u_tup, o_cmp, o_add, o_sub, o_neg, o_not, o_abs, o_int, o_max, o_min, q_int, q_nint, q_bl, q_nbl, q_str, q_nstr, fnD, List.map_cons, List.map_nil, List.length_cons, List.length_nil, List.replicate_succ, List.replicate_zero, List.cons_append, List.nil_append, List.append_nil, List.getElem?_cons_zero, List.getElem?_cons_succ, List.getElem?_nil, List.set_cons_zero, List.set_cons_succ, List.zip_cons_cons, List.zip_nil_left, List.foldl_cons, List.foldl_nil, Nat.reduceSub, Nat.reduceAdd, Nat.zero_add, Nat.add_zero, if_true, if_false, reduceIte, ite_true, ite_false, eq_self, and_true, true_and, and_self, decide_true, decide_false, is_int_int, is_int_bl, is_int_str, is_int_tup, is_int_rol, is_int_non, is_bool_int, is_bool_bl, is_bool_str, is_bool_tup, is_bool_rol, is_bool_non, is_tuple_int, is_tuple_bl, is_tuple_str, is_tuple_tup, is_tuple_rol, is_tuple_non, is_str_int, is_str_bl, is_str_str, is_str_tup, is_str_rol, is_str_non, is_list_int, is_list_bl, is_list_str, is_list_tup, is_list_rol, is_list_non, Bool.not_true, Bool.not_false, x_fr0, x_fr1]
theorem cQ_at {ps : List (Kd × Rat)} {r : Rat × Rat} {p : Kd × Rat} {i : Nat} (e : ps[i]? = some p) : cQ (ps.drop i) (outP (ps.take i) r) i = if stp p (outP (ps.take i) r) = true then some i else cQ (ps.drop (i + 1)) (outP (ps.take (i + 1)) r) (i + 1) := by
  obtain ⟨hi, e2⟩ := List.getElem?_eq_some_iff.mp e
  rw [List.drop_eq_getElem_cons hi, e2, out_take e]
  rfl
theorem caught_ok {ps : List (Kd × Rat)} {r : Rat × Rat} (hp : ∀ p ∈ ps, okP p) (hl : ps.length ≤ 24) (g1 : good r.1) (g2 : good r.2) (h : DH) : f_caught [row ps, prr r] h = .ok (oN (cQ ps r 0)) h := by
  unfold f_caught d_caught
  have c0 : cd 80 r := cd_of g1.sm g2.sm
  simp only [b_ok, b_ex, b_bad, o_ok, o_ex, o_bad, n_ok, s_seq, s_nx, s_rt, s_bk, s_ct, s_ex, e_var, e_c, e_bin, e_un, e_blt, e_if, e_and, e_or, e_chain, a_nil, a_cons, e_tup, e_lst, e_call, e_callK, e_met, e_sl, g_nx, g_expr, g_ret, g_retN, g_bk, g_ct, g_if, g_asg, g_par, g_raise, t_name, t_unp, t_nil, t_cons, t_sub, g_for, i_val, i_rng1, i_rng2, e_ref, f_rt, f_nx, f_ex, drop_id, g_aug, o_iadd, e_lc, w_nil, w_cons, e_yes, i_tup, i_rol, al, lim_eq, Nat.reduceLeDiff, Nat.reduceLT, x_t0, x_t1, x_t2, x_t3, l_tup, l_rol, u_tup, o_cmp, o_add, o_sub, o_neg, o_not, o_abs, o_int, o_max, o_min, q_int, q_nint, q_bl, q_nbl, q_str, q_nstr, fnD, List.map_cons, List.map_nil, List.length_cons, List.length_nil, List.replicate_succ, List.replicate_zero, List.cons_append, List.nil_append, List.append_nil, List.getElem?_cons_zero, List.getElem?_cons_succ, List.getElem?_nil, List.set_cons_zero, List.set_cons_succ, List.zip_cons_cons, List.zip_nil_left, List.foldl_cons, List.foldl_nil, Nat.reduceSub, Nat.reduceAdd, Nat.zero_add, Nat.add_zero, if_true, if_false, reduceIte, ite_true, ite_false, eq_self, and_true, true_and, and_self, decide_true, decide_false, is_int_int, is_int_bl, is_int_str, is_int_tup, is_int_rol, is_int_non, is_bool_int, is_bool_bl, is_bool_str, is_bool_tup, is_bool_rol, is_bool_non, is_tuple_int, is_tuple_bl, is_tuple_str, is_tuple_tup, is_tuple_rol, is_tuple_non, is_str_int, is_str_bl, is_str_str, is_str_tup, is_str_rol, is_str_non, is_list_int, is_list_bl, is_list_str, is_list_tup, is_list_rol, is_list_non, Bool.not_true, Bool.not_false, way_ok hp hl g1 g2, List.length_map, rng_if (show ps.length ≤ 1000000 by omega), Int.toNat_natCast]
  refine forR_rule (fun i ρ g => g = h ∧ i ≤ ps.length ∧ cQ (ps.drop i) (outP (ps.take i) r) i = cQ ps r 0 ∧ ∃ w, ρ = [some (row ps), some (prr r), some (.tup ((r :: wayP ps r).map prr)), w])
    (fun t => DL.finish h (sq t (gRet (eC .non))) = .ok (oN (cQ ps r 0)) h) ?_ ?_ ⟨rfl, Nat.zero_le _, rfl, none, rfl⟩
  · rintro i ρ g hi ⟨rfl, _, hc, w, rfl⟩
    have hi2 : ps[i]? = some ps[i] := List.getElem?_eq_getElem hi
    have hm : ps[i] ∈ ps := List.getElem_mem hi
    have cc := cd_take (n := 40) (fun p h => (hp p h).g.sm) c0 (Nat.le_of_lt hi)
    have gp := hp _ hm
    rw [cQ_at hi2] at hc
    have xr := x_row hi2
    have xw := x_way r (Nat.le_of_lt hi)
    generalize ps[i] = p at hi2 gp hc xr
    generalize outP (List.take i ps) r = s at cc hc xw
    obtain ⟨k, q⟩ := p
    have s1 := cc.fst
    refine ⟨_, _, t_name, ?_⟩
    cases k
    · simp only [stp, Bool.false_eq_true, if_false] at hc
      simp only [b_ok, b_ex, b_bad, o_ok, o_ex, o_bad, n_ok, s_seq, s_nx, s_rt, s_bk, s_ct, s_ex, e_var, e_c, e_bin, e_un, e_blt, e_if, e_and, e_or, e_chain, a_nil, a_cons, e_tup, e_lst, e_call, e_callK, e_met, e_sl, g_nx, g_expr, g_ret, g_retN, g_bk, g_ct, g_if, g_asg, g_par, g_raise, t_name, t_unp, t_nil, t_cons, t_sub, g_for, i_val, i_rng1, i_rng2, e_ref, f_rt, f_nx, f_ex, drop_id, g_aug, o_iadd, e_lc, w_nil, w_cons, e_yes, i_tup, i_rol, al, lim_eq, Nat.reduceLeDiff, Nat.reduceLT, x_t0, x_t1, x_t2, x_t3, l_tup, l_rol, u_tup, o_cmp, o_add, o_sub, o_neg, o_not, o_abs, o_int, o_max, o_min, q_int, q_nint, q_bl, q_nbl, q_str, q_nstr, fnD, List.map_cons, List.map_nil, List.length_cons, List.length_nil, List.replicate_succ, List.replicate_zero, List.cons_append, List.nil_append, List.append_nil, List.getElem?_cons_zero, List.getElem?_cons_succ, List.getElem?_nil, List.set_cons_zero, List.set_cons_succ, List.zip_cons_cons, List.zip_nil_left, List.foldl_cons, List.foldl_nil, Nat.reduceSub, Nat.reduceAdd, Nat.zero_add, Nat.add_zero, if_true, if_false, reduceIte, ite_true, ite_false, eq_self, and_true, true_and, and_self, decide_true, decide_false, is_int_int, is_int_bl, is_int_str, is_int_tup, is_int_rol, is_int_non, is_bool_int, is_bool_bl, is_bool_str, is_bool_tup, is_bool_rol, is_bool_non, is_tuple_int, is_tuple_bl, is_tuple_str, is_tuple_tup, is_tuple_rol, is_tuple_non, is_str_int, is_str_bl, is_str_str, is_str_tup, is_str_rol, is_str_non, is_list_int, is_list_bl, is_list_str, is_list_tup, is_list_rol, is_list_non, Bool.not_true, Bool.not_false, xr, x_prt0, Kd.s, k_gs]
      exact ⟨hi, hc, _, rfl⟩
    · simp only [stp, Bool.false_eq_true, if_false] at hc
      simp only [b_ok, b_ex, b_bad, o_ok, o_ex, o_bad, n_ok, s_seq, s_nx, s_rt, s_bk, s_ct, s_ex, e_var, e_c, e_bin, e_un, e_blt, e_if, e_and, e_or, e_chain, a_nil, a_cons, e_tup, e_lst, e_call, e_callK, e_met, e_sl, g_nx, g_expr, g_ret, g_retN, g_bk, g_ct, g_if, g_asg, g_par, g_raise, t_name, t_unp, t_nil, t_cons, t_sub, g_for, i_val, i_rng1, i_rng2, e_ref, f_rt, f_nx, f_ex, drop_id, g_aug, o_iadd, e_lc, w_nil, w_cons, e_yes, i_tup, i_rol, al, lim_eq, Nat.reduceLeDiff, Nat.reduceLT, x_t0, x_t1, x_t2, x_t3, l_tup, l_rol, u_tup, o_cmp, o_add, o_sub, o_neg, o_not, o_abs, o_int, o_max, o_min, q_int, q_nint, q_bl, q_nbl, q_str, q_nstr, fnD, List.map_cons, List.map_nil, List.length_cons, List.length_nil, List.replicate_succ, List.replicate_zero, List.cons_append, List.nil_append, List.append_nil, List.getElem?_cons_zero, List.getElem?_cons_succ, List.getElem?_nil, List.set_cons_zero, List.set_cons_succ, List.zip_cons_cons, List.zip_nil_left, List.foldl_cons, List.foldl_nil, Nat.reduceSub, Nat.reduceAdd, Nat.zero_add, Nat.add_zero, if_true, if_false, reduceIte, ite_true, ite_false, eq_self, and_true, true_and, and_self, decide_true, decide_false, is_int_int, is_int_bl, is_int_str, is_int_tup, is_int_rol, is_int_non, is_bool_int, is_bool_bl, is_bool_str, is_bool_tup, is_bool_rol, is_bool_non, is_tuple_int, is_tuple_bl, is_tuple_str, is_tuple_tup, is_tuple_rol, is_tuple_non, is_str_int, is_str_bl, is_str_str, is_str_tup, is_str_rol, is_str_non, is_list_int, is_list_bl, is_list_str, is_list_tup, is_list_rol, is_list_non, Bool.not_true, Bool.not_false, xr, x_prt0, Kd.s, k_ls]
      exact ⟨hi, hc, _, rfl⟩
    · have il : ∀ g, f_is_less [fr q, .tup [.int s.1.num.natAbs, .int s.1.den]] g = .ok (.bl (decide (q.num * (s.1.den : Int) < (s.1.num.natAbs : Int) * q.den))) g := fun g => is_less_raw (gp.g.sm.bn (by omega)) (gp.g.sm.bd (by omega)) (by
        have := s1.bn (by omega)
        unfold big at this ⊢
        simpa using this) (s1.bd (by omega)) g
      by_cases c : q.num * (s.1.den : Int) < (s.1.num.natAbs : Int) * q.den
      · simp only [stp, c, decide_true, if_true] at hc
        simp only [b_ok, b_ex, b_bad, o_ok, o_ex, o_bad, n_ok, s_seq, s_nx, s_rt, s_bk, s_ct, s_ex, e_var, e_c, e_bin, e_un, e_blt, e_if, e_and, e_or, e_chain, a_nil, a_cons, e_tup, e_lst, e_call, e_callK, e_met, e_sl, g_nx, g_expr, g_ret, g_retN, g_bk, g_ct, g_if, g_asg, g_par, g_raise, t_name, t_unp, t_nil, t_cons, t_sub, g_for, i_val, i_rng1, i_rng2, e_ref, f_rt, f_nx, f_ex, drop_id, g_aug, o_iadd, e_lc, w_nil, w_cons, e_yes, i_tup, i_rol, al, lim_eq, Nat.reduceLeDiff, Nat.reduceLT, x_t0, x_t1, x_t2, x_t3, l_tup, l_rol, u_tup, o_cmp, o_add, o_sub, o_neg, o_not, o_abs, o_int, o_max, o_min, q_int, q_nint, q_bl, q_nbl, q_str, q_nstr, fnD, List.map_cons, List.map_nil, List.length_cons, List.length_nil, List.replicate_succ, List.replicate_zero, List.cons_append, List.nil_append, List.append_nil, List.getElem?_cons_zero, List.getElem?_cons_succ, List.getElem?_nil, List.set_cons_zero, List.set_cons_succ, List.zip_cons_cons, List.zip_nil_left, List.foldl_cons, List.foldl_nil, Nat.reduceSub, Nat.reduceAdd, Nat.zero_add, Nat.add_zero, if_true, if_false, reduceIte, ite_true, ite_false, eq_self, and_true, true_and, and_self, decide_true, decide_false, is_int_int, is_int_bl, is_int_str, is_int_tup, is_int_rol, is_int_non, is_bool_int, is_bool_bl, is_bool_str, is_bool_tup, is_bool_rol, is_bool_non, is_tuple_int, is_tuple_bl, is_tuple_str, is_tuple_tup, is_tuple_rol, is_tuple_non, is_str_int, is_str_bl, is_str_str, is_str_tup, is_str_rol, is_str_non, is_list_int, is_list_bl, is_list_str, is_list_tup, is_list_rol, is_list_non, Bool.not_true, Bool.not_false, xr, xw, x_prt0, x_prt1, Kd.s, size_of_ok, il, c]
        rw [← hc]
        rfl
      · simp only [stp, c, decide_false, Bool.false_eq_true, if_false] at hc
        simp only [b_ok, b_ex, b_bad, o_ok, o_ex, o_bad, n_ok, s_seq, s_nx, s_rt, s_bk, s_ct, s_ex, e_var, e_c, e_bin, e_un, e_blt, e_if, e_and, e_or, e_chain, a_nil, a_cons, e_tup, e_lst, e_call, e_callK, e_met, e_sl, g_nx, g_expr, g_ret, g_retN, g_bk, g_ct, g_if, g_asg, g_par, g_raise, t_name, t_unp, t_nil, t_cons, t_sub, g_for, i_val, i_rng1, i_rng2, e_ref, f_rt, f_nx, f_ex, drop_id, g_aug, o_iadd, e_lc, w_nil, w_cons, e_yes, i_tup, i_rol, al, lim_eq, Nat.reduceLeDiff, Nat.reduceLT, x_t0, x_t1, x_t2, x_t3, l_tup, l_rol, u_tup, o_cmp, o_add, o_sub, o_neg, o_not, o_abs, o_int, o_max, o_min, q_int, q_nint, q_bl, q_nbl, q_str, q_nstr, fnD, List.map_cons, List.map_nil, List.length_cons, List.length_nil, List.replicate_succ, List.replicate_zero, List.cons_append, List.nil_append, List.append_nil, List.getElem?_cons_zero, List.getElem?_cons_succ, List.getElem?_nil, List.set_cons_zero, List.set_cons_succ, List.zip_cons_cons, List.zip_nil_left, List.foldl_cons, List.foldl_nil, Nat.reduceSub, Nat.reduceAdd, Nat.zero_add, Nat.add_zero, if_true, if_false, reduceIte, ite_true, ite_false, eq_self, and_true, true_and, and_self, decide_true, decide_false, is_int_int, is_int_bl, is_int_str, is_int_tup, is_int_rol, is_int_non, is_bool_int, is_bool_bl, is_bool_str, is_bool_tup, is_bool_rol, is_bool_non, is_tuple_int, is_tuple_bl, is_tuple_str, is_tuple_tup, is_tuple_rol, is_tuple_non, is_str_int, is_str_bl, is_str_str, is_str_tup, is_str_rol, is_str_non, is_list_int, is_list_bl, is_list_str, is_list_tup, is_list_rol, is_list_non, Bool.not_true, Bool.not_false, xr, xw, x_prt0, x_prt1, Kd.s, size_of_ok, il, c]
        exact ⟨hi, hc, _, rfl⟩
  · rintro ρ g ⟨rfl, _, hc, w, rfl⟩
    rw [List.drop_length] at hc
    rw [← hc]
    simp only [b_ok, b_ex, b_bad, o_ok, o_ex, o_bad, n_ok, s_seq, s_nx, s_rt, s_bk, s_ct, s_ex, e_var, e_c, e_bin, e_un, e_blt, e_if, e_and, e_or, e_chain, a_nil, a_cons, e_tup, e_lst, e_call, e_callK, e_met, e_sl, g_nx, g_expr, g_ret, g_retN, g_bk, g_ct, g_if, g_asg, g_par, g_raise, t_name, t_unp, t_nil, t_cons, t_sub, g_for, i_val, i_rng1, i_rng2, e_ref, f_rt, f_nx, f_ex, drop_id, g_aug, o_iadd, e_lc, w_nil, w_cons, e_yes, i_tup, i_rol, al, lim_eq, Nat.reduceLeDiff, Nat.reduceLT, x_t0, x_t1, x_t2, x_t3, l_tup, l_rol, u_tup, o_cmp, o_add, o_sub, o_neg, o_not, o_abs, o_int, o_max, o_min, q_int, q_nint, q_bl, q_nbl, q_str, q_nstr, fnD, List.map_cons, List.map_nil, List.length_cons, List.length_nil, List.replicate_succ, List.replicate_zero, List.cons_append, List.nil_append, List.append_nil, List.getElem?_cons_zero, List.getElem?_cons_succ, List.getElem?_nil, List.set_cons_zero, List.set_cons_succ, List.zip_cons_cons, List.zip_nil_left, List.foldl_cons, List.foldl_nil, Nat.reduceSub, Nat.reduceAdd, Nat.zero_add, Nat.add_zero, if_true, if_false, reduceIte, ite_true, ite_false, eq_self, and_true, true_and, and_self, decide_true, decide_false, is_int_int, is_int_bl, is_int_str, is_int_tup, is_int_rol, is_int_non, is_bool_int, is_bool_bl, is_bool_str, is_bool_tup, is_bool_rol, is_bool_non, is_tuple_int, is_tuple_bl, is_tuple_str, is_tuple_tup, is_tuple_rol, is_tuple_non, is_str_int, is_str_bl, is_str_str, is_str_tup, is_str_rol, is_str_non, is_list_int, is_list_bl, is_list_str, is_list_tup, is_list_rol, is_list_non, Bool.not_true, Bool.not_false]
    rfl
end Law
/-! rows and rays that a law draws; a law's own reckoning of them -/
namespace Law
open PySem L2 DL
theorem fr_raw (q : Rat) : fr q = .tup [.int q.num, .int q.den] := rfl
theorem abs_num (q : Rat) : ∃ p : Rat, D.tup [.int (q.num.natAbs : Int), .int (q.den : Int)] = fr p ∧ 0 ≤ p ∧ (good q → good p) ∧ (q ≠ 0 → 0 < p) := by
  by_cases c : 0 ≤ q
  · refine ⟨q, ?_, c, id, fun z => ?_⟩
    · have := Rat.num_nonneg.mpr c
      rw [show (q.num.natAbs : Int) = q.num by omega]
      rfl
    · grind
  · have n0 : q.num < 0 := by
      have := mt Rat.num_nonneg.mp c
      omega
    refine ⟨-q, ?_, by grind, fun g => ⟨by rw [Rat.neg_num, Int.natAbs_neg]; exact g.1, by rw [Rat.neg_den]; exact g.2⟩, fun _ => by grind⟩
    rw [fr_raw, Rat.neg_num, Rat.neg_den, show (q.num.natAbs : Int) = -q.num by omega]
theorem law_part_ok {n k : Nat} {h : DH} (d : DOK n k h) (hk : k + 20 ≤ 2 ^ 100) : ∃ (p : Kd × Rat) (h' : DH), f_law_part [.obj n] h = .ok (prt p) h' ∧ okP p ∧ DOK n (k + 5) h' ∧ Fr n h h' := by
  have ln := d.lt
  obtain ⟨x, h1, ⟨t, rfl⟩, e1, d1, g1, l1⟩ := pick_new (T := [.str "gap", .str "gap", .str "lens", .str "lens", .str "stop"]) (P := fun x => ∃ t : Kd, x = .str t.s) d (by omega) (by
    intro x hx
    simp only [List.mem_cons, List.not_mem_nil, or_false] at hx
    rcases hx with rfl | rfl | rfl | rfl | rfl
    · exact ⟨.gap, rfl⟩
    · exact ⟨.gap, rfl⟩
    · exact ⟨.lens, rfl⟩
    · exact ⟨.lens, rfl⟩
    · exact ⟨.stop, rfl⟩) (by simp) (by simp)
  obtain ⟨q, h2, e2, gq, d2, f2⟩ := num_ok d1 (by omega)
  obtain ⟨p, ep, p0, gp, pp⟩ := abs_num q
  have g2 := g1.trans f2.grow
  unfold f_law_part d_law_part
  have fin : ∀ p : Kd × Rat, okP p → ∃ (p' : Kd × Rat) (h' : DH), Rs.ok (prt p) (drop h (prt p) h2) = .ok (prt p') h' ∧ okP p' ∧ DOK n (k + 5) h' ∧ Fr n h h' := by
    intro p hp
    obtain ⟨h', e', f', d'⟩ := ret_dice (d := prt p) g2 d2 ln (by simp [prt, D.bel, D.belL, fr])
    rw [f_rt] at e'
    exact ⟨p, h', e', hp, d'.mono (by omega), f'⟩
  cases t
  · have := fin (.gap, p) ⟨gp gq, fun _ => p0, fun z => by cases z⟩
    simp only [prt, Kd.s] at this e1
    simp only [b_ok, b_ex, b_bad, o_ok, o_ex, o_bad, n_ok, s_seq, s_nx, s_rt, s_bk, s_ct, s_ex, e_var, e_c, e_bin, e_un, e_blt, e_if, e_and, e_or, e_chain, a_nil, a_cons, e_tup, e_lst, e_call, e_callK, e_met, e_sl, g_nx, g_expr, g_ret, g_retN, g_bk, g_ct, g_if, g_asg, g_par, g_raise, t_name, t_unp, t_nil, t_cons, t_sub, g_for, i_val, i_rng1, i_rng2, e_ref, f_rt, f_nx, f_ex, drop_id, g_aug, o_iadd, e_lc, w_nil, w_cons, e_yes, i_tup, i_rol, al, lim_eq, Nat.reduceLeDiff, Nat.reduceLT, x_t0, x_t1, x_t2, x_t3, l_tup, l_rol, u_tup, o_cmp, o_add, o_sub, o_neg, o_not, o_abs, o_int, o_max, o_min, q_int, q_nint, q_bl, q_nbl, q_str, q_nstr, fnD, List.map_cons, List.map_nil, List.length_cons, List.length_nil, List.replicate_succ, List.replicate_zero, List.cons_append, List.nil_append, List.append_nil, List.getElem?_cons_zero, List.getElem?_cons_succ, List.getElem?_nil, List.set_cons_zero, List.set_cons_succ, List.zip_cons_cons, List.zip_nil_left, List.foldl_cons, List.foldl_nil, Nat.reduceSub, Nat.reduceAdd, Nat.zero_add, Nat.add_zero, if_true, if_false, reduceIte, ite_true, ite_false, eq_self, and_true, true_and, and_self, decide_true, decide_false, is_int_int, is_int_bl, is_int_str, is_int_tup, is_int_rol, is_int_non, is_bool_int, is_bool_bl, is_bool_str, is_bool_tup, is_bool_rol, is_bool_non, is_tuple_int, is_tuple_bl, is_tuple_str, is_tuple_tup, is_tuple_rol, is_tuple_non, is_str_int, is_str_bl, is_str_str, is_str_tup, is_str_rol, is_str_non, is_list_int, is_list_bl, is_list_str, is_list_tup, is_list_rol, is_list_non, Bool.not_true, Bool.not_false, e1, e2, x_fr0, x_fr1, ep]
    exact this
  · have := fin (.lens, q) ⟨gq, (fun z => by cases z), (fun z => by cases z)⟩
    simp only [prt, Kd.s] at this e1
    simp only [b_ok, b_ex, b_bad, o_ok, o_ex, o_bad, n_ok, s_seq, s_nx, s_rt, s_bk, s_ct, s_ex, e_var, e_c, e_bin, e_un, e_blt, e_if, e_and, e_or, e_chain, a_nil, a_cons, e_tup, e_lst, e_call, e_callK, e_met, e_sl, g_nx, g_expr, g_ret, g_retN, g_bk, g_ct, g_if, g_asg, g_par, g_raise, t_name, t_unp, t_nil, t_cons, t_sub, g_for, i_val, i_rng1, i_rng2, e_ref, f_rt, f_nx, f_ex, drop_id, g_aug, o_iadd, e_lc, w_nil, w_cons, e_yes, i_tup, i_rol, al, lim_eq, Nat.reduceLeDiff, Nat.reduceLT, x_t0, x_t1, x_t2, x_t3, l_tup, l_rol, u_tup, o_cmp, o_add, o_sub, o_neg, o_not, o_abs, o_int, o_max, o_min, q_int, q_nint, q_bl, q_nbl, q_str, q_nstr, fnD, List.map_cons, List.map_nil, List.length_cons, List.length_nil, List.replicate_succ, List.replicate_zero, List.cons_append, List.nil_append, List.append_nil, List.getElem?_cons_zero, List.getElem?_cons_succ, List.getElem?_nil, List.set_cons_zero, List.set_cons_succ, List.zip_cons_cons, List.zip_nil_left, List.foldl_cons, List.foldl_nil, Nat.reduceSub, Nat.reduceAdd, Nat.zero_add, Nat.add_zero, if_true, if_false, reduceIte, ite_true, ite_false, eq_self, and_true, true_and, and_self, decide_true, decide_false, is_int_int, is_int_bl, is_int_str, is_int_tup, is_int_rol, is_int_non, is_bool_int, is_bool_bl, is_bool_str, is_bool_tup, is_bool_rol, is_bool_non, is_tuple_int, is_tuple_bl, is_tuple_str, is_tuple_tup, is_tuple_rol, is_tuple_non, is_str_int, is_str_bl, is_str_str, is_str_tup, is_str_rol, is_str_non, is_list_int, is_list_bl, is_list_str, is_list_tup, is_list_rol, is_list_non, Bool.not_true, Bool.not_false, e1, e2, k_lg, k_ls]
    exact this
  · by_cases z : q = 0
    · subst z
      have := fin (.stop, 1) ⟨⟨by decide, by decide⟩, (fun z => by cases z), fun _ => by decide⟩
      simp only [prt, Kd.s] at this e1
      have r0 : (0 : Rat).num = 0 := rfl
      have r1 : (((0 : Rat).den : Nat) : Int) = 1 := rfl
      simp only [b_ok, b_ex, b_bad, o_ok, o_ex, o_bad, n_ok, s_seq, s_nx, s_rt, s_bk, s_ct, s_ex, e_var, e_c, e_bin, e_un, e_blt, e_if, e_and, e_or, e_chain, a_nil, a_cons, e_tup, e_lst, e_call, e_callK, e_met, e_sl, g_nx, g_expr, g_ret, g_retN, g_bk, g_ct, g_if, g_asg, g_par, g_raise, t_name, t_unp, t_nil, t_cons, t_sub, g_for, i_val, i_rng1, i_rng2, e_ref, f_rt, f_nx, f_ex, drop_id, g_aug, o_iadd, e_lc, w_nil, w_cons, e_yes, i_tup, i_rol, al, lim_eq, Nat.reduceLeDiff, Nat.reduceLT, x_t0, x_t1, x_t2, x_t3, l_tup, l_rol, u_tup, o_cmp, o_add, o_sub, o_neg, o_not, o_abs, o_int, o_max, o_min, q_int, q_nint, q_bl, q_nbl, q_str, q_nstr, fnD, List.map_cons, List.map_nil, List.length_cons, List.length_nil, List.replicate_succ, List.replicate_zero, List.cons_append, List.nil_append, List.append_nil, List.getElem?_cons_zero, List.getElem?_cons_succ, List.getElem?_nil, List.set_cons_zero, List.set_cons_succ, List.zip_cons_cons, List.zip_nil_left, List.foldl_cons, List.foldl_nil, Nat.reduceSub, Nat.reduceAdd, Nat.zero_add, Nat.add_zero, if_true, if_false, reduceIte, ite_true, ite_false, eq_self, and_true, true_and, and_self, decide_true, decide_false, is_int_int, is_int_bl, is_int_str, is_int_tup, is_int_rol, is_int_non, is_bool_int, is_bool_bl, is_bool_str, is_bool_tup, is_bool_rol, is_bool_non, is_tuple_int, is_tuple_bl, is_tuple_str, is_tuple_tup, is_tuple_rol, is_tuple_non, is_str_int, is_str_bl, is_str_str, is_str_tup, is_str_rol, is_str_non, is_list_int, is_list_bl, is_list_str, is_list_tup, is_list_rol, is_list_non, Bool.not_true, Bool.not_false, e1, e2, k_sg, x_fr0, x_fr1, r0, r1, fr1]
      exact this
    · have := fin (.stop, p) ⟨gp gq, (fun z => by cases z), fun _ => pp z⟩
      simp only [prt, Kd.s] at this e1
      simp only [b_ok, b_ex, b_bad, o_ok, o_ex, o_bad, n_ok, s_seq, s_nx, s_rt, s_bk, s_ct, s_ex, e_var, e_c, e_bin, e_un, e_blt, e_if, e_and, e_or, e_chain, a_nil, a_cons, e_tup, e_lst, e_call, e_callK, e_met, e_sl, g_nx, g_expr, g_ret, g_retN, g_bk, g_ct, g_if, g_asg, g_par, g_raise, t_name, t_unp, t_nil, t_cons, t_sub, g_for, i_val, i_rng1, i_rng2, e_ref, f_rt, f_nx, f_ex, drop_id, g_aug, o_iadd, e_lc, w_nil, w_cons, e_yes, i_tup, i_rol, al, lim_eq, Nat.reduceLeDiff, Nat.reduceLT, x_t0, x_t1, x_t2, x_t3, l_tup, l_rol, u_tup, o_cmp, o_add, o_sub, o_neg, o_not, o_abs, o_int, o_max, o_min, q_int, q_nint, q_bl, q_nbl, q_str, q_nstr, fnD, List.map_cons, List.map_nil, List.length_cons, List.length_nil, List.replicate_succ, List.replicate_zero, List.cons_append, List.nil_append, List.append_nil, List.getElem?_cons_zero, List.getElem?_cons_succ, List.getElem?_nil, List.set_cons_zero, List.set_cons_succ, List.zip_cons_cons, List.zip_nil_left, List.foldl_cons, List.foldl_nil, Nat.reduceSub, Nat.reduceAdd, Nat.zero_add, Nat.add_zero, if_true, if_false, reduceIte, ite_true, ite_false, eq_self, and_true, true_and, and_self, decide_true, decide_false, is_int_int, is_int_bl, is_int_str, is_int_tup, is_int_rol, is_int_non, is_bool_int, is_bool_bl, is_bool_str, is_bool_tup, is_bool_rol, is_bool_non, is_tuple_int, is_tuple_bl, is_tuple_str, is_tuple_tup, is_tuple_rol, is_tuple_non, is_str_int, is_str_bl, is_str_str, is_str_tup, is_str_rol, is_str_non, is_list_int, is_list_bl, is_list_str, is_list_tup, is_list_rol, is_list_non, Bool.not_true, Bool.not_false, e1, e2, k_sg, x_fr0, x_fr1, num0, z, ep]
      exact this
theorem prts_of : ∀ {ys : List D}, (∀ y ∈ ys, ∃ p, y = prt p ∧ okP p) → ∃ ps : List (Kd × Rat), ys = ps.map prt ∧ ∀ p ∈ ps, okP p
  | [], _ => ⟨[], rfl, fun p hp => by cases hp⟩
  | y :: ys, h => by
    obtain ⟨p, rfl, hp⟩ := h y List.mem_cons_self
    obtain ⟨ps, rfl, hps⟩ := prts_of fun z hz => h z (List.mem_cons_of_mem _ hz)
    refine ⟨p :: ps, rfl, fun q hq => ?_⟩
    rcases List.mem_cons.mp hq with rfl | hq
    · exact hp
    · exact hps q hq
theorem bel_prts (n : Nat) : ∀ ps : List (Kd × Rat), D.belL n (ps.map prt) = true
  | [] => rfl
  | p :: ps => by
    show (D.bel n (prt p) && D.belL n (ps.map prt)) = true
    rw [bel_prts n ps]
    simp [prt, D.bel, D.belL, fr]
theorem lcR_rule {γ : Dg} {c el : De} {ρ : En} {n : Nat} (P : D → Prop) (I : Nat → DH → Prop) (st : ∀ i h, i < n → I i h → ∃ ρ1 h1, γ (.int i) ρ h = .ok ρ1 h1 ∧ c ρ1 h1 = .ok (.bl true) h1 ∧ ∃ y h2, el ρ1 h1 = .ok y h2 ∧ P y ∧ I (i + 1) h2) :
    ∀ (m i : Nat) (h : DH), i + m = n → I i h → ∃ ys h', lcA γ c el ρ ((rngItems 0 n).drop i) h = .ok ys h' ∧ ys.length = m ∧ (∀ y ∈ ys, P y) ∧ I n h'
  | 0, i, h, e, hi => by
    have : i = n := by omega
    subst this
    rw [List.drop_eq_nil_of_le (by simp [rngItems])]
    exact ⟨[], h, rfl, rfl, (fun y hy => by cases hy), hi⟩
  | m + 1, i, h, e, hi => by
    have hl : i < n := by omega
    have e2 : (rngItems 0 n).drop i = .int i :: (rngItems 0 n).drop (i + 1) := by
      rw [List.drop_eq_getElem_cons (by simpa [rngItems] using hl)]
      simp [rngItems]
    obtain ⟨ρ1, h1, e3, e4, y, h2, e5, py, hi2⟩ := st i h hl hi
    obtain ⟨ys, h', e6, ly, hp, hi3⟩ := lcR_rule P I st m (i + 1) h2 (by omega) hi2
    refine ⟨y :: ys, h', ?_, by simp [ly], fun z hz => ?_, hi3⟩
    · rw [e2]
      unfold lcA
      rw [e3]
      show (noEx (c ρ1 h1)).bind _ = _
      rw [e4]
      show (noEx (el ρ1 h1)).bind _ = _
      rw [e5]
      show (lcA γ c el ρ _ h2).bind _ = _
      rw [e6]
      rfl
    · rcases List.mem_cons.mp hz with rfl | hz
      · exact py
      · exact hp z hz
theorem law_row_ok {n k m : Nat} {h : DH} (d : DOK n k h) (hm : m ≤ 24) (hk : k + 200 ≤ 2 ^ 100) : ∃ (ps : List (Kd × Rat)) (h' : DH), f_law_row [.obj n, .int m] h = .ok (row ps) h' ∧ (∀ p ∈ ps, okP p) ∧ ps.length ≤ m ∧ DOK n (k + 150) h' ∧ Fr n h h' := by
  have ln := d.lt
  obtain ⟨r, h1, e1, r0, r1, d1, f1⟩ := roll_ok d (by omega) (m := (m : Int) + 1) (by omega) (by
    rw [show ((m : Int) + 1).natAbs = m + 1 by omega]
    exact Nat.lt_of_lt_of_le (log_lt (n := 5) (by omega) (by omega)) (by omega))
  have rc : (-1000000000 : Int) ≤ r ∧ r ≤ 1000000000 := by omega
  obtain ⟨ys, h2, e2, l2, hy, d2, f2⟩ := lcR_rule (γ := tName 2) (c := eYes) (el := eCall f_law_part 1 [] (aCons (eVar 0) aNil)) (ρ := [some (.obj n), some (.int m), none]) (n := r.toNat) (fun y => ∃ p, y = prt p ∧ okP p) (fun j g => DOK n (k + 1 + 5 * j) g ∧ Fr n h g) (by
    rintro j g hj ⟨dg, fg⟩
    obtain ⟨p, g2, e3, hp, dg2, fg2⟩ := law_part_ok dg (by omega)
    refine ⟨_, _, t_name, e_yes, prt p, g2, ?_, ⟨p, rfl, hp⟩, dg2.mono (by omega), fg.trans fg2⟩
    simp only [b_ok, b_ex, b_bad, o_ok, o_ex, o_bad, n_ok, s_seq, s_nx, s_rt, s_bk, s_ct, s_ex, e_var, e_c, e_bin, e_un, e_blt, e_if, e_and, e_or, e_chain, a_nil, a_cons, e_tup, e_lst, e_call, e_callK, e_met, e_sl, g_nx, g_expr, g_ret, g_retN, g_bk, g_ct, g_if, g_asg, g_par, g_raise, t_name, t_unp, t_nil, t_cons, t_sub, g_for, i_val, i_rng1, i_rng2, e_ref, f_rt, f_nx, f_ex, drop_id, g_aug, o_iadd, e_lc, w_nil, w_cons, e_yes, i_tup, i_rol, al, lim_eq, Nat.reduceLeDiff, Nat.reduceLT, x_t0, x_t1, x_t2, x_t3, l_tup, l_rol, u_tup, o_cmp, o_add, o_sub, o_neg, o_not, o_abs, o_int, o_max, o_min, q_int, q_nint, q_bl, q_nbl, q_str, q_nstr, fnD, List.map_cons, List.map_nil, List.length_cons, List.length_nil, List.replicate_succ, List.replicate_zero, List.cons_append, List.nil_append, List.append_nil, List.getElem?_cons_zero, List.getElem?_cons_succ, List.getElem?_nil, List.set_cons_zero, List.set_cons_succ, List.zip_cons_cons, List.zip_nil_left, List.foldl_cons, List.foldl_nil, Nat.reduceSub, Nat.reduceAdd, Nat.zero_add, Nat.add_zero, if_true, if_false, reduceIte, ite_true, ite_false, eq_self, and_true, true_and, and_self, decide_true, decide_false, is_int_int, is_int_bl, is_int_str, is_int_tup, is_int_rol, is_int_non, is_bool_int, is_bool_bl, is_bool_str, is_bool_tup, is_bool_rol, is_bool_non, is_tuple_int, is_tuple_bl, is_tuple_str, is_tuple_tup, is_tuple_rol, is_tuple_non, is_str_int, is_str_bl, is_str_str, is_str_tup, is_str_rol, is_str_non, is_list_int, is_list_bl, is_list_str, is_list_tup, is_list_rol, is_list_non, Bool.not_true, Bool.not_false, e3]) r.toNat 0 h1 (by omega) ⟨d1.mono (by omega), f1⟩
  rw [List.drop_zero] at e2
  obtain ⟨ps, rfl, hps⟩ := prts_of hy
  rw [List.length_map] at l2
  have lz : ((ps.map prt).length < 1000000) = True := by
    rw [List.length_map]
    exact eq_true (by omega)
  unfold f_law_row d_law_row
  have g2 : Grow n h (h2 ++ [MO.lst (ps.map prt)]) := f2.grow.trans Grow.add
  obtain ⟨h', e', f', d'⟩ := ret_dice (d := row ps) g2 (d2.add _) ln (by simp only [D.bel]; exact bel_prts _ ps)
  rw [f_rt] at e'
  refine ⟨ps, h', ?_, hps, by omega, d'.mono (by omega), f'⟩
  simp only [b_ok, b_ex, b_bad, o_ok, o_ex, o_bad, n_ok, s_seq, s_nx, s_rt, s_bk, s_ct, s_ex, e_var, e_c, e_bin, e_un, e_blt, e_if, e_and, e_or, e_chain, a_nil, a_cons, e_tup, e_lst, e_call, e_callK, e_met, e_sl, g_nx, g_expr, g_ret, g_retN, g_bk, g_ct, g_if, g_asg, g_par, g_raise, t_name, t_unp, t_nil, t_cons, t_sub, g_for, i_val, i_rng1, i_rng2, e_ref, f_rt, f_nx, f_ex, drop_id, g_aug, o_iadd, e_lc, w_nil, w_cons, e_yes, i_tup, i_rol, al, lim_eq, Nat.reduceLeDiff, Nat.reduceLT, x_t0, x_t1, x_t2, x_t3, l_tup, l_rol, u_tup, o_cmp, o_add, o_sub, o_neg, o_not, o_abs, o_int, o_max, o_min, q_int, q_nint, q_bl, q_nbl, q_str, q_nstr, fnD, List.map_cons, List.map_nil, List.length_cons, List.length_nil, List.replicate_succ, List.replicate_zero, List.cons_append, List.nil_append, List.append_nil, List.getElem?_cons_zero, List.getElem?_cons_succ, List.getElem?_nil, List.set_cons_zero, List.set_cons_succ, List.zip_cons_cons, List.zip_nil_left, List.foldl_cons, List.foldl_nil, Nat.reduceSub, Nat.reduceAdd, Nat.zero_add, Nat.add_zero, if_true, if_false, reduceIte, ite_true, ite_false, eq_self, and_true, true_and, and_self, decide_true, decide_false, is_int_int, is_int_bl, is_int_str, is_int_tup, is_int_rol, is_int_non, is_bool_int, is_bool_bl, is_bool_str, is_bool_tup, is_bool_rol, is_bool_non, is_tuple_int, is_tuple_bl, is_tuple_str, is_tuple_tup, is_tuple_rol, is_tuple_non, is_str_int, is_str_bl, is_str_str, is_str_tup, is_str_rol, is_str_non, is_list_int, is_list_bl, is_list_str, is_list_tup, is_list_rol, is_list_non, Bool.not_true, Bool.not_false, e1, if_pos rc, e2, lz, m_tup at_new]
  exact e'
theorem law_ray_ok {n k : Nat} {h : DH} (d : DOK n k h) (hk : k + 20 ≤ 2 ^ 100) : ∃ (r : Rat × Rat) (h' : DH), f_law_ray [.obj n] h = .ok (prr r) h' ∧ good r.1 ∧ good r.2 ∧ DOK n (k + 8) h' ∧ Fr n h h' := by
  have ln := d.lt
  obtain ⟨p, h1, e1, g1, d1, f1⟩ := num_ok d (by omega)
  obtain ⟨q, h2, e2, g2, d2, f2⟩ := num_ok d1 (by omega)
  unfold f_law_ray d_law_ray
  obtain ⟨h', e', f', d'⟩ := ret_dice (d := pr p q) (f1.trans f2).grow d2 ln (bel_pr _ _ _)
  rw [f_rt] at e'
  refine ⟨(p, q), h', ?_, g1, g2, d'.mono (by omega), f'⟩
  simp only [b_ok, b_ex, b_bad, o_ok, o_ex, o_bad, n_ok, s_seq, s_nx, s_rt, s_bk, s_ct, s_ex, e_var, e_c, e_bin, e_un, e_blt, e_if, e_and, e_or, e_chain, a_nil, a_cons, e_tup, e_lst, e_call, e_callK, e_met, e_sl, g_nx, g_expr, g_ret, g_retN, g_bk, g_ct, g_if, g_asg, g_par, g_raise, t_name, t_unp, t_nil, t_cons, t_sub, g_for, i_val, i_rng1, i_rng2, e_ref, f_rt, f_nx, f_ex, drop_id, g_aug, o_iadd, e_lc, w_nil, w_cons, e_yes, i_tup, i_rol, al, lim_eq, Nat.reduceLeDiff, Nat.reduceLT, x_t0, x_t1, x_t2, x_t3, l_tup, l_rol, u_tup, o_cmp, o_add, o_sub, o_neg, o_not, o_abs, o_int, o_max, o_min, q_int, q_nint, q_bl, q_nbl, q_str, q_nstr, fnD, List.map_cons, List.map_nil, List.length_cons, List.length_nil, List.replicate_succ, List.replicate_zero, List.cons_append, List.nil_append, List.append_nil, List.getElem?_cons_zero, List.getElem?_cons_succ, List.getElem?_nil, List.set_cons_zero, List.set_cons_succ, List.zip_cons_cons, List.zip_nil_left, List.foldl_cons, List.foldl_nil, Nat.reduceSub, Nat.reduceAdd, Nat.zero_add, Nat.add_zero, if_true, if_false, reduceIte, ite_true, ite_false, eq_self, and_true, true_and, and_self, decide_true, decide_false, is_int_int, is_int_bl, is_int_str, is_int_tup, is_int_rol, is_int_non, is_bool_int, is_bool_bl, is_bool_str, is_bool_tup, is_bool_rol, is_bool_non, is_tuple_int, is_tuple_bl, is_tuple_str, is_tuple_tup, is_tuple_rol, is_tuple_non, is_str_int, is_str_bl, is_str_str, is_str_tup, is_str_rol, is_str_non, is_list_int, is_list_bl, is_list_str, is_list_tup, is_list_rol, is_list_non, Bool.not_true, Bool.not_false, e1, e2]
  exact e'
theorem law_out_ok {ps : List (Kd × Rat)} {r : Rat × Rat} {n m : Nat} {h : DH} (hp : ∀ p ∈ ps, sm n p.2) (c : cd m r) (hs : n + 2 * (m + (n + 1) * ps.length) ≤ 2998) : f_law_out [row ps, prr r] h = .ok (prr (outP ps r)) h := by
  unfold f_law_out d_law_out
  simp only [b_ok, b_ex, b_bad, o_ok, o_ex, o_bad, n_ok, s_seq, s_nx, s_rt, s_bk, s_ct, s_ex, e_var, e_c, e_bin, e_un, e_blt, e_if, e_and, e_or, e_chain, a_nil, a_cons, e_tup, e_lst, e_call, e_callK, e_met, e_sl, g_nx, g_expr, g_ret, g_retN, g_bk, g_ct, g_if, g_asg, g_par, g_raise, t_name, t_unp, t_nil, t_cons, t_sub, g_for, i_val, i_rng1, i_rng2, e_ref, f_rt, f_nx, f_ex, drop_id, g_aug, o_iadd, e_lc, w_nil, w_cons, e_yes, i_tup, i_rol, al, lim_eq, Nat.reduceLeDiff, Nat.reduceLT, x_t0, x_t1, x_t2, x_t3, l_tup, l_rol, u_tup, o_cmp, o_add, o_sub, o_neg, o_not, o_abs, o_int, o_max, o_min, q_int, q_nint, q_bl, q_nbl, q_str, q_nstr, fnD, List.map_cons, List.map_nil, List.length_cons, List.length_nil, List.replicate_succ, List.replicate_zero, List.cons_append, List.nil_append, List.append_nil, List.getElem?_cons_zero, List.getElem?_cons_succ, List.getElem?_nil, List.set_cons_zero, List.set_cons_succ, List.zip_cons_cons, List.zip_nil_left, List.foldl_cons, List.foldl_nil, Nat.reduceSub, Nat.reduceAdd, Nat.zero_add, Nat.add_zero, if_true, if_false, reduceIte, ite_true, ite_false, eq_self, and_true, true_and, and_self, decide_true, decide_false, is_int_int, is_int_bl, is_int_str, is_int_tup, is_int_rol, is_int_non, is_bool_int, is_bool_bl, is_bool_str, is_bool_tup, is_bool_rol, is_bool_non, is_tuple_int, is_tuple_bl, is_tuple_str, is_tuple_tup, is_tuple_rol, is_tuple_non, is_str_int, is_str_bl, is_str_str, is_str_tup, is_str_rol, is_str_non, is_list_int, is_list_bl, is_list_str, is_list_tup, is_list_rol, is_list_non, Bool.not_true, Bool.not_false]
  refine forA_rule (fun t ρ g => g = h ∧ ∃ (us : List (Kd × Rat)) (s : Rat × Rat) (j : Nat) (w : Option D), t = us.map prt ∧ (∀ p ∈ us, sm n p.2) ∧ outP us s = outP ps r ∧ cd j s ∧ n + 2 * (j + (n + 1) * us.length) ≤ 2998 ∧ ρ = [some (row ps), some (prr s), w])
    (fun t => DL.finish h (sq t (gRet (eVar 1))) = .ok (prr (outP ps r)) h) ?_ ?_ _ _ _ ⟨rfl, ps, r, m, none, rfl, hp, rfl, c, hs, rfl⟩
  · rintro x t ρ g ⟨rfl, us, s, j, w, e, hu, hf, cj, hz, rfl⟩
    match us, e with
    | u :: us, e =>
      simp only [List.map_cons, List.cons.injEq] at e
      obtain ⟨rfl, rfl⟩ := e
      have gu := hu u List.mem_cons_self
      simp only [List.length_cons, Nat.mul_add, Nat.mul_one] at hz
      refine ⟨_, _, t_name, ?_⟩
      simp only [b_ok, b_ex, b_bad, o_ok, o_ex, o_bad, n_ok, s_seq, s_nx, s_rt, s_bk, s_ct, s_ex, e_var, e_c, e_bin, e_un, e_blt, e_if, e_and, e_or, e_chain, a_nil, a_cons, e_tup, e_lst, e_call, e_callK, e_met, e_sl, g_nx, g_expr, g_ret, g_retN, g_bk, g_ct, g_if, g_asg, g_par, g_raise, t_name, t_unp, t_nil, t_cons, t_sub, g_for, i_val, i_rng1, i_rng2, e_ref, f_rt, f_nx, f_ex, drop_id, g_aug, o_iadd, e_lc, w_nil, w_cons, e_yes, i_tup, i_rol, al, lim_eq, Nat.reduceLeDiff, Nat.reduceLT, x_t0, x_t1, x_t2, x_t3, l_tup, l_rol, u_tup, o_cmp, o_add, o_sub, o_neg, o_not, o_abs, o_int, o_max, o_min, q_int, q_nint, q_bl, q_nbl, q_str, q_nstr, fnD, List.map_cons, List.map_nil, List.length_cons, List.length_nil, List.replicate_succ, List.replicate_zero, List.cons_append, List.nil_append, List.append_nil, List.getElem?_cons_zero, List.getElem?_cons_succ, List.getElem?_nil, List.set_cons_zero, List.set_cons_succ, List.zip_cons_cons, List.zip_nil_left, List.foldl_cons, List.foldl_nil, Nat.reduceSub, Nat.reduceAdd, Nat.zero_add, Nat.add_zero, if_true, if_false, reduceIte, ite_true, ite_false, eq_self, and_true, true_and, and_self, decide_true, decide_false, is_int_int, is_int_bl, is_int_str, is_int_tup, is_int_rol, is_int_non, is_bool_int, is_bool_bl, is_bool_str, is_bool_tup, is_bool_rol, is_bool_non, is_tuple_int, is_tuple_bl, is_tuple_str, is_tuple_tup, is_tuple_rol, is_tuple_non, is_str_int, is_str_bl, is_str_str, is_str_tup, is_str_rol, is_str_non, is_list_int, is_list_bl, is_list_str, is_list_tup, is_list_rol, is_list_non, Bool.not_true, Bool.not_false, stepP_ok gu cj (by omega)]
      exact ⟨us, stepP u s, j + n + 1, _, rfl, fun p hp' => hu p (List.mem_cons_of_mem _ hp'), hf, cd_step gu cj, by omega, rfl⟩
  · rintro ρ g ⟨rfl, us, s, j, w, e, hu, hf, cj, hz, rfl⟩
    have : us = [] := by
      cases us with
      | nil => rfl
      | cons a b => cases e
    subst this
    have hf' : s = outP ps r := hf
    subst hf'
    simp only [b_ok, b_ex, b_bad, o_ok, o_ex, o_bad, n_ok, s_seq, s_nx, s_rt, s_bk, s_ct, s_ex, e_var, e_c, e_bin, e_un, e_blt, e_if, e_and, e_or, e_chain, a_nil, a_cons, e_tup, e_lst, e_call, e_callK, e_met, e_sl, g_nx, g_expr, g_ret, g_retN, g_bk, g_ct, g_if, g_asg, g_par, g_raise, t_name, t_unp, t_nil, t_cons, t_sub, g_for, i_val, i_rng1, i_rng2, e_ref, f_rt, f_nx, f_ex, drop_id, g_aug, o_iadd, e_lc, w_nil, w_cons, e_yes, i_tup, i_rol, al, lim_eq, Nat.reduceLeDiff, Nat.reduceLT, x_t0, x_t1, x_t2, x_t3, l_tup, l_rol, u_tup, o_cmp, o_add, o_sub, o_neg, o_not, o_abs, o_int, o_max, o_min, q_int, q_nint, q_bl, q_nbl, q_str, q_nstr, fnD, List.map_cons, List.map_nil, List.length_cons, List.length_nil, List.replicate_succ, List.replicate_zero, List.cons_append, List.nil_append, List.append_nil, List.getElem?_cons_zero, List.getElem?_cons_succ, List.getElem?_nil, List.set_cons_zero, List.set_cons_succ, List.zip_cons_cons, List.zip_nil_left, List.foldl_cons, List.foldl_nil, Nat.reduceSub, Nat.reduceAdd, Nat.zero_add, Nat.add_zero, if_true, if_false, reduceIte, ite_true, ite_false, eq_self, and_true, true_and, and_self, decide_true, decide_false, is_int_int, is_int_bl, is_int_str, is_int_tup, is_int_rol, is_int_non, is_bool_int, is_bool_bl, is_bool_str, is_bool_tup, is_bool_rol, is_bool_non, is_tuple_int, is_tuple_bl, is_tuple_str, is_tuple_tup, is_tuple_rol, is_tuple_non, is_str_int, is_str_bl, is_str_str, is_str_tup, is_str_rol, is_str_non, is_list_int, is_list_bl, is_list_str, is_list_tup, is_list_rol, is_list_non, Bool.not_true, Bool.not_false]
end Law
/-! drawn matrices are small; matrices of rows -/
namespace Law
open PySem L2 DL
theorem good_zero : good 0 := ⟨by decide, by decide⟩
theorem good_one : good 1 := ⟨by decide, by decide⟩
theorem good_inv {q : Rat} (h : q ≠ 0) (g : good q) : good (1 / q) := by
  rw [← div_eq]
  have e1 : (1 : Rat).num = 1 := rfl
  have e2 : (((1 : Rat).den : Nat) : Int) = 1 := rfl
  rw [e1, e2, Int.one_mul, Int.one_mul]
  exact good_div (num_ne h) (by rw [Int.natAbs_natCast]; exact g.2) g.1
/-! ### small numbers over one denominator -/
def bd (B : Nat) (r : Rat × Rat) : Prop := ∃ a b d : Int, 0 < d ∧ r.1 = Rat.divInt a d ∧ r.2 = Rat.divInt b d ∧ a.natAbs ≤ B ∧ b.natAbs ≤ B ∧ d.natAbs ≤ B
theorem bd.swap {B : Nat} {x y : Rat} (c : bd B (x, y)) : bd B (y, x) := by
  obtain ⟨a, b, d, d0, e1, e2, l1, l2, l3⟩ := c
  exact ⟨b, a, d, d0, e2, e1, l2, l1, l3⟩
theorem bd.good {B : Nat} {r : Rat × Rat} (c : bd B r) (hB : B ≤ 1000000000000) : good r.1 ∧ good r.2 := by
  obtain ⟨a, b, d, d0, e1, e2, l1, l2, l3⟩ := c
  rw [e1, e2]
  exact ⟨good_div (by omega) (by omega) (by omega), good_div (by omega) (by omega) (by omega)⟩
theorem shear_eq {a b d u v : Int} (d0 : d ≠ 0) (v0 : v ≠ 0) : Rat.divInt a d + Rat.divInt u v * Rat.divInt b d = Rat.divInt (a * v + u * b) (d * v) := by
  have vd0 : v * d ≠ 0 := Int.mul_ne_zero v0 d0
  rw [Rat.divInt_mul_divInt, Rat.divInt_add_divInt _ _ d0 vd0, Rat.divInt_eq_divInt_iff (Int.mul_ne_zero d0 vd0) (Int.mul_ne_zero d0 v0)]
  grind
theorem tiny.neg {q : Rat} (t : tiny q) : tiny (-q) := by
  obtain ⟨n, d, rfl, h1, h2, h3⟩ := t
  exact ⟨-n, d, by rw [Rat.neg_divInt], by omega, h2, h3⟩
theorem bd_shear {B : Nat} {x y q : Rat} (c : bd B (x, y)) (t : tiny q) : bd (9 * B) (x + q * y, y) := by
  obtain ⟨a, b, d, d0, e1, e2, l1, l2, l3⟩ := c
  obtain ⟨u, v, rfl, h1, h2, h3⟩ := t
  have e1' : x = Rat.divInt a d := e1
  have e2' : y = Rat.divInt b d := e2
  have k1 : (a * v).natAbs ≤ B * 3 := by rw [Int.natAbs_mul]; exact Nat.mul_le_mul l1 (by omega)
  have k2 : (u * b).natAbs ≤ 6 * B := by rw [Int.natAbs_mul]; exact Nat.mul_le_mul h1 l2
  have k3 : (b * v).natAbs ≤ B * 3 := by rw [Int.natAbs_mul]; exact Nat.mul_le_mul l2 (by omega)
  have k4 : (d * v).natAbs ≤ B * 3 := by rw [Int.natAbs_mul]; exact Nat.mul_le_mul l3 (by omega)
  refine ⟨a * v + u * b, b * v, d * v, Int.mul_pos d0 (by omega), ?_, ?_, ?_, by omega, by omega⟩
  · show x + Rat.divInt u v * y = _
    rw [e1', e2', shear_eq (by omega) (by omega)]
  · show y = _
    rw [Rat.divInt_mul_right (by omega)]
    exact e2'
  · have := Int.natAbs_add_le (a * v) (u * b)
    omega
theorem bd_stepQ {B : Nat} {p : Bool × Rat} {r : Rat × Rat} (t : tiny p.2) (c : bd B r) : bd (9 * B) (stepQ p r) := by
  obtain ⟨b, q⟩ := p
  cases b
  · have := (bd_shear (c : bd B (r.1, r.2)).swap t.neg).swap
    have e : r.2 + -q * r.1 = r.2 + -(q * r.1) := by grind
    rw [e] at this
    exact this
  · exact bd_shear c t
theorem bd_outQ : ∀ (ps : List (Bool × Rat)) (r : Rat × Rat) (B : Nat), (∀ p ∈ ps, tiny p.2) → bd B r → bd (9 ^ ps.length * B) (outQ ps r)
  | [], r, B, _, c => by
    show bd (1 * B) r
    rw [Nat.one_mul]
    exact c
  | p :: ps, r, B, hp, c => by
    have := bd_outQ ps (stepQ p r) (9 * B) (fun q hq => hp q (List.mem_cons_of_mem _ hq)) (bd_stepQ (hp p List.mem_cons_self) c)
    rw [List.length_cons, Nat.pow_succ, Nat.mul_assoc]
    exact this
theorem matrix_good {ps : List (Bool × Rat)} {k : Nat} {h : DH} (hp : ∀ p ∈ ps, tiny p.2) (hl : ps.length ≤ 5) (q : h[k]? = some (.lst (ps.map part))) :
    ∃ a b c d : Rat, f_law_matrix [.obj k] h = .ok (mat a b c d) h ∧ a * d - b * c = 1 ∧ good a ∧ good b ∧ good c ∧ good d := by
  have o5 := ob5 hl
  have hp3 : ∀ p ∈ ps, sm 3 p.2 := fun p h => (hp p h).sm
  have o1 := out_ok (r := (1, 0)) hp3 sm_one sm_zero (by omega) q
  have o2 := out_ok (r := (0, 1)) hp3 sm_zero sm_one (by omega) q
  have hB : 9 ^ ps.length * 1 ≤ 1000000000000 := by
    have := Nat.pow_le_pow_right (n := 9) (by omega) hl
    omega
  obtain ⟨a1, a2⟩ := (bd_outQ ps (1, 0) 1 hp ⟨1, 0, 1, by omega, rfl, rfl, by decide, by decide, by decide⟩).good hB
  obtain ⟨b1, b2⟩ := (bd_outQ ps (0, 1) 1 hp ⟨0, 1, 1, by omega, rfl, rfl, by decide, by decide, by decide⟩).good hB
  refine ⟨(outQ ps (1, 0)).1, (outQ ps (0, 1)).1, (outQ ps (1, 0)).2, (outQ ps (0, 1)).2, ?_, ?_, a1, b1, a2, b2⟩
  · unfold f_law_matrix d_law_matrix
    simp only [b_ok, b_ex, b_bad, o_ok, o_ex, o_bad, n_ok, s_seq, s_nx, s_rt, s_bk, s_ct, s_ex, e_var, e_c, e_bin, e_un, e_blt, e_if, e_and, e_or, e_chain, a_nil, a_cons, e_tup, e_lst, e_call, e_callK, e_met, e_sl, g_nx, g_expr, g_ret, g_retN, g_bk, g_ct, g_if, g_asg, g_par, g_raise, t_name, t_unp, t_nil, t_cons, t_sub, g_for, i_val, i_rng1, i_rng2, e_ref, f_rt, f_nx, f_ex, drop_id, g_aug, o_iadd, e_lc, w_nil, w_cons, e_yes, i_tup, i_rol, al, lim_eq, Nat.reduceLeDiff, Nat.reduceLT, x_t0, x_t1, x_t2, x_t3, l_tup, l_rol, u_tup, o_cmp, o_add, o_sub, o_neg, o_not, o_abs, o_int, o_max, o_min, q_int, q_nint, q_bl, q_nbl, q_str, q_nstr, fnD, List.map_cons, List.map_nil, List.length_cons, List.length_nil, List.replicate_succ, List.replicate_zero, List.cons_append, List.nil_append, List.append_nil, List.getElem?_cons_zero, List.getElem?_cons_succ, List.getElem?_nil, List.set_cons_zero, List.set_cons_succ, List.zip_cons_cons, List.zip_nil_left, List.foldl_cons, List.foldl_nil, Nat.reduceSub, Nat.reduceAdd, Nat.zero_add, Nat.add_zero, if_true, if_false, reduceIte, ite_true, ite_false, eq_self, and_true, true_and, and_self, decide_true, decide_false, is_int_int, is_int_bl, is_int_str, is_int_tup, is_int_rol, is_int_non, is_bool_int, is_bool_bl, is_bool_str, is_bool_tup, is_bool_rol, is_bool_non, is_tuple_int, is_tuple_bl, is_tuple_str, is_tuple_tup, is_tuple_rol, is_tuple_non, is_str_int, is_str_bl, is_str_str, is_str_tup, is_str_rol, is_str_non, is_list_int, is_list_bl, is_list_str, is_list_tup, is_list_rol, is_list_non, Bool.not_true, Bool.not_false, fr0, fr1, o1, o2]
  · have := out_det ps (1, 0) (0, 1)
    grind
/-- a drawn matrix -/
theorem drawn_good {n k : Nat} {h : DH} (d0 : DOK n k h) (hk : k + 20 ≤ 2 ^ 100) : ∃ (a b c d : Rat) (h' : DH), f_law_drawn [.obj n] h = .ok (mat a b c d) h' ∧ a * d - b * c = 1 ∧ good a ∧ good b ∧ good c ∧ good d ∧ DOK n (k + 20) h' ∧ Fr n h h' := by
  have ln := d0.lt
  unfold f_law_drawn d_law_drawn
  simp only [fnD, List.map_cons, List.map_nil, List.length_cons, List.length_nil, Nat.zero_add, Nat.reduceAdd, Nat.reduceSub, List.replicate_succ, List.replicate_zero, List.cons_append, List.nil_append]
  obtain ⟨r, h1, e1, r0, r1, d1, f1⟩ := roll_ok d0 (by omega) (m := 6) (by omega) (by decide)
  refine step (O := fun t => ∃ (a b c d : Rat) (h' : DH), DL.finish h t = .ok (mat a b c d) h' ∧ a * d - b * c = 1 ∧ good a ∧ good b ∧ good c ∧ good d ∧ DOK n (k + 20) h' ∧ Fr n h h') (ρ' := [some (.obj n), some (.int r), some (.obj h1.length), none, none, none]) (h' := h1 ++ [.lst []]) (by simp only [b_ok, b_ex, b_bad, o_ok, o_ex, o_bad, n_ok, s_seq, s_nx, s_rt, s_bk, s_ct, s_ex, e_var, e_c, e_bin, e_un, e_blt, e_if, e_and, e_or, e_chain, a_nil, a_cons, e_tup, e_lst, e_call, e_callK, e_met, e_sl, g_nx, g_expr, g_ret, g_retN, g_bk, g_ct, g_if, g_asg, g_par, g_raise, t_name, t_unp, t_nil, t_cons, t_sub, g_for, i_val, i_rng1, i_rng2, e_ref, f_rt, f_nx, f_ex, drop_id, g_aug, o_iadd, e_lc, w_nil, w_cons, e_yes, i_tup, i_rol, al, lim_eq, Nat.reduceLeDiff, Nat.reduceLT, x_t0, x_t1, x_t2, x_t3, l_tup, l_rol, u_tup, o_cmp, o_add, o_sub, o_neg, o_not, o_abs, o_int, o_max, o_min, q_int, q_nint, q_bl, q_nbl, q_str, q_nstr, fnD, List.map_cons, List.map_nil, List.length_cons, List.length_nil, List.replicate_succ, List.replicate_zero, List.cons_append, List.nil_append, List.append_nil, List.getElem?_cons_zero, List.getElem?_cons_succ, List.getElem?_nil, List.set_cons_zero, List.set_cons_succ, List.zip_cons_cons, List.zip_nil_left, List.foldl_cons, List.foldl_nil, Nat.reduceSub, Nat.reduceAdd, Nat.zero_add, Nat.add_zero, if_true, if_false, reduceIte, ite_true, ite_false, eq_self, and_true, true_and, and_self, decide_true, decide_false, is_int_int, is_int_bl, is_int_str, is_int_tup, is_int_rol, is_int_non, is_bool_int, is_bool_bl, is_bool_str, is_bool_tup, is_bool_rol, is_bool_non, is_tuple_int, is_tuple_bl, is_tuple_str, is_tuple_tup, is_tuple_rol, is_tuple_non, is_str_int, is_str_bl, is_str_str, is_str_tup, is_str_rol, is_str_non, is_list_int, is_list_bl, is_list_str, is_list_tup, is_list_rol, is_list_non, Bool.not_true, Bool.not_false, e1]) ?_
  have g1 : Grow n h (h1 ++ [.lst []]) := f1.grow.trans Grow.add
  have d1' : DOK n (k + 1) (h1 ++ [.lst []]) := d1.add _
  by_cases c : r = 0
  · -- a matrix with b = 0
    rw [s_seq]
    obtain ⟨s, h2, e2, ts, d2, f2⟩ := small_ok d1' (by omega)
    obtain ⟨x, h3, ⟨a, rfl, sa⟩, e3, d3, g3, _⟩ := pick_new (T := [.tup [.int 1, .int 1], .tup [.int (-1), .int 1], .tup [.int 2, .int 1], .tup [.int (-1), .int 2], fr s]) (P := fun x => ∃ a : Rat, x = fr a ∧ tiny a) d2 (by omega) (by
      intro x hx
      simp only [List.mem_cons, List.not_mem_nil, or_false] at hx
      rcases hx with rfl | rfl | rfl | rfl | rfl
      · exact ⟨1, rfl, 1, 1, rfl, by decide, by decide, by decide⟩
      · exact ⟨-1, rfl, -1, 1, rfl, by decide, by decide, by decide⟩
      · exact ⟨2, rfl, 2, 1, rfl, by decide, by decide, by decide⟩
      · exact ⟨Rat.divInt (-1) 2, rfl, -1, 2, rfl, by decide, by decide, by decide⟩
      · exact ⟨s, rfl, ts⟩) (by simp) (by simp)
    obtain ⟨u, h4, e4, tu, d4, f4⟩ := small_ok d3 (by omega)
    obtain ⟨y, h5, ⟨v, rfl, sv⟩, e5, d5, g5, _⟩ := pick_new (T := [.tup [.int 0, .int 1], fr u]) (P := fun x => ∃ a : Rat, x = fr a ∧ tiny a) d4 (by omega) (by
      intro x hx
      simp only [List.mem_cons, List.not_mem_nil, or_false] at hx
      rcases hx with rfl | rfl
      · exact ⟨0, rfl, 0, 1, rfl, by decide, by decide, by decide⟩
      · exact ⟨u, rfl, tu⟩) (by simp) (by simp)
    have gg : Grow n h h5 := g1.trans (f2.grow.trans (g3.trans (f4.grow.trans g5)))
    have fin : ∀ aw : Rat, aw ≠ 0 → tiny aw → ∃ (a b c d : Rat) (h' : DH), DL.finish h (.rt (mat aw 0 v (1 / aw)) h5) = .ok (mat a b c d) h' ∧ a * d - b * c = 1 ∧ good a ∧ good b ∧ good c ∧ good d ∧ DOK n (k + 20) h' ∧ Fr n h h' := by
      intro aw a0 sa
      obtain ⟨h', e', f', d'⟩ := ret_dice (d := mat aw 0 v (1 / aw)) gg d5 ln (bel_mat _ _ _ _ _)
      refine ⟨aw, 0, v, 1 / aw, h', e', ?_, sa.good, good_zero, sv.good, good_inv a0 sa.good, d'.mono (by omega), f'⟩
      grind
    simp only [fr1, fr0] at e3 e5
    by_cases a0 : a = 0
    · subst a0
      have := fin 1 (by decide) ⟨1, 1, rfl, by decide, by decide, by decide⟩
      have dv : ∀ g : DH, f_law_div [fr 1, fr 1] g = .ok (fr (1 / 1)) g := law_div_ok sm_one sm_one (by omega) (by decide)
      simp only [b_ok, b_ex, b_bad, o_ok, o_ex, o_bad, n_ok, s_seq, s_nx, s_rt, s_bk, s_ct, s_ex, e_var, e_c, e_bin, e_un, e_blt, e_if, e_and, e_or, e_chain, a_nil, a_cons, e_tup, e_lst, e_call, e_callK, e_met, e_sl, g_nx, g_expr, g_ret, g_retN, g_bk, g_ct, g_if, g_asg, g_par, g_raise, t_name, t_unp, t_nil, t_cons, t_sub, g_for, i_val, i_rng1, i_rng2, e_ref, f_rt, f_nx, f_ex, drop_id, g_aug, o_iadd, e_lc, w_nil, w_cons, e_yes, i_tup, i_rol, al, lim_eq, Nat.reduceLeDiff, Nat.reduceLT, x_t0, x_t1, x_t2, x_t3, l_tup, l_rol, u_tup, o_cmp, o_add, o_sub, o_neg, o_not, o_abs, o_int, o_max, o_min, q_int, q_nint, q_bl, q_nbl, q_str, q_nstr, fnD, List.map_cons, List.map_nil, List.length_cons, List.length_nil, List.replicate_succ, List.replicate_zero, List.cons_append, List.nil_append, List.append_nil, List.getElem?_cons_zero, List.getElem?_cons_succ, List.getElem?_nil, List.set_cons_zero, List.set_cons_succ, List.zip_cons_cons, List.zip_nil_left, List.foldl_cons, List.foldl_nil, Nat.reduceSub, Nat.reduceAdd, Nat.zero_add, Nat.add_zero, if_true, if_false, reduceIte, ite_true, ite_false, eq_self, and_true, true_and, and_self, decide_true, decide_false, is_int_int, is_int_bl, is_int_str, is_int_tup, is_int_rol, is_int_non, is_bool_int, is_bool_bl, is_bool_str, is_bool_tup, is_bool_rol, is_bool_non, is_tuple_int, is_tuple_bl, is_tuple_str, is_tuple_tup, is_tuple_rol, is_tuple_non, is_str_int, is_str_bl, is_str_str, is_str_tup, is_str_rol, is_str_non, is_list_int, is_list_bl, is_list_str, is_list_tup, is_list_rol, is_list_non, Bool.not_true, Bool.not_false, c, e2, e3, x_fr0, num0, e4, e5, fr1, dv, fr0] at this ⊢
      exact this
    · have := fin a a0 sa
      simp only [b_ok, b_ex, b_bad, o_ok, o_ex, o_bad, n_ok, s_seq, s_nx, s_rt, s_bk, s_ct, s_ex, e_var, e_c, e_bin, e_un, e_blt, e_if, e_and, e_or, e_chain, a_nil, a_cons, e_tup, e_lst, e_call, e_callK, e_met, e_sl, g_nx, g_expr, g_ret, g_retN, g_bk, g_ct, g_if, g_asg, g_par, g_raise, t_name, t_unp, t_nil, t_cons, t_sub, g_for, i_val, i_rng1, i_rng2, e_ref, f_rt, f_nx, f_ex, drop_id, g_aug, o_iadd, e_lc, w_nil, w_cons, e_yes, i_tup, i_rol, al, lim_eq, Nat.reduceLeDiff, Nat.reduceLT, x_t0, x_t1, x_t2, x_t3, l_tup, l_rol, u_tup, o_cmp, o_add, o_sub, o_neg, o_not, o_abs, o_int, o_max, o_min, q_int, q_nint, q_bl, q_nbl, q_str, q_nstr, fnD, List.map_cons, List.map_nil, List.length_cons, List.length_nil, List.replicate_succ, List.replicate_zero, List.cons_append, List.nil_append, List.append_nil, List.getElem?_cons_zero, List.getElem?_cons_succ, List.getElem?_nil, List.set_cons_zero, List.set_cons_succ, List.zip_cons_cons, List.zip_nil_left, List.foldl_cons, List.foldl_nil, Nat.reduceSub, Nat.reduceAdd, Nat.zero_add, Nat.add_zero, if_true, if_false, reduceIte, ite_true, ite_false, eq_self, and_true, true_and, and_self, decide_true, decide_false, is_int_int, is_int_bl, is_int_str, is_int_tup, is_int_rol, is_int_non, is_bool_int, is_bool_bl, is_bool_str, is_bool_tup, is_bool_rol, is_bool_non, is_tuple_int, is_tuple_bl, is_tuple_str, is_tuple_tup, is_tuple_rol, is_tuple_non, is_str_int, is_str_bl, is_str_str, is_str_tup, is_str_rol, is_str_non, is_list_int, is_list_bl, is_list_str, is_list_tup, is_list_rol, is_list_non, Bool.not_true, Bool.not_false, c, e2, e3, x_fr0, num0, a0, e4, e5, fr1, law_div_ok sm_one sa.sm (by omega) a0, fr0] at this ⊢
      exact this
  · refine step (O := fun t => ∃ (a b c d : Rat) (h' : DH), DL.finish h t = .ok (mat a b c d) h' ∧ a * d - b * c = 1 ∧ good a ∧ good b ∧ good c ∧ good d ∧ DOK n (k + 20) h' ∧ Fr n h h') (ρ' := [some (.obj n), some (.int r), some (.obj h1.length), none, none, none]) (h' := h1 ++ [.lst []]) (by simp only [b_ok, b_ex, b_bad, o_ok, o_ex, o_bad, n_ok, s_seq, s_nx, s_rt, s_bk, s_ct, s_ex, e_var, e_c, e_bin, e_un, e_blt, e_if, e_and, e_or, e_chain, a_nil, a_cons, e_tup, e_lst, e_call, e_callK, e_met, e_sl, g_nx, g_expr, g_ret, g_retN, g_bk, g_ct, g_if, g_asg, g_par, g_raise, t_name, t_unp, t_nil, t_cons, t_sub, g_for, i_val, i_rng1, i_rng2, e_ref, f_rt, f_nx, f_ex, drop_id, g_aug, o_iadd, e_lc, w_nil, w_cons, e_yes, i_tup, i_rol, al, lim_eq, Nat.reduceLeDiff, Nat.reduceLT, x_t0, x_t1, x_t2, x_t3, l_tup, l_rol, u_tup, o_cmp, o_add, o_sub, o_neg, o_not, o_abs, o_int, o_max, o_min, q_int, q_nint, q_bl, q_nbl, q_str, q_nstr, fnD, List.map_cons, List.map_nil, List.length_cons, List.length_nil, List.replicate_succ, List.replicate_zero, List.cons_append, List.nil_append, List.append_nil, List.getElem?_cons_zero, List.getElem?_cons_succ, List.getElem?_nil, List.set_cons_zero, List.set_cons_succ, List.zip_cons_cons, List.zip_nil_left, List.foldl_cons, List.foldl_nil, Nat.reduceSub, Nat.reduceAdd, Nat.zero_add, Nat.add_zero, if_true, if_false, reduceIte, ite_true, ite_false, eq_self, and_true, true_and, and_self, decide_true, decide_false, is_int_int, is_int_bl, is_int_str, is_int_tup, is_int_rol, is_int_non, is_bool_int, is_bool_bl, is_bool_str, is_bool_tup, is_bool_rol, is_bool_non, is_tuple_int, is_tuple_bl, is_tuple_str, is_tuple_tup, is_tuple_rol, is_tuple_non, is_str_int, is_str_bl, is_str_str, is_str_tup, is_str_rol, is_str_non, is_list_int, is_list_bl, is_list_str, is_list_tup, is_list_rol, is_list_non, Bool.not_true, Bool.not_false, c]) ?_
    have lh1 : h.length = h1.length := f1.1.symm
    -- the row
    refine stepx (O := fun t => ∃ (a b c d : Rat) (h' : DH), DL.finish h t = .ok (mat a b c d) h' ∧ a * d - b * c = 1 ∧ good a ∧ good b ∧ good c ∧ good d ∧ DOK n (k + 20) h' ∧ Fr n h h') (fun ρ g => ∃ (ps : List (Bool × Rat)) (w1 w2 w3 : Option D), g[h1.length]? = some (.lst (ps.map part)) ∧ (∀ p ∈ ps, tiny p.2) ∧ ps.length ≤ 5 ∧ DOK n (k + 20) g ∧ Grow n h g ∧ ρ = [some (.obj n), some (.int r), some (.obj h1.length), w1, w2, w3]) ?_ ?_
    · obtain ⟨s, h2, e2, s0, s1, d2, f2⟩ := roll_ok d1' (by omega) (m := 5) (by omega) (by decide)
      have cs : (-1000000000 : Int) ≤ 1 + s ∧ 1 + s ≤ 1000000000 := by omega
      have ls : (rngItems 0 (1 + s).toNat).length ≤ 5 := by unfold rngItems; simp; omega
      have q2 : h2[h1.length]? = some (.lst []) := by
        rw [f2.2 _ (by have := d1.lt; omega)]
        exact at_new
      simp only [g_for, i_rng1, e_bin, e_c, b_ok, e_call, a_cons, a_nil, e_var, List.getElem?_cons_zero, List.cons_append, List.nil_append, List.append_nil, List.length_cons, List.length_nil, Nat.zero_add, Nat.reduceAdd, if_true, e2, o_add, if_pos cs, o_ok]
      generalize rngItems 0 (1 + s).toNat = items at ls ⊢
      refine forA_rule (fun t ρ g => ∃ (ps : List (Bool × Rat)) (w1 w2 w3 : Option D), g[h1.length]? = some (.lst (ps.map part)) ∧ (∀ p ∈ ps, tiny p.2) ∧ ps.length + t.length ≤ 5 ∧ DOK n (k + 2 + 3 * ps.length) g ∧ Grow n h g ∧ ρ = [some (.obj n), some (.int r), some (.obj h1.length), w1, w2, w3]) (fun t => ∃ ρ' g, t = .nx ρ' g ∧ ∃ (ps : List (Bool × Rat)) (w1 w2 w3 : Option D), g[h1.length]? = some (.lst (ps.map part)) ∧ (∀ p ∈ ps, tiny p.2) ∧ ps.length ≤ 5 ∧ DOK n (k + 20) g ∧ Grow n h g ∧ ρ' = [some (.obj n), some (.int r), some (.obj h1.length), w1, w2, w3]) ?_ ?_ _ _ _ ⟨[], none, none, none, q2, (fun p hp => by cases hp), by simpa using ls, d2.mono (by simp), g1.trans f2.grow, rfl⟩
      · rintro x t ρ g ⟨ps, w1, w2, w3, qg, hp, hl, dg, gg, rfl⟩
        simp only [List.length_cons] at hl
        obtain ⟨q, h3, e3, tq, d3, f3⟩ := small_ok dg (by omega)
        obtain ⟨y, h4, ⟨b, rfl⟩, e4, d4, g4, _⟩ := pick_new (T := [.tup [.str "gap", fr q], .tup [.str "lens", fr q]]) (P := fun x => ∃ b : Bool, x = part (b, q)) d3 (by omega) (by
          intro x hx
          simp only [List.mem_cons, List.not_mem_nil, or_false] at hx
          rcases hx with rfl | rfl
          · exact ⟨true, rfl⟩
          · exact ⟨false, rfl⟩) (by simp) (by simp)
        have q3 : h3[h1.length]? = some (.lst (ps.map part)) := by
          rw [f3.2 _ (by have := d1.lt; omega)]
          exact qg
        have q4 : h4[h1.length]? = some (.lst (ps.map part)) := by
          rw [g4.2 _ (List.getElem?_eq_some_iff.mp q3).1 (by have := d1.lt; omega)]
          exact q3
        have l4 := (List.getElem?_eq_some_iff.mp q4).1
        have i3 := isl q3
        have ap := m_app (y := part (b, q)) q4 (by rw [List.length_map, lim_eq]; omega)
        refine ⟨_, _, t_name, ?_⟩
        simp only [b_ok, b_ex, b_bad, o_ok, o_ex, o_bad, n_ok, s_seq, s_nx, s_rt, s_bk, s_ct, s_ex, e_var, e_c, e_bin, e_un, e_blt, e_if, e_and, e_or, e_chain, a_nil, a_cons, e_tup, e_lst, e_call, e_callK, e_met, e_sl, g_nx, g_expr, g_ret, g_retN, g_bk, g_ct, g_if, g_asg, g_par, g_raise, t_name, t_unp, t_nil, t_cons, t_sub, g_for, i_val, i_rng1, i_rng2, e_ref, f_rt, f_nx, f_ex, drop_id, g_aug, o_iadd, e_lc, w_nil, w_cons, e_yes, i_tup, i_rol, al, lim_eq, Nat.reduceLeDiff, Nat.reduceLT, x_t0, x_t1, x_t2, x_t3, l_tup, l_rol, u_tup, o_cmp, o_add, o_sub, o_neg, o_not, o_abs, o_int, o_max, o_min, q_int, q_nint, q_bl, q_nbl, q_str, q_nstr, fnD, List.map_cons, List.map_nil, List.length_cons, List.length_nil, List.replicate_succ, List.replicate_zero, List.cons_append, List.nil_append, List.append_nil, List.getElem?_cons_zero, List.getElem?_cons_succ, List.getElem?_nil, List.set_cons_zero, List.set_cons_succ, List.zip_cons_cons, List.zip_nil_left, List.foldl_cons, List.foldl_nil, Nat.reduceSub, Nat.reduceAdd, Nat.zero_add, Nat.add_zero, if_true, if_false, reduceIte, ite_true, ite_false, eq_self, and_true, true_and, and_self, decide_true, decide_false, is_int_int, is_int_bl, is_int_str, is_int_tup, is_int_rol, is_int_non, is_bool_int, is_bool_bl, is_bool_str, is_bool_tup, is_bool_rol, is_bool_non, is_tuple_int, is_tuple_bl, is_tuple_str, is_tuple_tup, is_tuple_rol, is_tuple_non, is_str_int, is_str_bl, is_str_str, is_str_tup, is_str_rol, is_str_non, is_list_int, is_list_bl, is_list_str, is_list_tup, is_list_rol, is_list_non, Bool.not_true, Bool.not_false, e3, i3, e4, ap]
        refine ⟨ps ++ [(b, q)], w1, some x, some (fr q), ?_, ?_, by simp; omega, ?_, ?_, rfl⟩
        · rw [set_at l4]
          simp
        · intro p hp'
          rcases List.mem_append.mp hp' with hp' | hp'
          · exact hp p hp'
          · rw [List.mem_singleton.mp hp']
            exact tq
        · refine (d4.put (by have := d1.lt; omega)).mono ?_
          simp only [List.length_append, List.length_cons, List.length_nil]
          omega
        · exact (gg.trans (f3.grow.trans g4)).put (by omega)
      · rintro ρ g ⟨ps, w1, w2, w3, qg, hp, hl, dg, gg, rfl⟩
        simp only [List.length_nil] at hl
        exact ⟨_, _, rfl, ps, w1, w2, w3, qg, hp, hl, dg.mono (by omega), gg, rfl⟩
    · rintro ρ g ⟨ps, w1, w2, w3, qg, hp, hl, dg, gg, rfl⟩
      have o5 := ob5 hl
      obtain ⟨a, b, c, d, em, det, sa, sb, sc, sd⟩ := matrix_good hp hl qg
      simp only [b_ok, b_ex, b_bad, o_ok, o_ex, o_bad, n_ok, s_seq, s_nx, s_rt, s_bk, s_ct, s_ex, e_var, e_c, e_bin, e_un, e_blt, e_if, e_and, e_or, e_chain, a_nil, a_cons, e_tup, e_lst, e_call, e_callK, e_met, e_sl, g_nx, g_expr, g_ret, g_retN, g_bk, g_ct, g_if, g_asg, g_par, g_raise, t_name, t_unp, t_nil, t_cons, t_sub, g_for, i_val, i_rng1, i_rng2, e_ref, f_rt, f_nx, f_ex, drop_id, g_aug, o_iadd, e_lc, w_nil, w_cons, e_yes, i_tup, i_rol, al, lim_eq, Nat.reduceLeDiff, Nat.reduceLT, x_t0, x_t1, x_t2, x_t3, l_tup, l_rol, u_tup, o_cmp, o_add, o_sub, o_neg, o_not, o_abs, o_int, o_max, o_min, q_int, q_nint, q_bl, q_nbl, q_str, q_nstr, fnD, List.map_cons, List.map_nil, List.length_cons, List.length_nil, List.replicate_succ, List.replicate_zero, List.cons_append, List.nil_append, List.append_nil, List.getElem?_cons_zero, List.getElem?_cons_succ, List.getElem?_nil, List.set_cons_zero, List.set_cons_succ, List.zip_cons_cons, List.zip_nil_left, List.foldl_cons, List.foldl_nil, Nat.reduceSub, Nat.reduceAdd, Nat.zero_add, Nat.add_zero, if_true, if_false, reduceIte, ite_true, ite_false, eq_self, and_true, true_and, and_self, decide_true, decide_false, is_int_int, is_int_bl, is_int_str, is_int_tup, is_int_rol, is_int_non, is_bool_int, is_bool_bl, is_bool_str, is_bool_tup, is_bool_rol, is_bool_non, is_tuple_int, is_tuple_bl, is_tuple_str, is_tuple_tup, is_tuple_rol, is_tuple_non, is_str_int, is_str_bl, is_str_str, is_str_tup, is_str_rol, is_str_non, is_list_int, is_list_bl, is_list_str, is_list_tup, is_list_rol, is_list_non, Bool.not_true, Bool.not_false, em]
      obtain ⟨h', e', f', d'⟩ := ret_dice (d := mat a b c d) gg dg ln (bel_mat _ _ _ _ _)
      rw [f_rt] at e'
      exact ⟨a, b, c, d, h', e', det, sa, sb, sc, sd, d', f'⟩

/-! ### lists behind one another -/
section
variable {h : DH} {a b c : MO} {xs : List D} {x y : D}
theorem at2 : (h ++ [a] ++ [b])[h.length]? = some a := by simp
theorem at3 : (h ++ [a] ++ [b] ++ [c])[h.length]? = some a := by simp
theorem set2 {o : MO} : (h ++ [a] ++ [b]).set h.length o = h ++ [o] ++ [b] := by simp
theorem set3 {o : MO} : (h ++ [a] ++ [b] ++ [c]).set h.length o = h ++ [o] ++ [b] ++ [c] := by simp
theorem m_app1 (hl : xs.length < 1000000) : oAppend (.obj h.length) [y] (h ++ [.lst xs]) = .ok .non (h ++ [.lst (xs ++ [y])]) := by rw [m_app at_new hl, set_last]
theorem m_app2 (hl : xs.length < 1000000) : oAppend (.obj h.length) [y] (h ++ [.lst xs] ++ [b]) = .ok .non (h ++ [.lst (xs ++ [y])] ++ [b]) := by rw [m_app at2 hl, set2]
theorem m_app3 (hl : xs.length < 1000000) : oAppend (.obj h.length) [y] (h ++ [.lst xs] ++ [b] ++ [c]) = .ok .non (h ++ [.lst (xs ++ [y])] ++ [b] ++ [c]) := by rw [m_app at3 hl, set3]
theorem isl1 : isLst (.obj h.length) (h ++ [.lst xs]) = true := isl at_new
theorem isl2 : isLst (.obj h.length) (h ++ [.lst xs] ++ [b]) = true := isl at2
theorem isl3 : isLst (.obj h.length) (h ++ [.lst xs] ++ [b] ++ [c]) = true := isl at3
theorem m_tup1 : oTuple [.obj h.length] (h ++ [.lst xs]) = .ok (.tup xs) (h ++ [.lst xs]) := m_tup at_new
theorem m_tup3 : oTuple [.obj h.length] (h ++ [.lst xs] ++ [b] ++ [c]) = .ok (.tup xs) (h ++ [.lst xs] ++ [b] ++ [c]) := m_tup at3
end
theorem rng2 : rngItems 0 2 = [.int 0, .int 1] := rfl
theorem two_nat : (2 : Int).toNat = 2 := rfl
theorem two_rng : ((-1000000000 : Int) ≤ 2 ∧ (2 : Int) ≤ 1000000000) = True := by simp
theorem worked_ok {a b c d e f g i : Rat} {n m : Nat} (ha : sm n a) (hb : sm n b) (hc : sm n c) (hd : sm n d) (he : sm m e) (hf : sm m f) (hg : sm m g) (hi : sm m i) (hs : (m + n) + (m + n) ≤ 8999) (h : DH) :
    f_worked [mat a b c d, mat e f g i] h = .ok (mat (e * a + f * c) (e * b + f * d) (g * a + i * c) (g * b + i * d)) h := by
  unfold f_worked d_worked
  have dr : drop h (mat (e * a + f * c) (e * b + f * d) (g * a + i * c) (g * b + i * d)) (h ++ [MO.lst [pr (e * a + f * c) (e * b + f * d), pr (g * a + i * c) (g * b + i * d)]] ++ [MO.lst [fr (e * a + f * c), fr (e * b + f * d)]] ++ [MO.lst [fr (g * a + i * c), fr (g * b + i * d)]]) = h := by
    rw [List.append_assoc, List.append_assoc]
    exact drop_app (bel_mat _ _ _ _ _)
  simp only [b_ok, b_ex, b_bad, o_ok, o_ex, o_bad, n_ok, s_seq, s_nx, s_rt, s_bk, s_ct, s_ex, e_var, e_c, e_bin, e_un, e_blt, e_if, e_and, e_or, e_chain, a_nil, a_cons, e_tup, e_lst, e_call, e_callK, e_met, e_sl, g_nx, g_expr, g_ret, g_retN, g_bk, g_ct, g_if, g_asg, g_par, g_raise, t_name, t_unp, t_nil, t_cons, t_sub, g_for, i_val, i_rng1, i_rng2, e_ref, f_rt, f_nx, f_ex, drop_id, g_aug, o_iadd, e_lc, w_nil, w_cons, e_yes, i_tup, i_rol, al, lim_eq, Nat.reduceLeDiff, Nat.reduceLT, x_t0, x_t1, x_t2, x_t3, l_tup, l_rol, u_tup, o_cmp, o_add, o_sub, o_neg, o_not, o_abs, o_int, o_max, o_min, q_int, q_nint, q_bl, q_nbl, q_str, q_nstr, fnD, List.map_cons, List.map_nil, List.length_cons, List.length_nil, List.replicate_succ, List.replicate_zero, List.cons_append, List.nil_append, List.append_nil, List.getElem?_cons_zero, List.getElem?_cons_succ, List.getElem?_nil, List.set_cons_zero, List.set_cons_succ, List.zip_cons_cons, List.zip_nil_left, List.foldl_cons, List.foldl_nil, Nat.reduceSub, Nat.reduceAdd, Nat.zero_add, Nat.add_zero, if_true, if_false, reduceIte, ite_true, ite_false, eq_self, and_true, true_and, and_self, decide_true, decide_false, is_int_int, is_int_bl, is_int_str, is_int_tup, is_int_rol, is_int_non, is_bool_int, is_bool_bl, is_bool_str, is_bool_tup, is_bool_rol, is_bool_non, is_tuple_int, is_tuple_bl, is_tuple_str, is_tuple_tup, is_tuple_rol, is_tuple_non, is_str_int, is_str_bl, is_str_str, is_str_tup, is_str_rol, is_str_non, is_list_int, is_list_bl, is_list_str, is_list_tup, is_list_rol, is_list_non, Bool.not_true, Bool.not_false, forA, two_nat, two_rng, rng2, times_ok he ha (by omega), times_ok he hb (by omega), times_ok hf hc (by omega), times_ok hf hd (by omega), times_ok hg ha (by omega), times_ok hg hb (by omega), times_ok hi hc (by omega), times_ok hi hd (by omega), plus_ok (sm_mul he ha) (sm_mul hf hc) hs, plus_ok (sm_mul he hb) (sm_mul hf hd) hs, plus_ok (sm_mul hg ha) (sm_mul hi hc) hs, plus_ok (sm_mul hg hb) (sm_mul hi hd) hs, m_app1, m_app2, m_app3, isl1, isl2, isl3, m_tup1, m_tup3, dr]
/-! ### the matrix of a row -/
def pmat : Kd × Rat → D
  | (.gap, q) => mat 1 q 0 1
  | (.lens, q) => mat 1 0 (-q) 1
  | (.stop, _) => mat 1 0 0 1
def colm (s t : Rat × Rat) : D := mat s.1 t.1 s.2 t.2
def rmat (ps : List (Kd × Rat)) : D := colm (outP ps (1, 0)) (outP ps (0, 1))
theorem same_mat : k_SAME = mat 1 0 0 1 := rfl
theorem part_matrix_ok (p : Kd × Rat) (h : DH) : f_part_matrix [prt p] h = .ok (pmat p) h := by
  obtain ⟨k, q⟩ := p
  unfold f_part_matrix d_part_matrix prt
  cases k
  · simp only [b_ok, b_ex, b_bad, o_ok, o_ex, o_bad, n_ok, s_seq, s_nx, s_rt, s_bk, s_ct, s_ex, e_var, e_c, e_bin, e_un, e_blt, e_if, e_and, e_or, e_chain, a_nil, a_cons, e_tup, e_lst, e_call, e_callK, e_met, e_sl, g_nx, g_expr, g_ret, g_retN, g_bk, g_ct, g_if, g_asg, g_par, g_raise, t_name, t_unp, t_nil, t_cons, t_sub, g_for, i_val, i_rng1, i_rng2, e_ref, f_rt, f_nx, f_ex, drop_id, g_aug, o_iadd, e_lc, w_nil, w_cons, e_yes, i_tup, i_rol, al, lim_eq, Nat.reduceLeDiff, Nat.reduceLT, x_t0, x_t1, x_t2, x_t3, l_tup, l_rol, u_tup, o_cmp, o_add, o_sub, o_neg, o_not, o_abs, o_int, o_max, o_min, q_int, q_nint, q_bl, q_nbl, q_str, q_nstr, fnD, List.map_cons, List.map_nil, List.length_cons, List.length_nil, List.replicate_succ, List.replicate_zero, List.cons_append, List.nil_append, List.append_nil, List.getElem?_cons_zero, List.getElem?_cons_succ, List.getElem?_nil, List.set_cons_zero, List.set_cons_succ, List.zip_cons_cons, List.zip_nil_left, List.foldl_cons, List.foldl_nil, Nat.reduceSub, Nat.reduceAdd, Nat.zero_add, Nat.add_zero, if_true, if_false, reduceIte, ite_true, ite_false, eq_self, and_true, true_and, and_self, decide_true, decide_false, is_int_int, is_int_bl, is_int_str, is_int_tup, is_int_rol, is_int_non, is_bool_int, is_bool_bl, is_bool_str, is_bool_tup, is_bool_rol, is_bool_non, is_tuple_int, is_tuple_bl, is_tuple_str, is_tuple_tup, is_tuple_rol, is_tuple_non, is_str_int, is_str_bl, is_str_str, is_str_tup, is_str_rol, is_str_non, is_list_int, is_list_bl, is_list_str, is_list_tup, is_list_rol, is_list_non, Bool.not_true, Bool.not_false, Kd.s, one_fr, zero_fr, pmat]
  · simp only [b_ok, b_ex, b_bad, o_ok, o_ex, o_bad, n_ok, s_seq, s_nx, s_rt, s_bk, s_ct, s_ex, e_var, e_c, e_bin, e_un, e_blt, e_if, e_and, e_or, e_chain, a_nil, a_cons, e_tup, e_lst, e_call, e_callK, e_met, e_sl, g_nx, g_expr, g_ret, g_retN, g_bk, g_ct, g_if, g_asg, g_par, g_raise, t_name, t_unp, t_nil, t_cons, t_sub, g_for, i_val, i_rng1, i_rng2, e_ref, f_rt, f_nx, f_ex, drop_id, g_aug, o_iadd, e_lc, w_nil, w_cons, e_yes, i_tup, i_rol, al, lim_eq, Nat.reduceLeDiff, Nat.reduceLT, x_t0, x_t1, x_t2, x_t3, l_tup, l_rol, u_tup, o_cmp, o_add, o_sub, o_neg, o_not, o_abs, o_int, o_max, o_min, q_int, q_nint, q_bl, q_nbl, q_str, q_nstr, fnD, List.map_cons, List.map_nil, List.length_cons, List.length_nil, List.replicate_succ, List.replicate_zero, List.cons_append, List.nil_append, List.append_nil, List.getElem?_cons_zero, List.getElem?_cons_succ, List.getElem?_nil, List.set_cons_zero, List.set_cons_succ, List.zip_cons_cons, List.zip_nil_left, List.foldl_cons, List.foldl_nil, Nat.reduceSub, Nat.reduceAdd, Nat.zero_add, Nat.add_zero, if_true, if_false, reduceIte, ite_true, ite_false, eq_self, and_true, true_and, and_self, decide_true, decide_false, is_int_int, is_int_bl, is_int_str, is_int_tup, is_int_rol, is_int_non, is_bool_int, is_bool_bl, is_bool_str, is_bool_tup, is_bool_rol, is_bool_non, is_tuple_int, is_tuple_bl, is_tuple_str, is_tuple_tup, is_tuple_rol, is_tuple_non, is_str_int, is_str_bl, is_str_str, is_str_tup, is_str_rol, is_str_non, is_list_int, is_list_bl, is_list_str, is_list_tup, is_list_rol, is_list_non, Bool.not_true, Bool.not_false, Kd.s, k_lg, one_fr, zero_fr, negative_ok, pmat]
  · simp only [b_ok, b_ex, b_bad, o_ok, o_ex, o_bad, n_ok, s_seq, s_nx, s_rt, s_bk, s_ct, s_ex, e_var, e_c, e_bin, e_un, e_blt, e_if, e_and, e_or, e_chain, a_nil, a_cons, e_tup, e_lst, e_call, e_callK, e_met, e_sl, g_nx, g_expr, g_ret, g_retN, g_bk, g_ct, g_if, g_asg, g_par, g_raise, t_name, t_unp, t_nil, t_cons, t_sub, g_for, i_val, i_rng1, i_rng2, e_ref, f_rt, f_nx, f_ex, drop_id, g_aug, o_iadd, e_lc, w_nil, w_cons, e_yes, i_tup, i_rol, al, lim_eq, Nat.reduceLeDiff, Nat.reduceLT, x_t0, x_t1, x_t2, x_t3, l_tup, l_rol, u_tup, o_cmp, o_add, o_sub, o_neg, o_not, o_abs, o_int, o_max, o_min, q_int, q_nint, q_bl, q_nbl, q_str, q_nstr, fnD, List.map_cons, List.map_nil, List.length_cons, List.length_nil, List.replicate_succ, List.replicate_zero, List.cons_append, List.nil_append, List.append_nil, List.getElem?_cons_zero, List.getElem?_cons_succ, List.getElem?_nil, List.set_cons_zero, List.set_cons_succ, List.zip_cons_cons, List.zip_nil_left, List.foldl_cons, List.foldl_nil, Nat.reduceSub, Nat.reduceAdd, Nat.zero_add, Nat.add_zero, if_true, if_false, reduceIte, ite_true, ite_false, eq_self, and_true, true_and, and_self, decide_true, decide_false, is_int_int, is_int_bl, is_int_str, is_int_tup, is_int_rol, is_int_non, is_bool_int, is_bool_bl, is_bool_str, is_bool_tup, is_bool_rol, is_bool_non, is_tuple_int, is_tuple_bl, is_tuple_str, is_tuple_tup, is_tuple_rol, is_tuple_non, is_str_int, is_str_bl, is_str_str, is_str_tup, is_str_rol, is_str_non, is_list_int, is_list_bl, is_list_str, is_list_tup, is_list_rol, is_list_non, Bool.not_true, Bool.not_false, Kd.s, k_sg, k_sl, same_mat, pmat]
theorem worked_part {p : Kd × Rat} {s t : Rat × Rat} {n j : Nat} (hp : sm n p.2) (cs : cd j s) (ct : cd j t) (hs : (n + 1 + j) + (n + 1 + j) ≤ 8999) (h : DH) : f_worked [colm s t, pmat p] h = .ok (colm (stepP p s) (stepP p t)) h := by
  have s1 := cs.fst
  have s2 := cs.snd
  have t1 := ct.fst
  have t2 := ct.snd
  have o := sm_one.mono (show 1 ≤ n + 1 by omega)
  have z := sm_zero.mono (show 1 ≤ n + 1 by omega)
  have hq := hp.mono (show n ≤ n + 1 by omega)
  obtain ⟨k, q⟩ := p
  have hq' : sm (n + 1) q := hq
  cases k
  · unfold colm pmat
    rw [worked_ok s1 t1 s2 t2 o hq' z o (by omega)]
    have e1 : 1 * s.1 + q * s.2 = (stepP (.gap, q) s).1 := by simp only [stepP]; grind
    have e2 : 1 * t.1 + q * t.2 = (stepP (.gap, q) t).1 := by simp only [stepP]; grind
    have e3 : 0 * s.1 + 1 * s.2 = (stepP (.gap, q) s).2 := by simp only [stepP]; grind
    have e4 : 0 * t.1 + 1 * t.2 = (stepP (.gap, q) t).2 := by simp only [stepP]; grind
    rw [e1, e2, e3, e4]
  · unfold colm pmat
    rw [worked_ok s1 t1 s2 t2 o z (sm_neg hq') o (by omega)]
    have e1 : 1 * s.1 + 0 * s.2 = (stepP (.lens, q) s).1 := by simp only [stepP]; grind
    have e2 : 1 * t.1 + 0 * t.2 = (stepP (.lens, q) t).1 := by simp only [stepP]; grind
    have e3 : -q * s.1 + 1 * s.2 = (stepP (.lens, q) s).2 := by simp only [stepP]; grind
    have e4 : -q * t.1 + 1 * t.2 = (stepP (.lens, q) t).2 := by simp only [stepP]; grind
    rw [e1, e2, e3, e4]
  · unfold colm pmat
    rw [worked_ok s1 t1 s2 t2 o z z o (by omega)]
    have e1 : 1 * s.1 + 0 * s.2 = (stepP (.stop, q) s).1 := by simp only [stepP]; grind
    have e2 : 1 * t.1 + 0 * t.2 = (stepP (.stop, q) t).1 := by simp only [stepP]; grind
    have e3 : 0 * s.1 + 1 * s.2 = (stepP (.stop, q) s).2 := by simp only [stepP]; grind
    have e4 : 0 * t.1 + 1 * t.2 = (stepP (.stop, q) t).2 := by simp only [stepP]; grind
    rw [e1, e2, e3, e4]
theorem cd_10 : cd 2 (1, 0) := cd_of sm_one sm_zero
theorem cd_01 : cd 2 (0, 1) := cd_of sm_zero sm_one
theorem matrix_of_ok {ps : List (Kd × Rat)} (hp : ∀ p ∈ ps, okP p) (hl : ps.length ≤ 24) (h : DH) : f_matrix_of [row ps] h = .ok (rmat ps) h := by
  unfold f_matrix_of d_matrix_of
  simp only [b_ok, b_ex, b_bad, o_ok, o_ex, o_bad, n_ok, s_seq, s_nx, s_rt, s_bk, s_ct, s_ex, e_var, e_c, e_bin, e_un, e_blt, e_if, e_and, e_or, e_chain, a_nil, a_cons, e_tup, e_lst, e_call, e_callK, e_met, e_sl, g_nx, g_expr, g_ret, g_retN, g_bk, g_ct, g_if, g_asg, g_par, g_raise, t_name, t_unp, t_nil, t_cons, t_sub, g_for, i_val, i_rng1, i_rng2, e_ref, f_rt, f_nx, f_ex, drop_id, g_aug, o_iadd, e_lc, w_nil, w_cons, e_yes, i_tup, i_rol, al, lim_eq, Nat.reduceLeDiff, Nat.reduceLT, x_t0, x_t1, x_t2, x_t3, l_tup, l_rol, u_tup, o_cmp, o_add, o_sub, o_neg, o_not, o_abs, o_int, o_max, o_min, q_int, q_nint, q_bl, q_nbl, q_str, q_nstr, fnD, List.map_cons, List.map_nil, List.length_cons, List.length_nil, List.replicate_succ, List.replicate_zero, List.cons_append, List.nil_append, List.append_nil, List.getElem?_cons_zero, List.getElem?_cons_succ, List.getElem?_nil, List.set_cons_zero, List.set_cons_succ, List.zip_cons_cons, List.zip_nil_left, List.foldl_cons, List.foldl_nil, Nat.reduceSub, Nat.reduceAdd, Nat.zero_add, Nat.add_zero, if_true, if_false, reduceIte, ite_true, ite_false, eq_self, and_true, true_and, and_self, decide_true, decide_false, is_int_int, is_int_bl, is_int_str, is_int_tup, is_int_rol, is_int_non, is_bool_int, is_bool_bl, is_bool_str, is_bool_tup, is_bool_rol, is_bool_non, is_tuple_int, is_tuple_bl, is_tuple_str, is_tuple_tup, is_tuple_rol, is_tuple_non, is_str_int, is_str_bl, is_str_str, is_str_tup, is_str_rol, is_str_non, is_list_int, is_list_bl, is_list_str, is_list_tup, is_list_rol, is_list_non, Bool.not_true, Bool.not_false]
  refine forA_rule (fun t ρ g => g = h ∧ ∃ (us : List (Kd × Rat)) (s t' : Rat × Rat) (j : Nat) (w : Option D), t = us.map prt ∧ (∀ p ∈ us, okP p) ∧ outP us s = outP ps (1, 0) ∧ outP us t' = outP ps (0, 1) ∧ cd j s ∧ cd j t' ∧ j + 41 * us.length ≤ 1064 ∧ ρ = [some (row ps), some (colm s t'), w])
    (fun t => DL.finish h (sq t (gRet (eVar 1))) = .ok (rmat ps) h) ?_ ?_ _ _ _ ⟨rfl, ps, (1, 0), (0, 1), 2, none, rfl, hp, rfl, rfl, cd_10, cd_01, by omega, rfl⟩
  · rintro x t ρ g ⟨rfl, us, s, t', j, w, e, hu, e1, e2, c1, c2, hz, rfl⟩
    match us, e with
    | u :: us, e =>
      simp only [List.map_cons, List.cons.injEq] at e
      obtain ⟨rfl, rfl⟩ := e
      have gu := hu u List.mem_cons_self
      simp only [List.length_cons] at hz
      refine ⟨_, _, t_name, ?_⟩
      simp only [b_ok, b_ex, b_bad, o_ok, o_ex, o_bad, n_ok, s_seq, s_nx, s_rt, s_bk, s_ct, s_ex, e_var, e_c, e_bin, e_un, e_blt, e_if, e_and, e_or, e_chain, a_nil, a_cons, e_tup, e_lst, e_call, e_callK, e_met, e_sl, g_nx, g_expr, g_ret, g_retN, g_bk, g_ct, g_if, g_asg, g_par, g_raise, t_name, t_unp, t_nil, t_cons, t_sub, g_for, i_val, i_rng1, i_rng2, e_ref, f_rt, f_nx, f_ex, drop_id, g_aug, o_iadd, e_lc, w_nil, w_cons, e_yes, i_tup, i_rol, al, lim_eq, Nat.reduceLeDiff, Nat.reduceLT, x_t0, x_t1, x_t2, x_t3, l_tup, l_rol, u_tup, o_cmp, o_add, o_sub, o_neg, o_not, o_abs, o_int, o_max, o_min, q_int, q_nint, q_bl, q_nbl, q_str, q_nstr, fnD, List.map_cons, List.map_nil, List.length_cons, List.length_nil, List.replicate_succ, List.replicate_zero, List.cons_append, List.nil_append, List.append_nil, List.getElem?_cons_zero, List.getElem?_cons_succ, List.getElem?_nil, List.set_cons_zero, List.set_cons_succ, List.zip_cons_cons, List.zip_nil_left, List.foldl_cons, List.foldl_nil, Nat.reduceSub, Nat.reduceAdd, Nat.zero_add, Nat.add_zero, if_true, if_false, reduceIte, ite_true, ite_false, eq_self, and_true, true_and, and_self, decide_true, decide_false, is_int_int, is_int_bl, is_int_str, is_int_tup, is_int_rol, is_int_non, is_bool_int, is_bool_bl, is_bool_str, is_bool_tup, is_bool_rol, is_bool_non, is_tuple_int, is_tuple_bl, is_tuple_str, is_tuple_tup, is_tuple_rol, is_tuple_non, is_str_int, is_str_bl, is_str_str, is_str_tup, is_str_rol, is_str_non, is_list_int, is_list_bl, is_list_str, is_list_tup, is_list_rol, is_list_non, Bool.not_true, Bool.not_false, part_matrix_ok, worked_part gu.g.sm c1 c2 (by omega)]
      exact ⟨us, stepP u s, stepP u t', j + 40 + 1, _, rfl, fun p hp' => hu p (List.mem_cons_of_mem _ hp'), e1, e2, cd_step gu.g.sm c1, cd_step gu.g.sm c2, by omega, rfl⟩
  · rintro ρ g ⟨rfl, us, s, t', j, w, e, hu, e1, e2, c1, c2, hz, rfl⟩
    have : us = [] := by
      cases us with
      | nil => rfl
      | cons a b => cases e
    subst this
    have e1' : s = outP ps (1, 0) := e1
    have e2' : t' = outP ps (0, 1) := e2
    subst e1' e2'
    simp only [b_ok, b_ex, b_bad, o_ok, o_ex, o_bad, n_ok, s_seq, s_nx, s_rt, s_bk, s_ct, s_ex, e_var, e_c, e_bin, e_un, e_blt, e_if, e_and, e_or, e_chain, a_nil, a_cons, e_tup, e_lst, e_call, e_callK, e_met, e_sl, g_nx, g_expr, g_ret, g_retN, g_bk, g_ct, g_if, g_asg, g_par, g_raise, t_name, t_unp, t_nil, t_cons, t_sub, g_for, i_val, i_rng1, i_rng2, e_ref, f_rt, f_nx, f_ex, drop_id, g_aug, o_iadd, e_lc, w_nil, w_cons, e_yes, i_tup, i_rol, al, lim_eq, Nat.reduceLeDiff, Nat.reduceLT, x_t0, x_t1, x_t2, x_t3, l_tup, l_rol, u_tup, o_cmp, o_add, o_sub, o_neg, o_not, o_abs, o_int, o_max, o_min, q_int, q_nint, q_bl, q_nbl, q_str, q_nstr, fnD, List.map_cons, List.map_nil, List.length_cons, List.length_nil, List.replicate_succ, List.replicate_zero, List.cons_append, List.nil_append, List.append_nil, List.getElem?_cons_zero, List.getElem?_cons_succ, List.getElem?_nil, List.set_cons_zero, List.set_cons_succ, List.zip_cons_cons, List.zip_nil_left, List.foldl_cons, List.foldl_nil, Nat.reduceSub, Nat.reduceAdd, Nat.zero_add, Nat.add_zero, if_true, if_false, reduceIte, ite_true, ite_false, eq_self, and_true, true_and, and_self, decide_true, decide_false, is_int_int, is_int_bl, is_int_str, is_int_tup, is_int_rol, is_int_non, is_bool_int, is_bool_bl, is_bool_str, is_bool_tup, is_bool_rol, is_bool_non, is_tuple_int, is_tuple_bl, is_tuple_str, is_tuple_tup, is_tuple_rol, is_tuple_non, is_str_int, is_str_bl, is_str_str, is_str_tup, is_str_rol, is_str_non, is_list_int, is_list_bl, is_list_str, is_list_tup, is_list_rol, is_list_non, Bool.not_true, Bool.not_false]
    rfl
theorem law_matrix_row {ps : List (Kd × Rat)} (hp : ∀ p ∈ ps, okP p) (hl : ps.length ≤ 12) (h : DH) : f_law_matrix [row ps] h = .ok (rmat ps) h := by
  unfold f_law_matrix d_law_matrix
  have hp40 : ∀ p ∈ ps, sm 40 p.2 := fun p h => (hp p h).g.sm
  have o1 := fun h => law_out_ok (h := h) hp40 cd_10 (by omega)
  have o2 := fun h => law_out_ok (h := h) hp40 cd_01 (by omega)
  simp only [b_ok, b_ex, b_bad, o_ok, o_ex, o_bad, n_ok, s_seq, s_nx, s_rt, s_bk, s_ct, s_ex, e_var, e_c, e_bin, e_un, e_blt, e_if, e_and, e_or, e_chain, a_nil, a_cons, e_tup, e_lst, e_call, e_callK, e_met, e_sl, g_nx, g_expr, g_ret, g_retN, g_bk, g_ct, g_if, g_asg, g_par, g_raise, t_name, t_unp, t_nil, t_cons, t_sub, g_for, i_val, i_rng1, i_rng2, e_ref, f_rt, f_nx, f_ex, drop_id, g_aug, o_iadd, e_lc, w_nil, w_cons, e_yes, i_tup, i_rol, al, lim_eq, Nat.reduceLeDiff, Nat.reduceLT, x_t0, x_t1, x_t2, x_t3, l_tup, l_rol, u_tup, o_cmp, o_add, o_sub, o_neg, o_not, o_abs, o_int, o_max, o_min, q_int, q_nint, q_bl, q_nbl, q_str, q_nstr, fnD, List.map_cons, List.map_nil, List.length_cons, List.length_nil, List.replicate_succ, List.replicate_zero, List.cons_append, List.nil_append, List.append_nil, List.getElem?_cons_zero, List.getElem?_cons_succ, List.getElem?_nil, List.set_cons_zero, List.set_cons_succ, List.zip_cons_cons, List.zip_nil_left, List.foldl_cons, List.foldl_nil, Nat.reduceSub, Nat.reduceAdd, Nat.zero_add, Nat.add_zero, if_true, if_false, reduceIte, ite_true, ite_false, eq_self, and_true, true_and, and_self, decide_true, decide_false, is_int_int, is_int_bl, is_int_str, is_int_tup, is_int_rol, is_int_non, is_bool_int, is_bool_bl, is_bool_str, is_bool_tup, is_bool_rol, is_bool_non, is_tuple_int, is_tuple_bl, is_tuple_str, is_tuple_tup, is_tuple_rol, is_tuple_non, is_str_int, is_str_bl, is_str_str, is_str_tup, is_str_rol, is_str_non, is_list_int, is_list_bl, is_list_str, is_list_tup, is_list_rol, is_list_non, Bool.not_true, Bool.not_false, fr0, fr1, o1, o2, rmat, colm]
/-- rays through matrices -/
theorem out_mat (ps : List (Kd × Rat)) (r : Rat × Rat) : outP ps r = ((outP ps (1, 0)).1 * r.1 + (outP ps (0, 1)).1 * r.2, (outP ps (1, 0)).2 * r.1 + (outP ps (0, 1)).2 * r.2) := by
  have e1 := out_lin r.2 ps (r.1, 0) (0, 1)
  have e2 := out_lin r.1 ps (0, 0) (1, 0)
  have e3 := out_lin (-1) ps (0, 0) (0, 0)
  have z1 : ((r.1, (0 : Rat)).1 + r.2 * ((0 : Rat), (1 : Rat)).1, (r.1, (0 : Rat)).2 + r.2 * ((0 : Rat), (1 : Rat)).2) = r := Prod.ext (by grind) (by grind)
  have z2 : (((0 : Rat), (0 : Rat)).1 + r.1 * ((1 : Rat), (0 : Rat)).1, ((0 : Rat), (0 : Rat)).2 + r.1 * ((1 : Rat), (0 : Rat)).2) = (r.1, 0) := Prod.ext (by grind) (by grind)
  have z3 : (((0 : Rat), (0 : Rat)).1 + -1 * ((0 : Rat), (0 : Rat)).1, ((0 : Rat), (0 : Rat)).2 + -1 * ((0 : Rat), (0 : Rat)).2) = (0, 0) := Prod.ext (by grind) (by grind)
  rw [z1] at e1
  rw [z2] at e2
  rw [z3] at e3
  rw [e1, e2]
  have k1 := congrArg Prod.fst e3
  have k2 := congrArg Prod.snd e3
  simp only at k1 k2
  refine Prod.ext ?_ ?_ <;> grind
/-! ### what is no matrix -/
section
variable {n : Str} {h : DH} {a b c d : Rat}
theorem need_matrix_bad0 (hn : okName (.str n) = true) : f_need_matrix [.non, .str n] h = .ex 0 (.str n) h := by
  unfold f_need_matrix d_need_matrix
  simp only [b_ok, b_ex, b_bad, o_ok, o_ex, o_bad, n_ok, s_seq, s_nx, s_rt, s_bk, s_ct, s_ex, e_var, e_c, e_bin, e_un, e_blt, e_if, e_and, e_or, e_chain, a_nil, a_cons, e_tup, e_lst, e_call, e_callK, e_met, e_sl, g_nx, g_expr, g_ret, g_retN, g_bk, g_ct, g_if, g_asg, g_par, g_raise, t_name, t_unp, t_nil, t_cons, t_sub, g_for, i_val, i_rng1, i_rng2, e_ref, f_rt, f_nx, f_ex, drop_id, g_aug, o_iadd, e_lc, w_nil, w_cons, e_yes, i_tup, i_rol, al, lim_eq, Nat.reduceLeDiff, Nat.reduceLT, x_t0, x_t1, x_t2, x_t3, l_tup, l_rol, u_tup, o_cmp, o_add, o_sub, o_neg, o_not, o_abs, o_int, o_max, o_min, q_int, q_nint, q_bl, q_nbl, q_str, q_nstr, fnD, List.map_cons, List.map_nil, List.length_cons, List.length_nil, List.replicate_succ, List.replicate_zero, List.cons_append, List.nil_append, List.append_nil, List.getElem?_cons_zero, List.getElem?_cons_succ, List.getElem?_nil, List.set_cons_zero, List.set_cons_succ, List.zip_cons_cons, List.zip_nil_left, List.foldl_cons, List.foldl_nil, Nat.reduceSub, Nat.reduceAdd, Nat.zero_add, Nat.add_zero, if_true, if_false, reduceIte, ite_true, ite_false, eq_self, and_true, true_and, and_self, decide_true, decide_false, is_int_int, is_int_bl, is_int_str, is_int_tup, is_int_rol, is_int_non, is_bool_int, is_bool_bl, is_bool_str, is_bool_tup, is_bool_rol, is_bool_non, is_tuple_int, is_tuple_bl, is_tuple_str, is_tuple_tup, is_tuple_rol, is_tuple_non, is_str_int, is_str_bl, is_str_str, is_str_tup, is_str_rol, is_str_non, is_list_int, is_list_bl, is_list_str, is_list_tup, is_list_rol, is_list_non, Bool.not_true, Bool.not_false, hn]
theorem need_matrix_bad1 {k : Nat} {xs : List D} (hn : okName (.str n) = true) (q : h[k]? = some (.lst xs)) : f_need_matrix [.obj k, .str n] h = .ex 0 (.str n) h := by
  unfold f_need_matrix d_need_matrix
  simp only [b_ok, b_ex, b_bad, o_ok, o_ex, o_bad, n_ok, s_seq, s_nx, s_rt, s_bk, s_ct, s_ex, e_var, e_c, e_bin, e_un, e_blt, e_if, e_and, e_or, e_chain, a_nil, a_cons, e_tup, e_lst, e_call, e_callK, e_met, e_sl, g_nx, g_expr, g_ret, g_retN, g_bk, g_ct, g_if, g_asg, g_par, g_raise, t_name, t_unp, t_nil, t_cons, t_sub, g_for, i_val, i_rng1, i_rng2, e_ref, f_rt, f_nx, f_ex, drop_id, g_aug, o_iadd, e_lc, w_nil, w_cons, e_yes, i_tup, i_rol, al, lim_eq, Nat.reduceLeDiff, Nat.reduceLT, x_t0, x_t1, x_t2, x_t3, l_tup, l_rol, u_tup, o_cmp, o_add, o_sub, o_neg, o_not, o_abs, o_int, o_max, o_min, q_int, q_nint, q_bl, q_nbl, q_str, q_nstr, fnD, List.map_cons, List.map_nil, List.length_cons, List.length_nil, List.replicate_succ, List.replicate_zero, List.cons_append, List.nil_append, List.append_nil, List.getElem?_cons_zero, List.getElem?_cons_succ, List.getElem?_nil, List.set_cons_zero, List.set_cons_succ, List.zip_cons_cons, List.zip_nil_left, List.foldl_cons, List.foldl_nil, Nat.reduceSub, Nat.reduceAdd, Nat.zero_add, Nat.add_zero, if_true, if_false, reduceIte, ite_true, ite_false, eq_self, and_true, true_and, and_self, decide_true, decide_false, is_int_int, is_int_bl, is_int_str, is_int_tup, is_int_rol, is_int_non, is_bool_int, is_bool_bl, is_bool_str, is_bool_tup, is_bool_rol, is_bool_non, is_tuple_int, is_tuple_bl, is_tuple_str, is_tuple_tup, is_tuple_rol, is_tuple_non, is_str_int, is_str_bl, is_str_str, is_str_tup, is_str_rol, is_str_non, is_list_int, is_list_bl, is_list_str, is_list_tup, is_list_rol, is_list_non, Bool.not_true, Bool.not_false, hn, is_tuple_obj q]
theorem need_matrix_len {xs : List D} (hn : okName (.str n) = true) (hx : xs.length ≠ 2) : f_need_matrix [.tup xs, .str n] h = .ex 0 (.str n) h := by
  unfold f_need_matrix d_need_matrix
  have e : (((xs.length : Nat) : Int) = 2) = False := eq_false (by omega)
  simp only [b_ok, b_ex, b_bad, o_ok, o_ex, o_bad, n_ok, s_seq, s_nx, s_rt, s_bk, s_ct, s_ex, e_var, e_c, e_bin, e_un, e_blt, e_if, e_and, e_or, e_chain, a_nil, a_cons, e_tup, e_lst, e_call, e_callK, e_met, e_sl, g_nx, g_expr, g_ret, g_retN, g_bk, g_ct, g_if, g_asg, g_par, g_raise, t_name, t_unp, t_nil, t_cons, t_sub, g_for, i_val, i_rng1, i_rng2, e_ref, f_rt, f_nx, f_ex, drop_id, g_aug, o_iadd, e_lc, w_nil, w_cons, e_yes, i_tup, i_rol, al, lim_eq, Nat.reduceLeDiff, Nat.reduceLT, x_t0, x_t1, x_t2, x_t3, l_tup, l_rol, u_tup, o_cmp, o_add, o_sub, o_neg, o_not, o_abs, o_int, o_max, o_min, q_int, q_nint, q_bl, q_nbl, q_str, q_nstr, fnD, List.map_cons, List.map_nil, List.length_cons, List.length_nil, List.replicate_succ, List.replicate_zero, List.cons_append, List.nil_append, List.append_nil, List.getElem?_cons_zero, List.getElem?_cons_succ, List.getElem?_nil, List.set_cons_zero, List.set_cons_succ, List.zip_cons_cons, List.zip_nil_left, List.foldl_cons, List.foldl_nil, Nat.reduceSub, Nat.reduceAdd, Nat.zero_add, Nat.add_zero, if_true, if_false, reduceIte, ite_true, ite_false, eq_self, and_true, true_and, and_self, decide_true, decide_false, is_int_int, is_int_bl, is_int_str, is_int_tup, is_int_rol, is_int_non, is_bool_int, is_bool_bl, is_bool_str, is_bool_tup, is_bool_rol, is_bool_non, is_tuple_int, is_tuple_bl, is_tuple_str, is_tuple_tup, is_tuple_rol, is_tuple_non, is_str_int, is_str_bl, is_str_str, is_str_tup, is_str_rol, is_str_non, is_list_int, is_list_bl, is_list_str, is_list_tup, is_list_rol, is_list_non, Bool.not_true, Bool.not_false, hn, e]
theorem need_matrix_one (hn : okName (.str n) = true) (ha : good a) (hb : good b) (hc : good c) : f_need_matrix [.tup [.tup [fr a, fr b], .tup [fr c, .int 1]], .str n] h = .ex 0 (.str n) h := by
  unfold f_need_matrix d_need_matrix
  have e1 : isNum (.int 1) = false := rfl
  simp only [b_ok, b_ex, b_bad, o_ok, o_ex, o_bad, n_ok, s_seq, s_nx, s_rt, s_bk, s_ct, s_ex, e_var, e_c, e_bin, e_un, e_blt, e_if, e_and, e_or, e_chain, a_nil, a_cons, e_tup, e_lst, e_call, e_callK, e_met, e_sl, g_nx, g_expr, g_ret, g_retN, g_bk, g_ct, g_if, g_asg, g_par, g_raise, t_name, t_unp, t_nil, t_cons, t_sub, g_for, i_val, i_rng1, i_rng2, e_ref, f_rt, f_nx, f_ex, drop_id, g_aug, o_iadd, e_lc, w_nil, w_cons, e_yes, i_tup, i_rol, al, lim_eq, Nat.reduceLeDiff, Nat.reduceLT, x_t0, x_t1, x_t2, x_t3, l_tup, l_rol, u_tup, o_cmp, o_add, o_sub, o_neg, o_not, o_abs, o_int, o_max, o_min, q_int, q_nint, q_bl, q_nbl, q_str, q_nstr, fnD, List.map_cons, List.map_nil, List.length_cons, List.length_nil, List.replicate_succ, List.replicate_zero, List.cons_append, List.nil_append, List.append_nil, List.getElem?_cons_zero, List.getElem?_cons_succ, List.getElem?_nil, List.set_cons_zero, List.set_cons_succ, List.zip_cons_cons, List.zip_nil_left, List.foldl_cons, List.foldl_nil, Nat.reduceSub, Nat.reduceAdd, Nat.zero_add, Nat.add_zero, if_true, if_false, reduceIte, ite_true, ite_false, eq_self, and_true, true_and, and_self, decide_true, decide_false, is_int_int, is_int_bl, is_int_str, is_int_tup, is_int_rol, is_int_non, is_bool_int, is_bool_bl, is_bool_str, is_bool_tup, is_bool_rol, is_bool_non, is_tuple_int, is_tuple_bl, is_tuple_str, is_tuple_tup, is_tuple_rol, is_tuple_non, is_str_int, is_str_bl, is_str_str, is_str_tup, is_str_rol, is_str_non, is_list_int, is_list_bl, is_list_str, is_list_tup, is_list_rol, is_list_non, Bool.not_true, Bool.not_false, hn, two2, forA, is_small_ok (fr_flat a), is_small_ok (fr_flat b), is_small_ok (fr_flat c), good_num ha, good_num hb, good_num hc, is_small_ok (show flat (.int 1) = true from rfl), e1]
theorem need_matrix_three (hn : okName (.str n) = true) : f_need_matrix [.tup [.tup [fr a, fr b, fr b], .tup [fr c, fr d]], .str n] h = .ex 0 (.str n) h := by
  unfold f_need_matrix d_need_matrix
  have e : (((3 : Nat) : Int) = 2) = False := by simp
  simp only [b_ok, b_ex, b_bad, o_ok, o_ex, o_bad, n_ok, s_seq, s_nx, s_rt, s_bk, s_ct, s_ex, e_var, e_c, e_bin, e_un, e_blt, e_if, e_and, e_or, e_chain, a_nil, a_cons, e_tup, e_lst, e_call, e_callK, e_met, e_sl, g_nx, g_expr, g_ret, g_retN, g_bk, g_ct, g_if, g_asg, g_par, g_raise, t_name, t_unp, t_nil, t_cons, t_sub, g_for, i_val, i_rng1, i_rng2, e_ref, f_rt, f_nx, f_ex, drop_id, g_aug, o_iadd, e_lc, w_nil, w_cons, e_yes, i_tup, i_rol, al, lim_eq, Nat.reduceLeDiff, Nat.reduceLT, x_t0, x_t1, x_t2, x_t3, l_tup, l_rol, u_tup, o_cmp, o_add, o_sub, o_neg, o_not, o_abs, o_int, o_max, o_min, q_int, q_nint, q_bl, q_nbl, q_str, q_nstr, fnD, List.map_cons, List.map_nil, List.length_cons, List.length_nil, List.replicate_succ, List.replicate_zero, List.cons_append, List.nil_append, List.append_nil, List.getElem?_cons_zero, List.getElem?_cons_succ, List.getElem?_nil, List.set_cons_zero, List.set_cons_succ, List.zip_cons_cons, List.zip_nil_left, List.foldl_cons, List.foldl_nil, Nat.reduceSub, Nat.reduceAdd, Nat.zero_add, Nat.add_zero, if_true, if_false, reduceIte, ite_true, ite_false, eq_self, and_true, true_and, and_self, decide_true, decide_false, is_int_int, is_int_bl, is_int_str, is_int_tup, is_int_rol, is_int_non, is_bool_int, is_bool_bl, is_bool_str, is_bool_tup, is_bool_rol, is_bool_non, is_tuple_int, is_tuple_bl, is_tuple_str, is_tuple_tup, is_tuple_rol, is_tuple_non, is_str_int, is_str_bl, is_str_str, is_str_tup, is_str_rol, is_str_non, is_list_int, is_list_bl, is_list_str, is_list_tup, is_list_rol, is_list_non, Bool.not_true, Bool.not_false, hn, two2, forA, e]
theorem need_matrix_det (hn : okName (.str n) = true) (ha : good a) (hb : good b) (hc : good c) (det : a * d - b * c ≠ 1) : f_need_matrix [mat a b c d, .str n] h = .ex 0 (.str n) h := by
  unfold f_need_matrix d_need_matrix
  by_cases hd : good d
  · simp only [b_ok, b_ex, b_bad, o_ok, o_ex, o_bad, n_ok, s_seq, s_nx, s_rt, s_bk, s_ct, s_ex, e_var, e_c, e_bin, e_un, e_blt, e_if, e_and, e_or, e_chain, a_nil, a_cons, e_tup, e_lst, e_call, e_callK, e_met, e_sl, g_nx, g_expr, g_ret, g_retN, g_bk, g_ct, g_if, g_asg, g_par, g_raise, t_name, t_unp, t_nil, t_cons, t_sub, g_for, i_val, i_rng1, i_rng2, e_ref, f_rt, f_nx, f_ex, drop_id, g_aug, o_iadd, e_lc, w_nil, w_cons, e_yes, i_tup, i_rol, al, lim_eq, Nat.reduceLeDiff, Nat.reduceLT, x_t0, x_t1, x_t2, x_t3, l_tup, l_rol, u_tup, o_cmp, o_add, o_sub, o_neg, o_not, o_abs, o_int, o_max, o_min, q_int, q_nint, q_bl, q_nbl, q_str, q_nstr, fnD, List.map_cons, List.map_nil, List.length_cons, List.length_nil, List.replicate_succ, List.replicate_zero, List.cons_append, List.nil_append, List.append_nil, List.getElem?_cons_zero, List.getElem?_cons_succ, List.getElem?_nil, List.set_cons_zero, List.set_cons_succ, List.zip_cons_cons, List.zip_nil_left, List.foldl_cons, List.foldl_nil, Nat.reduceSub, Nat.reduceAdd, Nat.zero_add, Nat.add_zero, if_true, if_false, reduceIte, ite_true, ite_false, eq_self, and_true, true_and, and_self, decide_true, decide_false, is_int_int, is_int_bl, is_int_str, is_int_tup, is_int_rol, is_int_non, is_bool_int, is_bool_bl, is_bool_str, is_bool_tup, is_bool_rol, is_bool_non, is_tuple_int, is_tuple_bl, is_tuple_str, is_tuple_tup, is_tuple_rol, is_tuple_non, is_str_int, is_str_bl, is_str_str, is_str_tup, is_str_rol, is_str_non, is_list_int, is_list_bl, is_list_str, is_list_tup, is_list_rol, is_list_non, Bool.not_true, Bool.not_false, hn, two2, forA, is_small_ok (fr_flat a), is_small_ok (fr_flat b), is_small_ok (fr_flat c), is_small_ok (fr_flat d), good_num ha, good_num hb, good_num hc, good_num hd, times_ok ha.sm hd.sm (by omega), times_ok hb.sm hc.sm (by omega), minus_ok (sm_mul ha.sm hd.sm) (sm_mul hb.sm hc.sm) (by omega), one_fr, q_nfr, eq_false det]
  · have e : isNum (fr d) = false := by
      rw [isNum_fr]
      exact goodB_not hd
    simp only [b_ok, b_ex, b_bad, o_ok, o_ex, o_bad, n_ok, s_seq, s_nx, s_rt, s_bk, s_ct, s_ex, e_var, e_c, e_bin, e_un, e_blt, e_if, e_and, e_or, e_chain, a_nil, a_cons, e_tup, e_lst, e_call, e_callK, e_met, e_sl, g_nx, g_expr, g_ret, g_retN, g_bk, g_ct, g_if, g_asg, g_par, g_raise, t_name, t_unp, t_nil, t_cons, t_sub, g_for, i_val, i_rng1, i_rng2, e_ref, f_rt, f_nx, f_ex, drop_id, g_aug, o_iadd, e_lc, w_nil, w_cons, e_yes, i_tup, i_rol, al, lim_eq, Nat.reduceLeDiff, Nat.reduceLT, x_t0, x_t1, x_t2, x_t3, l_tup, l_rol, u_tup, o_cmp, o_add, o_sub, o_neg, o_not, o_abs, o_int, o_max, o_min, q_int, q_nint, q_bl, q_nbl, q_str, q_nstr, fnD, List.map_cons, List.map_nil, List.length_cons, List.length_nil, List.replicate_succ, List.replicate_zero, List.cons_append, List.nil_append, List.append_nil, List.getElem?_cons_zero, List.getElem?_cons_succ, List.getElem?_nil, List.set_cons_zero, List.set_cons_succ, List.zip_cons_cons, List.zip_nil_left, List.foldl_cons, List.foldl_nil, Nat.reduceSub, Nat.reduceAdd, Nat.zero_add, Nat.add_zero, if_true, if_false, reduceIte, ite_true, ite_false, eq_self, and_true, true_and, and_self, decide_true, decide_false, is_int_int, is_int_bl, is_int_str, is_int_tup, is_int_rol, is_int_non, is_bool_int, is_bool_bl, is_bool_str, is_bool_tup, is_bool_rol, is_bool_non, is_tuple_int, is_tuple_bl, is_tuple_str, is_tuple_tup, is_tuple_rol, is_tuple_non, is_str_int, is_str_bl, is_str_str, is_str_tup, is_str_rol, is_str_non, is_list_int, is_list_bl, is_list_str, is_list_tup, is_list_rol, is_list_non, Bool.not_true, Bool.not_false, hn, two2, forA, is_small_ok (fr_flat a), is_small_ok (fr_flat b), is_small_ok (fr_flat c), is_small_ok (fr_flat d), good_num ha, good_num hb, good_num hc, e]
end
theorem inverse_of_ok (a b c d : Rat) (h : DH) : f_inverse_of [mat a b c d] h = .ok (mat d (-b) (-c) a) h := by
  unfold f_inverse_of d_inverse_of
  simp only [b_ok, b_ex, b_bad, o_ok, o_ex, o_bad, n_ok, s_seq, s_nx, s_rt, s_bk, s_ct, s_ex, e_var, e_c, e_bin, e_un, e_blt, e_if, e_and, e_or, e_chain, a_nil, a_cons, e_tup, e_lst, e_call, e_callK, e_met, e_sl, g_nx, g_expr, g_ret, g_retN, g_bk, g_ct, g_if, g_asg, g_par, g_raise, t_name, t_unp, t_nil, t_cons, t_sub, g_for, i_val, i_rng1, i_rng2, e_ref, f_rt, f_nx, f_ex, drop_id, g_aug, o_iadd, e_lc, w_nil, w_cons, e_yes, i_tup, i_rol, al, lim_eq, Nat.reduceLeDiff, Nat.reduceLT, x_t0, x_t1, x_t2, x_t3, l_tup, l_rol, u_tup, o_cmp, o_add, o_sub, o_neg, o_not, o_abs, o_int, o_max, o_min, q_int, q_nint, q_bl, q_nbl, q_str, q_nstr, fnD, List.map_cons, List.map_nil, List.length_cons, List.length_nil, List.replicate_succ, List.replicate_zero, List.cons_append, List.nil_append, List.append_nil, List.getElem?_cons_zero, List.getElem?_cons_succ, List.getElem?_nil, List.set_cons_zero, List.set_cons_succ, List.zip_cons_cons, List.zip_nil_left, List.foldl_cons, List.foldl_nil, Nat.reduceSub, Nat.reduceAdd, Nat.zero_add, Nat.add_zero, if_true, if_false, reduceIte, ite_true, ite_false, eq_self, and_true, true_and, and_self, decide_true, decide_false, is_int_int, is_int_bl, is_int_str, is_int_tup, is_int_rol, is_int_non, is_bool_int, is_bool_bl, is_bool_str, is_bool_tup, is_bool_rol, is_bool_non, is_tuple_int, is_tuple_bl, is_tuple_str, is_tuple_tup, is_tuple_rol, is_tuple_non, is_str_int, is_str_bl, is_str_str, is_str_tup, is_str_rol, is_str_non, is_list_int, is_list_bl, is_list_str, is_list_tup, is_list_rol, is_list_non, Bool.not_true, Bool.not_false, u_tup, negative_ok]
theorem sent_by_ok {a b c d p q : Rat} {n m : Nat} (ha : sm n a) (hb : sm n b) (hc : sm n c) (hd : sm n d) (hp : sm m p) (hq : sm m q) (hl : (n + m) + (n + m) ≤ 8999) (h : DH) : f_sent_by [mat a b c d, pr p q] h = .ok (pr (a * p + b * q) (c * p + d * q)) h := by
  unfold f_sent_by d_sent_by
  simp only [b_ok, b_ex, b_bad, o_ok, o_ex, o_bad, n_ok, s_seq, s_nx, s_rt, s_bk, s_ct, s_ex, e_var, e_c, e_bin, e_un, e_blt, e_if, e_and, e_or, e_chain, a_nil, a_cons, e_tup, e_lst, e_call, e_callK, e_met, e_sl, g_nx, g_expr, g_ret, g_retN, g_bk, g_ct, g_if, g_asg, g_par, g_raise, t_name, t_unp, t_nil, t_cons, t_sub, g_for, i_val, i_rng1, i_rng2, e_ref, f_rt, f_nx, f_ex, drop_id, g_aug, o_iadd, e_lc, w_nil, w_cons, e_yes, i_tup, i_rol, al, lim_eq, Nat.reduceLeDiff, Nat.reduceLT, x_t0, x_t1, x_t2, x_t3, l_tup, l_rol, u_tup, o_cmp, o_add, o_sub, o_neg, o_not, o_abs, o_int, o_max, o_min, q_int, q_nint, q_bl, q_nbl, q_str, q_nstr, fnD, List.map_cons, List.map_nil, List.length_cons, List.length_nil, List.replicate_succ, List.replicate_zero, List.cons_append, List.nil_append, List.append_nil, List.getElem?_cons_zero, List.getElem?_cons_succ, List.getElem?_nil, List.set_cons_zero, List.set_cons_succ, List.zip_cons_cons, List.zip_nil_left, List.foldl_cons, List.foldl_nil, Nat.reduceSub, Nat.reduceAdd, Nat.zero_add, Nat.add_zero, if_true, if_false, reduceIte, ite_true, ite_false, eq_self, and_true, true_and, and_self, decide_true, decide_false, is_int_int, is_int_bl, is_int_str, is_int_tup, is_int_rol, is_int_non, is_bool_int, is_bool_bl, is_bool_str, is_bool_tup, is_bool_rol, is_bool_non, is_tuple_int, is_tuple_bl, is_tuple_str, is_tuple_tup, is_tuple_rol, is_tuple_non, is_str_int, is_str_bl, is_str_str, is_str_tup, is_str_rol, is_str_non, is_list_int, is_list_bl, is_list_str, is_list_tup, is_list_rol, is_list_non, Bool.not_true, Bool.not_false, times_ok ha hp (by omega), times_ok hb hq (by omega), times_ok hc hp (by omega), times_ok hd hq (by omega), plus_ok (sm_mul ha hp) (sm_mul hb hq) (by omega), plus_ok (sm_mul hc hp) (sm_mul hd hq) (by omega)]
end Law
namespace Law
open PySem L2 DL
noncomputable def d_matrix : Ds := (gSeq (gExpr (eCall f_need_row 2 [] (aCons (eVar 0) (aCons (eC (.str "row")) aNil)))) (gRet (eCall f_matrix_of 1 [] (aCons (eVar 0) aNil))))
noncomputable def f_matrix : Fn := fnD 1 d_matrix
noncomputable def d_inverse : Ds := (gSeq (gExpr (eCall f_need_matrix 2 [] (aCons (eVar 0) (aCons (eC (.str "m")) aNil)))) (gRet (eCall f_inverse_of 1 [] (aCons (eVar 0) aNil))))
noncomputable def f_inverse : Fn := fnD 1 d_inverse
noncomputable def d_behind_both : Ds := (gSeq (gExpr (eCall f_need_matrix 2 [] (aCons (eVar 0) (aCons (eC (.str "m")) aNil)))) (gSeq (gExpr (eCall f_need_matrix 2 [] (aCons (eVar 1) (aCons (eC (.str "k")) aNil)))) (gRet (eCall f_worked 2 [] (aCons (eVar 0) (aCons (eVar 1) aNil))))))
noncomputable def f_behind_both : Fn := fnD 2 d_behind_both
noncomputable def d_sent : Ds := (gSeq (gExpr (eCall f_need_matrix 2 [] (aCons (eVar 0) (aCons (eC (.str "m")) aNil)))) (gSeq (gExpr (eCall f_need_ray 2 [] (aCons (eVar 1) (aCons (eC (.str "ray")) aNil)))) (gRet (eCall f_sent_by 2 [] (aCons (eVar 0) (aCons (eVar 1) aNil))))))
noncomputable def f_sent : Fn := fnD 2 d_sent
noncomputable def d_are_alike : Ds := (gSeq (gExpr (eCall f_need_row 2 [] (aCons (eVar 0) (aCons (eC (.str "one")) aNil)))) (gSeq (gExpr (eCall f_need_row 2 [] (aCons (eVar 1) (aCons (eC (.str "other")) aNil)))) (gRet (eBin oEq (eCall f_matrix_of 1 [] (aCons (eVar 0) aNil)) (eCall f_matrix_of 1 [] (aCons (eVar 1) aNil))))))
noncomputable def f_are_alike : Fn := fnD 2 d_are_alike
noncomputable def d_unlike_ray : Ds := (gSeq (gExpr (eCall f_need_row 2 [] (aCons (eVar 0) (aCons (eC (.str "one")) aNil)))) (gSeq (gExpr (eCall f_need_row 2 [] (aCons (eVar 1) (aCons (eC (.str "other")) aNil)))) (gSeq (gFor (iVal (eTup (aCons (eTup (aCons (eC k_ONE) (aCons (eC k_ZERO) aNil))) (aCons (eTup (aCons (eC k_ZERO) (aCons (eC k_ONE) aNil))) aNil)))) (tName 2) (gIf (eBin oNe (eCall f_leaving 2 [] (aCons (eVar 0) (aCons (eVar 2) aNil))) (eCall f_leaving 2 [] (aCons (eVar 1) (aCons (eVar 2) aNil)))) (gRet (eVar 2)) gNx)) (gRet (eC .non)))))
noncomputable def f_unlike_ray : Fn := fnD 3 d_unlike_ray
noncomputable def d_law_near : Ds := (gSeq (gIf (eBin oEq (eCall f_law_roll 2 [] (aCons (eVar 0) (aCons (eC (.int 3)) aNil))) (eC (.int 0))) (gRet (eCall f_law_row 2 [] (aCons (eVar 0) (aCons (eC (.int 6)) aNil)))) gNx) (gSeq (gAsg (eCall f_law_roll 2 [] (aCons (eVar 0) (aCons (eBin oAdd (eBlt oLen (aCons (eVar 1) aNil)) (eC (.int 1))) aNil))) (tName 2)) (gSeq (gAsg (eCall f_law_num 1 [] (aCons (eVar 0) aNil)) (tName 3)) (gSeq (gAsg (eTup (aCons (eBlt oAbs (aCons (eBin oIx (eVar 3) (eC (.int 0))) aNil)) (aCons (eBin oIx (eVar 3) (eC (.int 1))) aNil))) (tName 3)) (gSeq (gAsg (eTup (aCons (eC (.str "lens")) (aCons (eCall f_law_neg 1 [] (aCons (eVar 3) aNil)) aNil))) (tName 4)) (gRet (eCall f_law_pick 2 [] (aCons (eVar 0) (aCons (eLst (aCons (eVar 1) (aCons (eBin oAdd (eBin oAdd (eSl (eVar 1) none (some (eVar 2))) (eTup (aCons (eTup (aCons (eC (.str "lens")) (aCons (eVar 3) aNil))) (aCons (eVar 4) aNil)))) (eSl (eVar 1) (some (eVar 2)) none)) (aCons (eBin oAdd (eBin oAdd (eSl (eVar 1) none (some (eVar 2))) (eTup (aCons (eTup (aCons (eC (.str "stop")) (aCons (eTup (aCons (eC (.int 1)) (aCons (eC (.int 1)) aNil))) aNil))) aNil))) (eSl (eVar 1) (some (eVar 2)) none)) (aCons (eBin oAdd (eSl (eVar 1) none (some (eVar 2))) (eSl (eVar 1) (some (eBin oAdd (eVar 2) (eC (.int 1)))) none)) (aCons (eBin oAdd (eBin oAdd (eSl (eVar 1) none (some (eVar 2))) (eTup (aCons (eTup (aCons (eC (.str "gap")) (aCons (eTup (aCons (eC (.int 0)) (aCons (eC (.int 1)) aNil))) aNil))) aNil))) (eSl (eVar 1) (some (eVar 2)) none)) (aCons (eBin oAdd (eBin oAdd (eSl (eVar 1) none (some (eVar 2))) (eTup (aCons (eTup (aCons (eC (.str "gap")) (aCons (eVar 3) aNil))) aNil))) (eSl (eVar 1) (some (eVar 2)) none)) (aCons (eBack (eVar 1)) aNil)))))))) aNil)))))))))
noncomputable def f_law_near : Fn := fnD 5 d_law_near
noncomputable def d_law_right : Ds := (gSeq (gAsg (eCall f_law_row 2 [] (aCons (eVar 0) (aCons (eC (.int 10)) aNil))) (tName 1)) (gSeq (gAsg (eCall f_law_near 2 [] (aCons (eVar 0) (aCons (eVar 1) aNil))) (tName 2)) (gSeq (gPar [3, 4] (aCons (eCall f_matrix 1 [] (aCons (eVar 1) aNil)) (aCons (eCall f_law_matrix 1 [] (aCons (eVar 1) aNil)) aNil))) (gSeq (gAsg (eCall f_law_ray 1 [] (aCons (eVar 0) aNil)) (tName 5)) (gSeq (gIf (eOr (eBin oNe (eVar 3) (eVar 4)) (eOr (eBin oNe (eCallK f_matrix 0 1 (fun xs ys => xs ++ ys) aNil (aCons (eVar 1) aNil)) (eVar 4)) (eBin oNe (eCall f_law_sent 2 [] (aCons (eVar 3) (aCons (eVar 5) aNil))) (eCall f_law_out 2 [] (aCons (eVar 1) (aCons (eVar 5) aNil)))))) (gRet (eC (.bl false))) gNx) (gSeq (gAsg (eC .non) (tName 6)) (gSeq (gFor (iVal (eLst (aCons (eTup (aCons (eTup (aCons (eC (.int 0)) (aCons (eC (.int 1)) aNil))) (aCons (eTup (aCons (eC (.int 1)) (aCons (eC (.int 1)) aNil))) aNil))) (aCons (eTup (aCons (eTup (aCons (eC (.int 1)) (aCons (eC (.int 1)) aNil))) (aCons (eTup (aCons (eC (.int 0)) (aCons (eC (.int 1)) aNil))) aNil))) aNil)))) (tName 7) (gAsg (eIf (eBin oNe (eCall f_law_out 2 [] (aCons (eVar 1) (aCons (eVar 7) aNil))) (eCall f_law_out 2 [] (aCons (eVar 2) (aCons (eVar 7) aNil)))) (eVar 7) (eVar 6)) (tName 6))) (gSeq (gIf (eOr (eBin oNe (eCallK f_are_alike 1 1 (fun xs ys => xs ++ ys) (aCons (eVar 1) aNil) (aCons (eVar 2) aNil)) (eBin oEq (eVar 4) (eCall f_law_matrix 1 [] (aCons (eVar 2) aNil)))) (eBin oNe (eCallK f_unlike_ray 0 2 (fun xs ys => xs ++ ys) aNil (aCons (eVar 1) (aCons (eVar 2) aNil))) (eVar 6))) (gRet (eC (.bl false))) gNx) (gSeq (gIf (eBin oNe (eBin oIs (eVar 6) (eC .non)) (eCall f_are_alike 2 [] (aCons (eVar 2) (aCons (eVar 1) aNil)))) (gRet (eC (.bl false))) gNx) (gSeq (gAsg (eTup (aCons (eCall f_law_drawn 1 [] (aCons (eVar 0) aNil)) (aCons (eCall f_law_drawn 1 [] (aCons (eVar 0) aNil)) aNil))) (tUnp 2 (tsCons (tName 8) (tsCons (tName 9) tsNil)))) (gSeq (gAsg (eCall f_behind_both 2 [] (aCons (eVar 8) (aCons (eVar 9) aNil))) (tName 10)) (gSeq (gFor (iVal (eLst (aCons (eTup (aCons (eTup (aCons (eC (.int 1)) (aCons (eC (.int 1)) aNil))) (aCons (eTup (aCons (eC (.int 0)) (aCons (eC (.int 1)) aNil))) aNil))) (aCons (eTup (aCons (eTup (aCons (eC (.int 0)) (aCons (eC (.int 1)) aNil))) (aCons (eTup (aCons (eC (.int 1)) (aCons (eC (.int 1)) aNil))) aNil))) (aCons (eVar 5) aNil))))) (tName 7) (gSeq (gIf (eOr (eBin oNe (eCall f_law_sent 2 [] (aCons (eVar 10) (aCons (eVar 7) aNil))) (eCall f_law_sent 2 [] (aCons (eVar 9) (aCons (eCall f_law_sent 2 [] (aCons (eVar 8) (aCons (eVar 7) aNil))) aNil)))) (eBin oNe (eCall f_sent 2 [] (aCons (eVar 8) (aCons (eVar 7) aNil))) (eCall f_law_sent 2 [] (aCons (eVar 8) (aCons (eVar 7) aNil))))) (gRet (eC (.bl false))) gNx) (gIf (eBin oNe (eCall f_law_sent 2 [] (aCons (eCall f_inverse 1 [] (aCons (eVar 8) aNil)) (aCons (eCall f_law_sent 2 [] (aCons (eVar 8) (aCons (eVar 7) aNil))) aNil))) (eVar 7)) (gRet (eC (.bl false))) gNx))) (gSeq (gAsg (eVar 8) (tUnp 2 (tsCons (tUnp 2 (tsCons (tName 11) (tsCons (tName 12) tsNil))) (tsCons (tUnp 2 (tsCons (tName 13) (tsCons (tName 14) tsNil))) tsNil)))) (gSeq (gAsg (eCall f_law_pick 2 [] (aCons (eVar 0) (aCons (eLst (aCons (eC .non) (aCons (eTup (aCons (eBin oIx (eVar 8) (eC (.int 0))) aNil)) (aCons (eLst (aCons (eBin oIx (eVar 8) (eC (.int 0))) (aCons (eBin oIx (eVar 8) (eC (.int 1))) aNil))) (aCons (eIf (eBin oNe (eBin oIx (eVar 11) (eC (.int 0))) (eC (.int 0))) (eTup (aCons (eTup (aCons (eVar 11) (aCons (eVar 12) aNil))) (aCons (eTup (aCons (eVar 13) (aCons (eCall f_law_add 2 [] (aCons (eVar 14) (aCons (eTup (aCons (eC (.int 1)) (aCons (eC (.int 1)) aNil))) aNil))) aNil))) aNil))) (eC .non)) (aCons (eTup (aCons (eTup (aCons (eVar 11) (aCons (eVar 12) aNil))) (aCons (eTup (aCons (eVar 13) (aCons (eC (.int 1)) aNil))) aNil))) (aCons (eBin oAdd (eVar 8) (eTup (aCons (eBin oIx (eVar 8) (eC (.int 0))) aNil))) (aCons (eTup (aCons (eTup (aCons (eVar 11) (aCons (eVar 12) (aCons (eVar 12) aNil)))) (aCons (eTup (aCons (eVar 13) (aCons (eVar 14) aNil))) aNil))) aNil)))))))) aNil))) (tName 15)) (gSeq (gAsg (eLst (aCons (eRef 0 "" (eCall f_inverse 1 [] (aCons (eVar 15) aNil))) (aCons (eRef 0 "" (eCall f_behind_both 2 [] (aCons (eVar 15) (aCons (eC .non) aNil)))) (aCons (eRef 0 "" (eCall f_behind_both 2 [] (aCons (eVar 8) (aCons (eVar 15) aNil)))) (aCons (eRef 0 "" (eCall f_sent 2 [] (aCons (eVar 8) (aCons (eC .non) aNil)))) (aCons (eRef 0 "" (eCall f_sent 2 [] (aCons (eVar 15) (aCons (eC .non) aNil)))) (aCons (eRef 0 "" (eCall f_matrix 1 [] (aCons (eC .non) aNil))) (aCons (eRef 0 "" (eCall f_are_alike 2 [] (aCons (eVar 1) (aCons (eC .non) aNil)))) (aCons (eRef 0 "" (eCall f_are_alike 2 [] (aCons (eC .non) (aCons (eC .non) aNil)))) (aCons (eRef 0 "" (eCall f_unlike_ray 2 [] (aCons (eVar 1) (aCons (eLst aNil) aNil)))) (aCons (eRef 0 "" (eCall f_unlike_ray 2 [] (aCons (eLst aNil) (aCons (eVar 1) aNil)))) aNil))))))))))) (tName 16)) (gRet (eBin oEq (eVar 16) (eLst (aCons (eC (.str "m")) (aCons (eC (.str "m")) (aCons (eC (.str "k")) (aCons (eC (.str "ray")) (aCons (eC (.str "m")) (aCons (eC (.str "row")) (aCons (eC (.str "other")) (aCons (eC (.str "one")) (aCons (eC (.str "other")) (aCons (eC (.str "one")) aNil))))))))))))))))))))))))))))
noncomputable def f_law_right : Fn := fnD 17 d_law_right
noncomputable def d_law : Ds := (gSeq (gFor (DL.iRng1 (eBlt oMax (aCons (eC (.int 1)) (aCons (eBlt oMin (aCons (eC (.int 5)) (aCons (eBlt oLen (aCons (eVar 0) aNil)) aNil))) aNil)))) (tName 1) (gIf (eUn oNot (eCall f_law_right 1 [] (aCons (eCall f_law_dice 2 [] (aCons (eVar 0) (aCons (eVar 1) aNil))) aNil))) (gRet (eC (.bl false))) gNx)) (gRet (eC (.bl true))))
noncomputable def f_law : Fn := fnD 2 d_law
end Law
namespace Law
open PySem PySem.Spec PyProof.Rows L2 DL
/-! ### the text of law_k03_whole_matrices -/
abbrev rowP : Program := PySem.Challenge.pw_raydrawer_k03_whole_matrices
def top (i : Nat) : Stmt := rowP.main.body.getD i (.Pass ⟨0, 0, 0, 0⟩)
abbrev s_is_integer : Stmt := top 6
abbrev s_common : Stmt := top 7
abbrev s_ratio : Stmt := top 8
abbrev s_plus : Stmt := top 9
abbrev s_negative : Stmt := top 10
abbrev s_minus : Stmt := top 11
abbrev s_times : Stmt := top 12
abbrev s_is_fraction : Stmt := top 13
abbrev s_is_small : Stmt := top 14
abbrev s_is_part : Stmt := top 18
abbrev s_is_row : Stmt := top 19
abbrev s_need_row : Stmt := top 20
abbrev s_need_ray : Stmt := top 22
abbrev s_behind : Stmt := top 23
abbrev s_way_of : Stmt := top 24
abbrev s_way : Stmt := top 25
abbrev s_leaving : Stmt := top 26
abbrev s_part_matrix : Stmt := top 29
abbrev s_worked : Stmt := top 30
abbrev s_matrix_of : Stmt := top 31
abbrev s_matrix : Stmt := top 32
abbrev s_need_matrix : Stmt := top 33
abbrev s_inverse_of : Stmt := top 34
abbrev s_inverse : Stmt := top 35
abbrev s_behind_both : Stmt := top 36
abbrev s_sent_by : Stmt := top 37
abbrev s_sent : Stmt := top 38
abbrev s_are_alike : Stmt := top 39
abbrev s_unlike_ray : Stmt := top 40
abbrev s_law_dice : Stmt := top 42
abbrev s_law_roll : Stmt := top 43
abbrev s_law_pick : Stmt := top 44
abbrev s_law_refused : Stmt := top 45
abbrev s_law_f : Stmt := top 46
abbrev s_law_add : Stmt := top 47
abbrev s_law_neg : Stmt := top 48
abbrev s_law_mul : Stmt := top 49
abbrev s_law_div : Stmt := top 50
abbrev s_law_num : Stmt := top 51
abbrev s_law_part : Stmt := top 52
abbrev s_law_row : Stmt := top 53
abbrev s_law_ray : Stmt := top 54
abbrev s_law_step : Stmt := top 55
abbrev s_law_out : Stmt := top 56
abbrev s_law_matrix : Stmt := top 57
abbrev s_law_sent : Stmt := top 58
abbrev s_law_small : Stmt := top 59
abbrev s_law_drawn : Stmt := top 60
abbrev s_law_near : Stmt := top 61
abbrev s_law_right : Stmt := top 62
abbrev s_law : Stmt := top 63
def initSt : Stmt := match top 1 with | .ClassDef (body := st :: _) .. => st | _ => .Pass ⟨0, 0, 0, 0⟩
/-- what the head tells -/
structure Fx (w : World) (K : PySem.W.Frag) (mg : Str → Option Value) (base : Heap) : Prop where
  g_BadArgument : mg "BadArgument" = some (.ref (He.ga K "BadArgument"))
  g_KINDS : mg "KINDS" = some (.ref (He.ga K "KINDS"))
  g_MOST : ∃ t, mg "MOST" = some (.int 1000000000000 t)
  g_MOST_PARTS : ∃ t, mg "MOST_PARTS" = some (.int 24 t)
  g_ONE : mg "ONE" = some (.ref (He.ga K "ONE"))
  g_SAME : mg "SAME" = some (.ref (He.ga K "SAME"))
  g_ZERO : mg "ZERO" = some (.ref (He.ga K "ZERO"))
  g__law_add : mg "_law_add" = some (.ref (He.ga K "_law_add"))
  g__law_dice : mg "_law_dice" = some (.ref (He.ga K "_law_dice"))
  g__law_div : mg "_law_div" = some (.ref (He.ga K "_law_div"))
  g__law_drawn : mg "_law_drawn" = some (.ref (He.ga K "_law_drawn"))
  g__law_f : mg "_law_f" = some (.ref (He.ga K "_law_f"))
  g__law_matrix : mg "_law_matrix" = some (.ref (He.ga K "_law_matrix"))
  g__law_mul : mg "_law_mul" = some (.ref (He.ga K "_law_mul"))
  g__law_near : mg "_law_near" = some (.ref (He.ga K "_law_near"))
  g__law_neg : mg "_law_neg" = some (.ref (He.ga K "_law_neg"))
  g__law_num : mg "_law_num" = some (.ref (He.ga K "_law_num"))
  g__law_out : mg "_law_out" = some (.ref (He.ga K "_law_out"))
  g__law_part : mg "_law_part" = some (.ref (He.ga K "_law_part"))
  g__law_pick : mg "_law_pick" = some (.ref (He.ga K "_law_pick"))
  g__law_ray : mg "_law_ray" = some (.ref (He.ga K "_law_ray"))
  g__law_refused : mg "_law_refused" = some (.ref (He.ga K "_law_refused"))
  g__law_right : mg "_law_right" = some (.ref (He.ga K "_law_right"))
  g__law_roll : mg "_law_roll" = some (.ref (He.ga K "_law_roll"))
  g__law_row : mg "_law_row" = some (.ref (He.ga K "_law_row"))
  g__law_sent : mg "_law_sent" = some (.ref (He.ga K "_law_sent"))
  g__law_small : mg "_law_small" = some (.ref (He.ga K "_law_small"))
  g__law_step : mg "_law_step" = some (.ref (He.ga K "_law_step"))
  g_are_alike : mg "are_alike" = some (.ref (He.ga K "are_alike"))
  g_behind : mg "behind" = some (.ref (He.ga K "behind"))
  g_behind_both : mg "behind_both" = some (.ref (He.ga K "behind_both"))
  g_common : mg "common" = some (.ref (He.ga K "common"))
  g_inverse : mg "inverse" = some (.ref (He.ga K "inverse"))
  g_inverse_of : mg "inverse_of" = some (.ref (He.ga K "inverse_of"))
  g_is_fraction : mg "is_fraction" = some (.ref (He.ga K "is_fraction"))
  g_is_integer : mg "is_integer" = some (.ref (He.ga K "is_integer"))
  g_is_part : mg "is_part" = some (.ref (He.ga K "is_part"))
  g_is_row : mg "is_row" = some (.ref (He.ga K "is_row"))
  g_is_small : mg "is_small" = some (.ref (He.ga K "is_small"))
  g_leaving : mg "leaving" = some (.ref (He.ga K "leaving"))
  g_matrix : mg "matrix" = some (.ref (He.ga K "matrix"))
  g_matrix_of : mg "matrix_of" = some (.ref (He.ga K "matrix_of"))
  g_minus : mg "minus" = some (.ref (He.ga K "minus"))
  g_need_matrix : mg "need_matrix" = some (.ref (He.ga K "need_matrix"))
  g_need_ray : mg "need_ray" = some (.ref (He.ga K "need_ray"))
  g_need_row : mg "need_row" = some (.ref (He.ga K "need_row"))
  g_negative : mg "negative" = some (.ref (He.ga K "negative"))
  g_part_matrix : mg "part_matrix" = some (.ref (He.ga K "part_matrix"))
  g_plus : mg "plus" = some (.ref (He.ga K "plus"))
  g_ratio : mg "ratio" = some (.ref (He.ga K "ratio"))
  g_sent : mg "sent" = some (.ref (He.ga K "sent"))
  g_sent_by : mg "sent_by" = some (.ref (He.ga K "sent_by"))
  g_times : mg "times" = some (.ref (He.ga K "times"))
  g_unlike_ray : mg "unlike_ray" = some (.ref (He.ga K "unlike_ray"))
  g_way : mg "way" = some (.ref (He.ga K "way"))
  g_way_of : mg "way_of" = some (.ref (He.ga K "way_of"))
  g_worked : mg "worked" = some (.ref (He.ga K "worked"))
  r_ZERO : conD K k_ZERO (.ref (He.ga K "ZERO")) = true
  r_ONE : conD K k_ONE (.ref (He.ga K "ONE")) = true
  r_KINDS : conD K k_KINDS (.ref (He.ga K "KINDS")) = true
  r_SAME : conD K k_SAME (.ref (He.ga K "SAME")) = true
  b_abs : mg "abs" = none
  b_all : mg "all" = none
  b_bool : mg "bool" = none
  b_int : mg "int" = none
  b_isinstance : mg "isinstance" = none
  b_len : mg "len" = none
  b_max : mg "max" = none
  b_min : mg "min" = none
  b_range : mg "range" = none
  b_str : mg "str" = none
  b_tuple : mg "tuple" = none
  d_is_integer : ∃ fd, FunD K "is_integer" "is_integer" (defArgs s_is_integer) (defBody s_is_integer) (defScope s_is_integer) [] [] (He.fAd K ("is_integer", none)) fd
  d_common : ∃ fd, FunD K "common" "common" (defArgs s_common) (defBody s_common) (defScope s_common) [] [] (He.fAd K ("common", none)) fd
  d_ratio : ∃ fd, FunD K "ratio" "ratio" (defArgs s_ratio) (defBody s_ratio) (defScope s_ratio) [] [] (He.fAd K ("ratio", none)) fd
  d_plus : ∃ fd, FunD K "plus" "plus" (defArgs s_plus) (defBody s_plus) (defScope s_plus) [] [] (He.fAd K ("plus", none)) fd
  d_negative : ∃ fd, FunD K "negative" "negative" (defArgs s_negative) (defBody s_negative) (defScope s_negative) [] [] (He.fAd K ("negative", none)) fd
  d_minus : ∃ fd, FunD K "minus" "minus" (defArgs s_minus) (defBody s_minus) (defScope s_minus) [] [] (He.fAd K ("minus", none)) fd
  d_times : ∃ fd, FunD K "times" "times" (defArgs s_times) (defBody s_times) (defScope s_times) [] [] (He.fAd K ("times", none)) fd
  d_is_fraction : ∃ fd, FunD K "is_fraction" "is_fraction" (defArgs s_is_fraction) (defBody s_is_fraction) (defScope s_is_fraction) [] [] (He.fAd K ("is_fraction", none)) fd
  d_is_small : ∃ fd, FunD K "is_small" "is_small" (defArgs s_is_small) (defBody s_is_small) (defScope s_is_small) [] [] (He.fAd K ("is_small", none)) fd
  d_is_part : ∃ fd, FunD K "is_part" "is_part" (defArgs s_is_part) (defBody s_is_part) (defScope s_is_part) [] [] (He.fAd K ("is_part", none)) fd
  d_is_row : ∃ fd, FunD K "is_row" "is_row" (defArgs s_is_row) (defBody s_is_row) (defScope s_is_row) [] [] (He.fAd K ("is_row", none)) fd
  d_need_row : ∃ fd, FunD K "need_row" "need_row" (defArgs s_need_row) (defBody s_need_row) (defScope s_need_row) [] [] (He.fAd K ("need_row", none)) fd
  d_need_ray : ∃ fd, FunD K "need_ray" "need_ray" (defArgs s_need_ray) (defBody s_need_ray) (defScope s_need_ray) [] [] (He.fAd K ("need_ray", none)) fd
  d_behind : ∃ fd, FunD K "behind" "behind" (defArgs s_behind) (defBody s_behind) (defScope s_behind) [] [] (He.fAd K ("behind", none)) fd
  d_way_of : ∃ fd, FunD K "way_of" "way_of" (defArgs s_way_of) (defBody s_way_of) (defScope s_way_of) [] [] (He.fAd K ("way_of", none)) fd
  d_way : ∃ fd, FunD K "way" "way" (defArgs s_way) (defBody s_way) (defScope s_way) [] [] (He.fAd K ("way", none)) fd
  d_leaving : ∃ fd, FunD K "leaving" "leaving" (defArgs s_leaving) (defBody s_leaving) (defScope s_leaving) [] [] (He.fAd K ("leaving", none)) fd
  d_part_matrix : ∃ fd, FunD K "part_matrix" "part_matrix" (defArgs s_part_matrix) (defBody s_part_matrix) (defScope s_part_matrix) [] [] (He.fAd K ("part_matrix", none)) fd
  d_worked : ∃ fd, FunD K "worked" "worked" (defArgs s_worked) (defBody s_worked) (defScope s_worked) [] [] (He.fAd K ("worked", none)) fd
  d_matrix_of : ∃ fd, FunD K "matrix_of" "matrix_of" (defArgs s_matrix_of) (defBody s_matrix_of) (defScope s_matrix_of) [] [] (He.fAd K ("matrix_of", none)) fd
  d_matrix : ∃ fd, FunD K "matrix" "matrix" (defArgs s_matrix) (defBody s_matrix) (defScope s_matrix) [] [] (He.fAd K ("matrix", none)) fd
  d_need_matrix : ∃ fd, FunD K "need_matrix" "need_matrix" (defArgs s_need_matrix) (defBody s_need_matrix) (defScope s_need_matrix) [] [] (He.fAd K ("need_matrix", none)) fd
  d_inverse_of : ∃ fd, FunD K "inverse_of" "inverse_of" (defArgs s_inverse_of) (defBody s_inverse_of) (defScope s_inverse_of) [] [] (He.fAd K ("inverse_of", none)) fd
  d_inverse : ∃ fd, FunD K "inverse" "inverse" (defArgs s_inverse) (defBody s_inverse) (defScope s_inverse) [] [] (He.fAd K ("inverse", none)) fd
  d_behind_both : ∃ fd, FunD K "behind_both" "behind_both" (defArgs s_behind_both) (defBody s_behind_both) (defScope s_behind_both) [] [] (He.fAd K ("behind_both", none)) fd
  d_sent_by : ∃ fd, FunD K "sent_by" "sent_by" (defArgs s_sent_by) (defBody s_sent_by) (defScope s_sent_by) [] [] (He.fAd K ("sent_by", none)) fd
  d_sent : ∃ fd, FunD K "sent" "sent" (defArgs s_sent) (defBody s_sent) (defScope s_sent) [] [] (He.fAd K ("sent", none)) fd
  d_are_alike : ∃ fd, FunD K "are_alike" "are_alike" (defArgs s_are_alike) (defBody s_are_alike) (defScope s_are_alike) [] [] (He.fAd K ("are_alike", none)) fd
  d_unlike_ray : ∃ fd, FunD K "unlike_ray" "unlike_ray" (defArgs s_unlike_ray) (defBody s_unlike_ray) (defScope s_unlike_ray) [] [] (He.fAd K ("unlike_ray", none)) fd
  d_law_dice : ∃ fd, FunD K "_law_dice" "_law_dice" (defArgs s_law_dice) (defBody s_law_dice) (defScope s_law_dice) [] [] (He.fAd K ("_law_dice", none)) fd
  d_law_roll : ∃ fd, FunD K "_law_roll" "_law_roll" (defArgs s_law_roll) (defBody s_law_roll) (defScope s_law_roll) [] [] (He.fAd K ("_law_roll", none)) fd
  d_law_pick : ∃ fd, FunD K "_law_pick" "_law_pick" (defArgs s_law_pick) (defBody s_law_pick) (defScope s_law_pick) [] [] (He.fAd K ("_law_pick", none)) fd
  d_law_refused : ∃ fd, FunD K "_law_refused" "_law_refused" (defArgs s_law_refused) (defBody s_law_refused) (defScope s_law_refused) [] [] (He.fAd K ("_law_refused", none)) fd
  d_law_f : ∃ fd, FunD K "_law_f" "_law_f" (defArgs s_law_f) (defBody s_law_f) (defScope s_law_f) [] [] (He.fAd K ("_law_f", none)) fd
  d_law_add : ∃ fd, FunD K "_law_add" "_law_add" (defArgs s_law_add) (defBody s_law_add) (defScope s_law_add) [] [] (He.fAd K ("_law_add", none)) fd
  d_law_neg : ∃ fd, FunD K "_law_neg" "_law_neg" (defArgs s_law_neg) (defBody s_law_neg) (defScope s_law_neg) [] [] (He.fAd K ("_law_neg", none)) fd
  d_law_mul : ∃ fd, FunD K "_law_mul" "_law_mul" (defArgs s_law_mul) (defBody s_law_mul) (defScope s_law_mul) [] [] (He.fAd K ("_law_mul", none)) fd
  d_law_div : ∃ fd, FunD K "_law_div" "_law_div" (defArgs s_law_div) (defBody s_law_div) (defScope s_law_div) [] [] (He.fAd K ("_law_div", none)) fd
  d_law_num : ∃ fd, FunD K "_law_num" "_law_num" (defArgs s_law_num) (defBody s_law_num) (defScope s_law_num) [] [] (He.fAd K ("_law_num", none)) fd
  d_law_part : ∃ fd, FunD K "_law_part" "_law_part" (defArgs s_law_part) (defBody s_law_part) (defScope s_law_part) [] [] (He.fAd K ("_law_part", none)) fd
  d_law_row : ∃ fd, FunD K "_law_row" "_law_row" (defArgs s_law_row) (defBody s_law_row) (defScope s_law_row) [] [] (He.fAd K ("_law_row", none)) fd
  d_law_ray : ∃ fd, FunD K "_law_ray" "_law_ray" (defArgs s_law_ray) (defBody s_law_ray) (defScope s_law_ray) [] [] (He.fAd K ("_law_ray", none)) fd
  d_law_step : ∃ fd, FunD K "_law_step" "_law_step" (defArgs s_law_step) (defBody s_law_step) (defScope s_law_step) [] [] (He.fAd K ("_law_step", none)) fd
  d_law_out : ∃ fd, FunD K "_law_out" "_law_out" (defArgs s_law_out) (defBody s_law_out) (defScope s_law_out) [] [] (He.fAd K ("_law_out", none)) fd
  d_law_matrix : ∃ fd, FunD K "_law_matrix" "_law_matrix" (defArgs s_law_matrix) (defBody s_law_matrix) (defScope s_law_matrix) [] [] (He.fAd K ("_law_matrix", none)) fd
  d_law_sent : ∃ fd, FunD K "_law_sent" "_law_sent" (defArgs s_law_sent) (defBody s_law_sent) (defScope s_law_sent) [] [] (He.fAd K ("_law_sent", none)) fd
  d_law_small : ∃ fd, FunD K "_law_small" "_law_small" (defArgs s_law_small) (defBody s_law_small) (defScope s_law_small) [] [] (He.fAd K ("_law_small", none)) fd
  d_law_drawn : ∃ fd, FunD K "_law_drawn" "_law_drawn" (defArgs s_law_drawn) (defBody s_law_drawn) (defScope s_law_drawn) [] [] (He.fAd K ("_law_drawn", none)) fd
  d_law_near : ∃ fd, FunD K "_law_near" "_law_near" (defArgs s_law_near) (defBody s_law_near) (defScope s_law_near) [] [] (He.fAd K ("_law_near", none)) fd
  d_law_right : ∃ fd, FunD K "_law_right" "_law_right" (defArgs s_law_right) (defBody s_law_right) (defScope s_law_right) [] [] (He.fAd K ("_law_right", none)) fd
  d_law : ∃ fd, FunD K "law" "law" (defArgs s_law) (defBody s_law) (defScope s_law) [] [] (He.fAd K ("law", none)) fd
  own : OwX.OwTxt rowP K (He.ga K "BadArgument") (He.ma K (He.ga K "BadArgument") "__init__") "BadArgument" "name" (.BinOp (.Constant (.str "bad argument: ") 0 ⟨5, 25, 5, 41⟩) .Add (.Name "name" ⟨5, 44, 5, 48⟩) ⟨5, 25, 5, 48⟩) (defScope initSt)
  tb_law_right : LamX.TabB base mg (He.cT K ("_law_right", none)).1 (He.cT K ("_law_right", none)).2
  tb_is_row : LamX.TabB base mg (He.cT K ("is_row", none)).1 (He.cT K ("is_row", none)).2
  tu : (([((He.cT K ("_law_right", none)).2, ("_law_right" ++ ".<locals>.") ++ "<lambda>"), ((He.cT K ("is_row", none)).2, ("is_row" ++ ".<locals>.") ++ "<genexpr>")] : List (Addr × Str)).map (·.1)).Nodup
def GG (K : PySem.W.Frag) : Gx := ⟨K, [((He.cT K ("_law_right", none)).2, ("_law_right" ++ ".<locals>.") ++ "<lambda>"), ((He.cT K ("is_row", none)).2, ("is_row" ++ ".<locals>.") ++ "<genexpr>")], [(He.ga K "BadArgument", "name")], []⟩
section
variable {w : World} {K : PySem.W.Frag} {mg : Str → Option Value} {base : Heap}
theorem oSc : OwX.OwSc (defScope initSt) "name" := ⟨rfl, rfl, rfl, rfl, rfl, rfl, rfl, by decide +kernel⟩
theorem oBA (fx : Fx w K mg base) {X : Cx} (h1 : X.prog = rowP) (h2 : X.K = K) (h3 : X.mg = mg) : Own X (He.ga K "BadArgument") (He.ma K (He.ga K "BadArgument") "__init__") "BadArgument" "name" (.BinOp (.Constant (.str "bad argument: ") 0 ⟨5, 25, 5, 41⟩) .Add (.Name "name" ⟨5, 44, 5, 48⟩) ⟨5, 25, 5, 48⟩) (defScope initSt) (fun v => ∃ n : Str, v = .str n ∧ n.length ≤ 1000) := by
  subst h2 h3
  exact own_name h1 fx.own oSc (.inl rfl) (by decide +kernel) fx.g_BadArgument (by decide)
theorem r_ZERO (fx : Fx w K mg base) (A : List Addr) (H : Hp) : Rep (GG K) A H k_ZERO (.ref (He.ga K "ZERO")) := con_rep (G := GG K) fx.r_ZERO
theorem r_ONE (fx : Fx w K mg base) (A : List Addr) (H : Hp) : Rep (GG K) A H k_ONE (.ref (He.ga K "ONE")) := con_rep (G := GG K) fx.r_ONE
theorem r_KINDS (fx : Fx w K mg base) (A : List Addr) (H : Hp) : Rep (GG K) A H k_KINDS (.ref (He.ga K "KINDS")) := con_rep (G := GG K) fx.r_KINDS
theorem r_SAME (fx : Fx w K mg base) (A : List Addr) (H : Hp) : Rep (GG K) A H k_SAME (.ref (He.ga K "SAME")) := con_rep (G := GG K) fx.r_SAME
theorem sc_is_integer : FnScope ["value"] ["value"] (defScope s_is_integer) := ⟨rfl, rfl, rfl, by decide +kernel, rfl, by decide +kernel, by decide +kernel⟩
theorem ok_is_integer (fx : Fx w K mg base) : ∃ fd, FunD K "is_integer" "is_integer" (defArgs s_is_integer) (defBody s_is_integer) (defScope s_is_integer) [] [] (He.fAd K ("is_integer", none)) fd ∧ FnOk rowP w K mg base (L2.CX rowP w) 1 (He.fAd K ("is_integer", none)) fd ["value"] (spD (GG K) 1 f_is_integer) := by
  obtain ⟨fd, F⟩ := fx.d_is_integer
  refine ⟨fd, F, fn_ok F sc_is_integer rfl (by decide) fun cdv A outer s H E hr tk => ?_⟩
  exact (db_one (ds_ret (de_and (de_isi rfl fx.b_isinstance fx.b_int (by first | rfl | kernel_rfl) (de_var 0)) (de_one (de_not (de_isi rfl fx.b_isinstance fx.b_bool (by first | rfl | kernel_rfl) (de_var 0)))))))
theorem sc_common : FnScope ["one", "other"] ["one", "other"] (defScope s_common) := ⟨rfl, rfl, rfl, by decide +kernel, rfl, by decide +kernel, by decide +kernel⟩
theorem ok_common (fx : Fx w K mg base) : ∃ fd, FunD K "common" "common" (defArgs s_common) (defBody s_common) (defScope s_common) [] [] (He.fAd K ("common", none)) fd ∧ FnOk rowP w K mg base (L2.CX rowP w) 1 (He.fAd K ("common", none)) fd ["one", "other"] (spD (GG K) 2 f_common) := by
  obtain ⟨fd, F⟩ := fx.d_common
  refine ⟨fd, F, fn_ok F sc_common rfl (by decide) fun cdv A outer s H E hr tk => ?_⟩
  exact (db_cons (ds_set (i := 0) sc_common.nd (de_callB call_abs m_abs fx.b_abs (by first | rfl | kernel_rfl) (da_cons (de_var 0) da_nil))) (db_cons (ds_set (i := 1) sc_common.nd (de_callB call_abs m_abs fx.b_abs (by first | rfl | kernel_rfl) (da_cons (de_var 1) da_nil))) (db_cons (ds_while (L2.passes_of rfl) (dt_c cm_gt (de_var 1) de_int) (db_one (ds_par2 (i := 0) (j := 1) rfl sc_common.nd rfl rfl (by decide) rfl rfl (da_cons (de_var 1) (da_cons (de_mod (de_var 0) (de_var 1)) da_nil))))) (db_one (ds_ret (de_var 0))))))
theorem sc_ratio : FnScope ["above", "below", "divisor"] ["above", "below"] (defScope s_ratio) := ⟨rfl, rfl, rfl, by decide +kernel, rfl, by decide +kernel, by decide +kernel⟩
theorem ok_ratio (fx : Fx w K mg base) : ∃ fd, FunD K "ratio" "ratio" (defArgs s_ratio) (defBody s_ratio) (defScope s_ratio) [] [] (He.fAd K ("ratio", none)) fd ∧ FnOk rowP w K mg base (L2.CX rowP w) 2 (He.fAd K ("ratio", none)) fd ["above", "below"] (spD (GG K) 2 f_ratio) := by
  obtain ⟨fd_common, D_common, O_common⟩ := ok_common fx
  have B_common : Binds K fd_common ["one", "other"] [] := D_common.bindsN fun _ _ _ _ _ _ us hl => match us, hl with | [_, _], _ => rfl
  obtain ⟨fd, F⟩ := fx.d_ratio
  refine ⟨fd, F, fn_ok F sc_ratio rfl (by decide) fun cdv A outer s H E hr tk => ?_⟩
  exact (db_cons (ds_if (dt_c cm_lt (de_var 1) de_int) (db_cons (ds_set (i := 0) sc_ratio.nd (de_sub de_int (de_var 0))) (db_one (ds_set (i := 1) sc_ratio.nd (de_sub de_int (de_var 1))))) db_nil) (db_cons (ds_set (i := 2) sc_ratio.nd (de_call O_common (hr.mono (by first | decide | omega)) fx.g_common D_common.kp B_common .nil (fun _ _ => RepL.nil) tk (da_cons (de_var 0) (da_cons (de_var 1) da_nil)))) (db_one (ds_ret (de_tup (da_cons (de_div (de_var 0) (de_var 2)) (da_cons (de_div (de_var 1) (de_var 2)) da_nil)))))))
theorem sc_plus : FnScope ["one", "other"] ["one", "other"] (defScope s_plus) := ⟨rfl, rfl, rfl, by decide +kernel, rfl, by decide +kernel, by decide +kernel⟩
theorem ok_plus (fx : Fx w K mg base) : ∃ fd, FunD K "plus" "plus" (defArgs s_plus) (defBody s_plus) (defScope s_plus) [] [] (He.fAd K ("plus", none)) fd ∧ FnOk rowP w K mg base (L2.CX rowP w) 3 (He.fAd K ("plus", none)) fd ["one", "other"] (spD (GG K) 2 f_plus) := by
  obtain ⟨fd_ratio, D_ratio, O_ratio⟩ := ok_ratio fx
  have B_ratio : Binds K fd_ratio ["above", "below"] [] := D_ratio.bindsN fun _ _ _ _ _ _ us hl => match us, hl with | [_, _], _ => rfl
  obtain ⟨fd, F⟩ := fx.d_plus
  refine ⟨fd, F, fn_ok F sc_plus rfl (by decide) fun cdv A outer s H E hr tk => ?_⟩
  exact (db_one (ds_ret (de_call O_ratio (hr.mono (by first | decide | omega)) fx.g_ratio D_ratio.kp B_ratio .nil (fun _ _ => RepL.nil) tk (da_cons (de_add rfl (de_mul rfl (de_ix rfl (de_var 0) de_int) (de_ix rfl (de_var 1) de_int)) (de_mul rfl (de_ix rfl (de_var 1) de_int) (de_ix rfl (de_var 0) de_int))) (da_cons (de_mul rfl (de_ix rfl (de_var 0) de_int) (de_ix rfl (de_var 1) de_int)) da_nil)))))
theorem sc_negative : FnScope ["one"] ["one"] (defScope s_negative) := ⟨rfl, rfl, rfl, by decide +kernel, rfl, by decide +kernel, by decide +kernel⟩
theorem ok_negative (fx : Fx w K mg base) : ∃ fd, FunD K "negative" "negative" (defArgs s_negative) (defBody s_negative) (defScope s_negative) [] [] (He.fAd K ("negative", none)) fd ∧ FnOk rowP w K mg base (L2.CX rowP w) 1 (He.fAd K ("negative", none)) fd ["one"] (spD (GG K) 1 f_negative) := by
  obtain ⟨fd, F⟩ := fx.d_negative
  refine ⟨fd, F, fn_ok F sc_negative rfl (by decide) fun cdv A outer s H E hr tk => ?_⟩
  exact (db_one (ds_ret (de_tup (da_cons (de_sub de_int (de_ix rfl (de_var 0) de_int)) (da_cons (de_ix rfl (de_var 0) de_int) da_nil)))))
theorem sc_minus : FnScope ["one", "other"] ["one", "other"] (defScope s_minus) := ⟨rfl, rfl, rfl, by decide +kernel, rfl, by decide +kernel, by decide +kernel⟩
theorem ok_minus (fx : Fx w K mg base) : ∃ fd, FunD K "minus" "minus" (defArgs s_minus) (defBody s_minus) (defScope s_minus) [] [] (He.fAd K ("minus", none)) fd ∧ FnOk rowP w K mg base (L2.CX rowP w) 4 (He.fAd K ("minus", none)) fd ["one", "other"] (spD (GG K) 2 f_minus) := by
  obtain ⟨fd_negative, D_negative, O_negative⟩ := ok_negative fx
  obtain ⟨fd_plus, D_plus, O_plus⟩ := ok_plus fx
  have B_negative : Binds K fd_negative ["one"] [] := D_negative.bindsN fun _ _ _ _ _ _ us hl => match us, hl with | [_], _ => rfl
  have B_plus : Binds K fd_plus ["one", "other"] [] := D_plus.bindsN fun _ _ _ _ _ _ us hl => match us, hl with | [_, _], _ => rfl
  obtain ⟨fd, F⟩ := fx.d_minus
  refine ⟨fd, F, fn_ok F sc_minus rfl (by decide) fun cdv A outer s H E hr tk => ?_⟩
  exact (db_one (ds_ret (de_call O_plus (hr.mono (by first | decide | omega)) fx.g_plus D_plus.kp B_plus .nil (fun _ _ => RepL.nil) tk (da_cons (de_var 0) (da_cons (de_call O_negative (hr.mono (by first | decide | omega)) fx.g_negative D_negative.kp B_negative .nil (fun _ _ => RepL.nil) tk (da_cons (de_var 1) da_nil)) da_nil)))))
theorem sc_times : FnScope ["one", "other"] ["one", "other"] (defScope s_times) := ⟨rfl, rfl, rfl, by decide +kernel, rfl, by decide +kernel, by decide +kernel⟩
theorem ok_times (fx : Fx w K mg base) : ∃ fd, FunD K "times" "times" (defArgs s_times) (defBody s_times) (defScope s_times) [] [] (He.fAd K ("times", none)) fd ∧ FnOk rowP w K mg base (L2.CX rowP w) 3 (He.fAd K ("times", none)) fd ["one", "other"] (spD (GG K) 2 f_times) := by
  obtain ⟨fd_ratio, D_ratio, O_ratio⟩ := ok_ratio fx
  have B_ratio : Binds K fd_ratio ["above", "below"] [] := D_ratio.bindsN fun _ _ _ _ _ _ us hl => match us, hl with | [_, _], _ => rfl
  obtain ⟨fd, F⟩ := fx.d_times
  refine ⟨fd, F, fn_ok F sc_times rfl (by decide) fun cdv A outer s H E hr tk => ?_⟩
  exact (db_one (ds_ret (de_call O_ratio (hr.mono (by first | decide | omega)) fx.g_ratio D_ratio.kp B_ratio .nil (fun _ _ => RepL.nil) tk (da_cons (de_mul rfl (de_ix rfl (de_var 0) de_int) (de_ix rfl (de_var 1) de_int)) (da_cons (de_mul rfl (de_ix rfl (de_var 0) de_int) (de_ix rfl (de_var 1) de_int)) da_nil)))))
theorem sc_is_fraction : FnScope ["value"] ["value"] (defScope s_is_fraction) := ⟨rfl, rfl, rfl, by decide +kernel, rfl, by decide +kernel, by decide +kernel⟩
theorem ok_is_fraction (fx : Fx w K mg base) : ∃ fd, FunD K "is_fraction" "is_fraction" (defArgs s_is_fraction) (defBody s_is_fraction) (defScope s_is_fraction) [] [] (He.fAd K ("is_fraction", none)) fd ∧ FnOk rowP w K mg base (L2.CX rowP w) 2 (He.fAd K ("is_fraction", none)) fd ["value"] (spD (GG K) 1 f_is_fraction) := by
  obtain ⟨fd_common, D_common, O_common⟩ := ok_common fx
  obtain ⟨fd_is_integer, D_is_integer, O_is_integer⟩ := ok_is_integer fx
  have B_common : Binds K fd_common ["one", "other"] [] := D_common.bindsN fun _ _ _ _ _ _ us hl => match us, hl with | [_, _], _ => rfl
  have B_is_integer : Binds K fd_is_integer ["value"] [] := D_is_integer.bindsN fun _ _ _ _ _ _ us hl => match us, hl with | [_], _ => rfl
  obtain ⟨fd, F⟩ := fx.d_is_fraction
  refine ⟨fd, F, fn_ok F sc_is_fraction rfl (by decide) fun cdv A outer s H E hr tk => ?_⟩
  exact (db_cons (ds_if (DW.dt (dw_or (dt_not (dt_val (de_isi rfl fx.b_isinstance fx.b_tuple (by first | rfl | kernel_rfl) (de_var 0)))) (dw_or1 (dt_c (cm_ne rfl (hr).units) (de_callB call_len (m_len rfl) fx.b_len (by first | rfl | kernel_rfl) (da_cons (de_var 0) da_nil)) de_int)))) (db_one (ds_ret de_bl)) db_nil) (db_cons (ds_if (DW.dt (dw_or (dt_not (dt_val (de_call O_is_integer (hr.mono (by first | decide | omega)) fx.g_is_integer D_is_integer.kp B_is_integer .nil (fun _ _ => RepL.nil) tk (da_cons (de_ix rfl (de_var 0) de_int) da_nil)))) (dw_or (dt_not (dt_val (de_call O_is_integer (hr.mono (by first | decide | omega)) fx.g_is_integer D_is_integer.kp B_is_integer .nil (fun _ _ => RepL.nil) tk (da_cons (de_ix rfl (de_var 0) de_int) da_nil)))) (dw_or1 (dt_c cm_lt (de_ix rfl (de_var 0) de_int) de_int))))) (db_one (ds_ret de_bl)) db_nil) (db_one (ds_ret (de_c (cm_eq rfl (hr).units) (de_call O_common (hr.mono (by first | decide | omega)) fx.g_common D_common.kp B_common .nil (fun _ _ => RepL.nil) tk (da_cons (de_ix rfl (de_var 0) de_int) (da_cons (de_ix rfl (de_var 0) de_int) da_nil))) de_int)))))
theorem sc_is_small : FnScope ["value"] ["value"] (defScope s_is_small) := ⟨rfl, rfl, rfl, by decide +kernel, rfl, by decide +kernel, by decide +kernel⟩
theorem ok_is_small (fx : Fx w K mg base) : ∃ fd, FunD K "is_small" "is_small" (defArgs s_is_small) (defBody s_is_small) (defScope s_is_small) [] [] (He.fAd K ("is_small", none)) fd ∧ FnOk rowP w K mg base (L2.CX rowP w) 3 (He.fAd K ("is_small", none)) fd ["value"] (spD (GG K) 1 f_is_small) := by
  obtain ⟨fd_is_fraction, D_is_fraction, O_is_fraction⟩ := ok_is_fraction fx
  have B_is_fraction : Binds K fd_is_fraction ["value"] [] := D_is_fraction.bindsN fun _ _ _ _ _ _ us hl => match us, hl with | [_], _ => rfl
  obtain ⟨fd, F⟩ := fx.d_is_small
  refine ⟨fd, F, fn_ok F sc_is_small rfl (by decide) fun cdv A outer s H E hr tk => ?_⟩
  exact (db_one (ds_ret (de_and (de_call O_is_fraction (hr.mono (by first | decide | omega)) fx.g_is_fraction D_is_fraction.kp B_is_fraction .nil (fun _ _ => RepL.nil) tk (da_cons (de_var 0) da_nil)) (de_and (de_c cm_le (de_callB call_abs m_abs fx.b_abs (by first | rfl | kernel_rfl) (da_cons (de_ix rfl (de_var 0) de_int) da_nil)) (fx.g_MOST.elim fun t ht => de_glob (v := .int 1000000000000) ht ⟨t, rfl⟩ fun _ _ => rep_int)) (de_one (de_c cm_le (de_ix rfl (de_var 0) de_int) (fx.g_MOST.elim fun t ht => de_glob (v := .int 1000000000000) ht ⟨t, rfl⟩ fun _ _ => rep_int)))))))
theorem sc_is_part : FnScope ["value"] ["value"] (defScope s_is_part) := ⟨rfl, rfl, rfl, by decide +kernel, rfl, by decide +kernel, by decide +kernel⟩
theorem ok_is_part (fx : Fx w K mg base) : ∃ fd, FunD K "is_part" "is_part" (defArgs s_is_part) (defBody s_is_part) (defScope s_is_part) [] [] (He.fAd K ("is_part", none)) fd ∧ FnOk rowP w K mg base (L2.CX rowP w) 4 (He.fAd K ("is_part", none)) fd ["value"] (spD (GG K) 1 f_is_part) := by
  obtain ⟨fd_is_small, D_is_small, O_is_small⟩ := ok_is_small fx
  have B_is_small : Binds K fd_is_small ["value"] [] := D_is_small.bindsN fun _ _ _ _ _ _ us hl => match us, hl with | [_], _ => rfl
  obtain ⟨fd, F⟩ := fx.d_is_part
  refine ⟨fd, F, fn_ok F sc_is_part rfl (by decide) fun cdv A outer s H E hr tk => ?_⟩
  exact (db_cons (ds_if (DW.dt (dw_or (dt_not (dt_val (de_isi rfl fx.b_isinstance fx.b_tuple (by first | rfl | kernel_rfl) (de_var 0)))) (dw_or (dt_c (cm_ne rfl (hr).units) (de_callB call_len (m_len rfl) fx.b_len (by first | rfl | kernel_rfl) (da_cons (de_var 0) da_nil)) de_int) (dw_or1 (dt_c (cm_notIn rfl (room65 hr)) (de_ix rfl (de_var 0) de_int) (de_glob (v := .ref (He.ga K "KINDS")) fx.g_KINDS rfl (r_KINDS fx))))))) (db_one (ds_ret de_bl)) db_nil) (db_cons (ds_if (DW.dt (dw_or (dt_not (dt_val (de_isi rfl fx.b_isinstance fx.b_str (by first | rfl | kernel_rfl) (de_ix rfl (de_var 0) de_int)))) (dw_or1 (dt_not (dt_val (de_call O_is_small (hr.mono (by first | decide | omega)) fx.g_is_small D_is_small.kp B_is_small .nil (fun _ _ => RepL.nil) tk (da_cons (de_ix rfl (de_var 0) de_int) da_nil))))))) (db_one (ds_ret de_bl)) db_nil) (db_cons (ds_if (dt_c (cm_eq rfl (hr).units) (de_ix rfl (de_var 0) de_int) de_str) (db_one (ds_ret (de_c cm_ge (de_ix rfl (de_ix rfl (de_var 0) de_int) de_int) de_int))) db_nil) (db_one (ds_ret (de_or (de_c (cm_eq rfl (hr).units) (de_ix rfl (de_var 0) de_int) de_str) (de_one (de_c cm_gt (de_ix rfl (de_ix rfl (de_var 0) de_int) de_int) de_int))))))))
theorem sc_is_row : FnScope ["value", "part"] ["value"] (defScope s_is_row) := ⟨rfl, rfl, rfl, by decide +kernel, rfl, by decide +kernel, by decide +kernel⟩
theorem ok_is_row (fx : Fx w K mg base) : ∃ fd, FunD K "is_row" "is_row" (defArgs s_is_row) (defBody s_is_row) (defScope s_is_row) [] [] (He.fAd K ("is_row", none)) fd ∧ FnOk rowP w K mg base (L2.CX rowP w) 6 (He.fAd K ("is_row", none)) fd ["value"] (spD (GG K) 1 f_is_row) := by
  obtain ⟨fd_is_part, D_is_part, O_is_part⟩ := ok_is_part fx
  have B_is_part : Binds K fd_is_part ["value"] [] := D_is_part.bindsN fun _ _ _ _ _ _ us hl => match us, hl with | [_], _ => rfl
  obtain ⟨fd, F⟩ := fx.d_is_row
  refine ⟨fd, F, fn_okC F sc_is_row rfl (by decide) fun cdv A outer s H E hcd hr tk => ?_⟩
  exact (db_one (ds_ret (de_and (de_isi rfl fx.b_isinstance fx.b_tuple (by first | rfl | kernel_rfl) (de_var 0)) (de_and (de_c cm_le (de_callB call_len (m_len rfl) fx.b_len (by first | rfl | kernel_rfl) (da_cons (de_var 0) da_nil)) (fx.g_MOST_PARTS.elim fun t ht => de_glob (v := .int 24) ht ⟨t, rfl⟩ fun _ _ => rep_int)) (de_one (de_all (k := 4) (N := ["part"]) (hr.mono (by first | decide | omega)) rfl fx.b_all fx.tb_is_row hcd (.tail _ (.head _)) (fun q hq e => tabs_uniq fx.tu q hq _ (.tail _ (.head _)) e) (di_val rfl (de_var 0)) rfl rfl (by decide +kernel) rfl rfl (fun A2 C code s0 H0 fp pn hg => ⟨(dg_name (i := 0) (show (["part"] : List Str).Nodup by decide)), (de_call O_is_part (hg.mono (by first | decide | omega)) fx.g_is_part D_is_part.kp B_is_part .nil (fun _ _ => RepL.nil) tk_no (da_cons (de_var 0) da_nil))⟩)))))))
theorem sc_need_row : FnScope ["value", "name"] ["value", "name"] (defScope s_need_row) := ⟨rfl, rfl, rfl, by decide +kernel, rfl, by decide +kernel, by decide +kernel⟩
theorem ok_need_row (fx : Fx w K mg base) : ∃ fd, FunD K "need_row" "need_row" (defArgs s_need_row) (defBody s_need_row) (defScope s_need_row) [] [] (He.fAd K ("need_row", none)) fd ∧ FnOk rowP w K mg base (L2.CX rowP w) 7 (He.fAd K ("need_row", none)) fd ["value", "name"] (spD (GG K) 2 f_need_row) := by
  obtain ⟨fd_is_row, D_is_row, O_is_row⟩ := ok_is_row fx
  have B_is_row : Binds K fd_is_row ["value"] [] := D_is_row.bindsN fun _ _ _ _ _ _ us hl => match us, hl with | [_], _ => rfl
  obtain ⟨fd, F⟩ := fx.d_need_row
  refine ⟨fd, F, fn_ok F sc_need_row rfl (by decide) fun cdv A outer s H E hr tk => ?_⟩
  exact (db_one (ds_if (dt_not (dt_val (de_call O_is_row (hr.mono (by first | decide | omega)) fx.g_is_row D_is_row.kp B_is_row .nil (fun _ _ => RepL.nil) tk (da_cons (de_var 0) da_nil)))) (db_one (ds_raise (k := 0) (oBA fx rfl rfl rfl) rfl okName_ok rfl (hr.mono (by first | decide | omega)) tk (da_cons (de_var 1) da_nil))) db_nil))
theorem sc_need_ray : FnScope ["value", "name"] ["value", "name"] (defScope s_need_ray) := ⟨rfl, rfl, rfl, by decide +kernel, rfl, by decide +kernel, by decide +kernel⟩
theorem ok_need_ray (fx : Fx w K mg base) : ∃ fd, FunD K "need_ray" "need_ray" (defArgs s_need_ray) (defBody s_need_ray) (defScope s_need_ray) [] [] (He.fAd K ("need_ray", none)) fd ∧ FnOk rowP w K mg base (L2.CX rowP w) 4 (He.fAd K ("need_ray", none)) fd ["value", "name"] (spD (GG K) 2 f_need_ray) := by
  obtain ⟨fd_is_small, D_is_small, O_is_small⟩ := ok_is_small fx
  have B_is_small : Binds K fd_is_small ["value"] [] := D_is_small.bindsN fun _ _ _ _ _ _ us hl => match us, hl with | [_], _ => rfl
  obtain ⟨fd, F⟩ := fx.d_need_ray
  refine ⟨fd, F, fn_ok F sc_need_ray rfl (by decide) fun cdv A outer s H E hr tk => ?_⟩
  exact (db_one (ds_if (DW.dt (dw_or (dt_not (dt_val (de_isi rfl fx.b_isinstance fx.b_tuple (by first | rfl | kernel_rfl) (de_var 0)))) (dw_or (dt_c (cm_ne rfl (hr).units) (de_callB call_len (m_len rfl) fx.b_len (by first | rfl | kernel_rfl) (da_cons (de_var 0) da_nil)) de_int) (dw_or (dt_not (dt_val (de_call O_is_small (hr.mono (by first | decide | omega)) fx.g_is_small D_is_small.kp B_is_small .nil (fun _ _ => RepL.nil) tk (da_cons (de_ix rfl (de_var 0) de_int) da_nil)))) (dw_or1 (dt_not (dt_val (de_call O_is_small (hr.mono (by first | decide | omega)) fx.g_is_small D_is_small.kp B_is_small .nil (fun _ _ => RepL.nil) tk (da_cons (de_ix rfl (de_var 0) de_int) da_nil))))))))) (db_one (ds_raise (k := 0) (oBA fx rfl rfl rfl) rfl okName_ok rfl (hr.mono (by first | decide | omega)) tk (da_cons (de_var 1) da_nil))) db_nil))
theorem sc_behind : FnScope ["part", "ray", "kind", "size", "height", "slope"] ["part", "ray"] (defScope s_behind) := ⟨rfl, rfl, rfl, by decide +kernel, rfl, by decide +kernel, by decide +kernel⟩
theorem ok_behind (fx : Fx w K mg base) : ∃ fd, FunD K "behind" "behind" (defArgs s_behind) (defBody s_behind) (defScope s_behind) [] [] (He.fAd K ("behind", none)) fd ∧ FnOk rowP w K mg base (L2.CX rowP w) 5 (He.fAd K ("behind", none)) fd ["part", "ray"] (spD (GG K) 2 f_behind) := by
  obtain ⟨fd_minus, D_minus, O_minus⟩ := ok_minus fx
  obtain ⟨fd_plus, D_plus, O_plus⟩ := ok_plus fx
  obtain ⟨fd_times, D_times, O_times⟩ := ok_times fx
  have B_minus : Binds K fd_minus ["one", "other"] [] := D_minus.bindsN fun _ _ _ _ _ _ us hl => match us, hl with | [_, _], _ => rfl
  have B_plus : Binds K fd_plus ["one", "other"] [] := D_plus.bindsN fun _ _ _ _ _ _ us hl => match us, hl with | [_, _], _ => rfl
  have B_times : Binds K fd_times ["one", "other"] [] := D_times.bindsN fun _ _ _ _ _ _ us hl => match us, hl with | [_, _], _ => rfl
  obtain ⟨fd, F⟩ := fx.d_behind
  refine ⟨fd, F, fn_ok F sc_behind rfl (by decide) fun cdv A outer s H E hr tk => ?_⟩
  exact (db_cons (ds_asg (de_var 0) (dg_unp rfl rfl (dgs_cons (dg_name (i := 2) sc_behind.nd) (dgs_cons (dg_name (i := 3) sc_behind.nd) dgs_nil)))) (db_cons (ds_asg (de_var 1) (dg_unp rfl rfl (dgs_cons (dg_name (i := 4) sc_behind.nd) (dgs_cons (dg_name (i := 5) sc_behind.nd) dgs_nil)))) (db_cons (ds_if (dt_c (cm_eq rfl (hr).units) (de_var 2) de_str) (db_one (ds_ret (de_tup (da_cons (de_call O_plus (hr.mono (by first | decide | omega)) fx.g_plus D_plus.kp B_plus .nil (fun _ _ => RepL.nil) tk (da_cons (de_var 4) (da_cons (de_call O_times (hr.mono (by first | decide | omega)) fx.g_times D_times.kp B_times .nil (fun _ _ => RepL.nil) tk (da_cons (de_var 3) (da_cons (de_var 5) da_nil))) da_nil))) (da_cons (de_var 5) da_nil))))) db_nil) (db_cons (ds_if (dt_c (cm_eq rfl (hr).units) (de_var 2) de_str) (db_one (ds_ret (de_tup (da_cons (de_var 4) (da_cons (de_call O_minus (hr.mono (by first | decide | omega)) fx.g_minus D_minus.kp B_minus .nil (fun _ _ => RepL.nil) tk (da_cons (de_var 5) (da_cons (de_call O_times (hr.mono (by first | decide | omega)) fx.g_times D_times.kp B_times .nil (fun _ _ => RepL.nil) tk (da_cons (de_var 3) (da_cons (de_var 4) da_nil))) da_nil))) da_nil))))) db_nil) (db_one (ds_ret (de_var 1)))))))
theorem sc_way_of : FnScope ["row", "ray", "found", "part"] ["row", "ray"] (defScope s_way_of) := ⟨rfl, rfl, rfl, by decide +kernel, rfl, by decide +kernel, by decide +kernel⟩
theorem ok_way_of (fx : Fx w K mg base) : ∃ fd, FunD K "way_of" "way_of" (defArgs s_way_of) (defBody s_way_of) (defScope s_way_of) [] [] (He.fAd K ("way_of", none)) fd ∧ FnOk rowP w K mg base (L2.CX rowP w) 6 (He.fAd K ("way_of", none)) fd ["row", "ray"] (spD (GG K) 2 f_way_of) := by
  obtain ⟨fd_behind, D_behind, O_behind⟩ := ok_behind fx
  have B_behind : Binds K fd_behind ["part", "ray"] [] := D_behind.bindsN fun _ _ _ _ _ _ us hl => match us, hl with | [_, _], _ => rfl
  obtain ⟨fd, F⟩ := fx.d_way_of
  refine ⟨fd, F, fn_ok F sc_way_of rfl (by decide) fun cdv A outer s H E hr tk => ?_⟩
  exact (db_cons (ds_set (i := 2) sc_way_of.nd (de_lst da_nil)) (db_cons (ds_for (L2.passes_of rfl) rfl (di_val rfl (de_var 0)) (dg_name (i := 3) sc_way_of.nd) (db_cons (ds_set (i := 1) sc_way_of.nd (de_call O_behind (hr.mono (by first | decide | omega)) fx.g_behind D_behind.kp B_behind .nil (fun _ _ => RepL.nil) tk (da_cons (de_var 3) (da_cons (de_var 1) da_nil)))) (db_one (ds_expr (de_append rfl (de_var 2) (da_cons (de_var 1) da_nil)))))) (db_one (ds_ret (de_var 2)))))
theorem sc_way : FnScope ["row", "ray"] ["row", "ray"] (defScope s_way) := ⟨rfl, rfl, rfl, by decide +kernel, rfl, by decide +kernel, by decide +kernel⟩
theorem ok_way (fx : Fx w K mg base) : ∃ fd, FunD K "way" "way" (defArgs s_way) (defBody s_way) (defScope s_way) [] [] (He.fAd K ("way", none)) fd ∧ FnOk rowP w K mg base (L2.CX rowP w) 8 (He.fAd K ("way", none)) fd ["row", "ray"] (spD (GG K) 2 f_way) := by
  obtain ⟨fd_need_ray, D_need_ray, O_need_ray⟩ := ok_need_ray fx
  obtain ⟨fd_need_row, D_need_row, O_need_row⟩ := ok_need_row fx
  obtain ⟨fd_way_of, D_way_of, O_way_of⟩ := ok_way_of fx
  have B_need_ray : Binds K fd_need_ray ["value", "name"] [] := D_need_ray.bindsN fun _ _ _ _ _ _ us hl => match us, hl with | [_, _], _ => rfl
  have B_need_row : Binds K fd_need_row ["value", "name"] [] := D_need_row.bindsN fun _ _ _ _ _ _ us hl => match us, hl with | [_, _], _ => rfl
  have B_way_of : Binds K fd_way_of ["row", "ray"] [] := D_way_of.bindsN fun _ _ _ _ _ _ us hl => match us, hl with | [_, _], _ => rfl
  obtain ⟨fd, F⟩ := fx.d_way
  refine ⟨fd, F, fn_ok F sc_way rfl (by decide) fun cdv A outer s H E hr tk => ?_⟩
  exact (db_cons (ds_expr (de_call O_need_row (hr.mono (by first | decide | omega)) fx.g_need_row D_need_row.kp B_need_row .nil (fun _ _ => RepL.nil) tk (da_cons (de_var 0) (da_cons de_str da_nil)))) (db_cons (ds_expr (de_call O_need_ray (hr.mono (by first | decide | omega)) fx.g_need_ray D_need_ray.kp B_need_ray .nil (fun _ _ => RepL.nil) tk (da_cons (de_var 1) (da_cons de_str da_nil)))) (db_one (ds_ret (de_add rfl (de_tup (da_cons (de_var 1) da_nil)) (de_callTy call_tuple_of (m_tuple rfl) fx.b_tuple (by first | rfl | kernel_rfl) (da_cons (de_call O_way_of (hr.mono (by first | decide | omega)) fx.g_way_of D_way_of.kp B_way_of .nil (fun _ _ => RepL.nil) tk (da_cons (de_var 0) (da_cons (de_var 1) da_nil))) da_nil)))))))
theorem sc_leaving : FnScope ["row", "ray"] ["row", "ray"] (defScope s_leaving) := ⟨rfl, rfl, rfl, by decide +kernel, rfl, by decide +kernel, by decide +kernel⟩
theorem ok_leaving (fx : Fx w K mg base) : ∃ fd, FunD K "leaving" "leaving" (defArgs s_leaving) (defBody s_leaving) (defScope s_leaving) [] [] (He.fAd K ("leaving", none)) fd ∧ FnOk rowP w K mg base (L2.CX rowP w) 9 (He.fAd K ("leaving", none)) fd ["row", "ray"] (spD (GG K) 2 f_leaving) := by
  obtain ⟨fd_way, D_way, O_way⟩ := ok_way fx
  have B_way : Binds K fd_way ["row", "ray"] [] := D_way.bindsN fun _ _ _ _ _ _ us hl => match us, hl with | [_, _], _ => rfl
  obtain ⟨fd, F⟩ := fx.d_leaving
  refine ⟨fd, F, fn_ok F sc_leaving rfl (by decide) fun cdv A outer s H E hr tk => ?_⟩
  exact (db_one (ds_ret (de_ix rfl (de_call O_way (hr.mono (by first | decide | omega)) fx.g_way D_way.kp B_way .nil (fun _ _ => RepL.nil) tk (da_cons (de_var 0) (da_cons (de_var 1) da_nil))) (de_neg de_int))))
theorem sc_part_matrix : FnScope ["part", "kind", "size"] ["part"] (defScope s_part_matrix) := ⟨rfl, rfl, rfl, by decide +kernel, rfl, by decide +kernel, by decide +kernel⟩
theorem ok_part_matrix (fx : Fx w K mg base) : ∃ fd, FunD K "part_matrix" "part_matrix" (defArgs s_part_matrix) (defBody s_part_matrix) (defScope s_part_matrix) [] [] (He.fAd K ("part_matrix", none)) fd ∧ FnOk rowP w K mg base (L2.CX rowP w) 2 (He.fAd K ("part_matrix", none)) fd ["part"] (spD (GG K) 1 f_part_matrix) := by
  obtain ⟨fd_negative, D_negative, O_negative⟩ := ok_negative fx
  have B_negative : Binds K fd_negative ["one"] [] := D_negative.bindsN fun _ _ _ _ _ _ us hl => match us, hl with | [_], _ => rfl
  obtain ⟨fd, F⟩ := fx.d_part_matrix
  refine ⟨fd, F, fn_ok F sc_part_matrix rfl (by decide) fun cdv A outer s H E hr tk => ?_⟩
  exact (db_cons (ds_asg (de_var 0) (dg_unp rfl rfl (dgs_cons (dg_name (i := 1) sc_part_matrix.nd) (dgs_cons (dg_name (i := 2) sc_part_matrix.nd) dgs_nil)))) (db_cons (ds_if (dt_c (cm_eq rfl (hr).units) (de_var 1) de_str) (db_one (ds_ret (de_tup (da_cons (de_tup (da_cons (de_glob (v := .ref (He.ga K "ONE")) fx.g_ONE rfl (r_ONE fx)) (da_cons (de_var 2) da_nil))) (da_cons (de_tup (da_cons (de_glob (v := .ref (He.ga K "ZERO")) fx.g_ZERO rfl (r_ZERO fx)) (da_cons (de_glob (v := .ref (He.ga K "ONE")) fx.g_ONE rfl (r_ONE fx)) da_nil))) da_nil))))) db_nil) (db_one (ds_ret (de_if (dt_c (cm_eq rfl (hr).units) (de_var 1) de_str) (de_tup (da_cons (de_tup (da_cons (de_glob (v := .ref (He.ga K "ONE")) fx.g_ONE rfl (r_ONE fx)) (da_cons (de_glob (v := .ref (He.ga K "ZERO")) fx.g_ZERO rfl (r_ZERO fx)) da_nil))) (da_cons (de_tup (da_cons (de_call O_negative (hr.mono (by first | decide | omega)) fx.g_negative D_negative.kp B_negative .nil (fun _ _ => RepL.nil) tk (da_cons (de_var 2) da_nil)) (da_cons (de_glob (v := .ref (He.ga K "ONE")) fx.g_ONE rfl (r_ONE fx)) da_nil))) da_nil))) (de_glob (v := .ref (He.ga K "SAME")) fx.g_SAME rfl (r_SAME fx)))))))
theorem sc_worked : FnScope ["one", "other", "found", "row", "pair", "at"] ["one", "other"] (defScope s_worked) := ⟨rfl, rfl, rfl, by decide +kernel, rfl, by decide +kernel, by decide +kernel⟩
theorem ok_worked (fx : Fx w K mg base) : ∃ fd, FunD K "worked" "worked" (defArgs s_worked) (defBody s_worked) (defScope s_worked) [] [] (He.fAd K ("worked", none)) fd ∧ FnOk rowP w K mg base (L2.CX rowP w) 4 (He.fAd K ("worked", none)) fd ["one", "other"] (spD (GG K) 2 f_worked) := by
  obtain ⟨fd_plus, D_plus, O_plus⟩ := ok_plus fx
  obtain ⟨fd_times, D_times, O_times⟩ := ok_times fx
  have B_plus : Binds K fd_plus ["one", "other"] [] := D_plus.bindsN fun _ _ _ _ _ _ us hl => match us, hl with | [_, _], _ => rfl
  have B_times : Binds K fd_times ["one", "other"] [] := D_times.bindsN fun _ _ _ _ _ _ us hl => match us, hl with | [_, _], _ => rfl
  obtain ⟨fd, F⟩ := fx.d_worked
  refine ⟨fd, F, fn_ok F sc_worked rfl (by decide) fun cdv A outer s H E hr tk => ?_⟩
  exact (db_cons (ds_set (i := 2) sc_worked.nd (de_lst da_nil)) (db_cons (ds_for (L2.passes_of rfl) rfl (di_val rfl (de_var 1)) (dg_name (i := 3) sc_worked.nd) (db_cons (ds_set (i := 4) sc_worked.nd (de_lst da_nil)) (db_cons (ds_for (L2.passes_of rfl) rfl (di_range1 fx.b_range de_int) (dg_name (i := 5) sc_worked.nd) (db_one (ds_expr (de_append rfl (de_var 4) (da_cons (de_call O_plus (hr.mono (by first | decide | omega)) fx.g_plus D_plus.kp B_plus .nil (fun _ _ => RepL.nil) tk (da_cons (de_call O_times (hr.mono (by first | decide | omega)) fx.g_times D_times.kp B_times .nil (fun _ _ => RepL.nil) tk (da_cons (de_ix rfl (de_var 3) de_int) (da_cons (de_ix rfl (de_ix rfl (de_var 0) de_int) (de_var 5)) da_nil))) (da_cons (de_call O_times (hr.mono (by first | decide | omega)) fx.g_times D_times.kp B_times .nil (fun _ _ => RepL.nil) tk (da_cons (de_ix rfl (de_var 3) de_int) (da_cons (de_ix rfl (de_ix rfl (de_var 0) de_int) (de_var 5)) da_nil))) da_nil))) da_nil))))) (db_one (ds_expr (de_append rfl (de_var 2) (da_cons (de_callTy call_tuple_of (m_tuple rfl) fx.b_tuple (by first | rfl | kernel_rfl) (da_cons (de_var 4) da_nil)) da_nil))))))) (db_one (ds_ret (de_callTy call_tuple_of (m_tuple rfl) fx.b_tuple (by first | rfl | kernel_rfl) (da_cons (de_var 2) da_nil))))))
theorem sc_matrix_of : FnScope ["row", "found", "part"] ["row"] (defScope s_matrix_of) := ⟨rfl, rfl, rfl, by decide +kernel, rfl, by decide +kernel, by decide +kernel⟩
theorem ok_matrix_of (fx : Fx w K mg base) : ∃ fd, FunD K "matrix_of" "matrix_of" (defArgs s_matrix_of) (defBody s_matrix_of) (defScope s_matrix_of) [] [] (He.fAd K ("matrix_of", none)) fd ∧ FnOk rowP w K mg base (L2.CX rowP w) 5 (He.fAd K ("matrix_of", none)) fd ["row"] (spD (GG K) 1 f_matrix_of) := by
  obtain ⟨fd_part_matrix, D_part_matrix, O_part_matrix⟩ := ok_part_matrix fx
  obtain ⟨fd_worked, D_worked, O_worked⟩ := ok_worked fx
  have B_part_matrix : Binds K fd_part_matrix ["part"] [] := D_part_matrix.bindsN fun _ _ _ _ _ _ us hl => match us, hl with | [_], _ => rfl
  have B_worked : Binds K fd_worked ["one", "other"] [] := D_worked.bindsN fun _ _ _ _ _ _ us hl => match us, hl with | [_, _], _ => rfl
  obtain ⟨fd, F⟩ := fx.d_matrix_of
  refine ⟨fd, F, fn_ok F sc_matrix_of rfl (by decide) fun cdv A outer s H E hr tk => ?_⟩
  exact (db_cons (ds_set (i := 1) sc_matrix_of.nd (de_glob (v := .ref (He.ga K "SAME")) fx.g_SAME rfl (r_SAME fx))) (db_cons (ds_for (L2.passes_of rfl) rfl (di_val rfl (de_var 0)) (dg_name (i := 2) sc_matrix_of.nd) (db_one (ds_set (i := 1) sc_matrix_of.nd (de_call O_worked (hr.mono (by first | decide | omega)) fx.g_worked D_worked.kp B_worked .nil (fun _ _ => RepL.nil) tk (da_cons (de_var 1) (da_cons (de_call O_part_matrix (hr.mono (by first | decide | omega)) fx.g_part_matrix D_part_matrix.kp B_part_matrix .nil (fun _ _ => RepL.nil) tk (da_cons (de_var 2) da_nil)) da_nil)))))) (db_one (ds_ret (de_var 1)))))
theorem sc_matrix : FnScope ["row"] ["row"] (defScope s_matrix) := ⟨rfl, rfl, rfl, by decide +kernel, rfl, by decide +kernel, by decide +kernel⟩
theorem ok_matrix (fx : Fx w K mg base) : ∃ fd, FunD K "matrix" "matrix" (defArgs s_matrix) (defBody s_matrix) (defScope s_matrix) [] [] (He.fAd K ("matrix", none)) fd ∧ FnOk rowP w K mg base (L2.CX rowP w) 8 (He.fAd K ("matrix", none)) fd ["row"] (spD (GG K) 1 f_matrix) := by
  obtain ⟨fd_matrix_of, D_matrix_of, O_matrix_of⟩ := ok_matrix_of fx
  obtain ⟨fd_need_row, D_need_row, O_need_row⟩ := ok_need_row fx
  have B_matrix_of : Binds K fd_matrix_of ["row"] [] := D_matrix_of.bindsN fun _ _ _ _ _ _ us hl => match us, hl with | [_], _ => rfl
  have B_need_row : Binds K fd_need_row ["value", "name"] [] := D_need_row.bindsN fun _ _ _ _ _ _ us hl => match us, hl with | [_, _], _ => rfl
  obtain ⟨fd, F⟩ := fx.d_matrix
  refine ⟨fd, F, fn_ok F sc_matrix rfl (by decide) fun cdv A outer s H E hr tk => ?_⟩
  exact (db_cons (ds_expr (de_call O_need_row (hr.mono (by first | decide | omega)) fx.g_need_row D_need_row.kp B_need_row .nil (fun _ _ => RepL.nil) tk (da_cons (de_var 0) (da_cons de_str da_nil)))) (db_one (ds_ret (de_call O_matrix_of (hr.mono (by first | decide | omega)) fx.g_matrix_of D_matrix_of.kp B_matrix_of .nil (fun _ _ => RepL.nil) tk (da_cons (de_var 0) da_nil)))))
theorem sc_need_matrix : FnScope ["value", "name", "pair"] ["value", "name"] (defScope s_need_matrix) := ⟨rfl, rfl, rfl, by decide +kernel, rfl, by decide +kernel, by decide +kernel⟩
theorem ok_need_matrix (fx : Fx w K mg base) : ∃ fd, FunD K "need_matrix" "need_matrix" (defArgs s_need_matrix) (defBody s_need_matrix) (defScope s_need_matrix) [] [] (He.fAd K ("need_matrix", none)) fd ∧ FnOk rowP w K mg base (L2.CX rowP w) 5 (He.fAd K ("need_matrix", none)) fd ["value", "name"] (spD (GG K) 2 f_need_matrix) := by
  obtain ⟨fd_is_small, D_is_small, O_is_small⟩ := ok_is_small fx
  obtain ⟨fd_minus, D_minus, O_minus⟩ := ok_minus fx
  obtain ⟨fd_times, D_times, O_times⟩ := ok_times fx
  have B_is_small : Binds K fd_is_small ["value"] [] := D_is_small.bindsN fun _ _ _ _ _ _ us hl => match us, hl with | [_], _ => rfl
  have B_minus : Binds K fd_minus ["one", "other"] [] := D_minus.bindsN fun _ _ _ _ _ _ us hl => match us, hl with | [_, _], _ => rfl
  have B_times : Binds K fd_times ["one", "other"] [] := D_times.bindsN fun _ _ _ _ _ _ us hl => match us, hl with | [_, _], _ => rfl
  obtain ⟨fd, F⟩ := fx.d_need_matrix
  refine ⟨fd, F, fn_ok F sc_need_matrix rfl (by decide) fun cdv A outer s H E hr tk => ?_⟩
  exact (db_cons (ds_if (DW.dt (dw_or (dt_not (dt_val (de_isi rfl fx.b_isinstance fx.b_tuple (by first | rfl | kernel_rfl) (de_var 0)))) (dw_or1 (dt_c (cm_ne rfl (hr).units) (de_callB call_len (m_len rfl) fx.b_len (by first | rfl | kernel_rfl) (da_cons (de_var 0) da_nil)) de_int)))) (db_one (ds_raise (k := 0) (oBA fx rfl rfl rfl) rfl okName_ok rfl (hr.mono (by first | decide | omega)) tk (da_cons (de_var 1) da_nil))) db_nil) (db_cons (ds_for (L2.passes_of rfl) rfl (di_val rfl (de_var 0)) (dg_name (i := 2) sc_need_matrix.nd) (db_one (ds_if (DW.dt (dw_or (dt_not (dt_val (de_isi rfl fx.b_isinstance fx.b_tuple (by first | rfl | kernel_rfl) (de_var 2)))) (dw_or (dt_c (cm_ne rfl (hr).units) (de_callB call_len (m_len rfl) fx.b_len (by first | rfl | kernel_rfl) (da_cons (de_var 2) da_nil)) de_int) (dw_or (dt_not (dt_val (de_call O_is_small (hr.mono (by first | decide | omega)) fx.g_is_small D_is_small.kp B_is_small .nil (fun _ _ => RepL.nil) tk (da_cons (de_ix rfl (de_var 2) de_int) da_nil)))) (dw_or1 (dt_not (dt_val (de_call O_is_small (hr.mono (by first | decide | omega)) fx.g_is_small D_is_small.kp B_is_small .nil (fun _ _ => RepL.nil) tk (da_cons (de_ix rfl (de_var 2) de_int) da_nil))))))))) (db_one (ds_raise (k := 0) (oBA fx rfl rfl rfl) rfl okName_ok rfl (hr.mono (by first | decide | omega)) tk (da_cons (de_var 1) da_nil))) db_nil))) (db_one (ds_if (dt_c (cm_ne rfl (hr).units) (de_call O_minus (hr.mono (by first | decide | omega)) fx.g_minus D_minus.kp B_minus .nil (fun _ _ => RepL.nil) tk (da_cons (de_call O_times (hr.mono (by first | decide | omega)) fx.g_times D_times.kp B_times .nil (fun _ _ => RepL.nil) tk (da_cons (de_ix rfl (de_ix rfl (de_var 0) de_int) de_int) (da_cons (de_ix rfl (de_ix rfl (de_var 0) de_int) de_int) da_nil))) (da_cons (de_call O_times (hr.mono (by first | decide | omega)) fx.g_times D_times.kp B_times .nil (fun _ _ => RepL.nil) tk (da_cons (de_ix rfl (de_ix rfl (de_var 0) de_int) de_int) (da_cons (de_ix rfl (de_ix rfl (de_var 0) de_int) de_int) da_nil))) da_nil))) (de_glob (v := .ref (He.ga K "ONE")) fx.g_ONE rfl (r_ONE fx))) (db_one (ds_raise (k := 0) (oBA fx rfl rfl rfl) rfl okName_ok rfl (hr.mono (by first | decide | omega)) tk (da_cons (de_var 1) da_nil))) db_nil))))
theorem sc_inverse_of : FnScope ["value", "a", "b", "c", "d"] ["value"] (defScope s_inverse_of) := ⟨rfl, rfl, rfl, by decide +kernel, rfl, by decide +kernel, by decide +kernel⟩
theorem ok_inverse_of (fx : Fx w K mg base) : ∃ fd, FunD K "inverse_of" "inverse_of" (defArgs s_inverse_of) (defBody s_inverse_of) (defScope s_inverse_of) [] [] (He.fAd K ("inverse_of", none)) fd ∧ FnOk rowP w K mg base (L2.CX rowP w) 2 (He.fAd K ("inverse_of", none)) fd ["value"] (spD (GG K) 1 f_inverse_of) := by
  obtain ⟨fd_negative, D_negative, O_negative⟩ := ok_negative fx
  have B_negative : Binds K fd_negative ["one"] [] := D_negative.bindsN fun _ _ _ _ _ _ us hl => match us, hl with | [_], _ => rfl
  obtain ⟨fd, F⟩ := fx.d_inverse_of
  refine ⟨fd, F, fn_ok F sc_inverse_of rfl (by decide) fun cdv A outer s H E hr tk => ?_⟩
  exact (db_cons (ds_asg (de_var 0) (dg_unp rfl rfl (dgs_cons (dg_unp rfl rfl (dgs_cons (dg_name (i := 1) sc_inverse_of.nd) (dgs_cons (dg_name (i := 2) sc_inverse_of.nd) dgs_nil))) (dgs_cons (dg_unp rfl rfl (dgs_cons (dg_name (i := 3) sc_inverse_of.nd) (dgs_cons (dg_name (i := 4) sc_inverse_of.nd) dgs_nil))) dgs_nil)))) (db_one (ds_ret (de_tup (da_cons (de_tup (da_cons (de_var 4) (da_cons (de_call O_negative (hr.mono (by first | decide | omega)) fx.g_negative D_negative.kp B_negative .nil (fun _ _ => RepL.nil) tk (da_cons (de_var 2) da_nil)) da_nil))) (da_cons (de_tup (da_cons (de_call O_negative (hr.mono (by first | decide | omega)) fx.g_negative D_negative.kp B_negative .nil (fun _ _ => RepL.nil) tk (da_cons (de_var 3) da_nil)) (da_cons (de_var 1) da_nil))) da_nil))))))
theorem sc_inverse : FnScope ["m"] ["m"] (defScope s_inverse) := ⟨rfl, rfl, rfl, by decide +kernel, rfl, by decide +kernel, by decide +kernel⟩
theorem ok_inverse (fx : Fx w K mg base) : ∃ fd, FunD K "inverse" "inverse" (defArgs s_inverse) (defBody s_inverse) (defScope s_inverse) [] [] (He.fAd K ("inverse", none)) fd ∧ FnOk rowP w K mg base (L2.CX rowP w) 6 (He.fAd K ("inverse", none)) fd ["m"] (spD (GG K) 1 f_inverse) := by
  obtain ⟨fd_inverse_of, D_inverse_of, O_inverse_of⟩ := ok_inverse_of fx
  obtain ⟨fd_need_matrix, D_need_matrix, O_need_matrix⟩ := ok_need_matrix fx
  have B_inverse_of : Binds K fd_inverse_of ["value"] [] := D_inverse_of.bindsN fun _ _ _ _ _ _ us hl => match us, hl with | [_], _ => rfl
  have B_need_matrix : Binds K fd_need_matrix ["value", "name"] [] := D_need_matrix.bindsN fun _ _ _ _ _ _ us hl => match us, hl with | [_, _], _ => rfl
  obtain ⟨fd, F⟩ := fx.d_inverse
  refine ⟨fd, F, fn_ok F sc_inverse rfl (by decide) fun cdv A outer s H E hr tk => ?_⟩
  exact (db_cons (ds_expr (de_call O_need_matrix (hr.mono (by first | decide | omega)) fx.g_need_matrix D_need_matrix.kp B_need_matrix .nil (fun _ _ => RepL.nil) tk (da_cons (de_var 0) (da_cons de_str da_nil)))) (db_one (ds_ret (de_call O_inverse_of (hr.mono (by first | decide | omega)) fx.g_inverse_of D_inverse_of.kp B_inverse_of .nil (fun _ _ => RepL.nil) tk (da_cons (de_var 0) da_nil)))))
theorem sc_behind_both : FnScope ["m", "k"] ["m", "k"] (defScope s_behind_both) := ⟨rfl, rfl, rfl, by decide +kernel, rfl, by decide +kernel, by decide +kernel⟩
theorem ok_behind_both (fx : Fx w K mg base) : ∃ fd, FunD K "behind_both" "behind_both" (defArgs s_behind_both) (defBody s_behind_both) (defScope s_behind_both) [] [] (He.fAd K ("behind_both", none)) fd ∧ FnOk rowP w K mg base (L2.CX rowP w) 6 (He.fAd K ("behind_both", none)) fd ["m", "k"] (spD (GG K) 2 f_behind_both) := by
  obtain ⟨fd_need_matrix, D_need_matrix, O_need_matrix⟩ := ok_need_matrix fx
  obtain ⟨fd_worked, D_worked, O_worked⟩ := ok_worked fx
  have B_need_matrix : Binds K fd_need_matrix ["value", "name"] [] := D_need_matrix.bindsN fun _ _ _ _ _ _ us hl => match us, hl with | [_, _], _ => rfl
  have B_worked : Binds K fd_worked ["one", "other"] [] := D_worked.bindsN fun _ _ _ _ _ _ us hl => match us, hl with | [_, _], _ => rfl
  obtain ⟨fd, F⟩ := fx.d_behind_both
  refine ⟨fd, F, fn_ok F sc_behind_both rfl (by decide) fun cdv A outer s H E hr tk => ?_⟩
  exact (db_cons (ds_expr (de_call O_need_matrix (hr.mono (by first | decide | omega)) fx.g_need_matrix D_need_matrix.kp B_need_matrix .nil (fun _ _ => RepL.nil) tk (da_cons (de_var 0) (da_cons de_str da_nil)))) (db_cons (ds_expr (de_call O_need_matrix (hr.mono (by first | decide | omega)) fx.g_need_matrix D_need_matrix.kp B_need_matrix .nil (fun _ _ => RepL.nil) tk (da_cons (de_var 1) (da_cons de_str da_nil)))) (db_one (ds_ret (de_call O_worked (hr.mono (by first | decide | omega)) fx.g_worked D_worked.kp B_worked .nil (fun _ _ => RepL.nil) tk (da_cons (de_var 0) (da_cons (de_var 1) da_nil)))))))
theorem sc_sent_by : FnScope ["m", "ray", "a", "b", "c", "d", "height", "slope"] ["m", "ray"] (defScope s_sent_by) := ⟨rfl, rfl, rfl, by decide +kernel, rfl, by decide +kernel, by decide +kernel⟩
theorem ok_sent_by (fx : Fx w K mg base) : ∃ fd, FunD K "sent_by" "sent_by" (defArgs s_sent_by) (defBody s_sent_by) (defScope s_sent_by) [] [] (He.fAd K ("sent_by", none)) fd ∧ FnOk rowP w K mg base (L2.CX rowP w) 4 (He.fAd K ("sent_by", none)) fd ["m", "ray"] (spD (GG K) 2 f_sent_by) := by
  obtain ⟨fd_plus, D_plus, O_plus⟩ := ok_plus fx
  obtain ⟨fd_times, D_times, O_times⟩ := ok_times fx
  have B_plus : Binds K fd_plus ["one", "other"] [] := D_plus.bindsN fun _ _ _ _ _ _ us hl => match us, hl with | [_, _], _ => rfl
  have B_times : Binds K fd_times ["one", "other"] [] := D_times.bindsN fun _ _ _ _ _ _ us hl => match us, hl with | [_, _], _ => rfl
  obtain ⟨fd, F⟩ := fx.d_sent_by
  refine ⟨fd, F, fn_ok F sc_sent_by rfl (by decide) fun cdv A outer s H E hr tk => ?_⟩
  exact (db_cons (ds_asg (de_var 0) (dg_unp rfl rfl (dgs_cons (dg_unp rfl rfl (dgs_cons (dg_name (i := 2) sc_sent_by.nd) (dgs_cons (dg_name (i := 3) sc_sent_by.nd) dgs_nil))) (dgs_cons (dg_unp rfl rfl (dgs_cons (dg_name (i := 4) sc_sent_by.nd) (dgs_cons (dg_name (i := 5) sc_sent_by.nd) dgs_nil))) dgs_nil)))) (db_cons (ds_asg (de_var 1) (dg_unp rfl rfl (dgs_cons (dg_name (i := 6) sc_sent_by.nd) (dgs_cons (dg_name (i := 7) sc_sent_by.nd) dgs_nil)))) (db_one (ds_ret (de_tup (da_cons (de_call O_plus (hr.mono (by first | decide | omega)) fx.g_plus D_plus.kp B_plus .nil (fun _ _ => RepL.nil) tk (da_cons (de_call O_times (hr.mono (by first | decide | omega)) fx.g_times D_times.kp B_times .nil (fun _ _ => RepL.nil) tk (da_cons (de_var 2) (da_cons (de_var 6) da_nil))) (da_cons (de_call O_times (hr.mono (by first | decide | omega)) fx.g_times D_times.kp B_times .nil (fun _ _ => RepL.nil) tk (da_cons (de_var 3) (da_cons (de_var 7) da_nil))) da_nil))) (da_cons (de_call O_plus (hr.mono (by first | decide | omega)) fx.g_plus D_plus.kp B_plus .nil (fun _ _ => RepL.nil) tk (da_cons (de_call O_times (hr.mono (by first | decide | omega)) fx.g_times D_times.kp B_times .nil (fun _ _ => RepL.nil) tk (da_cons (de_var 4) (da_cons (de_var 6) da_nil))) (da_cons (de_call O_times (hr.mono (by first | decide | omega)) fx.g_times D_times.kp B_times .nil (fun _ _ => RepL.nil) tk (da_cons (de_var 5) (da_cons (de_var 7) da_nil))) da_nil))) da_nil)))))))
theorem sc_sent : FnScope ["m", "ray"] ["m", "ray"] (defScope s_sent) := ⟨rfl, rfl, rfl, by decide +kernel, rfl, by decide +kernel, by decide +kernel⟩
theorem ok_sent (fx : Fx w K mg base) : ∃ fd, FunD K "sent" "sent" (defArgs s_sent) (defBody s_sent) (defScope s_sent) [] [] (He.fAd K ("sent", none)) fd ∧ FnOk rowP w K mg base (L2.CX rowP w) 6 (He.fAd K ("sent", none)) fd ["m", "ray"] (spD (GG K) 2 f_sent) := by
  obtain ⟨fd_need_matrix, D_need_matrix, O_need_matrix⟩ := ok_need_matrix fx
  obtain ⟨fd_need_ray, D_need_ray, O_need_ray⟩ := ok_need_ray fx
  obtain ⟨fd_sent_by, D_sent_by, O_sent_by⟩ := ok_sent_by fx
  have B_need_matrix : Binds K fd_need_matrix ["value", "name"] [] := D_need_matrix.bindsN fun _ _ _ _ _ _ us hl => match us, hl with | [_, _], _ => rfl
  have B_need_ray : Binds K fd_need_ray ["value", "name"] [] := D_need_ray.bindsN fun _ _ _ _ _ _ us hl => match us, hl with | [_, _], _ => rfl
  have B_sent_by : Binds K fd_sent_by ["m", "ray"] [] := D_sent_by.bindsN fun _ _ _ _ _ _ us hl => match us, hl with | [_, _], _ => rfl
  obtain ⟨fd, F⟩ := fx.d_sent
  refine ⟨fd, F, fn_ok F sc_sent rfl (by decide) fun cdv A outer s H E hr tk => ?_⟩
  exact (db_cons (ds_expr (de_call O_need_matrix (hr.mono (by first | decide | omega)) fx.g_need_matrix D_need_matrix.kp B_need_matrix .nil (fun _ _ => RepL.nil) tk (da_cons (de_var 0) (da_cons de_str da_nil)))) (db_cons (ds_expr (de_call O_need_ray (hr.mono (by first | decide | omega)) fx.g_need_ray D_need_ray.kp B_need_ray .nil (fun _ _ => RepL.nil) tk (da_cons (de_var 1) (da_cons de_str da_nil)))) (db_one (ds_ret (de_call O_sent_by (hr.mono (by first | decide | omega)) fx.g_sent_by D_sent_by.kp B_sent_by .nil (fun _ _ => RepL.nil) tk (da_cons (de_var 0) (da_cons (de_var 1) da_nil)))))))
theorem sc_are_alike : FnScope ["one", "other"] ["one", "other"] (defScope s_are_alike) := ⟨rfl, rfl, rfl, by decide +kernel, rfl, by decide +kernel, by decide +kernel⟩
theorem ok_are_alike (fx : Fx w K mg base) : ∃ fd, FunD K "are_alike" "are_alike" (defArgs s_are_alike) (defBody s_are_alike) (defScope s_are_alike) [] [] (He.fAd K ("are_alike", none)) fd ∧ FnOk rowP w K mg base (L2.CX rowP w) 8 (He.fAd K ("are_alike", none)) fd ["one", "other"] (spD (GG K) 2 f_are_alike) := by
  obtain ⟨fd_matrix_of, D_matrix_of, O_matrix_of⟩ := ok_matrix_of fx
  obtain ⟨fd_need_row, D_need_row, O_need_row⟩ := ok_need_row fx
  have B_matrix_of : Binds K fd_matrix_of ["row"] [] := D_matrix_of.bindsN fun _ _ _ _ _ _ us hl => match us, hl with | [_], _ => rfl
  have B_need_row : Binds K fd_need_row ["value", "name"] [] := D_need_row.bindsN fun _ _ _ _ _ _ us hl => match us, hl with | [_, _], _ => rfl
  obtain ⟨fd, F⟩ := fx.d_are_alike
  refine ⟨fd, F, fn_ok F sc_are_alike rfl (by decide) fun cdv A outer s H E hr tk => ?_⟩
  exact (db_cons (ds_expr (de_call O_need_row (hr.mono (by first | decide | omega)) fx.g_need_row D_need_row.kp B_need_row .nil (fun _ _ => RepL.nil) tk (da_cons (de_var 0) (da_cons de_str da_nil)))) (db_cons (ds_expr (de_call O_need_row (hr.mono (by first | decide | omega)) fx.g_need_row D_need_row.kp B_need_row .nil (fun _ _ => RepL.nil) tk (da_cons (de_var 1) (da_cons de_str da_nil)))) (db_one (ds_ret (de_c (cm_eq rfl (hr).units) (de_call O_matrix_of (hr.mono (by first | decide | omega)) fx.g_matrix_of D_matrix_of.kp B_matrix_of .nil (fun _ _ => RepL.nil) tk (da_cons (de_var 0) da_nil)) (de_call O_matrix_of (hr.mono (by first | decide | omega)) fx.g_matrix_of D_matrix_of.kp B_matrix_of .nil (fun _ _ => RepL.nil) tk (da_cons (de_var 1) da_nil)))))))
theorem sc_unlike_ray : FnScope ["one", "other", "ray"] ["one", "other"] (defScope s_unlike_ray) := ⟨rfl, rfl, rfl, by decide +kernel, rfl, by decide +kernel, by decide +kernel⟩
theorem ok_unlike_ray (fx : Fx w K mg base) : ∃ fd, FunD K "unlike_ray" "unlike_ray" (defArgs s_unlike_ray) (defBody s_unlike_ray) (defScope s_unlike_ray) [] [] (He.fAd K ("unlike_ray", none)) fd ∧ FnOk rowP w K mg base (L2.CX rowP w) 10 (He.fAd K ("unlike_ray", none)) fd ["one", "other"] (spD (GG K) 2 f_unlike_ray) := by
  obtain ⟨fd_leaving, D_leaving, O_leaving⟩ := ok_leaving fx
  obtain ⟨fd_need_row, D_need_row, O_need_row⟩ := ok_need_row fx
  have B_leaving : Binds K fd_leaving ["row", "ray"] [] := D_leaving.bindsN fun _ _ _ _ _ _ us hl => match us, hl with | [_, _], _ => rfl
  have B_need_row : Binds K fd_need_row ["value", "name"] [] := D_need_row.bindsN fun _ _ _ _ _ _ us hl => match us, hl with | [_, _], _ => rfl
  obtain ⟨fd, F⟩ := fx.d_unlike_ray
  refine ⟨fd, F, fn_ok F sc_unlike_ray rfl (by decide) fun cdv A outer s H E hr tk => ?_⟩
  exact (db_cons (ds_expr (de_call O_need_row (hr.mono (by first | decide | omega)) fx.g_need_row D_need_row.kp B_need_row .nil (fun _ _ => RepL.nil) tk (da_cons (de_var 0) (da_cons de_str da_nil)))) (db_cons (ds_expr (de_call O_need_row (hr.mono (by first | decide | omega)) fx.g_need_row D_need_row.kp B_need_row .nil (fun _ _ => RepL.nil) tk (da_cons (de_var 1) (da_cons de_str da_nil)))) (db_cons (ds_for (L2.passes_of rfl) rfl (di_val rfl (de_tup (da_cons (de_tup (da_cons (de_glob (v := .ref (He.ga K "ONE")) fx.g_ONE rfl (r_ONE fx)) (da_cons (de_glob (v := .ref (He.ga K "ZERO")) fx.g_ZERO rfl (r_ZERO fx)) da_nil))) (da_cons (de_tup (da_cons (de_glob (v := .ref (He.ga K "ZERO")) fx.g_ZERO rfl (r_ZERO fx)) (da_cons (de_glob (v := .ref (He.ga K "ONE")) fx.g_ONE rfl (r_ONE fx)) da_nil))) da_nil)))) (dg_name (i := 2) sc_unlike_ray.nd) (db_one (ds_if (dt_c (cm_ne rfl (hr).units) (de_call O_leaving (hr.mono (by first | decide | omega)) fx.g_leaving D_leaving.kp B_leaving .nil (fun _ _ => RepL.nil) tk (da_cons (de_var 0) (da_cons (de_var 2) da_nil))) (de_call O_leaving (hr.mono (by first | decide | omega)) fx.g_leaving D_leaving.kp B_leaving .nil (fun _ _ => RepL.nil) tk (da_cons (de_var 1) (da_cons (de_var 2) da_nil)))) (db_one (ds_ret (de_var 2))) db_nil))) (db_one (ds_ret de_non)))))
theorem sc_law_dice : FnScope ["script", "spot", "own", "mixed", "cell"] ["script", "spot"] (defScope s_law_dice) := ⟨rfl, rfl, rfl, by decide +kernel, rfl, by decide +kernel, by decide +kernel⟩
theorem ok_law_dice (fx : Fx w K mg base) : ∃ fd, FunD K "_law_dice" "_law_dice" (defArgs s_law_dice) (defBody s_law_dice) (defScope s_law_dice) [] [] (He.fAd K ("_law_dice", none)) fd ∧ FnOk rowP w K mg base (L2.CX rowP w) 1 (He.fAd K ("_law_dice", none)) fd ["script", "spot"] (spD (GG K) 2 f_law_dice) := by
  obtain ⟨fd, F⟩ := fx.d_law_dice
  refine ⟨fd, F, fn_ok F sc_law_dice rfl (by decide) fun cdv A outer s H E hr tk => ?_⟩
  exact (db_cons (ds_set (i := 2) sc_law_dice.nd (de_if (dt_c cm_lt (de_var 1) (de_callB call_len (m_len rfl) fx.b_len (by first | rfl | kernel_rfl) (da_cons (de_var 0) da_nil))) (de_ix rfl (de_var 0) (de_var 1)) (de_add rfl (de_mul rfl de_int (de_var 1)) de_int))) (db_cons (ds_set (i := 3) sc_law_dice.nd (de_add rfl de_int (de_mul rfl de_int (de_var 1)))) (db_cons (ds_for (L2.passes_of rfl) rfl (di_val rfl (de_add rfl (de_sl rfl (de_var 0) do_none (do_some de_int)) (de_lst (da_cons (de_var 2) da_nil)))) (dg_name (i := 4) sc_law_dice.nd) (db_one (ds_set (i := 3) sc_law_dice.nd (de_mod (de_callTy call_int1 m_int fx.b_int (by first | rfl | kernel_rfl) (da_cons (de_add rfl (de_mul rfl (de_var 3) de_int) (de_mod (de_callTy call_int1 m_int fx.b_int (by first | rfl | kernel_rfl) (da_cons (de_var 4) da_nil)) de_int)) da_nil)) de_int)))) (db_one (ds_ret (de_lst (da_cons (de_if (DW.dt (dw_or (dt_c cm_lt (de_var 2) de_int) (dw_or1 (dt_c cm_ge (de_var 2) (de_pow de_int de_int))))) (de_callB call_abs m_abs fx.b_abs (by first | rfl | kernel_rfl) (da_cons (de_var 2) da_nil)) de_int) (da_cons (de_var 3) (da_cons de_int da_nil)))))))))
theorem sc_law_roll : FnScope ["dice", "many", "found"] ["dice", "many"] (defScope s_law_roll) := ⟨rfl, rfl, rfl, by decide +kernel, rfl, by decide +kernel, by decide +kernel⟩
theorem ok_law_roll (fx : Fx w K mg base) : ∃ fd, FunD K "_law_roll" "_law_roll" (defArgs s_law_roll) (defBody s_law_roll) (defScope s_law_roll) [] [] (He.fAd K ("_law_roll", none)) fd ∧ FnOk rowP w K mg base (L2.CX rowP w) 1 (He.fAd K ("_law_roll", none)) fd ["dice", "many"] (spD (GG K) 2 f_law_roll) := by
  obtain ⟨fd, F⟩ := fx.d_law_roll
  refine ⟨fd, F, fn_ok F sc_law_roll rfl (by decide) fun cdv A outer s H E hr tk => ?_⟩
  exact (db_cons (ds_if (dt_c cm_gt (de_ix rfl (de_var 0) de_int) de_int) (db_cons (ds_set (i := 2) sc_law_roll.nd (de_mod (de_callTy call_int1 m_int fx.b_int (by first | rfl | kernel_rfl) (da_cons (de_ix rfl (de_var 0) de_int) da_nil)) (de_var 1))) (db_cons (ds_asg (de_div (de_ix rfl (de_var 0) de_int) (de_var 1)) (dg_sub (de_var 0) de_int)) (db_one (ds_ret (de_var 2))))) db_nil) (db_cons (ds_asg (de_add rfl (de_ix rfl (de_var 0) de_int) de_int) (dg_sub (de_var 0) de_int)) (db_cons (ds_asg (de_mod (de_callTy call_int1 m_int fx.b_int (by first | rfl | kernel_rfl) (da_cons (de_add rfl (de_add rfl (de_mul rfl (de_ix rfl (de_var 0) de_int) de_int) (de_mul rfl (de_mul rfl (de_ix rfl (de_var 0) de_int) (de_ix rfl (de_var 0) de_int)) de_int)) de_int) da_nil)) de_int) (dg_sub (de_var 0) de_int)) (db_one (ds_ret (de_mod (de_callTy call_int1 m_int fx.b_int (by first | rfl | kernel_rfl) (da_cons (de_div (de_ix rfl (de_var 0) de_int) de_int) da_nil)) (de_var 1)))))))
theorem sc_law_pick : FnScope ["dice", "things"] ["dice", "things"] (defScope s_law_pick) := ⟨rfl, rfl, rfl, by decide +kernel, rfl, by decide +kernel, by decide +kernel⟩
theorem ok_law_pick (fx : Fx w K mg base) : ∃ fd, FunD K "_law_pick" "_law_pick" (defArgs s_law_pick) (defBody s_law_pick) (defScope s_law_pick) [] [] (He.fAd K ("_law_pick", none)) fd ∧ FnOk rowP w K mg base (L2.CX rowP w) 2 (He.fAd K ("_law_pick", none)) fd ["dice", "things"] (spD (GG K) 2 f_law_pick) := by
  obtain ⟨fd_law_roll, D_law_roll, O_law_roll⟩ := ok_law_roll fx
  have B_law_roll : Binds K fd_law_roll ["dice", "many"] [] := D_law_roll.bindsN fun _ _ _ _ _ _ us hl => match us, hl with | [_, _], _ => rfl
  obtain ⟨fd, F⟩ := fx.d_law_pick
  refine ⟨fd, F, fn_ok F sc_law_pick rfl (by decide) fun cdv A outer s H E hr tk => ?_⟩
  exact (db_one (ds_ret (de_ix rfl (de_var 1) (de_call O_law_roll (hr.mono (by first | decide | omega)) fx.g__law_roll D_law_roll.kp B_law_roll .nil (fun _ _ => RepL.nil) tk (da_cons (de_var 0) (da_cons (de_callB call_len (m_len rfl) fx.b_len (by first | rfl | kernel_rfl) (da_cons (de_var 1) da_nil)) da_nil))))))
theorem sc_law_refused : FnScope ["call", "e"] ["call"] (defScope s_law_refused) := ⟨rfl, rfl, rfl, by decide +kernel, rfl, by decide +kernel, by decide +kernel⟩
theorem sc_law_f : FnScope ["above", "below", "one", "other", "turn"] ["above", "below"] (defScope s_law_f) := ⟨rfl, rfl, rfl, by decide +kernel, rfl, by decide +kernel, by decide +kernel⟩
theorem ok_law_f (fx : Fx w K mg base) : ∃ fd, FunD K "_law_f" "_law_f" (defArgs s_law_f) (defBody s_law_f) (defScope s_law_f) [] [] (He.fAd K ("_law_f", none)) fd ∧ FnOk rowP w K mg base (L2.CX rowP w) 1 (He.fAd K ("_law_f", none)) fd ["above", "below"] (spD (GG K) 2 f_law_f) := by
  obtain ⟨fd, F⟩ := fx.d_law_f
  refine ⟨fd, F, fn_ok F sc_law_f rfl (by decide) fun cdv A outer s H E hr tk => ?_⟩
  exact (db_cons (ds_if (dt_c cm_lt (de_var 1) de_int) (db_one (ds_par2 (i := 0) (j := 1) rfl sc_law_f.nd rfl rfl (by decide) rfl rfl (da_cons (de_sub de_int (de_var 0)) (da_cons (de_sub de_int (de_var 1)) da_nil)))) db_nil) (db_cons (ds_par2 (i := 2) (j := 3) rfl sc_law_f.nd rfl rfl (by decide) rfl rfl (da_cons (de_callB call_abs m_abs fx.b_abs (by first | rfl | kernel_rfl) (da_cons (de_var 0) da_nil)) (da_cons (de_var 1) da_nil))) (db_cons (ds_for (L2.passes_of rfl) rfl (di_range1 fx.b_range de_int) (dg_name (i := 4) sc_law_f.nd) (db_cons (ds_if (dt_c (cm_eq rfl (hr).units) (de_var 3) de_int) (db_one ds_break) db_nil) (db_one (ds_par2 (i := 2) (j := 3) rfl sc_law_f.nd rfl rfl (by decide) rfl rfl (da_cons (de_var 3) (da_cons (de_mod (de_callTy call_int1 m_int fx.b_int (by first | rfl | kernel_rfl) (da_cons (de_var 2) da_nil)) (de_var 3)) da_nil)))))) (db_one (ds_ret (de_tup (da_cons (de_div (de_var 0) (de_var 2)) (da_cons (de_div (de_var 1) (de_var 2)) da_nil))))))))
theorem sc_law_add : FnScope ["one", "other"] ["one", "other"] (defScope s_law_add) := ⟨rfl, rfl, rfl, by decide +kernel, rfl, by decide +kernel, by decide +kernel⟩
theorem ok_law_add (fx : Fx w K mg base) : ∃ fd, FunD K "_law_add" "_law_add" (defArgs s_law_add) (defBody s_law_add) (defScope s_law_add) [] [] (He.fAd K ("_law_add", none)) fd ∧ FnOk rowP w K mg base (L2.CX rowP w) 2 (He.fAd K ("_law_add", none)) fd ["one", "other"] (spD (GG K) 2 f_law_add) := by
  obtain ⟨fd_law_f, D_law_f, O_law_f⟩ := ok_law_f fx
  have B_law_f : Binds K fd_law_f ["above", "below"] [] := D_law_f.bindsN fun _ _ _ _ _ _ us hl => match us, hl with | [_, _], _ => rfl
  obtain ⟨fd, F⟩ := fx.d_law_add
  refine ⟨fd, F, fn_ok F sc_law_add rfl (by decide) fun cdv A outer s H E hr tk => ?_⟩
  exact (db_one (ds_ret (de_call O_law_f (hr.mono (by first | decide | omega)) fx.g__law_f D_law_f.kp B_law_f .nil (fun _ _ => RepL.nil) tk (da_cons (de_add rfl (de_mul rfl (de_ix rfl (de_var 0) de_int) (de_ix rfl (de_var 1) de_int)) (de_mul rfl (de_ix rfl (de_var 1) de_int) (de_ix rfl (de_var 0) de_int))) (da_cons (de_mul rfl (de_ix rfl (de_var 0) de_int) (de_ix rfl (de_var 1) de_int)) da_nil)))))
theorem sc_law_neg : FnScope ["one"] ["one"] (defScope s_law_neg) := ⟨rfl, rfl, rfl, by decide +kernel, rfl, by decide +kernel, by decide +kernel⟩
theorem ok_law_neg (fx : Fx w K mg base) : ∃ fd, FunD K "_law_neg" "_law_neg" (defArgs s_law_neg) (defBody s_law_neg) (defScope s_law_neg) [] [] (He.fAd K ("_law_neg", none)) fd ∧ FnOk rowP w K mg base (L2.CX rowP w) 1 (He.fAd K ("_law_neg", none)) fd ["one"] (spD (GG K) 1 f_law_neg) := by
  obtain ⟨fd, F⟩ := fx.d_law_neg
  refine ⟨fd, F, fn_ok F sc_law_neg rfl (by decide) fun cdv A outer s H E hr tk => ?_⟩
  exact (db_one (ds_ret (de_tup (da_cons (de_sub de_int (de_ix rfl (de_var 0) de_int)) (da_cons (de_ix rfl (de_var 0) de_int) da_nil)))))
theorem sc_law_mul : FnScope ["one", "other"] ["one", "other"] (defScope s_law_mul) := ⟨rfl, rfl, rfl, by decide +kernel, rfl, by decide +kernel, by decide +kernel⟩
theorem ok_law_mul (fx : Fx w K mg base) : ∃ fd, FunD K "_law_mul" "_law_mul" (defArgs s_law_mul) (defBody s_law_mul) (defScope s_law_mul) [] [] (He.fAd K ("_law_mul", none)) fd ∧ FnOk rowP w K mg base (L2.CX rowP w) 2 (He.fAd K ("_law_mul", none)) fd ["one", "other"] (spD (GG K) 2 f_law_mul) := by
  obtain ⟨fd_law_f, D_law_f, O_law_f⟩ := ok_law_f fx
  have B_law_f : Binds K fd_law_f ["above", "below"] [] := D_law_f.bindsN fun _ _ _ _ _ _ us hl => match us, hl with | [_, _], _ => rfl
  obtain ⟨fd, F⟩ := fx.d_law_mul
  refine ⟨fd, F, fn_ok F sc_law_mul rfl (by decide) fun cdv A outer s H E hr tk => ?_⟩
  exact (db_one (ds_ret (de_call O_law_f (hr.mono (by first | decide | omega)) fx.g__law_f D_law_f.kp B_law_f .nil (fun _ _ => RepL.nil) tk (da_cons (de_mul rfl (de_ix rfl (de_var 0) de_int) (de_ix rfl (de_var 1) de_int)) (da_cons (de_mul rfl (de_ix rfl (de_var 0) de_int) (de_ix rfl (de_var 1) de_int)) da_nil)))))
theorem sc_law_div : FnScope ["one", "other"] ["one", "other"] (defScope s_law_div) := ⟨rfl, rfl, rfl, by decide +kernel, rfl, by decide +kernel, by decide +kernel⟩
theorem ok_law_div (fx : Fx w K mg base) : ∃ fd, FunD K "_law_div" "_law_div" (defArgs s_law_div) (defBody s_law_div) (defScope s_law_div) [] [] (He.fAd K ("_law_div", none)) fd ∧ FnOk rowP w K mg base (L2.CX rowP w) 2 (He.fAd K ("_law_div", none)) fd ["one", "other"] (spD (GG K) 2 f_law_div) := by
  obtain ⟨fd_law_f, D_law_f, O_law_f⟩ := ok_law_f fx
  have B_law_f : Binds K fd_law_f ["above", "below"] [] := D_law_f.bindsN fun _ _ _ _ _ _ us hl => match us, hl with | [_, _], _ => rfl
  obtain ⟨fd, F⟩ := fx.d_law_div
  refine ⟨fd, F, fn_ok F sc_law_div rfl (by decide) fun cdv A outer s H E hr tk => ?_⟩
  exact (db_one (ds_ret (de_call O_law_f (hr.mono (by first | decide | omega)) fx.g__law_f D_law_f.kp B_law_f .nil (fun _ _ => RepL.nil) tk (da_cons (de_mul rfl (de_ix rfl (de_var 0) de_int) (de_ix rfl (de_var 1) de_int)) (da_cons (de_mul rfl (de_ix rfl (de_var 0) de_int) (de_ix rfl (de_var 1) de_int)) da_nil)))))
theorem sc_law_num : FnScope ["dice", "kind"] ["dice"] (defScope s_law_num) := ⟨rfl, rfl, rfl, by decide +kernel, rfl, by decide +kernel, by decide +kernel⟩
theorem ok_law_num (fx : Fx w K mg base) : ∃ fd, FunD K "_law_num" "_law_num" (defArgs s_law_num) (defBody s_law_num) (defScope s_law_num) [] [] (He.fAd K ("_law_num", none)) fd ∧ FnOk rowP w K mg base (L2.CX rowP w) 3 (He.fAd K ("_law_num", none)) fd ["dice"] (spD (GG K) 1 f_law_num) := by
  obtain ⟨fd_law_f, D_law_f, O_law_f⟩ := ok_law_f fx
  obtain ⟨fd_law_pick, D_law_pick, O_law_pick⟩ := ok_law_pick fx
  obtain ⟨fd_law_roll, D_law_roll, O_law_roll⟩ := ok_law_roll fx
  have B_law_f : Binds K fd_law_f ["above", "below"] [] := D_law_f.bindsN fun _ _ _ _ _ _ us hl => match us, hl with | [_, _], _ => rfl
  have B_law_pick : Binds K fd_law_pick ["dice", "things"] [] := D_law_pick.bindsN fun _ _ _ _ _ _ us hl => match us, hl with | [_, _], _ => rfl
  have B_law_roll : Binds K fd_law_roll ["dice", "many"] [] := D_law_roll.bindsN fun _ _ _ _ _ _ us hl => match us, hl with | [_, _], _ => rfl
  obtain ⟨fd, F⟩ := fx.d_law_num
  refine ⟨fd, F, fn_ok F sc_law_num rfl (by decide) fun cdv A outer s H E hr tk => ?_⟩
  exact (db_cons (ds_set (i := 1) sc_law_num.nd (de_call O_law_roll (hr.mono (by first | decide | omega)) fx.g__law_roll D_law_roll.kp B_law_roll .nil (fun _ _ => RepL.nil) tk (da_cons (de_var 0) (da_cons de_int da_nil)))) (db_cons (ds_if (dt_c cm_lt (de_var 1) de_int) (db_one (ds_ret (de_call O_law_pick (hr.mono (by first | decide | omega)) fx.g__law_pick D_law_pick.kp B_law_pick .nil (fun _ _ => RepL.nil) tk (da_cons (de_var 0) (da_cons (de_lst (da_cons (de_tup (da_cons de_int (da_cons de_int da_nil))) (da_cons (de_tup (da_cons de_int (da_cons de_int da_nil))) (da_cons (de_tup (da_cons (de_neg de_int) (da_cons de_int da_nil))) (da_cons (de_tup (da_cons de_int (da_cons de_int da_nil))) (da_cons (de_tup (da_cons de_int (da_cons de_int da_nil))) da_nil)))))) da_nil))))) db_nil) (db_cons (ds_if (dt_c cm_lt (de_var 1) de_int) (db_one (ds_ret (de_call O_law_f (hr.mono (by first | decide | omega)) fx.g__law_f D_law_f.kp B_law_f .nil (fun _ _ => RepL.nil) tk (da_cons (de_sub (de_call O_law_roll (hr.mono (by first | decide | omega)) fx.g__law_roll D_law_roll.kp B_law_roll .nil (fun _ _ => RepL.nil) tk (da_cons (de_var 0) (da_cons de_int da_nil))) de_int) (da_cons (de_add rfl de_int (de_call O_law_roll (hr.mono (by first | decide | omega)) fx.g__law_roll D_law_roll.kp B_law_roll .nil (fun _ _ => RepL.nil) tk (da_cons (de_var 0) (da_cons de_int da_nil)))) da_nil))))) db_nil) (db_one (ds_ret (de_if (dt_c (cm_eq rfl (hr).units) (de_call O_law_roll (hr.mono (by first | decide | omega)) fx.g__law_roll D_law_roll.kp B_law_roll .nil (fun _ _ => RepL.nil) tk (da_cons (de_var 0) (da_cons de_int da_nil))) de_int) (de_call O_law_f (hr.mono (by first | decide | omega)) fx.g__law_f D_law_f.kp B_law_f .nil (fun _ _ => RepL.nil) tk (da_cons (de_sub (de_mul rfl (de_call O_law_roll (hr.mono (by first | decide | omega)) fx.g__law_roll D_law_roll.kp B_law_roll .nil (fun _ _ => RepL.nil) tk (da_cons (de_var 0) (da_cons de_int da_nil))) de_int) (de_mul rfl de_int (de_pow de_int de_int))) (da_cons (de_add rfl de_int (de_mul rfl (de_call O_law_roll (hr.mono (by first | decide | omega)) fx.g__law_roll D_law_roll.kp B_law_roll .nil (fun _ _ => RepL.nil) tk (da_cons (de_var 0) (da_cons de_int da_nil))) de_int)) da_nil))) (de_call O_law_f (hr.mono (by first | decide | omega)) fx.g__law_f D_law_f.kp B_law_f .nil (fun _ _ => RepL.nil) tk (da_cons (de_sub (de_call O_law_roll (hr.mono (by first | decide | omega)) fx.g__law_roll D_law_roll.kp B_law_roll .nil (fun _ _ => RepL.nil) tk (da_cons (de_var 0) (da_cons de_int da_nil))) de_int) (da_cons (de_add rfl de_int (de_call O_law_roll (hr.mono (by first | decide | omega)) fx.g__law_roll D_law_roll.kp B_law_roll .nil (fun _ _ => RepL.nil) tk (da_cons (de_var 0) (da_cons de_int da_nil)))) da_nil)))))))))
theorem sc_law_part : FnScope ["dice", "kind", "size"] ["dice"] (defScope s_law_part) := ⟨rfl, rfl, rfl, by decide +kernel, rfl, by decide +kernel, by decide +kernel⟩
theorem ok_law_part (fx : Fx w K mg base) : ∃ fd, FunD K "_law_part" "_law_part" (defArgs s_law_part) (defBody s_law_part) (defScope s_law_part) [] [] (He.fAd K ("_law_part", none)) fd ∧ FnOk rowP w K mg base (L2.CX rowP w) 4 (He.fAd K ("_law_part", none)) fd ["dice"] (spD (GG K) 1 f_law_part) := by
  obtain ⟨fd_law_num, D_law_num, O_law_num⟩ := ok_law_num fx
  obtain ⟨fd_law_pick, D_law_pick, O_law_pick⟩ := ok_law_pick fx
  have B_law_num : Binds K fd_law_num ["dice"] [] := D_law_num.bindsN fun _ _ _ _ _ _ us hl => match us, hl with | [_], _ => rfl
  have B_law_pick : Binds K fd_law_pick ["dice", "things"] [] := D_law_pick.bindsN fun _ _ _ _ _ _ us hl => match us, hl with | [_, _], _ => rfl
  obtain ⟨fd, F⟩ := fx.d_law_part
  refine ⟨fd, F, fn_ok F sc_law_part rfl (by decide) fun cdv A outer s H E hr tk => ?_⟩
  exact (db_cons (ds_par2 (i := 1) (j := 2) rfl sc_law_part.nd rfl rfl (by decide) rfl rfl (da_cons (de_call O_law_pick (hr.mono (by first | decide | omega)) fx.g__law_pick D_law_pick.kp B_law_pick .nil (fun _ _ => RepL.nil) tk (da_cons (de_var 0) (da_cons (de_lst (da_cons de_str (da_cons de_str (da_cons de_str (da_cons de_str (da_cons de_str da_nil)))))) da_nil))) (da_cons (de_call O_law_num (hr.mono (by first | decide | omega)) fx.g__law_num D_law_num.kp B_law_num .nil (fun _ _ => RepL.nil) tk (da_cons (de_var 0) da_nil)) da_nil))) (db_cons (ds_if (dt_c (cm_eq rfl (hr).units) (de_var 1) de_str) (db_one (ds_ret (de_tup (da_cons (de_var 1) (da_cons (de_tup (da_cons (de_callB call_abs m_abs fx.b_abs (by first | rfl | kernel_rfl) (da_cons (de_ix rfl (de_var 2) de_int) da_nil)) (da_cons (de_ix rfl (de_var 2) de_int) da_nil))) da_nil))))) db_nil) (db_one (ds_ret (de_if (dt_c (cm_eq rfl (hr).units) (de_var 1) de_str) (de_tup (da_cons (de_var 1) (da_cons (de_tup (da_cons (de_if (dt_c (cm_ne rfl (hr).units) (de_ix rfl (de_var 2) de_int) de_int) (de_callB call_abs m_abs fx.b_abs (by first | rfl | kernel_rfl) (da_cons (de_ix rfl (de_var 2) de_int) da_nil)) de_int) (da_cons (de_ix rfl (de_var 2) de_int) da_nil))) da_nil))) (de_tup (da_cons (de_var 1) (da_cons (de_var 2) da_nil))))))))
theorem sc_law_row : FnScope ["dice", "most", "turn"] ["dice", "most"] (defScope s_law_row) := ⟨rfl, rfl, rfl, by decide +kernel, rfl, by decide +kernel, by decide +kernel⟩
theorem ok_law_row (fx : Fx w K mg base) : ∃ fd, FunD K "_law_row" "_law_row" (defArgs s_law_row) (defBody s_law_row) (defScope s_law_row) [] [] (He.fAd K ("_law_row", none)) fd ∧ FnOk rowP w K mg base (L2.CX rowP w) 5 (He.fAd K ("_law_row", none)) fd ["dice", "most"] (spD (GG K) 2 f_law_row) := by
  obtain ⟨fd_law_part, D_law_part, O_law_part⟩ := ok_law_part fx
  obtain ⟨fd_law_roll, D_law_roll, O_law_roll⟩ := ok_law_roll fx
  have B_law_part : Binds K fd_law_part ["dice"] [] := D_law_part.bindsN fun _ _ _ _ _ _ us hl => match us, hl with | [_], _ => rfl
  have B_law_roll : Binds K fd_law_roll ["dice", "many"] [] := D_law_roll.bindsN fun _ _ _ _ _ _ us hl => match us, hl with | [_, _], _ => rfl
  obtain ⟨fd, F⟩ := fx.d_law_row
  refine ⟨fd, F, fn_ok F sc_law_row rfl (by decide) fun cdv A outer s H E hr tk => ?_⟩
  exact (db_one (ds_ret (de_callTy call_tuple_of (m_tuple rfl) fx.b_tuple (by first | rfl | kernel_rfl) (da_cons (de_lc rfl sc_law_row.nd (di_range1 fx.b_range (de_call O_law_roll (hr.mono (by first | decide | omega)) fx.g__law_roll D_law_roll.kp B_law_roll .nil (fun _ _ => RepL.nil) tk (da_cons (de_var 0) (da_cons (de_add rfl (de_var 1) de_int) da_nil)))) (own := [("turn", 2)]) (blkOk_by (by kernel_rfl)) (ct_name (by first | decide | omega)) (fun s H C cl fp => (pg_name (i := 2) sc_law_row.nd rfl (by first | exact .inl rfl | exact .inr rfl) (by first | exact .inl rfl | exact .inr rfl))) (fun s H C cl fp => (de_call O_law_part (hr.mono (by first | decide | omega)) fx.g__law_part D_law_part.kp B_law_part .nil (fun _ _ => RepL.nil) LamX.takes0 (da_cons (de_var 0) da_nil)))) da_nil))))
theorem sc_law_ray : FnScope ["dice"] ["dice"] (defScope s_law_ray) := ⟨rfl, rfl, rfl, by decide +kernel, rfl, by decide +kernel, by decide +kernel⟩
theorem ok_law_ray (fx : Fx w K mg base) : ∃ fd, FunD K "_law_ray" "_law_ray" (defArgs s_law_ray) (defBody s_law_ray) (defScope s_law_ray) [] [] (He.fAd K ("_law_ray", none)) fd ∧ FnOk rowP w K mg base (L2.CX rowP w) 4 (He.fAd K ("_law_ray", none)) fd ["dice"] (spD (GG K) 1 f_law_ray) := by
  obtain ⟨fd_law_num, D_law_num, O_law_num⟩ := ok_law_num fx
  have B_law_num : Binds K fd_law_num ["dice"] [] := D_law_num.bindsN fun _ _ _ _ _ _ us hl => match us, hl with | [_], _ => rfl
  obtain ⟨fd, F⟩ := fx.d_law_ray
  refine ⟨fd, F, fn_ok F sc_law_ray rfl (by decide) fun cdv A outer s H E hr tk => ?_⟩
  exact (db_one (ds_ret (de_tup (da_cons (de_call O_law_num (hr.mono (by first | decide | omega)) fx.g__law_num D_law_num.kp B_law_num .nil (fun _ _ => RepL.nil) tk (da_cons (de_var 0) da_nil)) (da_cons (de_call O_law_num (hr.mono (by first | decide | omega)) fx.g__law_num D_law_num.kp B_law_num .nil (fun _ _ => RepL.nil) tk (da_cons (de_var 0) da_nil)) da_nil)))))
theorem sc_law_step : FnScope ["part", "ray"] ["part", "ray"] (defScope s_law_step) := ⟨rfl, rfl, rfl, by decide +kernel, rfl, by decide +kernel, by decide +kernel⟩
theorem ok_law_step (fx : Fx w K mg base) : ∃ fd, FunD K "_law_step" "_law_step" (defArgs s_law_step) (defBody s_law_step) (defScope s_law_step) [] [] (He.fAd K ("_law_step", none)) fd ∧ FnOk rowP w K mg base (L2.CX rowP w) 3 (He.fAd K ("_law_step", none)) fd ["part", "ray"] (spD (GG K) 2 f_law_step) := by
  obtain ⟨fd_law_add, D_law_add, O_law_add⟩ := ok_law_add fx
  obtain ⟨fd_law_mul, D_law_mul, O_law_mul⟩ := ok_law_mul fx
  obtain ⟨fd_law_neg, D_law_neg, O_law_neg⟩ := ok_law_neg fx
  have B_law_add : Binds K fd_law_add ["one", "other"] [] := D_law_add.bindsN fun _ _ _ _ _ _ us hl => match us, hl with | [_, _], _ => rfl
  have B_law_mul : Binds K fd_law_mul ["one", "other"] [] := D_law_mul.bindsN fun _ _ _ _ _ _ us hl => match us, hl with | [_, _], _ => rfl
  have B_law_neg : Binds K fd_law_neg ["one"] [] := D_law_neg.bindsN fun _ _ _ _ _ _ us hl => match us, hl with | [_], _ => rfl
  obtain ⟨fd, F⟩ := fx.d_law_step
  refine ⟨fd, F, fn_ok F sc_law_step rfl (by decide) fun cdv A outer s H E hr tk => ?_⟩
  exact (db_cons (ds_if (dt_c (cm_eq rfl (hr).units) (de_ix rfl (de_var 0) de_int) de_str) (db_one (ds_ret (de_tup (da_cons (de_call O_law_add (hr.mono (by first | decide | omega)) fx.g__law_add D_law_add.kp B_law_add .nil (fun _ _ => RepL.nil) tk (da_cons (de_ix rfl (de_var 1) de_int) (da_cons (de_call O_law_mul (hr.mono (by first | decide | omega)) fx.g__law_mul D_law_mul.kp B_law_mul .nil (fun _ _ => RepL.nil) tk (da_cons (de_ix rfl (de_var 0) de_int) (da_cons (de_ix rfl (de_var 1) de_int) da_nil))) da_nil))) (da_cons (de_ix rfl (de_var 1) de_int) da_nil))))) db_nil) (db_cons (ds_if (dt_c (cm_eq rfl (hr).units) (de_ix rfl (de_var 0) de_int) de_str) (db_one (ds_ret (de_tup (da_cons (de_ix rfl (de_var 1) de_int) (da_cons (de_call O_law_add (hr.mono (by first | decide | omega)) fx.g__law_add D_law_add.kp B_law_add .nil (fun _ _ => RepL.nil) tk (da_cons (de_ix rfl (de_var 1) de_int) (da_cons (de_call O_law_neg (hr.mono (by first | decide | omega)) fx.g__law_neg D_law_neg.kp B_law_neg .nil (fun _ _ => RepL.nil) tk (da_cons (de_call O_law_mul (hr.mono (by first | decide | omega)) fx.g__law_mul D_law_mul.kp B_law_mul .nil (fun _ _ => RepL.nil) tk (da_cons (de_ix rfl (de_var 0) de_int) (da_cons (de_ix rfl (de_var 1) de_int) da_nil))) da_nil)) da_nil))) da_nil))))) db_nil) (db_one (ds_ret (de_var 1)))))
theorem sc_law_out : FnScope ["row", "ray", "part"] ["row", "ray"] (defScope s_law_out) := ⟨rfl, rfl, rfl, by decide +kernel, rfl, by decide +kernel, by decide +kernel⟩
theorem ok_law_out (fx : Fx w K mg base) : ∃ fd, FunD K "_law_out" "_law_out" (defArgs s_law_out) (defBody s_law_out) (defScope s_law_out) [] [] (He.fAd K ("_law_out", none)) fd ∧ FnOk rowP w K mg base (L2.CX rowP w) 4 (He.fAd K ("_law_out", none)) fd ["row", "ray"] (spD (GG K) 2 f_law_out) := by
  obtain ⟨fd_law_step, D_law_step, O_law_step⟩ := ok_law_step fx
  have B_law_step : Binds K fd_law_step ["part", "ray"] [] := D_law_step.bindsN fun _ _ _ _ _ _ us hl => match us, hl with | [_, _], _ => rfl
  obtain ⟨fd, F⟩ := fx.d_law_out
  refine ⟨fd, F, fn_ok F sc_law_out rfl (by decide) fun cdv A outer s H E hr tk => ?_⟩
  exact (db_cons (ds_for (L2.passes_of rfl) rfl (di_val rfl (de_var 0)) (dg_name (i := 2) sc_law_out.nd) (db_one (ds_set (i := 1) sc_law_out.nd (de_call O_law_step (hr.mono (by first | decide | omega)) fx.g__law_step D_law_step.kp B_law_step .nil (fun _ _ => RepL.nil) tk (da_cons (de_var 2) (da_cons (de_var 1) da_nil)))))) (db_one (ds_ret (de_var 1))))
theorem sc_law_matrix : FnScope ["row", "one", "two"] ["row"] (defScope s_law_matrix) := ⟨rfl, rfl, rfl, by decide +kernel, rfl, by decide +kernel, by decide +kernel⟩
theorem ok_law_matrix (fx : Fx w K mg base) : ∃ fd, FunD K "_law_matrix" "_law_matrix" (defArgs s_law_matrix) (defBody s_law_matrix) (defScope s_law_matrix) [] [] (He.fAd K ("_law_matrix", none)) fd ∧ FnOk rowP w K mg base (L2.CX rowP w) 5 (He.fAd K ("_law_matrix", none)) fd ["row"] (spD (GG K) 1 f_law_matrix) := by
  obtain ⟨fd_law_out, D_law_out, O_law_out⟩ := ok_law_out fx
  have B_law_out : Binds K fd_law_out ["row", "ray"] [] := D_law_out.bindsN fun _ _ _ _ _ _ us hl => match us, hl with | [_, _], _ => rfl
  obtain ⟨fd, F⟩ := fx.d_law_matrix
  refine ⟨fd, F, fn_ok F sc_law_matrix rfl (by decide) fun cdv A outer s H E hr tk => ?_⟩
  exact (db_cons (ds_par2 (i := 1) (j := 2) rfl sc_law_matrix.nd rfl rfl (by decide) rfl rfl (da_cons (de_call O_law_out (hr.mono (by first | decide | omega)) fx.g__law_out D_law_out.kp B_law_out .nil (fun _ _ => RepL.nil) tk (da_cons (de_var 0) (da_cons (de_tup (da_cons (de_tup (da_cons de_int (da_cons de_int da_nil))) (da_cons (de_tup (da_cons de_int (da_cons de_int da_nil))) da_nil))) da_nil))) (da_cons (de_call O_law_out (hr.mono (by first | decide | omega)) fx.g__law_out D_law_out.kp B_law_out .nil (fun _ _ => RepL.nil) tk (da_cons (de_var 0) (da_cons (de_tup (da_cons (de_tup (da_cons de_int (da_cons de_int da_nil))) (da_cons (de_tup (da_cons de_int (da_cons de_int da_nil))) da_nil))) da_nil))) da_nil))) (db_one (ds_ret (de_tup (da_cons (de_tup (da_cons (de_ix rfl (de_var 1) de_int) (da_cons (de_ix rfl (de_var 2) de_int) da_nil))) (da_cons (de_tup (da_cons (de_ix rfl (de_var 1) de_int) (da_cons (de_ix rfl (de_var 2) de_int) da_nil))) da_nil))))))
theorem sc_law_sent : FnScope ["m", "ray"] ["m", "ray"] (defScope s_law_sent) := ⟨rfl, rfl, rfl, by decide +kernel, rfl, by decide +kernel, by decide +kernel⟩
theorem ok_law_sent (fx : Fx w K mg base) : ∃ fd, FunD K "_law_sent" "_law_sent" (defArgs s_law_sent) (defBody s_law_sent) (defScope s_law_sent) [] [] (He.fAd K ("_law_sent", none)) fd ∧ FnOk rowP w K mg base (L2.CX rowP w) 3 (He.fAd K ("_law_sent", none)) fd ["m", "ray"] (spD (GG K) 2 f_law_sent) := by
  obtain ⟨fd_law_add, D_law_add, O_law_add⟩ := ok_law_add fx
  obtain ⟨fd_law_mul, D_law_mul, O_law_mul⟩ := ok_law_mul fx
  have B_law_add : Binds K fd_law_add ["one", "other"] [] := D_law_add.bindsN fun _ _ _ _ _ _ us hl => match us, hl with | [_, _], _ => rfl
  have B_law_mul : Binds K fd_law_mul ["one", "other"] [] := D_law_mul.bindsN fun _ _ _ _ _ _ us hl => match us, hl with | [_, _], _ => rfl
  obtain ⟨fd, F⟩ := fx.d_law_sent
  refine ⟨fd, F, fn_ok F sc_law_sent rfl (by decide) fun cdv A outer s H E hr tk => ?_⟩
  exact (db_one (ds_ret (de_tup (da_cons (de_call O_law_add (hr.mono (by first | decide | omega)) fx.g__law_add D_law_add.kp B_law_add .nil (fun _ _ => RepL.nil) tk (da_cons (de_call O_law_mul (hr.mono (by first | decide | omega)) fx.g__law_mul D_law_mul.kp B_law_mul .nil (fun _ _ => RepL.nil) tk (da_cons (de_ix rfl (de_ix rfl (de_var 0) de_int) de_int) (da_cons (de_ix rfl (de_var 1) de_int) da_nil))) (da_cons (de_call O_law_mul (hr.mono (by first | decide | omega)) fx.g__law_mul D_law_mul.kp B_law_mul .nil (fun _ _ => RepL.nil) tk (da_cons (de_ix rfl (de_ix rfl (de_var 0) de_int) de_int) (da_cons (de_ix rfl (de_var 1) de_int) da_nil))) da_nil))) (da_cons (de_call O_law_add (hr.mono (by first | decide | omega)) fx.g__law_add D_law_add.kp B_law_add .nil (fun _ _ => RepL.nil) tk (da_cons (de_call O_law_mul (hr.mono (by first | decide | omega)) fx.g__law_mul D_law_mul.kp B_law_mul .nil (fun _ _ => RepL.nil) tk (da_cons (de_ix rfl (de_ix rfl (de_var 0) de_int) de_int) (da_cons (de_ix rfl (de_var 1) de_int) da_nil))) (da_cons (de_call O_law_mul (hr.mono (by first | decide | omega)) fx.g__law_mul D_law_mul.kp B_law_mul .nil (fun _ _ => RepL.nil) tk (da_cons (de_ix rfl (de_ix rfl (de_var 0) de_int) de_int) (da_cons (de_ix rfl (de_var 1) de_int) da_nil))) da_nil))) da_nil)))))
theorem sc_law_small : FnScope ["dice"] ["dice"] (defScope s_law_small) := ⟨rfl, rfl, rfl, by decide +kernel, rfl, by decide +kernel, by decide +kernel⟩
theorem ok_law_small (fx : Fx w K mg base) : ∃ fd, FunD K "_law_small" "_law_small" (defArgs s_law_small) (defBody s_law_small) (defScope s_law_small) [] [] (He.fAd K ("_law_small", none)) fd ∧ FnOk rowP w K mg base (L2.CX rowP w) 3 (He.fAd K ("_law_small", none)) fd ["dice"] (spD (GG K) 1 f_law_small) := by
  obtain ⟨fd_law_f, D_law_f, O_law_f⟩ := ok_law_f fx
  obtain ⟨fd_law_pick, D_law_pick, O_law_pick⟩ := ok_law_pick fx
  obtain ⟨fd_law_roll, D_law_roll, O_law_roll⟩ := ok_law_roll fx
  have B_law_f : Binds K fd_law_f ["above", "below"] [] := D_law_f.bindsN fun _ _ _ _ _ _ us hl => match us, hl with | [_, _], _ => rfl
  have B_law_pick : Binds K fd_law_pick ["dice", "things"] [] := D_law_pick.bindsN fun _ _ _ _ _ _ us hl => match us, hl with | [_, _], _ => rfl
  have B_law_roll : Binds K fd_law_roll ["dice", "many"] [] := D_law_roll.bindsN fun _ _ _ _ _ _ us hl => match us, hl with | [_, _], _ => rfl
  obtain ⟨fd, F⟩ := fx.d_law_small
  refine ⟨fd, F, fn_ok F sc_law_small rfl (by decide) fun cdv A outer s H E hr tk => ?_⟩
  exact (db_one (ds_ret (de_call O_law_f (hr.mono (by first | decide | omega)) fx.g__law_f D_law_f.kp B_law_f .nil (fun _ _ => RepL.nil) tk (da_cons (de_sub (de_call O_law_roll (hr.mono (by first | decide | omega)) fx.g__law_roll D_law_roll.kp B_law_roll .nil (fun _ _ => RepL.nil) tk (da_cons (de_var 0) (da_cons de_int da_nil))) de_int) (da_cons (de_call O_law_pick (hr.mono (by first | decide | omega)) fx.g__law_pick D_law_pick.kp B_law_pick .nil (fun _ _ => RepL.nil) tk (da_cons (de_var 0) (da_cons (de_lst (da_cons de_int (da_cons de_int (da_cons de_int (da_cons de_int da_nil))))) da_nil))) da_nil)))))
theorem sc_law_drawn : FnScope ["dice", "kind", "row", "a", "turn", "size"] ["dice"] (defScope s_law_drawn) := ⟨rfl, rfl, rfl, by decide +kernel, rfl, by decide +kernel, by decide +kernel⟩
theorem ok_law_drawn (fx : Fx w K mg base) : ∃ fd, FunD K "_law_drawn" "_law_drawn" (defArgs s_law_drawn) (defBody s_law_drawn) (defScope s_law_drawn) [] [] (He.fAd K ("_law_drawn", none)) fd ∧ FnOk rowP w K mg base (L2.CX rowP w) 6 (He.fAd K ("_law_drawn", none)) fd ["dice"] (spD (GG K) 1 f_law_drawn) := by
  obtain ⟨fd_law_div, D_law_div, O_law_div⟩ := ok_law_div fx
  obtain ⟨fd_law_matrix, D_law_matrix, O_law_matrix⟩ := ok_law_matrix fx
  obtain ⟨fd_law_pick, D_law_pick, O_law_pick⟩ := ok_law_pick fx
  obtain ⟨fd_law_roll, D_law_roll, O_law_roll⟩ := ok_law_roll fx
  obtain ⟨fd_law_small, D_law_small, O_law_small⟩ := ok_law_small fx
  have B_law_div : Binds K fd_law_div ["one", "other"] [] := D_law_div.bindsN fun _ _ _ _ _ _ us hl => match us, hl with | [_, _], _ => rfl
  have B_law_matrix : Binds K fd_law_matrix ["row"] [] := D_law_matrix.bindsN fun _ _ _ _ _ _ us hl => match us, hl with | [_], _ => rfl
  have B_law_pick : Binds K fd_law_pick ["dice", "things"] [] := D_law_pick.bindsN fun _ _ _ _ _ _ us hl => match us, hl with | [_, _], _ => rfl
  have B_law_roll : Binds K fd_law_roll ["dice", "many"] [] := D_law_roll.bindsN fun _ _ _ _ _ _ us hl => match us, hl with | [_, _], _ => rfl
  have B_law_small : Binds K fd_law_small ["dice"] [] := D_law_small.bindsN fun _ _ _ _ _ _ us hl => match us, hl with | [_], _ => rfl
  obtain ⟨fd, F⟩ := fx.d_law_drawn
  refine ⟨fd, F, fn_ok F sc_law_drawn rfl (by decide) fun cdv A outer s H E hr tk => ?_⟩
  exact (db_cons (ds_par2 (i := 1) (j := 2) rfl sc_law_drawn.nd rfl rfl (by decide) rfl rfl (da_cons (de_call O_law_roll (hr.mono (by first | decide | omega)) fx.g__law_roll D_law_roll.kp B_law_roll .nil (fun _ _ => RepL.nil) tk (da_cons (de_var 0) (da_cons de_int da_nil))) (da_cons (de_lst da_nil) da_nil))) (db_cons (ds_if (dt_c (cm_eq rfl (hr).units) (de_var 1) de_int) (db_cons (ds_set (i := 3) sc_law_drawn.nd (de_call O_law_pick (hr.mono (by first | decide | omega)) fx.g__law_pick D_law_pick.kp B_law_pick .nil (fun _ _ => RepL.nil) tk (da_cons (de_var 0) (da_cons (de_lst (da_cons (de_tup (da_cons de_int (da_cons de_int da_nil))) (da_cons (de_tup (da_cons (de_neg de_int) (da_cons de_int da_nil))) (da_cons (de_tup (da_cons de_int (da_cons de_int da_nil))) (da_cons (de_tup (da_cons (de_neg de_int) (da_cons de_int da_nil))) (da_cons (de_call O_law_small (hr.mono (by first | decide | omega)) fx.g__law_small D_law_small.kp B_law_small .nil (fun _ _ => RepL.nil) tk (da_cons (de_var 0) da_nil)) da_nil)))))) da_nil)))) (db_cons (ds_set (i := 3) sc_law_drawn.nd (de_if (dt_c (cm_ne rfl (hr).units) (de_ix rfl (de_var 3) de_int) de_int) (de_var 3) (de_tup (da_cons de_int (da_cons de_int da_nil))))) (db_one (ds_ret (de_tup (da_cons (de_tup (da_cons (de_var 3) (da_cons (de_tup (da_cons de_int (da_cons de_int da_nil))) da_nil))) (da_cons (de_tup (da_cons (de_call O_law_pick (hr.mono (by first | decide | omega)) fx.g__law_pick D_law_pick.kp B_law_pick .nil (fun _ _ => RepL.nil) tk (da_cons (de_var 0) (da_cons (de_lst (da_cons (de_tup (da_cons de_int (da_cons de_int da_nil))) (da_cons (de_call O_law_small (hr.mono (by first | decide | omega)) fx.g__law_small D_law_small.kp B_law_small .nil (fun _ _ => RepL.nil) tk (da_cons (de_var 0) da_nil)) da_nil))) da_nil))) (da_cons (de_call O_law_div (hr.mono (by first | decide | omega)) fx.g__law_div D_law_div.kp B_law_div .nil (fun _ _ => RepL.nil) tk (da_cons (de_tup (da_cons de_int (da_cons de_int da_nil))) (da_cons (de_var 3) da_nil))) da_nil))) da_nil))))))) db_nil) (db_cons (ds_for (L2.passes_of rfl) rfl (di_range1 fx.b_range (de_add rfl de_int (de_call O_law_roll (hr.mono (by first | decide | omega)) fx.g__law_roll D_law_roll.kp B_law_roll .nil (fun _ _ => RepL.nil) tk (da_cons (de_var 0) (da_cons de_int da_nil))))) (dg_name (i := 4) sc_law_drawn.nd) (db_cons (ds_set (i := 5) sc_law_drawn.nd (de_call O_law_small (hr.mono (by first | decide | omega)) fx.g__law_small D_law_small.kp B_law_small .nil (fun _ _ => RepL.nil) tk (da_cons (de_var 0) da_nil))) (db_one (ds_expr (de_append rfl (de_var 2) (da_cons (de_call O_law_pick (hr.mono (by first | decide | omega)) fx.g__law_pick D_law_pick.kp B_law_pick .nil (fun _ _ => RepL.nil) tk (da_cons (de_var 0) (da_cons (de_lst (da_cons (de_tup (da_cons de_str (da_cons (de_var 5) da_nil))) (da_cons (de_tup (da_cons de_str (da_cons (de_var 5) da_nil))) da_nil))) da_nil))) da_nil)))))) (db_one (ds_ret (de_call O_law_matrix (hr.mono (by first | decide | omega)) fx.g__law_matrix D_law_matrix.kp B_law_matrix .nil (fun _ _ => RepL.nil) tk (da_cons (de_var 2) da_nil)))))))
theorem sc_law_near : FnScope ["dice", "row", "at", "size", "other"] ["dice", "row"] (defScope s_law_near) := ⟨rfl, rfl, rfl, by decide +kernel, rfl, by decide +kernel, by decide +kernel⟩
theorem ok_law_near (fx : Fx w K mg base) : ∃ fd, FunD K "_law_near" "_law_near" (defArgs s_law_near) (defBody s_law_near) (defScope s_law_near) [] [] (He.fAd K ("_law_near", none)) fd ∧ FnOk rowP w K mg base (L2.CX rowP w) 6 (He.fAd K ("_law_near", none)) fd ["dice", "row"] (spD (GG K) 2 f_law_near) := by
  obtain ⟨fd_law_neg, D_law_neg, O_law_neg⟩ := ok_law_neg fx
  obtain ⟨fd_law_num, D_law_num, O_law_num⟩ := ok_law_num fx
  obtain ⟨fd_law_pick, D_law_pick, O_law_pick⟩ := ok_law_pick fx
  obtain ⟨fd_law_roll, D_law_roll, O_law_roll⟩ := ok_law_roll fx
  obtain ⟨fd_law_row, D_law_row, O_law_row⟩ := ok_law_row fx
  have B_law_neg : Binds K fd_law_neg ["one"] [] := D_law_neg.bindsN fun _ _ _ _ _ _ us hl => match us, hl with | [_], _ => rfl
  have B_law_num : Binds K fd_law_num ["dice"] [] := D_law_num.bindsN fun _ _ _ _ _ _ us hl => match us, hl with | [_], _ => rfl
  have B_law_pick : Binds K fd_law_pick ["dice", "things"] [] := D_law_pick.bindsN fun _ _ _ _ _ _ us hl => match us, hl with | [_, _], _ => rfl
  have B_law_roll : Binds K fd_law_roll ["dice", "many"] [] := D_law_roll.bindsN fun _ _ _ _ _ _ us hl => match us, hl with | [_, _], _ => rfl
  have B_law_row : Binds K fd_law_row ["dice", "most"] [] := D_law_row.bindsN fun _ _ _ _ _ _ us hl => match us, hl with | [_, _], _ => rfl
  obtain ⟨fd, F⟩ := fx.d_law_near
  refine ⟨fd, F, fn_ok F sc_law_near rfl (by decide) fun cdv A outer s H E hr tk => ?_⟩
  exact (db_cons (ds_if (dt_c (cm_eq rfl (hr).units) (de_call O_law_roll (hr.mono (by first | decide | omega)) fx.g__law_roll D_law_roll.kp B_law_roll .nil (fun _ _ => RepL.nil) tk (da_cons (de_var 0) (da_cons de_int da_nil))) de_int) (db_one (ds_ret (de_call O_law_row (hr.mono (by first | decide | omega)) fx.g__law_row D_law_row.kp B_law_row .nil (fun _ _ => RepL.nil) tk (da_cons (de_var 0) (da_cons de_int da_nil))))) db_nil) (db_cons (ds_set (i := 2) sc_law_near.nd (de_call O_law_roll (hr.mono (by first | decide | omega)) fx.g__law_roll D_law_roll.kp B_law_roll .nil (fun _ _ => RepL.nil) tk (da_cons (de_var 0) (da_cons (de_add rfl (de_callB call_len (m_len rfl) fx.b_len (by first | rfl | kernel_rfl) (da_cons (de_var 1) da_nil)) de_int) da_nil)))) (db_cons (ds_set (i := 3) sc_law_near.nd (de_call O_law_num (hr.mono (by first | decide | omega)) fx.g__law_num D_law_num.kp B_law_num .nil (fun _ _ => RepL.nil) tk (da_cons (de_var 0) da_nil))) (db_cons (ds_set (i := 3) sc_law_near.nd (de_tup (da_cons (de_callB call_abs m_abs fx.b_abs (by first | rfl | kernel_rfl) (da_cons (de_ix rfl (de_var 3) de_int) da_nil)) (da_cons (de_ix rfl (de_var 3) de_int) da_nil)))) (db_cons (ds_set (i := 4) sc_law_near.nd (de_tup (da_cons de_str (da_cons (de_call O_law_neg (hr.mono (by first | decide | omega)) fx.g__law_neg D_law_neg.kp B_law_neg .nil (fun _ _ => RepL.nil) tk (da_cons (de_var 3) da_nil)) da_nil)))) (db_one (ds_ret (de_call O_law_pick (hr.mono (by first | decide | omega)) fx.g__law_pick D_law_pick.kp B_law_pick .nil (fun _ _ => RepL.nil) tk (da_cons (de_var 0) (da_cons (de_lst (da_cons (de_var 1) (da_cons (de_add rfl (de_add rfl (de_sl rfl (de_var 1) do_none (do_some (de_var 2))) (de_tup (da_cons (de_tup (da_cons de_str (da_cons (de_var 3) da_nil))) (da_cons (de_var 4) da_nil)))) (de_sl rfl (de_var 1) (do_some (de_var 2)) do_none)) (da_cons (de_add rfl (de_add rfl (de_sl rfl (de_var 1) do_none (do_some (de_var 2))) (de_tup (da_cons (de_tup (da_cons de_str (da_cons (de_tup (da_cons de_int (da_cons de_int da_nil))) da_nil))) da_nil))) (de_sl rfl (de_var 1) (do_some (de_var 2)) do_none)) (da_cons (de_add rfl (de_sl rfl (de_var 1) do_none (do_some (de_var 2))) (de_sl rfl (de_var 1) (do_some (de_add rfl (de_var 2) de_int)) do_none)) (da_cons (de_add rfl (de_add rfl (de_sl rfl (de_var 1) do_none (do_some (de_var 2))) (de_tup (da_cons (de_tup (da_cons de_str (da_cons (de_tup (da_cons de_int (da_cons de_int da_nil))) da_nil))) da_nil))) (de_sl rfl (de_var 1) (do_some (de_var 2)) do_none)) (da_cons (de_add rfl (de_add rfl (de_sl rfl (de_var 1) do_none (do_some (de_var 2))) (de_tup (da_cons (de_tup (da_cons de_str (da_cons (de_var 3) da_nil))) da_nil))) (de_sl rfl (de_var 1) (do_some (de_var 2)) do_none)) (da_cons (de_back rfl (de_var 1)) da_nil)))))))) da_nil))))))))))
theorem sc_law_right : FnScope ["dice", "row", "other", "found", "due", "ray", "unlike", "one", "m", "k", "whole", "a", "b", "c", "d", "bad", "told"] ["dice"] (defScope s_law_right) := ⟨rfl, rfl, rfl, by decide +kernel, rfl, by decide +kernel, by decide +kernel⟩
theorem ok_law_right (fx : Fx w K mg base) : ∃ fd, FunD K "_law_right" "_law_right" (defArgs s_law_right) (defBody s_law_right) (defScope s_law_right) [] [] (He.fAd K ("_law_right", none)) fd ∧ FnOk rowP w K mg base (L2.CX rowP w) 13 (He.fAd K ("_law_right", none)) fd ["dice"] (spD (GG K) 1 f_law_right) := by
  obtain ⟨fd_law_add, D_law_add, O_law_add⟩ := ok_law_add fx
  obtain ⟨fd_law_drawn, D_law_drawn, O_law_drawn⟩ := ok_law_drawn fx
  obtain ⟨fd_law_matrix, D_law_matrix, O_law_matrix⟩ := ok_law_matrix fx
  obtain ⟨fd_law_near, D_law_near, O_law_near⟩ := ok_law_near fx
  obtain ⟨fd_law_out, D_law_out, O_law_out⟩ := ok_law_out fx
  obtain ⟨fd_law_pick, D_law_pick, O_law_pick⟩ := ok_law_pick fx
  obtain ⟨fd_law_ray, D_law_ray, O_law_ray⟩ := ok_law_ray fx
  obtain ⟨fd_law_row, D_law_row, O_law_row⟩ := ok_law_row fx
  obtain ⟨fd_law_sent, D_law_sent, O_law_sent⟩ := ok_law_sent fx
  obtain ⟨fd_are_alike, D_are_alike, O_are_alike⟩ := ok_are_alike fx
  obtain ⟨fd_behind_both, D_behind_both, O_behind_both⟩ := ok_behind_both fx
  obtain ⟨fd_inverse, D_inverse, O_inverse⟩ := ok_inverse fx
  obtain ⟨fd_matrix, D_matrix, O_matrix⟩ := ok_matrix fx
  obtain ⟨fd_sent, D_sent, O_sent⟩ := ok_sent fx
  obtain ⟨fd_unlike_ray, D_unlike_ray, O_unlike_ray⟩ := ok_unlike_ray fx
  obtain ⟨fd_law_refused, D_law_refused⟩ := fx.d_law_refused
  have B_law_refused : Binds K fd_law_refused ["call"] [] := D_law_refused.bindsN fun _ _ _ _ _ _ us hl => match us, hl with | [_], _ => rfl
  have B_law_add : Binds K fd_law_add ["one", "other"] [] := D_law_add.bindsN fun _ _ _ _ _ _ us hl => match us, hl with | [_, _], _ => rfl
  have B_law_drawn : Binds K fd_law_drawn ["dice"] [] := D_law_drawn.bindsN fun _ _ _ _ _ _ us hl => match us, hl with | [_], _ => rfl
  have B_law_matrix : Binds K fd_law_matrix ["row"] [] := D_law_matrix.bindsN fun _ _ _ _ _ _ us hl => match us, hl with | [_], _ => rfl
  have B_law_near : Binds K fd_law_near ["dice", "row"] [] := D_law_near.bindsN fun _ _ _ _ _ _ us hl => match us, hl with | [_, _], _ => rfl
  have B_law_out : Binds K fd_law_out ["row", "ray"] [] := D_law_out.bindsN fun _ _ _ _ _ _ us hl => match us, hl with | [_, _], _ => rfl
  have B_law_pick : Binds K fd_law_pick ["dice", "things"] [] := D_law_pick.bindsN fun _ _ _ _ _ _ us hl => match us, hl with | [_, _], _ => rfl
  have B_law_ray : Binds K fd_law_ray ["dice"] [] := D_law_ray.bindsN fun _ _ _ _ _ _ us hl => match us, hl with | [_], _ => rfl
  have B_law_row : Binds K fd_law_row ["dice", "most"] [] := D_law_row.bindsN fun _ _ _ _ _ _ us hl => match us, hl with | [_, _], _ => rfl
  have B_law_sent : Binds K fd_law_sent ["m", "ray"] [] := D_law_sent.bindsN fun _ _ _ _ _ _ us hl => match us, hl with | [_, _], _ => rfl
  have B_are_alike : Binds K fd_are_alike ["one", "other"] [] := D_are_alike.bindsN fun _ _ _ _ _ _ us hl => match us, hl with | [_, _], _ => rfl
  have B_behind_both : Binds K fd_behind_both ["m", "k"] [] := D_behind_both.bindsN fun _ _ _ _ _ _ us hl => match us, hl with | [_, _], _ => rfl
  have B_inverse : Binds K fd_inverse ["m"] [] := D_inverse.bindsN fun _ _ _ _ _ _ us hl => match us, hl with | [_], _ => rfl
  have B_matrix : Binds K fd_matrix ["row"] [] := D_matrix.bindsN fun _ _ _ _ _ _ us hl => match us, hl with | [_], _ => rfl
  have B_sent : Binds K fd_sent ["m", "ray"] [] := D_sent.bindsN fun _ _ _ _ _ _ us hl => match us, hl with | [_, _], _ => rfl
  have B_unlike_ray : Binds K fd_unlike_ray ["one", "other"] [] := D_unlike_ray.bindsN fun _ _ _ _ _ _ us hl => match us, hl with | [_, _], _ => rfl
  have KB_are_alike_1_other : KBn K fd_are_alike ["one", "other"] 1 ["other"] (fun us ws => us ++ ws) (fun vs zs => vs ++ zs) := FunD.kN D_are_alike fun _ _ _ _ _ _ us ws h1 h2 => match us, ws, h1, h2 with | [_], [_], _, _ => rfl
  have KB_matrix_0_row : KBn K fd_matrix ["row"] 0 ["row"] (fun us ws => us ++ ws) (fun vs zs => vs ++ zs) := FunD.kN D_matrix fun _ _ _ _ _ _ us ws h1 h2 => match us, ws, h1, h2 with | [], [_], _, _ => rfl
  have KB_unlike_ray_0_one_other : KBn K fd_unlike_ray ["one", "other"] 0 ["one", "other"] (fun us ws => us ++ ws) (fun vs zs => vs ++ zs) := FunD.kN D_unlike_ray fun _ _ _ _ _ _ us ws h1 h2 => match us, ws, h1, h2 with | [], [_, _], _, _ => rfl
  obtain ⟨fd, F⟩ := fx.d_law_right
  refine ⟨fd, F, fn_okC F sc_law_right rfl (by decide) fun cdv A outer s H E hcd hr tk => ?_⟩
  exact (db_cons (ds_set (i := 1) sc_law_right.nd (de_call O_law_row (hr.mono (by first | decide | omega)) fx.g__law_row D_law_row.kp B_law_row .nil (fun _ _ => RepL.nil) tk (da_cons (de_var 0) (da_cons de_int da_nil)))) (db_cons (ds_set (i := 2) sc_law_right.nd (de_call O_law_near (hr.mono (by first | decide | omega)) fx.g__law_near D_law_near.kp B_law_near .nil (fun _ _ => RepL.nil) tk (da_cons (de_var 0) (da_cons (de_var 1) da_nil)))) (db_cons (ds_par2 (i := 3) (j := 4) rfl sc_law_right.nd rfl rfl (by decide) rfl rfl (da_cons (de_call O_matrix (hr.mono (by first | decide | omega)) fx.g_matrix D_matrix.kp B_matrix .nil (fun _ _ => RepL.nil) tk (da_cons (de_var 1) da_nil)) (da_cons (de_call O_law_matrix (hr.mono (by first | decide | omega)) fx.g__law_matrix D_law_matrix.kp B_law_matrix .nil (fun _ _ => RepL.nil) tk (da_cons (de_var 1) da_nil)) da_nil))) (db_cons (ds_set (i := 5) sc_law_right.nd (de_call O_law_ray (hr.mono (by first | decide | omega)) fx.g__law_ray D_law_ray.kp B_law_ray .nil (fun _ _ => RepL.nil) tk (da_cons (de_var 0) da_nil))) (db_cons (ds_if (DW.dt (dw_or (dt_c (cm_ne rfl (hr).units) (de_var 3) (de_var 4)) (dw_or (dt_c (cm_ne rfl (hr).units) (de_callK0 O_matrix (hr.mono (by first | decide | omega)) fx.g_matrix D_matrix.kp KB_matrix_0_row (fun _ _ h1 h2 => by simp [h1, h2]) (fun _ _ _ _ _ _ _ _ r1 r2 => RepL.append r1 r2) tk  (dk_cons (de_var 1) dk_nil)) (de_var 4)) (dw_or1 (dt_c (cm_ne rfl (hr).units) (de_call O_law_sent (hr.mono (by first | decide | omega)) fx.g__law_sent D_law_sent.kp B_law_sent .nil (fun _ _ => RepL.nil) tk (da_cons (de_var 3) (da_cons (de_var 5) da_nil))) (de_call O_law_out (hr.mono (by first | decide | omega)) fx.g__law_out D_law_out.kp B_law_out .nil (fun _ _ => RepL.nil) tk (da_cons (de_var 1) (da_cons (de_var 5) da_nil)))))))) (db_one (ds_ret de_bl)) db_nil) (db_cons (ds_set (i := 6) sc_law_right.nd de_non) (db_cons (ds_for (L2.passes_of rfl) rfl (di_val rfl (de_lst (da_cons (de_tup (da_cons (de_tup (da_cons de_int (da_cons de_int da_nil))) (da_cons (de_tup (da_cons de_int (da_cons de_int da_nil))) da_nil))) (da_cons (de_tup (da_cons (de_tup (da_cons de_int (da_cons de_int da_nil))) (da_cons (de_tup (da_cons de_int (da_cons de_int da_nil))) da_nil))) da_nil)))) (dg_name (i := 7) sc_law_right.nd) (db_one (ds_set (i := 6) sc_law_right.nd (de_if (dt_c (cm_ne rfl (hr).units) (de_call O_law_out (hr.mono (by first | decide | omega)) fx.g__law_out D_law_out.kp B_law_out .nil (fun _ _ => RepL.nil) tk (da_cons (de_var 1) (da_cons (de_var 7) da_nil))) (de_call O_law_out (hr.mono (by first | decide | omega)) fx.g__law_out D_law_out.kp B_law_out .nil (fun _ _ => RepL.nil) tk (da_cons (de_var 2) (da_cons (de_var 7) da_nil)))) (de_var 7) (de_var 6))))) (db_cons (ds_if (DW.dt (dw_or (dt_c (cm_ne rfl (hr).units) (de_callK O_are_alike (hr.mono (by first | decide | omega)) fx.g_are_alike D_are_alike.kp KB_are_alike_1_other (fun _ _ h1 h2 => by simp [h1, h2]) (fun _ _ _ _ _ _ _ _ r1 r2 => RepL.append r1 r2) tk (da_cons (de_var 1) da_nil) (dk_cons (de_var 2) dk_nil)) (de_c (cm_eq rfl (hr).units) (de_var 4) (de_call O_law_matrix (hr.mono (by first | decide | omega)) fx.g__law_matrix D_law_matrix.kp B_law_matrix .nil (fun _ _ => RepL.nil) tk (da_cons (de_var 2) da_nil)))) (dw_or1 (dt_c (cm_ne rfl (hr).units) (de_callK0 O_unlike_ray (hr.mono (by first | decide | omega)) fx.g_unlike_ray D_unlike_ray.kp KB_unlike_ray_0_one_other (fun _ _ h1 h2 => by simp [h1, h2]) (fun _ _ _ _ _ _ _ _ r1 r2 => RepL.append r1 r2) tk  (dk_cons (de_var 1) (dk_cons (de_var 2) dk_nil))) (de_var 6))))) (db_one (ds_ret de_bl)) db_nil) (db_cons (ds_if (dt_c (cm_ne rfl (hr).units) (de_c cm_is (de_var 6) de_non) (de_call O_are_alike (hr.mono (by first | decide | omega)) fx.g_are_alike D_are_alike.kp B_are_alike .nil (fun _ _ => RepL.nil) tk (da_cons (de_var 2) (da_cons (de_var 1) da_nil)))) (db_one (ds_ret de_bl)) db_nil) (db_cons (ds_asg (de_tup (da_cons (de_call O_law_drawn (hr.mono (by first | decide | omega)) fx.g__law_drawn D_law_drawn.kp B_law_drawn .nil (fun _ _ => RepL.nil) tk (da_cons (de_var 0) da_nil)) (da_cons (de_call O_law_drawn (hr.mono (by first | decide | omega)) fx.g__law_drawn D_law_drawn.kp B_law_drawn .nil (fun _ _ => RepL.nil) tk (da_cons (de_var 0) da_nil)) da_nil))) (dg_unp rfl rfl (dgs_cons (dg_name (i := 8) sc_law_right.nd) (dgs_cons (dg_name (i := 9) sc_law_right.nd) dgs_nil)))) (db_cons (ds_set (i := 10) sc_law_right.nd (de_call O_behind_both (hr.mono (by first | decide | omega)) fx.g_behind_both D_behind_both.kp B_behind_both .nil (fun _ _ => RepL.nil) tk (da_cons (de_var 8) (da_cons (de_var 9) da_nil)))) (db_cons (ds_for (L2.passes_of rfl) rfl (di_val rfl (de_lst (da_cons (de_tup (da_cons (de_tup (da_cons de_int (da_cons de_int da_nil))) (da_cons (de_tup (da_cons de_int (da_cons de_int da_nil))) da_nil))) (da_cons (de_tup (da_cons (de_tup (da_cons de_int (da_cons de_int da_nil))) (da_cons (de_tup (da_cons de_int (da_cons de_int da_nil))) da_nil))) (da_cons (de_var 5) da_nil))))) (dg_name (i := 7) sc_law_right.nd) (db_cons (ds_if (DW.dt (dw_or (dt_c (cm_ne rfl (hr).units) (de_call O_law_sent (hr.mono (by first | decide | omega)) fx.g__law_sent D_law_sent.kp B_law_sent .nil (fun _ _ => RepL.nil) tk (da_cons (de_var 10) (da_cons (de_var 7) da_nil))) (de_call O_law_sent (hr.mono (by first | decide | omega)) fx.g__law_sent D_law_sent.kp B_law_sent .nil (fun _ _ => RepL.nil) tk (da_cons (de_var 9) (da_cons (de_call O_law_sent (hr.mono (by first | decide | omega)) fx.g__law_sent D_law_sent.kp B_law_sent .nil (fun _ _ => RepL.nil) tk (da_cons (de_var 8) (da_cons (de_var 7) da_nil))) da_nil)))) (dw_or1 (dt_c (cm_ne rfl (hr).units) (de_call O_sent (hr.mono (by first | decide | omega)) fx.g_sent D_sent.kp B_sent .nil (fun _ _ => RepL.nil) tk (da_cons (de_var 8) (da_cons (de_var 7) da_nil))) (de_call O_law_sent (hr.mono (by first | decide | omega)) fx.g__law_sent D_law_sent.kp B_law_sent .nil (fun _ _ => RepL.nil) tk (da_cons (de_var 8) (da_cons (de_var 7) da_nil))))))) (db_one (ds_ret de_bl)) db_nil) (db_one (ds_if (dt_c (cm_ne rfl (hr).units) (de_call O_law_sent (hr.mono (by first | decide | omega)) fx.g__law_sent D_law_sent.kp B_law_sent .nil (fun _ _ => RepL.nil) tk (da_cons (de_call O_inverse (hr.mono (by first | decide | omega)) fx.g_inverse D_inverse.kp B_inverse .nil (fun _ _ => RepL.nil) tk (da_cons (de_var 8) da_nil)) (da_cons (de_call O_law_sent (hr.mono (by first | decide | omega)) fx.g__law_sent D_law_sent.kp B_law_sent .nil (fun _ _ => RepL.nil) tk (da_cons (de_var 8) (da_cons (de_var 7) da_nil))) da_nil))) (de_var 7)) (db_one (ds_ret de_bl)) db_nil)))) (db_cons (ds_asg (de_var 8) (dg_unp rfl rfl (dgs_cons (dg_unp rfl rfl (dgs_cons (dg_name (i := 11) sc_law_right.nd) (dgs_cons (dg_name (i := 12) sc_law_right.nd) dgs_nil))) (dgs_cons (dg_unp rfl rfl (dgs_cons (dg_name (i := 13) sc_law_right.nd) (dgs_cons (dg_name (i := 14) sc_law_right.nd) dgs_nil))) dgs_nil)))) (db_cons (ds_set (i := 15) sc_law_right.nd (de_call O_law_pick (hr.mono (by first | decide | omega)) fx.g__law_pick D_law_pick.kp B_law_pick .nil (fun _ _ => RepL.nil) tk (da_cons (de_var 0) (da_cons (de_lst (da_cons de_non (da_cons (de_tup (da_cons (de_ix rfl (de_var 8) de_int) da_nil)) (da_cons (de_lst (da_cons (de_ix rfl (de_var 8) de_int) (da_cons (de_ix rfl (de_var 8) de_int) da_nil))) (da_cons (de_if (dt_c (cm_ne rfl (hr).units) (de_ix rfl (de_var 11) de_int) de_int) (de_tup (da_cons (de_tup (da_cons (de_var 11) (da_cons (de_var 12) da_nil))) (da_cons (de_tup (da_cons (de_var 13) (da_cons (de_call O_law_add (hr.mono (by first | decide | omega)) fx.g__law_add D_law_add.kp B_law_add .nil (fun _ _ => RepL.nil) tk (da_cons (de_var 14) (da_cons (de_tup (da_cons de_int (da_cons de_int da_nil))) da_nil))) da_nil))) da_nil))) de_non) (da_cons (de_tup (da_cons (de_tup (da_cons (de_var 11) (da_cons (de_var 12) da_nil))) (da_cons (de_tup (da_cons (de_var 13) (da_cons de_int da_nil))) da_nil))) (da_cons (de_add rfl (de_var 8) (de_tup (da_cons (de_ix rfl (de_var 8) de_int) da_nil))) (da_cons (de_tup (da_cons (de_tup (da_cons (de_var 11) (da_cons (de_var 12) (da_cons (de_var 12) da_nil)))) (da_cons (de_tup (da_cons (de_var 13) (da_cons (de_var 14) da_nil))) da_nil))) da_nil)))))))) da_nil)))) (db_cons (ds_set (i := 16) sc_law_right.nd (de_lst (da_cons (de_ref (k := 6) (oBA fx rfl rfl rfl) rfl fx.g__law_refused D_law_refused rfl B_law_refused sc_law_refused (Or.inl rfl) rfl rfl fx.tb_law_right hcd (.head _) (fun q hq e => tabs_uniq fx.tu q hq _ (.head _) e) (hr.mono (by first | decide | omega)) (LamX.lamS_by (sc := defScope s_law_right) (by decide +kernel)) (fun _ _ _ _ _ => by first | rfl | with_unfolding_all rfl) (fun A2 o2 s2 H2 E2 f2 c2 hl => (de_call O_inverse (hl.mono (by first | decide | omega)) fx.g_inverse D_inverse.kp B_inverse .nil (fun _ _ => RepL.nil) lam_tk (da_cons (de_var 15) da_nil)))) (da_cons (de_ref (k := 6) (oBA fx rfl rfl rfl) rfl fx.g__law_refused D_law_refused rfl B_law_refused sc_law_refused (Or.inl rfl) rfl rfl fx.tb_law_right hcd (.head _) (fun q hq e => tabs_uniq fx.tu q hq _ (.head _) e) (hr.mono (by first | decide | omega)) (LamX.lamS_by (sc := defScope s_law_right) (by decide +kernel)) (fun _ _ _ _ _ => by first | rfl | with_unfolding_all rfl) (fun A2 o2 s2 H2 E2 f2 c2 hl => (de_call O_behind_both (hl.mono (by first | decide | omega)) fx.g_behind_both D_behind_both.kp B_behind_both .nil (fun _ _ => RepL.nil) lam_tk (da_cons (de_var 15) (da_cons de_non da_nil))))) (da_cons (de_ref (k := 6) (oBA fx rfl rfl rfl) rfl fx.g__law_refused D_law_refused rfl B_law_refused sc_law_refused (Or.inl rfl) rfl rfl fx.tb_law_right hcd (.head _) (fun q hq e => tabs_uniq fx.tu q hq _ (.head _) e) (hr.mono (by first | decide | omega)) (LamX.lamS_by (sc := defScope s_law_right) (by decide +kernel)) (fun _ _ _ _ _ => by first | rfl | with_unfolding_all rfl) (fun A2 o2 s2 H2 E2 f2 c2 hl => (de_call O_behind_both (hl.mono (by first | decide | omega)) fx.g_behind_both D_behind_both.kp B_behind_both .nil (fun _ _ => RepL.nil) lam_tk (da_cons (de_var 8) (da_cons (de_var 15) da_nil))))) (da_cons (de_ref (k := 6) (oBA fx rfl rfl rfl) rfl fx.g__law_refused D_law_refused rfl B_law_refused sc_law_refused (Or.inl rfl) rfl rfl fx.tb_law_right hcd (.head _) (fun q hq e => tabs_uniq fx.tu q hq _ (.head _) e) (hr.mono (by first | decide | omega)) (LamX.lamS_by (sc := defScope s_law_right) (by decide +kernel)) (fun _ _ _ _ _ => by first | rfl | with_unfolding_all rfl) (fun A2 o2 s2 H2 E2 f2 c2 hl => (de_call O_sent (hl.mono (by first | decide | omega)) fx.g_sent D_sent.kp B_sent .nil (fun _ _ => RepL.nil) lam_tk (da_cons (de_var 8) (da_cons de_non da_nil))))) (da_cons (de_ref (k := 6) (oBA fx rfl rfl rfl) rfl fx.g__law_refused D_law_refused rfl B_law_refused sc_law_refused (Or.inl rfl) rfl rfl fx.tb_law_right hcd (.head _) (fun q hq e => tabs_uniq fx.tu q hq _ (.head _) e) (hr.mono (by first | decide | omega)) (LamX.lamS_by (sc := defScope s_law_right) (by decide +kernel)) (fun _ _ _ _ _ => by first | rfl | with_unfolding_all rfl) (fun A2 o2 s2 H2 E2 f2 c2 hl => (de_call O_sent (hl.mono (by first | decide | omega)) fx.g_sent D_sent.kp B_sent .nil (fun _ _ => RepL.nil) lam_tk (da_cons (de_var 15) (da_cons de_non da_nil))))) (da_cons (de_ref (k := 8) (oBA fx rfl rfl rfl) rfl fx.g__law_refused D_law_refused rfl B_law_refused sc_law_refused (Or.inl rfl) rfl rfl fx.tb_law_right hcd (.head _) (fun q hq e => tabs_uniq fx.tu q hq _ (.head _) e) (hr.mono (by first | decide | omega)) (LamX.lamS_by (sc := defScope s_law_right) (by decide +kernel)) (fun _ _ _ _ _ => by first | rfl | with_unfolding_all rfl) (fun A2 o2 s2 H2 E2 f2 c2 hl => (de_call O_matrix (hl.mono (by first | decide | omega)) fx.g_matrix D_matrix.kp B_matrix .nil (fun _ _ => RepL.nil) lam_tk (da_cons de_non da_nil)))) (da_cons (de_ref (k := 8) (oBA fx rfl rfl rfl) rfl fx.g__law_refused D_law_refused rfl B_law_refused sc_law_refused (Or.inl rfl) rfl rfl fx.tb_law_right hcd (.head _) (fun q hq e => tabs_uniq fx.tu q hq _ (.head _) e) (hr.mono (by first | decide | omega)) (LamX.lamS_by (sc := defScope s_law_right) (by decide +kernel)) (fun _ _ _ _ _ => by first | rfl | with_unfolding_all rfl) (fun A2 o2 s2 H2 E2 f2 c2 hl => (de_call O_are_alike (hl.mono (by first | decide | omega)) fx.g_are_alike D_are_alike.kp B_are_alike .nil (fun _ _ => RepL.nil) lam_tk (da_cons (de_var 1) (da_cons de_non da_nil))))) (da_cons (de_ref (k := 8) (oBA fx rfl rfl rfl) rfl fx.g__law_refused D_law_refused rfl B_law_refused sc_law_refused (Or.inl rfl) rfl rfl fx.tb_law_right hcd (.head _) (fun q hq e => tabs_uniq fx.tu q hq _ (.head _) e) (hr.mono (by first | decide | omega)) (LamX.lamS_by (sc := defScope s_law_right) (by decide +kernel)) (fun _ _ _ _ _ => by first | rfl | with_unfolding_all rfl) (fun A2 o2 s2 H2 E2 f2 c2 hl => (de_call O_are_alike (hl.mono (by first | decide | omega)) fx.g_are_alike D_are_alike.kp B_are_alike .nil (fun _ _ => RepL.nil) lam_tk (da_cons de_non (da_cons de_non da_nil))))) (da_cons (de_ref (k := 10) (oBA fx rfl rfl rfl) rfl fx.g__law_refused D_law_refused rfl B_law_refused sc_law_refused (Or.inl rfl) rfl rfl fx.tb_law_right hcd (.head _) (fun q hq e => tabs_uniq fx.tu q hq _ (.head _) e) (hr.mono (by first | decide | omega)) (LamX.lamS_by (sc := defScope s_law_right) (by decide +kernel)) (fun _ _ _ _ _ => by first | rfl | with_unfolding_all rfl) (fun A2 o2 s2 H2 E2 f2 c2 hl => (de_call O_unlike_ray (hl.mono (by first | decide | omega)) fx.g_unlike_ray D_unlike_ray.kp B_unlike_ray .nil (fun _ _ => RepL.nil) lam_tk (da_cons (de_var 1) (da_cons (de_lst da_nil) da_nil))))) (da_cons (de_ref (k := 10) (oBA fx rfl rfl rfl) rfl fx.g__law_refused D_law_refused rfl B_law_refused sc_law_refused (Or.inl rfl) rfl rfl fx.tb_law_right hcd (.head _) (fun q hq e => tabs_uniq fx.tu q hq _ (.head _) e) (hr.mono (by first | decide | omega)) (LamX.lamS_by (sc := defScope s_law_right) (by decide +kernel)) (fun _ _ _ _ _ => by first | rfl | with_unfolding_all rfl) (fun A2 o2 s2 H2 E2 f2 c2 hl => (de_call O_unlike_ray (hl.mono (by first | decide | omega)) fx.g_unlike_ray D_unlike_ray.kp B_unlike_ray .nil (fun _ _ => RepL.nil) lam_tk (da_cons (de_lst da_nil) (da_cons (de_var 1) da_nil))))) da_nil)))))))))))) (db_one (ds_ret (de_c (cm_eq rfl (hr).units) (de_var 16) (de_lst (da_cons de_str (da_cons de_str (da_cons de_str (da_cons de_str (da_cons de_str (da_cons de_str (da_cons de_str (da_cons de_str (da_cons de_str (da_cons de_str da_nil)))))))))))))))))))))))))))))
theorem sc_law : FnScope ["script", "spot"] ["script"] (defScope s_law) := ⟨rfl, rfl, rfl, by decide +kernel, rfl, by decide +kernel, by decide +kernel⟩
theorem ok_law (fx : Fx w K mg base) : ∃ fd, FunD K "law" "law" (defArgs s_law) (defBody s_law) (defScope s_law) [] [] (He.fAd K ("law", none)) fd ∧ FnOk rowP w K mg base (L2.CX rowP w) 14 (He.fAd K ("law", none)) fd ["script"] (spD (GG K) 1 f_law) := by
  obtain ⟨fd_law_dice, D_law_dice, O_law_dice⟩ := ok_law_dice fx
  obtain ⟨fd_law_right, D_law_right, O_law_right⟩ := ok_law_right fx
  have B_law_dice : Binds K fd_law_dice ["script", "spot"] [] := D_law_dice.bindsN fun _ _ _ _ _ _ us hl => match us, hl with | [_, _], _ => rfl
  have B_law_right : Binds K fd_law_right ["dice"] [] := D_law_right.bindsN fun _ _ _ _ _ _ us hl => match us, hl with | [_], _ => rfl
  obtain ⟨fd, F⟩ := fx.d_law
  refine ⟨fd, F, fn_ok F sc_law rfl (by decide) fun cdv A outer s H E hr tk => ?_⟩
  exact (db_cons (ds_for (L2.passes_of rfl) rfl (di_range1 fx.b_range (de_callB (call_max2 rfl) m_max fx.b_max (by first | rfl | kernel_rfl) (da_cons de_int (da_cons (de_callB (call_min2 rfl) m_min fx.b_min (by first | rfl | kernel_rfl) (da_cons de_int (da_cons (de_callB call_len (m_len rfl) fx.b_len (by first | rfl | kernel_rfl) (da_cons (de_var 0) da_nil)) da_nil))) da_nil)))) (dg_name (i := 1) sc_law.nd) (db_one (ds_if (dt_not (dt_val (de_call O_law_right (hr.mono (by first | decide | omega)) fx.g__law_right D_law_right.kp B_law_right .nil (fun _ _ => RepL.nil) tk (da_cons (de_call O_law_dice (hr.mono (by first | decide | omega)) fx.g__law_dice D_law_dice.kp B_law_dice .nil (fun _ _ => RepL.nil) tk (da_cons (de_var 0) (da_cons (de_var 1) da_nil))) da_nil)))) (db_one (ds_ret de_bl)) db_nil))) (db_one (ds_ret de_bl)))
end
def e_is_integer : He.DefD := ⟨("is_integer", none), "is_integer", "is_integer", defArgs s_is_integer, defBody s_is_integer, defScope s_is_integer, [], []⟩
def e_common : He.DefD := ⟨("common", none), "common", "common", defArgs s_common, defBody s_common, defScope s_common, [], []⟩
def e_ratio : He.DefD := ⟨("ratio", none), "ratio", "ratio", defArgs s_ratio, defBody s_ratio, defScope s_ratio, [], []⟩
def e_plus : He.DefD := ⟨("plus", none), "plus", "plus", defArgs s_plus, defBody s_plus, defScope s_plus, [], []⟩
def e_negative : He.DefD := ⟨("negative", none), "negative", "negative", defArgs s_negative, defBody s_negative, defScope s_negative, [], []⟩
def e_minus : He.DefD := ⟨("minus", none), "minus", "minus", defArgs s_minus, defBody s_minus, defScope s_minus, [], []⟩
def e_times : He.DefD := ⟨("times", none), "times", "times", defArgs s_times, defBody s_times, defScope s_times, [], []⟩
def e_is_fraction : He.DefD := ⟨("is_fraction", none), "is_fraction", "is_fraction", defArgs s_is_fraction, defBody s_is_fraction, defScope s_is_fraction, [], []⟩
def e_is_small : He.DefD := ⟨("is_small", none), "is_small", "is_small", defArgs s_is_small, defBody s_is_small, defScope s_is_small, [], []⟩
def e_is_part : He.DefD := ⟨("is_part", none), "is_part", "is_part", defArgs s_is_part, defBody s_is_part, defScope s_is_part, [], []⟩
def e_is_row : He.DefD := ⟨("is_row", none), "is_row", "is_row", defArgs s_is_row, defBody s_is_row, defScope s_is_row, [], []⟩
def e_need_row : He.DefD := ⟨("need_row", none), "need_row", "need_row", defArgs s_need_row, defBody s_need_row, defScope s_need_row, [], []⟩
def e_need_ray : He.DefD := ⟨("need_ray", none), "need_ray", "need_ray", defArgs s_need_ray, defBody s_need_ray, defScope s_need_ray, [], []⟩
def e_behind : He.DefD := ⟨("behind", none), "behind", "behind", defArgs s_behind, defBody s_behind, defScope s_behind, [], []⟩
def e_way_of : He.DefD := ⟨("way_of", none), "way_of", "way_of", defArgs s_way_of, defBody s_way_of, defScope s_way_of, [], []⟩
def e_way : He.DefD := ⟨("way", none), "way", "way", defArgs s_way, defBody s_way, defScope s_way, [], []⟩
def e_leaving : He.DefD := ⟨("leaving", none), "leaving", "leaving", defArgs s_leaving, defBody s_leaving, defScope s_leaving, [], []⟩
def e_part_matrix : He.DefD := ⟨("part_matrix", none), "part_matrix", "part_matrix", defArgs s_part_matrix, defBody s_part_matrix, defScope s_part_matrix, [], []⟩
def e_worked : He.DefD := ⟨("worked", none), "worked", "worked", defArgs s_worked, defBody s_worked, defScope s_worked, [], []⟩
def e_matrix_of : He.DefD := ⟨("matrix_of", none), "matrix_of", "matrix_of", defArgs s_matrix_of, defBody s_matrix_of, defScope s_matrix_of, [], []⟩
def e_matrix : He.DefD := ⟨("matrix", none), "matrix", "matrix", defArgs s_matrix, defBody s_matrix, defScope s_matrix, [], []⟩
def e_need_matrix : He.DefD := ⟨("need_matrix", none), "need_matrix", "need_matrix", defArgs s_need_matrix, defBody s_need_matrix, defScope s_need_matrix, [], []⟩
def e_inverse_of : He.DefD := ⟨("inverse_of", none), "inverse_of", "inverse_of", defArgs s_inverse_of, defBody s_inverse_of, defScope s_inverse_of, [], []⟩
def e_inverse : He.DefD := ⟨("inverse", none), "inverse", "inverse", defArgs s_inverse, defBody s_inverse, defScope s_inverse, [], []⟩
def e_behind_both : He.DefD := ⟨("behind_both", none), "behind_both", "behind_both", defArgs s_behind_both, defBody s_behind_both, defScope s_behind_both, [], []⟩
def e_sent_by : He.DefD := ⟨("sent_by", none), "sent_by", "sent_by", defArgs s_sent_by, defBody s_sent_by, defScope s_sent_by, [], []⟩
def e_sent : He.DefD := ⟨("sent", none), "sent", "sent", defArgs s_sent, defBody s_sent, defScope s_sent, [], []⟩
def e_are_alike : He.DefD := ⟨("are_alike", none), "are_alike", "are_alike", defArgs s_are_alike, defBody s_are_alike, defScope s_are_alike, [], []⟩
def e_unlike_ray : He.DefD := ⟨("unlike_ray", none), "unlike_ray", "unlike_ray", defArgs s_unlike_ray, defBody s_unlike_ray, defScope s_unlike_ray, [], []⟩
def e_law_dice : He.DefD := ⟨("_law_dice", none), "_law_dice", "_law_dice", defArgs s_law_dice, defBody s_law_dice, defScope s_law_dice, [], []⟩
def e_law_roll : He.DefD := ⟨("_law_roll", none), "_law_roll", "_law_roll", defArgs s_law_roll, defBody s_law_roll, defScope s_law_roll, [], []⟩
def e_law_pick : He.DefD := ⟨("_law_pick", none), "_law_pick", "_law_pick", defArgs s_law_pick, defBody s_law_pick, defScope s_law_pick, [], []⟩
def e_law_refused : He.DefD := ⟨("_law_refused", none), "_law_refused", "_law_refused", defArgs s_law_refused, defBody s_law_refused, defScope s_law_refused, [], []⟩
def e_law_f : He.DefD := ⟨("_law_f", none), "_law_f", "_law_f", defArgs s_law_f, defBody s_law_f, defScope s_law_f, [], []⟩
def e_law_add : He.DefD := ⟨("_law_add", none), "_law_add", "_law_add", defArgs s_law_add, defBody s_law_add, defScope s_law_add, [], []⟩
def e_law_neg : He.DefD := ⟨("_law_neg", none), "_law_neg", "_law_neg", defArgs s_law_neg, defBody s_law_neg, defScope s_law_neg, [], []⟩
def e_law_mul : He.DefD := ⟨("_law_mul", none), "_law_mul", "_law_mul", defArgs s_law_mul, defBody s_law_mul, defScope s_law_mul, [], []⟩
def e_law_div : He.DefD := ⟨("_law_div", none), "_law_div", "_law_div", defArgs s_law_div, defBody s_law_div, defScope s_law_div, [], []⟩
def e_law_num : He.DefD := ⟨("_law_num", none), "_law_num", "_law_num", defArgs s_law_num, defBody s_law_num, defScope s_law_num, [], []⟩
def e_law_part : He.DefD := ⟨("_law_part", none), "_law_part", "_law_part", defArgs s_law_part, defBody s_law_part, defScope s_law_part, [], []⟩
def e_law_row : He.DefD := ⟨("_law_row", none), "_law_row", "_law_row", defArgs s_law_row, defBody s_law_row, defScope s_law_row, [], []⟩
def e_law_ray : He.DefD := ⟨("_law_ray", none), "_law_ray", "_law_ray", defArgs s_law_ray, defBody s_law_ray, defScope s_law_ray, [], []⟩
def e_law_step : He.DefD := ⟨("_law_step", none), "_law_step", "_law_step", defArgs s_law_step, defBody s_law_step, defScope s_law_step, [], []⟩
def e_law_out : He.DefD := ⟨("_law_out", none), "_law_out", "_law_out", defArgs s_law_out, defBody s_law_out, defScope s_law_out, [], []⟩
def e_law_matrix : He.DefD := ⟨("_law_matrix", none), "_law_matrix", "_law_matrix", defArgs s_law_matrix, defBody s_law_matrix, defScope s_law_matrix, [], []⟩
def e_law_sent : He.DefD := ⟨("_law_sent", none), "_law_sent", "_law_sent", defArgs s_law_sent, defBody s_law_sent, defScope s_law_sent, [], []⟩
def e_law_small : He.DefD := ⟨("_law_small", none), "_law_small", "_law_small", defArgs s_law_small, defBody s_law_small, defScope s_law_small, [], []⟩
def e_law_drawn : He.DefD := ⟨("_law_drawn", none), "_law_drawn", "_law_drawn", defArgs s_law_drawn, defBody s_law_drawn, defScope s_law_drawn, [], []⟩
def e_law_near : He.DefD := ⟨("_law_near", none), "_law_near", "_law_near", defArgs s_law_near, defBody s_law_near, defScope s_law_near, [], []⟩
def e_law_right : He.DefD := ⟨("_law_right", none), "_law_right", "_law_right", defArgs s_law_right, defBody s_law_right, defScope s_law_right, [], []⟩
def e_law : He.DefD := ⟨("law", none), "law", "law", defArgs s_law, defBody s_law, defScope s_law, [], []⟩
def fn : List He.DefD := ([e_is_integer, e_common, e_ratio, e_plus, e_negative, e_minus, e_times, e_is_fraction, e_is_small, e_is_part, e_is_row, e_need_row, e_need_ray, e_behind, e_way_of, e_way, e_leaving, e_part_matrix, e_worked, e_matrix_of, e_matrix, e_need_matrix, e_inverse_of, e_inverse, e_behind_both, e_sent_by, e_sent, e_are_alike, e_unlike_ray, e_law_dice] : List He.DefD) ++ ([e_law_roll, e_law_pick, e_law_refused, e_law_f, e_law_add, e_law_neg, e_law_mul, e_law_div, e_law_num, e_law_part, e_law_row, e_law_ray, e_law_step, e_law_out, e_law_matrix, e_law_sent, e_law_small, e_law_drawn, e_law_near, e_law_right, e_law] : List He.DefD)
def fa : List He.Fa := ([.glo "BadArgument", .glo "KINDS", .int "MOST" 1000000000000, .int "MOST_PARTS" 24, .glo "ONE", .glo "SAME", .glo "ZERO", .glo "_law_add", .glo "_law_dice", .glo "_law_div", .glo "_law_drawn", .glo "_law_f", .glo "_law_matrix", .glo "_law_mul", .glo "_law_near", .glo "_law_neg", .glo "_law_num", .glo "_law_out", .glo "_law_part", .glo "_law_pick", .glo "_law_ray", .glo "_law_refused", .glo "_law_right", .glo "_law_roll", .glo "_law_row", .glo "_law_sent", .glo "_law_small", .glo "_law_step", .glo "are_alike", .glo "behind"] : List He.Fa) ++ ([.glo "behind_both", .glo "common", .glo "inverse", .glo "inverse_of", .glo "is_fraction", .glo "is_integer", .glo "is_part", .glo "is_row", .glo "is_small", .glo "leaving", .glo "matrix", .glo "matrix_of", .glo "minus", .glo "need_matrix", .glo "need_ray", .glo "need_row", .glo "negative", .glo "part_matrix", .glo "plus", .glo "ratio", .glo "sent", .glo "sent_by", .glo "times", .glo "unlike_ray", .glo "way", .glo "way_of", .glo "worked", .free "abs", .free "all", .free "bool"] : List He.Fa) ++ ([.free "int", .free "isinstance", .free "len", .free "max", .free "min", .free "range", .free "str", .free "tuple", .glo "law"] : List He.Fa)
def ex (K : PySem.W.Frag) : Bool := conD K k_ZERO (.ref (He.ga K "ZERO")) && (conD K k_ONE (.ref (He.ga K "ONE")) && (conD K k_KINDS (.ref (He.ga K "KINDS")) && (conD K k_SAME (.ref (He.ga K "SAME")) && (decide (([(He.cT K ("_law_right", none)).2, (He.cT K ("is_row", none)).2] : List Addr).Nodup)))))
def tf : List He.Defn := [("_law_right", none), ("is_row", none)]
def ow : List Hd.OwnD := [⟨"BadArgument", "name", .BinOp (.Constant (.str "bad argument: ") 0 ⟨5, 25, 5, 41⟩) .Add (.Name "name" ⟨5, 44, 5, 48⟩) ⟨5, 25, 5, 48⟩, defScope initSt, ⟨4, 17, 4, 21⟩, ⟨4, 23, 4, 27⟩, ⟨5, 8, 5, 13⟩, ⟨5, 8, 5, 15⟩, ⟨5, 8, 5, 24⟩, ⟨5, 8, 5, 49⟩, ⟨5, 8, 5, 49⟩, ⟨6, 8, 6, 12⟩, ⟨6, 8, 6, 17⟩, ⟨6, 20, 6, 24⟩, ⟨6, 8, 6, 24⟩⟩]
abbrev R : PySem.W.OpenRow := PySem.W.OpenLaw.row PySem.Challenge.rw_raydrawer_k03_whole_matrices
abbrev hk : PySem.W.Hook := Hd.hookO rowP 4 fa fn [] tf ow ex
def ob (s : PySem.W.SharedT) : Hd.AlO := Hd.obsO rowP 4 fa fn [] tf ow ex (HandSHeadRun.getT s)
theorem ob_eq (s : PySem.W.SharedT) : ob s = hk.obs s.abs := Hd.obsO_eq (HandSHeadRun.getT_eq s)
def loose : List Str := (["BadArgument", "MOST", "ZERO", "ONE", "is_integer", "common", "ratio", "plus", "negative", "minus", "times", "is_fraction", "is_small", "MOST_PARTS", "KINDS", "is_part", "is_row", "need_row", "need_ray", "behind", "way_of", "way", "leaving", "SAME", "part_matrix", "worked", "matrix_of", "matrix", "need_matrix", "inverse_of"] : List Str) ++ (["inverse", "behind_both", "sent_by", "sent", "are_alike", "unlike_ray", "_law_dice", "_law_roll", "_law_pick", "_law_refused", "_law_f", "_law_add", "_law_neg", "_law_mul", "_law_div", "_law_num", "_law_part", "_law_row", "_law_ray", "_law_step", "_law_out", "_law_matrix", "_law_sent", "_law_small", "_law_drawn", "_law_near", "_law_right"] : List Str)
theorem run (w : World) : HandSHeadRun.RunEq R (PySem.W.view R.prog [63]) hk ob 6000 loose w := by
  intro os
  kernel_rfl
theorem fx_of {w : World} {K : PySem.W.Frag} {mg : Str → Option Value} {h base : Heap} (X : K.In base) (Gm : base.Ns mainGlobals mg) (c : Hd.SaysO rowP fa fn [] tf ow ex w h K) (tb : ∀ p ∈ tf.map (He.cT K), LamX.TabB base mg p.1 p.2) : Fx w K mg base where
  g_BadArgument := He.glo_ok X Gm (c.t.d.fact 0 (f := .glo "BadArgument") rfl)
  g_KINDS := He.glo_ok X Gm (c.t.d.fact 1 (f := .glo "KINDS") rfl)
  g_MOST := He.int_ok X Gm (c.t.d.fact 2 (f := .int "MOST" 1000000000000) rfl)
  g_MOST_PARTS := He.int_ok X Gm (c.t.d.fact 3 (f := .int "MOST_PARTS" 24) rfl)
  g_ONE := He.glo_ok X Gm (c.t.d.fact 4 (f := .glo "ONE") rfl)
  g_SAME := He.glo_ok X Gm (c.t.d.fact 5 (f := .glo "SAME") rfl)
  g_ZERO := He.glo_ok X Gm (c.t.d.fact 6 (f := .glo "ZERO") rfl)
  g__law_add := He.glo_ok X Gm (c.t.d.fact 7 (f := .glo "_law_add") rfl)
  g__law_dice := He.glo_ok X Gm (c.t.d.fact 8 (f := .glo "_law_dice") rfl)
  g__law_div := He.glo_ok X Gm (c.t.d.fact 9 (f := .glo "_law_div") rfl)
  g__law_drawn := He.glo_ok X Gm (c.t.d.fact 10 (f := .glo "_law_drawn") rfl)
  g__law_f := He.glo_ok X Gm (c.t.d.fact 11 (f := .glo "_law_f") rfl)
  g__law_matrix := He.glo_ok X Gm (c.t.d.fact 12 (f := .glo "_law_matrix") rfl)
  g__law_mul := He.glo_ok X Gm (c.t.d.fact 13 (f := .glo "_law_mul") rfl)
  g__law_near := He.glo_ok X Gm (c.t.d.fact 14 (f := .glo "_law_near") rfl)
  g__law_neg := He.glo_ok X Gm (c.t.d.fact 15 (f := .glo "_law_neg") rfl)
  g__law_num := He.glo_ok X Gm (c.t.d.fact 16 (f := .glo "_law_num") rfl)
  g__law_out := He.glo_ok X Gm (c.t.d.fact 17 (f := .glo "_law_out") rfl)
  g__law_part := He.glo_ok X Gm (c.t.d.fact 18 (f := .glo "_law_part") rfl)
  g__law_pick := He.glo_ok X Gm (c.t.d.fact 19 (f := .glo "_law_pick") rfl)
  g__law_ray := He.glo_ok X Gm (c.t.d.fact 20 (f := .glo "_law_ray") rfl)
  g__law_refused := He.glo_ok X Gm (c.t.d.fact 21 (f := .glo "_law_refused") rfl)
  g__law_right := He.glo_ok X Gm (c.t.d.fact 22 (f := .glo "_law_right") rfl)
  g__law_roll := He.glo_ok X Gm (c.t.d.fact 23 (f := .glo "_law_roll") rfl)
  g__law_row := He.glo_ok X Gm (c.t.d.fact 24 (f := .glo "_law_row") rfl)
  g__law_sent := He.glo_ok X Gm (c.t.d.fact 25 (f := .glo "_law_sent") rfl)
  g__law_small := He.glo_ok X Gm (c.t.d.fact 26 (f := .glo "_law_small") rfl)
  g__law_step := He.glo_ok X Gm (c.t.d.fact 27 (f := .glo "_law_step") rfl)
  g_are_alike := He.glo_ok X Gm (c.t.d.fact 28 (f := .glo "are_alike") rfl)
  g_behind := He.glo_ok X Gm (c.t.d.fact 29 (f := .glo "behind") rfl)
  g_behind_both := He.glo_ok X Gm (c.t.d.fact 30 (f := .glo "behind_both") rfl)
  g_common := He.glo_ok X Gm (c.t.d.fact 31 (f := .glo "common") rfl)
  g_inverse := He.glo_ok X Gm (c.t.d.fact 32 (f := .glo "inverse") rfl)
  g_inverse_of := He.glo_ok X Gm (c.t.d.fact 33 (f := .glo "inverse_of") rfl)
  g_is_fraction := He.glo_ok X Gm (c.t.d.fact 34 (f := .glo "is_fraction") rfl)
  g_is_integer := He.glo_ok X Gm (c.t.d.fact 35 (f := .glo "is_integer") rfl)
  g_is_part := He.glo_ok X Gm (c.t.d.fact 36 (f := .glo "is_part") rfl)
  g_is_row := He.glo_ok X Gm (c.t.d.fact 37 (f := .glo "is_row") rfl)
  g_is_small := He.glo_ok X Gm (c.t.d.fact 38 (f := .glo "is_small") rfl)
  g_leaving := He.glo_ok X Gm (c.t.d.fact 39 (f := .glo "leaving") rfl)
  g_matrix := He.glo_ok X Gm (c.t.d.fact 40 (f := .glo "matrix") rfl)
  g_matrix_of := He.glo_ok X Gm (c.t.d.fact 41 (f := .glo "matrix_of") rfl)
  g_minus := He.glo_ok X Gm (c.t.d.fact 42 (f := .glo "minus") rfl)
  g_need_matrix := He.glo_ok X Gm (c.t.d.fact 43 (f := .glo "need_matrix") rfl)
  g_need_ray := He.glo_ok X Gm (c.t.d.fact 44 (f := .glo "need_ray") rfl)
  g_need_row := He.glo_ok X Gm (c.t.d.fact 45 (f := .glo "need_row") rfl)
  g_negative := He.glo_ok X Gm (c.t.d.fact 46 (f := .glo "negative") rfl)
  g_part_matrix := He.glo_ok X Gm (c.t.d.fact 47 (f := .glo "part_matrix") rfl)
  g_plus := He.glo_ok X Gm (c.t.d.fact 48 (f := .glo "plus") rfl)
  g_ratio := He.glo_ok X Gm (c.t.d.fact 49 (f := .glo "ratio") rfl)
  g_sent := He.glo_ok X Gm (c.t.d.fact 50 (f := .glo "sent") rfl)
  g_sent_by := He.glo_ok X Gm (c.t.d.fact 51 (f := .glo "sent_by") rfl)
  g_times := He.glo_ok X Gm (c.t.d.fact 52 (f := .glo "times") rfl)
  g_unlike_ray := He.glo_ok X Gm (c.t.d.fact 53 (f := .glo "unlike_ray") rfl)
  g_way := He.glo_ok X Gm (c.t.d.fact 54 (f := .glo "way") rfl)
  g_way_of := He.glo_ok X Gm (c.t.d.fact 55 (f := .glo "way_of") rfl)
  g_worked := He.glo_ok X Gm (c.t.d.fact 56 (f := .glo "worked") rfl)
  r_ZERO := (He.ba c.more).1
  r_ONE := (He.ba (He.ba c.more).2).1
  r_KINDS := (He.ba (He.ba (He.ba c.more).2).2).1
  r_SAME := (He.ba (He.ba (He.ba (He.ba c.more).2).2).2).1
  b_abs := He.free_ok X Gm (c.t.d.fact 57 (f := .free "abs") rfl)
  b_all := He.free_ok X Gm (c.t.d.fact 58 (f := .free "all") rfl)
  b_bool := He.free_ok X Gm (c.t.d.fact 59 (f := .free "bool") rfl)
  b_int := He.free_ok X Gm (c.t.d.fact 60 (f := .free "int") rfl)
  b_isinstance := He.free_ok X Gm (c.t.d.fact 61 (f := .free "isinstance") rfl)
  b_len := He.free_ok X Gm (c.t.d.fact 62 (f := .free "len") rfl)
  b_max := He.free_ok X Gm (c.t.d.fact 63 (f := .free "max") rfl)
  b_min := He.free_ok X Gm (c.t.d.fact 64 (f := .free "min") rfl)
  b_range := He.free_ok X Gm (c.t.d.fact 65 (f := .free "range") rfl)
  b_str := He.free_ok X Gm (c.t.d.fact 66 (f := .free "str") rfl)
  b_tuple := He.free_ok X Gm (c.t.d.fact 67 (f := .free "tuple") rfl)
  d_is_integer := c.t.d.def_ 0 (d := e_is_integer) rfl
  d_common := c.t.d.def_ 1 (d := e_common) rfl
  d_ratio := c.t.d.def_ 2 (d := e_ratio) rfl
  d_plus := c.t.d.def_ 3 (d := e_plus) rfl
  d_negative := c.t.d.def_ 4 (d := e_negative) rfl
  d_minus := c.t.d.def_ 5 (d := e_minus) rfl
  d_times := c.t.d.def_ 6 (d := e_times) rfl
  d_is_fraction := c.t.d.def_ 7 (d := e_is_fraction) rfl
  d_is_small := c.t.d.def_ 8 (d := e_is_small) rfl
  d_is_part := c.t.d.def_ 9 (d := e_is_part) rfl
  d_is_row := c.t.d.def_ 10 (d := e_is_row) rfl
  d_need_row := c.t.d.def_ 11 (d := e_need_row) rfl
  d_need_ray := c.t.d.def_ 12 (d := e_need_ray) rfl
  d_behind := c.t.d.def_ 13 (d := e_behind) rfl
  d_way_of := c.t.d.def_ 14 (d := e_way_of) rfl
  d_way := c.t.d.def_ 15 (d := e_way) rfl
  d_leaving := c.t.d.def_ 16 (d := e_leaving) rfl
  d_part_matrix := c.t.d.def_ 17 (d := e_part_matrix) rfl
  d_worked := c.t.d.def_ 18 (d := e_worked) rfl
  d_matrix_of := c.t.d.def_ 19 (d := e_matrix_of) rfl
  d_matrix := c.t.d.def_ 20 (d := e_matrix) rfl
  d_need_matrix := c.t.d.def_ 21 (d := e_need_matrix) rfl
  d_inverse_of := c.t.d.def_ 22 (d := e_inverse_of) rfl
  d_inverse := c.t.d.def_ 23 (d := e_inverse) rfl
  d_behind_both := c.t.d.def_ 24 (d := e_behind_both) rfl
  d_sent_by := c.t.d.def_ 25 (d := e_sent_by) rfl
  d_sent := c.t.d.def_ 26 (d := e_sent) rfl
  d_are_alike := c.t.d.def_ 27 (d := e_are_alike) rfl
  d_unlike_ray := c.t.d.def_ 28 (d := e_unlike_ray) rfl
  d_law_dice := c.t.d.def_ 29 (d := e_law_dice) rfl
  d_law_roll := c.t.d.def_ 30 (d := e_law_roll) rfl
  d_law_pick := c.t.d.def_ 31 (d := e_law_pick) rfl
  d_law_refused := c.t.d.def_ 32 (d := e_law_refused) rfl
  d_law_f := c.t.d.def_ 33 (d := e_law_f) rfl
  d_law_add := c.t.d.def_ 34 (d := e_law_add) rfl
  d_law_neg := c.t.d.def_ 35 (d := e_law_neg) rfl
  d_law_mul := c.t.d.def_ 36 (d := e_law_mul) rfl
  d_law_div := c.t.d.def_ 37 (d := e_law_div) rfl
  d_law_num := c.t.d.def_ 38 (d := e_law_num) rfl
  d_law_part := c.t.d.def_ 39 (d := e_law_part) rfl
  d_law_row := c.t.d.def_ 40 (d := e_law_row) rfl
  d_law_ray := c.t.d.def_ 41 (d := e_law_ray) rfl
  d_law_step := c.t.d.def_ 42 (d := e_law_step) rfl
  d_law_out := c.t.d.def_ 43 (d := e_law_out) rfl
  d_law_matrix := c.t.d.def_ 44 (d := e_law_matrix) rfl
  d_law_sent := c.t.d.def_ 45 (d := e_law_sent) rfl
  d_law_small := c.t.d.def_ 46 (d := e_law_small) rfl
  d_law_drawn := c.t.d.def_ 47 (d := e_law_drawn) rfl
  d_law_near := c.t.d.def_ 48 (d := e_law_near) rfl
  d_law_right := c.t.d.def_ 49 (d := e_law_right) rfl
  d_law := c.t.d.def_ 50 (d := e_law) rfl
  own := (Hd.own_ok (c.own _ (List.mem_singleton.mpr rfl)).1 (c.own _ (List.mem_singleton.mpr rfl)).2).2
  tb_law_right := tb _ (.head _)
  tb_is_row := tb _ (.tail _ (.head _))
  tu := of_decide_eq_true (He.ba (He.ba (He.ba (He.ba c.more).2).2).2).2
theorem fd_one {K : PySem.W.Frag} {x x2 qual qual2 : Str} {params params2 : Arguments} {body body2 : List Stmt} {scope scope2 : Scope} {dvs dvs2 : List V} {kws kws2 : List (Str × V)} {f : Addr} {fd fd2 : FuncData}
    (F : FunD K x qual params body scope dvs kws f fd) (F2 : FunD K x2 qual2 params2 body2 scope2 dvs2 kws2 f fd2) : fd = fd2 := by
  obtain ⟨oc, od, dV, kV, doc, pm, an, cdv, ct, osl, e1, lk, _, _, _⟩ := F.ex
  obtain ⟨oc', od', dV', kV', doc', pm', an', cdv', ct', osl', e1', lk', _, _, _⟩ := F2.ex
  have lk2 := lk.symm.trans lk'
  clear e1 e1' F F2
  injection lk2 with z
  injection z with z1 z2 z3 z4
  injection z3
/-- the law holds where its def answers True -/
theorem holds (math : ∀ ns : List Int, ns.length ≤ 63 → (∀ z ∈ ns, Builtin.Int.intBits z ≤ 1048576) → Says f_law ns) : PySem.Challenge.rw_raydrawer_k03_whole_matrices.Holds := by
  w_on; o_law
  refine HandSHeadRun.head_any (r := R) (q := PySem.W.view R.prog [63]) (H := hk) (ob := ob) (M := 6000) (loose := loose) (d := HandSHeadRun.topDef R.prog 63) (kwd := []) ob_eq
    (by as_aux_lemma => kernel_rfl) (fun s => by as_aux_lemma => kernel_rfl) run (by as_aux_lemma => kernel_rfl) (by as_aux_lemma => kernel_rfl) (by as_aux_lemma => kernel_rfl) (by rfl) (by first | assumption | decide +kernel) (by decide +kernel) ⟨rfl, rfl, rfl, rfl, rfl, by decide +kernel⟩ ?hw ?hc
  case hw => as_aux_lemma => w_witness2
  case hc =>
    refine LamX.walk_ofTsE (l := PySem.Challenge.rw_raydrawer_k03_whole_matrices) (n := 63) (k := 14) (x := "script") (CX := L2.CX rowP) rfl (by decide) (by as_aux_lemma => kernel_rfl) ⟨rfl, by decide, by decide⟩ ?F (fun w H s e s' z => by obtain ⟨_, _, _, _, _, _, _, _, _, _, _, _, z⟩ := z; exact z)
    intro w mg fa0 h Y Gm hmg0
    obtain ⟨K, KX, c⟩ := Y
    have hmg : mg ("law" : PySem.Str) = some (.ref fa0) := by
      have e : (HandSHeadRun.topDef R.prog 63).name = ("law" : PySem.Str) := by as_aux_lemma => kernel_rfl
      rw [← e]
      exact hmg0
    have e := hmg.symm.trans (He.glo_ok KX Gm (c.t.d.fact 68 (f := .glo "law") rfl))
    cases e
    obtain ⟨fd, F⟩ := c.t.d.def_ 50 (d := e_law) rfl
    have b := FunD.bindsA (ps := ["script"]) F fun _ _ _ _ _ _ us hl => match us, hl with | [_], _ => rfl
    refine ⟨K, KX, fd, tf.map (He.cT K), spD (GG K) 1 f_law, fun p hp => ?_, fun p hp => ?_, fun p hp => ?_, fun s u => b s [u] rfl, fun H a ns hl hbits hT hS => law_sp hS (fun p hp => ?_) (math ns hl hbits), fun base KB GB tb => ?_⟩
    · obtain ⟨q, hq, rfl⟩ := List.mem_map.mp hp
      exact c.empty q hq
    · obtain ⟨q, hq, rfl⟩ := List.mem_map.mp hp
      exact c.out q hq
    · obtain ⟨q, hq, rfl⟩ := List.mem_map.mp hp
      exact PySem.W.codeHd_of_K KX (c.hd q hq)
    · have hp' : p ∈ ([((He.cT K ("_law_right", none)).2, ("_law_right" ++ ".<locals>.") ++ "<lambda>"), ((He.cT K ("is_row", none)).2, ("is_row" ++ ".<locals>.") ++ "<genexpr>")] : List (Addr × Str)) := hp
      simp only [List.mem_cons, List.not_mem_nil, or_false] at hp'
      rcases hp' with rfl | rfl
      · exact LamX.TabS.nil (hT _ (List.mem_map.mpr ⟨_, (.head _), rfl⟩))
      · exact LamX.TabS.nil (hT _ (List.mem_map.mpr ⟨_, (.tail _ (.head _)), rfl⟩))
    · obtain ⟨fd2, F2, O⟩ := ok_law (fx_of KB GB c tb)
      obtain rfl := fd_one F F2
      exact O
end Law
namespace Law
open PySem L2 DL
theorem okS (s : Str) (h : s.length ≤ 1000) : okName (.str s) = true := decide_eq_true h
theorem okM : okName (.str "m") = true := okS _ (by decide)
theorem okK : okName (.str "k") = true := okS _ (by decide)
theorem okOne : okName (.str "one") = true := okS _ (by decide)
theorem okOther : okName (.str "other") = true := okS _ (by decide)
/-! ### the program -/
section
variable {ps us : List (Kd × Rat)} {h : DH}
theorem matrix_row_ok (hp : ∀ p ∈ ps, okP p) (hl : ps.length ≤ 24) : f_matrix [row ps] h = .ok (rmat ps) h := by
  unfold f_matrix d_matrix
  simp only [b_ok, b_ex, b_bad, o_ok, o_ex, o_bad, n_ok, s_seq, s_nx, s_rt, s_bk, s_ct, s_ex, e_var, e_c, e_bin, e_un, e_blt, e_if, e_and, e_or, e_chain, a_nil, a_cons, e_tup, e_lst, e_call, e_callK, e_met, e_sl, g_nx, g_expr, g_ret, g_retN, g_bk, g_ct, g_if, g_asg, g_par, g_raise, t_name, t_unp, t_nil, t_cons, t_sub, g_for, i_val, i_rng1, i_rng2, e_ref, f_rt, f_nx, f_ex, drop_id, g_aug, o_iadd, e_lc, w_nil, w_cons, e_yes, i_tup, i_rol, al, lim_eq, Nat.reduceLeDiff, Nat.reduceLT, x_t0, x_t1, x_t2, x_t3, l_tup, l_rol, u_tup, o_cmp, o_add, o_sub, o_neg, o_not, o_abs, o_int, o_max, o_min, q_int, q_nint, q_bl, q_nbl, q_str, q_nstr, fnD, List.map_cons, List.map_nil, List.length_cons, List.length_nil, List.replicate_succ, List.replicate_zero, List.cons_append, List.nil_append, List.append_nil, List.getElem?_cons_zero, List.getElem?_cons_succ, List.getElem?_nil, List.set_cons_zero, List.set_cons_succ, List.zip_cons_cons, List.zip_nil_left, List.foldl_cons, List.foldl_nil, Nat.reduceSub, Nat.reduceAdd, Nat.zero_add, Nat.add_zero, if_true, if_false, reduceIte, ite_true, ite_false, eq_self, and_true, true_and, and_self, decide_true, decide_false, is_int_int, is_int_bl, is_int_str, is_int_tup, is_int_rol, is_int_non, is_bool_int, is_bool_bl, is_bool_str, is_bool_tup, is_bool_rol, is_bool_non, is_tuple_int, is_tuple_bl, is_tuple_str, is_tuple_tup, is_tuple_rol, is_tuple_non, is_str_int, is_str_bl, is_str_str, is_str_tup, is_str_rol, is_str_non, is_list_int, is_list_bl, is_list_str, is_list_tup, is_list_rol, is_list_non, Bool.not_true, Bool.not_false, need_row_ok hp hl, matrix_of_ok hp hl]
theorem eqv_mat (a b c d a' b' c' d' : Rat) : PyData.eqv (toP (mat a b c d)) (toP (mat a' b' c' d')) = decide (a = a' ∧ b = b' ∧ c = c' ∧ d = d') := by
  simp only [toP, toPs, PyData.eqv, PyData.eqvAll, eqv_fr, Bool.and_true, Bool.decide_and, Bool.and_assoc]
theorem pl_mat (n : Nat) (a b c d : Rat) : pl (n + 3) (mat a b c d) = true := by simp [fr, pl, pls]
theorem q_nmat {a b c d a' b' c' d' : Rat} {h : DH} : oNe (mat a b c d) (mat a' b' c' d') h = .ok (.bl (!decide (a = a' ∧ b = b' ∧ c = c' ∧ d = d'))) h := by rw [q_npl (pl_mat 16 _ _ _ _) (pl_mat 16 _ _ _ _), eqv_mat]
theorem q_mat {a b c d a' b' c' d' : Rat} {h : DH} : oEq (mat a b c d) (mat a' b' c' d') h = .ok (.bl (decide (a = a' ∧ b = b' ∧ c = c' ∧ d = d'))) h := by rw [q_pl (pl_mat 16 _ _ _ _) (pl_mat 16 _ _ _ _), eqv_mat]
/-- alike -/
def alike (ps us : List (Kd × Rat)) : Prop := outP ps (1, 0) = outP us (1, 0) ∧ outP ps (0, 1) = outP us (0, 1)
open Classical in
theorem q_rmat : oEq (rmat ps) (rmat us) h = .ok (.bl (decide (alike ps us))) h := by
  unfold rmat colm
  rw [q_mat]
  have : ((outP ps (1, 0)).1 = (outP us (1, 0)).1 ∧ (outP ps (0, 1)).1 = (outP us (0, 1)).1 ∧ (outP ps (1, 0)).2 = (outP us (1, 0)).2 ∧ (outP ps (0, 1)).2 = (outP us (0, 1)).2) ↔ alike ps us := by
    unfold alike
    constructor
    · rintro ⟨a, b, c, d⟩
      exact ⟨Prod.ext a c, Prod.ext b d⟩
    · rintro ⟨a, b⟩
      rw [a, b]
      exact ⟨rfl, rfl, rfl, rfl⟩
  simp only [this]
open Classical in
theorem are_alike_ok (hp : ∀ p ∈ ps, okP p) (hl : ps.length ≤ 24) (hu : ∀ p ∈ us, okP p) (hm : us.length ≤ 24) : f_are_alike [row ps, row us] h = .ok (.bl (decide (alike ps us))) h := by
  unfold f_are_alike d_are_alike
  simp only [b_ok, b_ex, b_bad, o_ok, o_ex, o_bad, n_ok, s_seq, s_nx, s_rt, s_bk, s_ct, s_ex, e_var, e_c, e_bin, e_un, e_blt, e_if, e_and, e_or, e_chain, a_nil, a_cons, e_tup, e_lst, e_call, e_callK, e_met, e_sl, g_nx, g_expr, g_ret, g_retN, g_bk, g_ct, g_if, g_asg, g_par, g_raise, t_name, t_unp, t_nil, t_cons, t_sub, g_for, i_val, i_rng1, i_rng2, e_ref, f_rt, f_nx, f_ex, drop_id, g_aug, o_iadd, e_lc, w_nil, w_cons, e_yes, i_tup, i_rol, al, lim_eq, Nat.reduceLeDiff, Nat.reduceLT, x_t0, x_t1, x_t2, x_t3, l_tup, l_rol, u_tup, o_cmp, o_add, o_sub, o_neg, o_not, o_abs, o_int, o_max, o_min, q_int, q_nint, q_bl, q_nbl, q_str, q_nstr, fnD, List.map_cons, List.map_nil, List.length_cons, List.length_nil, List.replicate_succ, List.replicate_zero, List.cons_append, List.nil_append, List.append_nil, List.getElem?_cons_zero, List.getElem?_cons_succ, List.getElem?_nil, List.set_cons_zero, List.set_cons_succ, List.zip_cons_cons, List.zip_nil_left, List.foldl_cons, List.foldl_nil, Nat.reduceSub, Nat.reduceAdd, Nat.zero_add, Nat.add_zero, if_true, if_false, reduceIte, ite_true, ite_false, eq_self, and_true, true_and, and_self, decide_true, decide_false, is_int_int, is_int_bl, is_int_str, is_int_tup, is_int_rol, is_int_non, is_bool_int, is_bool_bl, is_bool_str, is_bool_tup, is_bool_rol, is_bool_non, is_tuple_int, is_tuple_bl, is_tuple_str, is_tuple_tup, is_tuple_rol, is_tuple_non, is_str_int, is_str_bl, is_str_str, is_str_tup, is_str_rol, is_str_non, is_list_int, is_list_bl, is_list_str, is_list_tup, is_list_rol, is_list_non, Bool.not_true, Bool.not_false, need_row_ok hp hl, need_row_ok hu hm, matrix_of_ok hp hl, matrix_of_ok hu hm, q_rmat]
open Classical in
/-- the first of two rays that comes out otherwise -/
noncomputable def unl (ps us : List (Kd × Rat)) : D := if outP ps (1, 0) = outP us (1, 0) then (if outP ps (0, 1) = outP us (0, 1) then .non else pr 0 1) else pr 1 0
theorem ne_prr {r s : Rat × Rat} {h : DH} : oNe (prr r) (prr s) h = .ok (.bl (!decide (r = s))) h := by
  rw [q_npair]
  have : (r.1 = s.1 ∧ r.2 = s.2) ↔ r = s := ⟨fun z => Prod.ext z.1 z.2, fun z => by rw [z]; exact ⟨rfl, rfl⟩⟩
  simp only [this]
theorem unlike_ok (hp : ∀ p ∈ ps, okP p) (hl : ps.length ≤ 24) (hu : ∀ p ∈ us, okP p) (hm : us.length ≤ 24) : f_unlike_ray [row ps, row us] h = .ok (unl ps us) h := by
  unfold f_unlike_ray d_unlike_ray
  have l1 := fun h => leaving_ok (r := (1, 0)) (h := h) hp hl good_one good_zero
  have l2 := fun h => leaving_ok (r := (0, 1)) (h := h) hp hl good_zero good_one
  have l3 := fun h => leaving_ok (r := (1, 0)) (h := h) hu hm good_one good_zero
  have l4 := fun h => leaving_ok (r := (0, 1)) (h := h) hu hm good_zero good_one
  unfold unl
  by_cases c1 : outP ps (1, 0) = outP us (1, 0)
  · by_cases c2 : outP ps (0, 1) = outP us (0, 1)
    · simp only [b_ok, b_ex, b_bad, o_ok, o_ex, o_bad, n_ok, s_seq, s_nx, s_rt, s_bk, s_ct, s_ex, e_var, e_c, e_bin, e_un, e_blt, e_if, e_and, e_or, e_chain, a_nil, a_cons, e_tup, e_lst, e_call, e_callK, e_met, e_sl, g_nx, g_expr, g_ret, g_retN, g_bk, g_ct, g_if, g_asg, g_par, g_raise, t_name, t_unp, t_nil, t_cons, t_sub, g_for, i_val, i_rng1, i_rng2, e_ref, f_rt, f_nx, f_ex, drop_id, g_aug, o_iadd, e_lc, w_nil, w_cons, e_yes, i_tup, i_rol, al, lim_eq, Nat.reduceLeDiff, Nat.reduceLT, x_t0, x_t1, x_t2, x_t3, l_tup, l_rol, u_tup, o_cmp, o_add, o_sub, o_neg, o_not, o_abs, o_int, o_max, o_min, q_int, q_nint, q_bl, q_nbl, q_str, q_nstr, fnD, List.map_cons, List.map_nil, List.length_cons, List.length_nil, List.replicate_succ, List.replicate_zero, List.cons_append, List.nil_append, List.append_nil, List.getElem?_cons_zero, List.getElem?_cons_succ, List.getElem?_nil, List.set_cons_zero, List.set_cons_succ, List.zip_cons_cons, List.zip_nil_left, List.foldl_cons, List.foldl_nil, Nat.reduceSub, Nat.reduceAdd, Nat.zero_add, Nat.add_zero, if_true, if_false, reduceIte, ite_true, ite_false, eq_self, and_true, true_and, and_self, decide_true, decide_false, is_int_int, is_int_bl, is_int_str, is_int_tup, is_int_rol, is_int_non, is_bool_int, is_bool_bl, is_bool_str, is_bool_tup, is_bool_rol, is_bool_non, is_tuple_int, is_tuple_bl, is_tuple_str, is_tuple_tup, is_tuple_rol, is_tuple_non, is_str_int, is_str_bl, is_str_str, is_str_tup, is_str_rol, is_str_non, is_list_int, is_list_bl, is_list_str, is_list_tup, is_list_rol, is_list_non, Bool.not_true, Bool.not_false, need_row_ok hp hl, need_row_ok hu hm, forA, one_fr, zero_fr, l1, l2, l3, l4, ne_prr, c1, c2]
    · simp only [b_ok, b_ex, b_bad, o_ok, o_ex, o_bad, n_ok, s_seq, s_nx, s_rt, s_bk, s_ct, s_ex, e_var, e_c, e_bin, e_un, e_blt, e_if, e_and, e_or, e_chain, a_nil, a_cons, e_tup, e_lst, e_call, e_callK, e_met, e_sl, g_nx, g_expr, g_ret, g_retN, g_bk, g_ct, g_if, g_asg, g_par, g_raise, t_name, t_unp, t_nil, t_cons, t_sub, g_for, i_val, i_rng1, i_rng2, e_ref, f_rt, f_nx, f_ex, drop_id, g_aug, o_iadd, e_lc, w_nil, w_cons, e_yes, i_tup, i_rol, al, lim_eq, Nat.reduceLeDiff, Nat.reduceLT, x_t0, x_t1, x_t2, x_t3, l_tup, l_rol, u_tup, o_cmp, o_add, o_sub, o_neg, o_not, o_abs, o_int, o_max, o_min, q_int, q_nint, q_bl, q_nbl, q_str, q_nstr, fnD, List.map_cons, List.map_nil, List.length_cons, List.length_nil, List.replicate_succ, List.replicate_zero, List.cons_append, List.nil_append, List.append_nil, List.getElem?_cons_zero, List.getElem?_cons_succ, List.getElem?_nil, List.set_cons_zero, List.set_cons_succ, List.zip_cons_cons, List.zip_nil_left, List.foldl_cons, List.foldl_nil, Nat.reduceSub, Nat.reduceAdd, Nat.zero_add, Nat.add_zero, if_true, if_false, reduceIte, ite_true, ite_false, eq_self, and_true, true_and, and_self, decide_true, decide_false, is_int_int, is_int_bl, is_int_str, is_int_tup, is_int_rol, is_int_non, is_bool_int, is_bool_bl, is_bool_str, is_bool_tup, is_bool_rol, is_bool_non, is_tuple_int, is_tuple_bl, is_tuple_str, is_tuple_tup, is_tuple_rol, is_tuple_non, is_str_int, is_str_bl, is_str_str, is_str_tup, is_str_rol, is_str_non, is_list_int, is_list_bl, is_list_str, is_list_tup, is_list_rol, is_list_non, Bool.not_true, Bool.not_false, need_row_ok hp hl, need_row_ok hu hm, forA, one_fr, zero_fr, l1, l2, l3, l4, ne_prr, c1, c2]
  · simp only [b_ok, b_ex, b_bad, o_ok, o_ex, o_bad, n_ok, s_seq, s_nx, s_rt, s_bk, s_ct, s_ex, e_var, e_c, e_bin, e_un, e_blt, e_if, e_and, e_or, e_chain, a_nil, a_cons, e_tup, e_lst, e_call, e_callK, e_met, e_sl, g_nx, g_expr, g_ret, g_retN, g_bk, g_ct, g_if, g_asg, g_par, g_raise, t_name, t_unp, t_nil, t_cons, t_sub, g_for, i_val, i_rng1, i_rng2, e_ref, f_rt, f_nx, f_ex, drop_id, g_aug, o_iadd, e_lc, w_nil, w_cons, e_yes, i_tup, i_rol, al, lim_eq, Nat.reduceLeDiff, Nat.reduceLT, x_t0, x_t1, x_t2, x_t3, l_tup, l_rol, u_tup, o_cmp, o_add, o_sub, o_neg, o_not, o_abs, o_int, o_max, o_min, q_int, q_nint, q_bl, q_nbl, q_str, q_nstr, fnD, List.map_cons, List.map_nil, List.length_cons, List.length_nil, List.replicate_succ, List.replicate_zero, List.cons_append, List.nil_append, List.append_nil, List.getElem?_cons_zero, List.getElem?_cons_succ, List.getElem?_nil, List.set_cons_zero, List.set_cons_succ, List.zip_cons_cons, List.zip_nil_left, List.foldl_cons, List.foldl_nil, Nat.reduceSub, Nat.reduceAdd, Nat.zero_add, Nat.add_zero, if_true, if_false, reduceIte, ite_true, ite_false, eq_self, and_true, true_and, and_self, decide_true, decide_false, is_int_int, is_int_bl, is_int_str, is_int_tup, is_int_rol, is_int_non, is_bool_int, is_bool_bl, is_bool_str, is_bool_tup, is_bool_rol, is_bool_non, is_tuple_int, is_tuple_bl, is_tuple_str, is_tuple_tup, is_tuple_rol, is_tuple_non, is_str_int, is_str_bl, is_str_str, is_str_tup, is_str_rol, is_str_non, is_list_int, is_list_bl, is_list_str, is_list_tup, is_list_rol, is_list_non, Bool.not_true, Bool.not_false, need_row_ok hp hl, need_row_ok hu hm, forA, one_fr, zero_fr, l1, l2, l3, l4, ne_prr, c1]
theorem inverse_ok {a b c d : Rat} (ha : good a) (hb : good b) (hc : good c) (hd : good d) (det : a * d - b * c = 1) : f_inverse [mat a b c d] h = .ok (mat d (-b) (-c) a) h := by
  unfold f_inverse d_inverse
  simp only [b_ok, b_ex, b_bad, o_ok, o_ex, o_bad, n_ok, s_seq, s_nx, s_rt, s_bk, s_ct, s_ex, e_var, e_c, e_bin, e_un, e_blt, e_if, e_and, e_or, e_chain, a_nil, a_cons, e_tup, e_lst, e_call, e_callK, e_met, e_sl, g_nx, g_expr, g_ret, g_retN, g_bk, g_ct, g_if, g_asg, g_par, g_raise, t_name, t_unp, t_nil, t_cons, t_sub, g_for, i_val, i_rng1, i_rng2, e_ref, f_rt, f_nx, f_ex, drop_id, g_aug, o_iadd, e_lc, w_nil, w_cons, e_yes, i_tup, i_rol, al, lim_eq, Nat.reduceLeDiff, Nat.reduceLT, x_t0, x_t1, x_t2, x_t3, l_tup, l_rol, u_tup, o_cmp, o_add, o_sub, o_neg, o_not, o_abs, o_int, o_max, o_min, q_int, q_nint, q_bl, q_nbl, q_str, q_nstr, fnD, List.map_cons, List.map_nil, List.length_cons, List.length_nil, List.replicate_succ, List.replicate_zero, List.cons_append, List.nil_append, List.append_nil, List.getElem?_cons_zero, List.getElem?_cons_succ, List.getElem?_nil, List.set_cons_zero, List.set_cons_succ, List.zip_cons_cons, List.zip_nil_left, List.foldl_cons, List.foldl_nil, Nat.reduceSub, Nat.reduceAdd, Nat.zero_add, Nat.add_zero, if_true, if_false, reduceIte, ite_true, ite_false, eq_self, and_true, true_and, and_self, decide_true, decide_false, is_int_int, is_int_bl, is_int_str, is_int_tup, is_int_rol, is_int_non, is_bool_int, is_bool_bl, is_bool_str, is_bool_tup, is_bool_rol, is_bool_non, is_tuple_int, is_tuple_bl, is_tuple_str, is_tuple_tup, is_tuple_rol, is_tuple_non, is_str_int, is_str_bl, is_str_str, is_str_tup, is_str_rol, is_str_non, is_list_int, is_list_bl, is_list_str, is_list_tup, is_list_rol, is_list_non, Bool.not_true, Bool.not_false, need_matrix_ok ha hb hc hd det (show ("m" : Str).length ≤ 1000 by decide), inverse_of_ok]
theorem behind_both_ok {a b c d e f g i : Rat} (ha : good a) (hb : good b) (hc : good c) (hd : good d) (det : a * d - b * c = 1) (he : good e) (hf : good f) (hg : good g) (hi : good i) (det2 : e * i - f * g = 1) : f_behind_both [mat a b c d, mat e f g i] h = .ok (mat (e * a + f * c) (e * b + f * d) (g * a + i * c) (g * b + i * d)) h := by
  unfold f_behind_both d_behind_both
  simp only [b_ok, b_ex, b_bad, o_ok, o_ex, o_bad, n_ok, s_seq, s_nx, s_rt, s_bk, s_ct, s_ex, e_var, e_c, e_bin, e_un, e_blt, e_if, e_and, e_or, e_chain, a_nil, a_cons, e_tup, e_lst, e_call, e_callK, e_met, e_sl, g_nx, g_expr, g_ret, g_retN, g_bk, g_ct, g_if, g_asg, g_par, g_raise, t_name, t_unp, t_nil, t_cons, t_sub, g_for, i_val, i_rng1, i_rng2, e_ref, f_rt, f_nx, f_ex, drop_id, g_aug, o_iadd, e_lc, w_nil, w_cons, e_yes, i_tup, i_rol, al, lim_eq, Nat.reduceLeDiff, Nat.reduceLT, x_t0, x_t1, x_t2, x_t3, l_tup, l_rol, u_tup, o_cmp, o_add, o_sub, o_neg, o_not, o_abs, o_int, o_max, o_min, q_int, q_nint, q_bl, q_nbl, q_str, q_nstr, fnD, List.map_cons, List.map_nil, List.length_cons, List.length_nil, List.replicate_succ, List.replicate_zero, List.cons_append, List.nil_append, List.append_nil, List.getElem?_cons_zero, List.getElem?_cons_succ, List.getElem?_nil, List.set_cons_zero, List.set_cons_succ, List.zip_cons_cons, List.zip_nil_left, List.foldl_cons, List.foldl_nil, Nat.reduceSub, Nat.reduceAdd, Nat.zero_add, Nat.add_zero, if_true, if_false, reduceIte, ite_true, ite_false, eq_self, and_true, true_and, and_self, decide_true, decide_false, is_int_int, is_int_bl, is_int_str, is_int_tup, is_int_rol, is_int_non, is_bool_int, is_bool_bl, is_bool_str, is_bool_tup, is_bool_rol, is_bool_non, is_tuple_int, is_tuple_bl, is_tuple_str, is_tuple_tup, is_tuple_rol, is_tuple_non, is_str_int, is_str_bl, is_str_str, is_str_tup, is_str_rol, is_str_non, is_list_int, is_list_bl, is_list_str, is_list_tup, is_list_rol, is_list_non, Bool.not_true, Bool.not_false, need_matrix_ok ha hb hc hd det (show ("m" : Str).length ≤ 1000 by decide), need_matrix_ok he hf hg hi det2 (show ("k" : Str).length ≤ 1000 by decide), worked_ok ha.sm hb.sm hc.sm hd.sm he.sm hf.sm hg.sm hi.sm (by omega)]
theorem sent_prog {a b c d p q : Rat} (ha : good a) (hb : good b) (hc : good c) (hd : good d) (det : a * d - b * c = 1) (hp : good p) (hq : good q) : f_sent [mat a b c d, pr p q] h = .ok (pr (a * p + b * q) (c * p + d * q)) h := by
  unfold f_sent d_sent
  have nr := fun h => need_ray_ok (r := (p, q)) (n := "ray") hp hq h
  simp only [b_ok, b_ex, b_bad, o_ok, o_ex, o_bad, n_ok, s_seq, s_nx, s_rt, s_bk, s_ct, s_ex, e_var, e_c, e_bin, e_un, e_blt, e_if, e_and, e_or, e_chain, a_nil, a_cons, e_tup, e_lst, e_call, e_callK, e_met, e_sl, g_nx, g_expr, g_ret, g_retN, g_bk, g_ct, g_if, g_asg, g_par, g_raise, t_name, t_unp, t_nil, t_cons, t_sub, g_for, i_val, i_rng1, i_rng2, e_ref, f_rt, f_nx, f_ex, drop_id, g_aug, o_iadd, e_lc, w_nil, w_cons, e_yes, i_tup, i_rol, al, lim_eq, Nat.reduceLeDiff, Nat.reduceLT, x_t0, x_t1, x_t2, x_t3, l_tup, l_rol, u_tup, o_cmp, o_add, o_sub, o_neg, o_not, o_abs, o_int, o_max, o_min, q_int, q_nint, q_bl, q_nbl, q_str, q_nstr, fnD, List.map_cons, List.map_nil, List.length_cons, List.length_nil, List.replicate_succ, List.replicate_zero, List.cons_append, List.nil_append, List.append_nil, List.getElem?_cons_zero, List.getElem?_cons_succ, List.getElem?_nil, List.set_cons_zero, List.set_cons_succ, List.zip_cons_cons, List.zip_nil_left, List.foldl_cons, List.foldl_nil, Nat.reduceSub, Nat.reduceAdd, Nat.zero_add, Nat.add_zero, if_true, if_false, reduceIte, ite_true, ite_false, eq_self, and_true, true_and, and_self, decide_true, decide_false, is_int_int, is_int_bl, is_int_str, is_int_tup, is_int_rol, is_int_non, is_bool_int, is_bool_bl, is_bool_str, is_bool_tup, is_bool_rol, is_bool_non, is_tuple_int, is_tuple_bl, is_tuple_str, is_tuple_tup, is_tuple_rol, is_tuple_non, is_str_int, is_str_bl, is_str_str, is_str_tup, is_str_rol, is_str_non, is_list_int, is_list_bl, is_list_str, is_list_tup, is_list_rol, is_list_non, Bool.not_true, Bool.not_false, need_matrix_ok ha hb hc hd det (show ("m" : Str).length ≤ 1000 by decide), nr, sent_by_ok ha.sm hb.sm hc.sm hd.sm hp.sm hq.sm (by omega)]
end
/-! ### a row near another one -/
theorem okP_take {ps : List (Kd × Rat)} (hp : ∀ p ∈ ps, okP p) (i : Nat) : ∀ p ∈ ps.take i, okP p := fun p h => hp p (List.mem_of_mem_take h)
theorem okP_drop {ps : List (Kd × Rat)} (hp : ∀ p ∈ ps, okP p) (i : Nat) : ∀ p ∈ ps.drop i, okP p := fun p h => hp p (List.mem_of_mem_drop h)
theorem okP_app {ps us : List (Kd × Rat)} (hp : ∀ p ∈ ps, okP p) (hu : ∀ p ∈ us, okP p) : ∀ p ∈ ps ++ us, okP p := fun p h => by
  rcases List.mem_append.mp h with h | h
  · exact hp p h
  · exact hu p h
theorem cut_take {ps : List (Kd × Rat)} {i : Int} {h : DH} (h0 : 0 ≤ i) (h1 : i ≤ ps.length) : oSl (row ps) none (some i) h = .ok (row (ps.take i.toNat)) h := by
  have e : cutL (ps.map prt) none (some i) = (ps.take i.toNat).map prt := by
    have s1 : HT.sIx (ps.map prt).length 0 none = 0 := rfl
    have s2 : HT.sIx (ps.map prt).length (ps.map prt).length (some i) = i.toNat := by
      show (if i < 0 then (i + ((ps.map prt).length : Int)).toNat else min i.toNat (ps.map prt).length) = _
      rw [if_neg (by omega), List.length_map]
      omega
    unfold cutL
    rw [s1, s2, List.map_take]
    simp
  show Rs.ok (D.tup (cutL (ps.map prt) none (some i))) h = _
  rw [e]
theorem cut_drop {ps : List (Kd × Rat)} {i : Int} {h : DH} (h0 : 0 ≤ i) : oSl (row ps) (some i) none h = .ok (row (ps.drop i.toNat)) h := by
  have e : cutL (ps.map prt) (some i) none = (ps.drop i.toNat).map prt := by
    have s1 : HT.sIx (ps.map prt).length 0 (some i) = min i.toNat ps.length := by
      show (if i < 0 then (i + ((ps.map prt).length : Int)).toNat else min i.toNat (ps.map prt).length) = _
      rw [if_neg (by omega), List.length_map]
    have s2 : HT.sIx (ps.map prt).length (ps.map prt).length none = ps.length := by
      show (ps.map prt).length = _
      rw [List.length_map]
    unfold cutL
    rw [s1, s2, List.map_drop]
    by_cases c : i.toNat ≤ ps.length
    · rw [Nat.min_eq_left c, List.take_of_length_le]
      rw [List.length_drop, List.length_map]
      exact Nat.le_refl _
    · rw [Nat.min_eq_right (by omega), List.drop_eq_nil_of_le (by simp), List.drop_eq_nil_of_le (by simp; omega)]
      simp
  show Rs.ok (D.tup (cutL (ps.map prt) (some i) none)) h = _
  rw [e]
theorem add_row {ps us : List (Kd × Rat)} {h : DH} (hl : ps.length + us.length ≤ 1000) : oAdd (row ps) (row us) h = .ok (row (ps ++ us)) h := by
  rw [o_addt (by rw [List.length_map, List.length_map, lim_eq]; omega), ← List.map_append]
theorem back_row {ps : List (Kd × Rat)} {h : DH} : oBack (row ps) h = .ok (row ps.reverse) h := by
  show Rs.ok (D.tup (ps.map prt).reverse) h = Rs.ok (D.tup (ps.reverse.map prt)) h
  rw [List.map_reverse]
theorem p_none {ρ : En} {h : DH} : ePart none ρ h = .ok none h := rfl
theorem p_some {f : De} {ρ : En} {h : DH} : ePart (some f) ρ h = (f ρ h).bind fun d h1 => (match d with
  | .int i => .ok (some i) h1
  | _ => .bad) := rfl
theorem e_back {f : De} {ρ : En} {h : DH} : eBack f ρ h = (f ρ h).bind oBack := rfl
theorem law_near_ok {n k : Nat} {h : DH} {ps : List (Kd × Rat)} (d : DOK n k h) (hk : k + 500 ≤ 2 ^ 100) (hp : ∀ p ∈ ps, okP p) (hl : ps.length ≤ 10) : ∃ (us : List (Kd × Rat)) (h' : DH), f_law_near [.obj n, row ps] h = .ok (row us) h' ∧ (∀ p ∈ us, okP p) ∧ us.length ≤ 12 ∧ DOK n (k + 160) h' ∧ Fr n h h' := by
  have ln := d.lt
  unfold f_law_near d_law_near
  obtain ⟨t, h1, e1, t0, t1, d1, f1⟩ := roll_ok d (by omega) (m := 3) (by omega) (by decide)
  by_cases z : t = 0
  · obtain ⟨us, h2, e2, hu, hm, d2, f2⟩ := law_row_ok (m := 6) d1 (by omega) (by omega)
    obtain ⟨h', e', f', d'⟩ := ret_dice (d := row us) (f1.trans f2).grow d2 ln (by simp only [D.bel]; exact bel_prts _ us)
    rw [f_rt] at e'
    refine ⟨us, h', ?_, hu, by omega, d'.mono (by omega), f'⟩
    simp only [b_ok, b_ex, b_bad, o_ok, o_ex, o_bad, n_ok, s_seq, s_nx, s_rt, s_bk, s_ct, s_ex, e_var, e_c, e_bin, e_un, e_blt, e_if, e_and, e_or, e_chain, a_nil, a_cons, e_tup, e_lst, e_call, e_callK, e_met, e_sl, g_nx, g_expr, g_ret, g_retN, g_bk, g_ct, g_if, g_asg, g_par, g_raise, t_name, t_unp, t_nil, t_cons, t_sub, g_for, i_val, i_rng1, i_rng2, e_ref, f_rt, f_nx, f_ex, drop_id, g_aug, o_iadd, e_lc, w_nil, w_cons, e_yes, i_tup, i_rol, al, lim_eq, Nat.reduceLeDiff, Nat.reduceLT, x_t0, x_t1, x_t2, x_t3, l_tup, l_rol, u_tup, o_cmp, o_add, o_sub, o_neg, o_not, o_abs, o_int, o_max, o_min, q_int, q_nint, q_bl, q_nbl, q_str, q_nstr, fnD, List.map_cons, List.map_nil, List.length_cons, List.length_nil, List.replicate_succ, List.replicate_zero, List.cons_append, List.nil_append, List.append_nil, List.getElem?_cons_zero, List.getElem?_cons_succ, List.getElem?_nil, List.set_cons_zero, List.set_cons_succ, List.zip_cons_cons, List.zip_nil_left, List.foldl_cons, List.foldl_nil, Nat.reduceSub, Nat.reduceAdd, Nat.zero_add, Nat.add_zero, if_true, if_false, reduceIte, ite_true, ite_false, eq_self, and_true, true_and, and_self, decide_true, decide_false, is_int_int, is_int_bl, is_int_str, is_int_tup, is_int_rol, is_int_non, is_bool_int, is_bool_bl, is_bool_str, is_bool_tup, is_bool_rol, is_bool_non, is_tuple_int, is_tuple_bl, is_tuple_str, is_tuple_tup, is_tuple_rol, is_tuple_non, is_str_int, is_str_bl, is_str_str, is_str_tup, is_str_rol, is_str_non, is_list_int, is_list_bl, is_list_str, is_list_tup, is_list_rol, is_list_non, Bool.not_true, Bool.not_false, e1, z, show ((6 : Int)) = ((6 : Nat) : Int) from rfl, e2]
    exact e'
  · obtain ⟨i, h2, e2, i0, i1, d2, f2⟩ := roll_ok d1 (by omega) (m := (ps.length : Int) + 1) (by omega) (by
      rw [show ((ps.length : Int) + 1).natAbs = ps.length + 1 by omega]
      exact Nat.lt_of_lt_of_le (log_lt (n := 5) (by omega) (by omega)) (by omega))
    obtain ⟨q, h3, e3, gq, d3, f3⟩ := num_ok d2 (by omega)
    obtain ⟨w, ew, w0, gw, _⟩ := abs_num q
    have gw := gw gq
    have gnw : good (-w) := ⟨by rw [Rat.neg_num, Int.natAbs_neg]; exact gw.1, by rw [Rat.neg_den]; exact gw.2⟩
    have lens1 : row [(.lens, w), (.lens, -w)] = .tup [.tup [.str "lens", fr w], .tup [.str "lens", fr (-w)]] := rfl
    have stop1 : row [(.stop, 1)] = .tup [.tup [.str "stop", fr 1]] := rfl
    have gap1 : row [(.gap, 0)] = .tup [.tup [.str "gap", fr 0]] := rfl
    have gap2 : row [(.gap, w)] = .tup [.tup [.str "gap", fr w]] := rfl
    have ok1 : ∀ p ∈ [(Kd.lens, w), (Kd.lens, -w)], okP p := by
      intro p hp
      simp only [List.mem_cons, List.not_mem_nil, or_false] at hp
      rcases hp with rfl | rfl
      · exact ⟨gw, (fun z => by cases z), (fun z => by cases z)⟩
      · exact ⟨gnw, (fun z => by cases z), (fun z => by cases z)⟩
    have ok2 : ∀ p ∈ [(Kd.stop, (1 : Rat))], okP p := by
      intro p hp
      rw [List.mem_singleton.mp hp]
      exact ⟨good_one, (fun z => by cases z), (fun _ => by decide)⟩
    have ok3 : ∀ p ∈ [(Kd.gap, (0 : Rat))], okP p := by
      intro p hp
      rw [List.mem_singleton.mp hp]
      exact ⟨good_zero, (fun _ => by decide), (fun z => by cases z)⟩
    have ok4 : ∀ p ∈ [(Kd.gap, w)], okP p := by
      intro p hp
      rw [List.mem_singleton.mp hp]
      exact ⟨gw, (fun _ => w0), (fun z => by cases z)⟩
    have lt : (ps.take i.toNat).length = i.toNat := by rw [List.length_take]; omega
    have ld : (ps.drop i.toNat).length = ps.length - i.toNat := by rw [List.length_drop]
    have ld2 : (ps.drop (i + 1).toNat).length ≤ ps.length - i.toNat := by rw [List.length_drop]; omega
    obtain ⟨x, h4, ⟨us, rfl, hu, hm⟩, e4, d4, g4, _⟩ := pick_new (T := [row ps, row (ps.take i.toNat ++ [(.lens, w), (.lens, -w)] ++ ps.drop i.toNat), row (ps.take i.toNat ++ [(.stop, 1)] ++ ps.drop i.toNat), row (ps.take i.toNat ++ ps.drop (i + 1).toNat), row (ps.take i.toNat ++ [(.gap, 0)] ++ ps.drop i.toNat), row (ps.take i.toNat ++ [(.gap, w)] ++ ps.drop i.toNat), row ps.reverse]) (P := fun x => ∃ us, x = row us ∧ (∀ p ∈ us, okP p) ∧ us.length ≤ 12) d3 (by omega) (by
      intro x hx
      simp only [List.mem_cons, List.not_mem_nil, or_false] at hx
      rcases hx with rfl | rfl | rfl | rfl | rfl | rfl | rfl
      · exact ⟨_, rfl, hp, by omega⟩
      · exact ⟨_, rfl, okP_app (okP_app (okP_take hp _) ok1) (okP_drop hp _), by simp only [List.length_append, lt, ld, List.length_cons, List.length_nil]; omega⟩
      · exact ⟨_, rfl, okP_app (okP_app (okP_take hp _) ok2) (okP_drop hp _), by simp only [List.length_append, lt, ld, List.length_cons, List.length_nil]; omega⟩
      · exact ⟨_, rfl, okP_app (okP_take hp _) (okP_drop hp _), by simp only [List.length_append, lt]; omega⟩
      · exact ⟨_, rfl, okP_app (okP_app (okP_take hp _) ok3) (okP_drop hp _), by simp only [List.length_append, lt, ld, List.length_cons, List.length_nil]; omega⟩
      · exact ⟨_, rfl, okP_app (okP_app (okP_take hp _) ok4) (okP_drop hp _), by simp only [List.length_append, lt, ld, List.length_cons, List.length_nil]; omega⟩
      · exact ⟨_, rfl, (fun p h => hp p (List.mem_reverse.mp h)), by rw [List.length_reverse]; omega⟩) (by simp) (by simp)
    have g5 : Grow n h h4 := (f1.trans (f2.trans f3)).grow.trans g4
    obtain ⟨h', e', f', d'⟩ := ret_dice (d := row us) g5 d4 ln (by simp only [D.bel]; exact bel_prts _ us)
    rw [f_rt] at e'
    refine ⟨us, h', ?_, hu, hm, d'.mono (by omega), f'⟩
    have a1 : oAdd (row (ps.take i.toNat)) (.tup [.tup [.str "lens", fr w], .tup [.str "lens", fr (-w)]]) h3 = .ok (row (ps.take i.toNat ++ [(.lens, w), (.lens, -w)])) h3 := by
      rw [← lens1]
      exact add_row (by simp only [lt, List.length_cons, List.length_nil]; omega)
    have a2 : oAdd (row (ps.take i.toNat)) (.tup [.tup [.str "stop", fr 1]]) h3 = .ok (row (ps.take i.toNat ++ [(.stop, 1)])) h3 := by
      rw [← stop1]
      exact add_row (by simp only [lt, List.length_cons, List.length_nil]; omega)
    have a3 : oAdd (row (ps.take i.toNat)) (.tup [.tup [.str "gap", fr 0]]) h3 = .ok (row (ps.take i.toNat ++ [(.gap, 0)])) h3 := by
      rw [← gap1]
      exact add_row (by simp only [lt, List.length_cons, List.length_nil]; omega)
    have a4 : oAdd (row (ps.take i.toNat)) (.tup [.tup [.str "gap", fr w]]) h3 = .ok (row (ps.take i.toNat ++ [(.gap, w)])) h3 := by
      rw [← gap2]
      exact add_row (by simp only [lt, List.length_cons, List.length_nil]; omega)
    have b1 : oAdd (row (ps.take i.toNat ++ [(.lens, w), (.lens, -w)])) (row (ps.drop i.toNat)) h3 = .ok (row (ps.take i.toNat ++ [(.lens, w), (.lens, -w)] ++ ps.drop i.toNat)) h3 := add_row (by simp only [List.length_append, lt, ld, List.length_cons, List.length_nil]; omega)
    have b2 : oAdd (row (ps.take i.toNat ++ [(.stop, 1)])) (row (ps.drop i.toNat)) h3 = .ok (row (ps.take i.toNat ++ [(.stop, 1)] ++ ps.drop i.toNat)) h3 := add_row (by simp only [List.length_append, lt, ld, List.length_cons, List.length_nil]; omega)
    have b3 : oAdd (row (ps.take i.toNat ++ [(.gap, 0)])) (row (ps.drop i.toNat)) h3 = .ok (row (ps.take i.toNat ++ [(.gap, 0)] ++ ps.drop i.toNat)) h3 := add_row (by simp only [List.length_append, lt, ld, List.length_cons, List.length_nil]; omega)
    have b4 : oAdd (row (ps.take i.toNat ++ [(.gap, w)])) (row (ps.drop i.toNat)) h3 = .ok (row (ps.take i.toNat ++ [(.gap, w)] ++ ps.drop i.toNat)) h3 := add_row (by simp only [List.length_append, lt, ld, List.length_cons, List.length_nil]; omega)
    have b5 : oAdd (row (ps.take i.toNat)) (row (ps.drop (i + 1).toNat)) h3 = .ok (row (ps.take i.toNat ++ ps.drop (i + 1).toNat)) h3 := add_row (by omega)
    have ct := cut_take (ps := ps) (h := h3) i0 (by omega)
    have cd' := cut_drop (ps := ps) (h := h3) i0
    have cd1 := cut_drop (ps := ps) (h := h3) (i := i + 1) (by omega)
    simp only [b_ok, b_ex, b_bad, o_ok, o_ex, o_bad, n_ok, s_seq, s_nx, s_rt, s_bk, s_ct, s_ex, e_var, e_c, e_bin, e_un, e_blt, e_if, e_and, e_or, e_chain, a_nil, a_cons, e_tup, e_lst, e_call, e_callK, e_met, e_sl, g_nx, g_expr, g_ret, g_retN, g_bk, g_ct, g_if, g_asg, g_par, g_raise, t_name, t_unp, t_nil, t_cons, t_sub, g_for, i_val, i_rng1, i_rng2, e_ref, f_rt, f_nx, f_ex, drop_id, g_aug, o_iadd, e_lc, w_nil, w_cons, e_yes, i_tup, i_rol, al, lim_eq, Nat.reduceLeDiff, Nat.reduceLT, x_t0, x_t1, x_t2, x_t3, l_tup, l_rol, u_tup, o_cmp, o_add, o_sub, o_neg, o_not, o_abs, o_int, o_max, o_min, q_int, q_nint, q_bl, q_nbl, q_str, q_nstr, fnD, List.map_cons, List.map_nil, List.length_cons, List.length_nil, List.replicate_succ, List.replicate_zero, List.cons_append, List.nil_append, List.append_nil, List.getElem?_cons_zero, List.getElem?_cons_succ, List.getElem?_nil, List.set_cons_zero, List.set_cons_succ, List.zip_cons_cons, List.zip_nil_left, List.foldl_cons, List.foldl_nil, Nat.reduceSub, Nat.reduceAdd, Nat.zero_add, Nat.add_zero, if_true, if_false, reduceIte, ite_true, ite_false, eq_self, and_true, true_and, and_self, decide_true, decide_false, is_int_int, is_int_bl, is_int_str, is_int_tup, is_int_rol, is_int_non, is_bool_int, is_bool_bl, is_bool_str, is_bool_tup, is_bool_rol, is_bool_non, is_tuple_int, is_tuple_bl, is_tuple_str, is_tuple_tup, is_tuple_rol, is_tuple_non, is_str_int, is_str_bl, is_str_str, is_str_tup, is_str_rol, is_str_non, is_list_int, is_list_bl, is_list_str, is_list_tup, is_list_rol, is_list_non, Bool.not_true, Bool.not_false, List.length_map, e1, z, e2, e3, x_fr0, x_fr1, ew, law_neg_ok, p_none, p_some, ct, cd', cd1, fr0, fr1, a1, a2, a3, a4, b1, b2, b3, b4, b5, e_back, back_row, e4]
    exact e'
end Law
namespace Law
open PySem L2 DL
theorem eqv_self {x : D} (hx : pl 19 x = true) : PyData.eqv (toP x) (toP x) = true := by
  obtain ⟨a, b, c⟩ := pyOf_pl [] 19 x hx
  exact SeqAt.eqv_refl _ b
theorem q_nself {x : D} {h : DH} (hx : pl 19 x = true) : oNe x x h = .ok (.bl false) h := by rw [q_npl hx hx, eqv_self hx]; rfl
theorem pl_unl (ps us : List (Kd × Rat)) : pl 19 (unl ps us) = true := by
  unfold unl
  split
  · split
    · rfl
    · exact pl_pair 17 _ _
  · exact pl_pair 17 _ _
open Classical in
theorem is_unl {ps us : List (Kd × Rat)} {h : DH} : oIs (unl ps us) .non h = .ok (.bl (decide (alike ps us))) h := by
  unfold unl alike
  by_cases c1 : outP ps (1, 0) = outP us (1, 0)
  · by_cases c2 : outP ps (0, 1) = outP us (0, 1)
    · simp only [c1, c2, if_true, and_self, decide_true]
      rfl
    · simp only [c1, c2, if_true, if_false, and_false, decide_false]
      rfl
  · simp only [c1, if_false, false_and, decide_false]
    rfl
theorem alike_symm {ps us : List (Kd × Rat)} : alike us ps = alike ps us := by
  unfold alike
  exact propext ⟨fun z => ⟨z.1.symm, z.2.symm⟩, fun z => ⟨z.1.symm, z.2.symm⟩⟩
section
variable {x y : D} {g : DH} {ps : List (Kd × Rat)} {a b c d : Rat}
theorem inverse_bad (e : f_need_matrix [x, .str "m"] g = .ex 0 (.str "m") g) : f_inverse [x] g = .ex 0 (.str "m") g := by
  unfold f_inverse d_inverse
  simp only [b_ok, b_ex, b_bad, o_ok, o_ex, o_bad, n_ok, s_seq, s_nx, s_rt, s_bk, s_ct, s_ex, e_var, e_c, e_bin, e_un, e_blt, e_if, e_and, e_or, e_chain, a_nil, a_cons, e_tup, e_lst, e_call, e_callK, e_met, e_sl, g_nx, g_expr, g_ret, g_retN, g_bk, g_ct, g_if, g_asg, g_par, g_raise, t_name, t_unp, t_nil, t_cons, t_sub, g_for, i_val, i_rng1, i_rng2, e_ref, f_rt, f_nx, f_ex, drop_id, g_aug, o_iadd, e_lc, w_nil, w_cons, e_yes, i_tup, i_rol, al, lim_eq, Nat.reduceLeDiff, Nat.reduceLT, x_t0, x_t1, x_t2, x_t3, l_tup, l_rol, u_tup, o_cmp, o_add, o_sub, o_neg, o_not, o_abs, o_int, o_max, o_min, q_int, q_nint, q_bl, q_nbl, q_str, q_nstr, fnD, List.map_cons, List.map_nil, List.length_cons, List.length_nil, List.replicate_succ, List.replicate_zero, List.cons_append, List.nil_append, List.append_nil, List.getElem?_cons_zero, List.getElem?_cons_succ, List.getElem?_nil, List.set_cons_zero, List.set_cons_succ, List.zip_cons_cons, List.zip_nil_left, List.foldl_cons, List.foldl_nil, Nat.reduceSub, Nat.reduceAdd, Nat.zero_add, Nat.add_zero, if_true, if_false, reduceIte, ite_true, ite_false, eq_self, and_true, true_and, and_self, decide_true, decide_false, is_int_int, is_int_bl, is_int_str, is_int_tup, is_int_rol, is_int_non, is_bool_int, is_bool_bl, is_bool_str, is_bool_tup, is_bool_rol, is_bool_non, is_tuple_int, is_tuple_bl, is_tuple_str, is_tuple_tup, is_tuple_rol, is_tuple_non, is_str_int, is_str_bl, is_str_str, is_str_tup, is_str_rol, is_str_non, is_list_int, is_list_bl, is_list_str, is_list_tup, is_list_rol, is_list_non, Bool.not_true, Bool.not_false, e]
theorem behind_bad1 (e : f_need_matrix [x, .str "m"] g = .ex 0 (.str "m") g) : f_behind_both [x, y] g = .ex 0 (.str "m") g := by
  unfold f_behind_both d_behind_both
  simp only [b_ok, b_ex, b_bad, o_ok, o_ex, o_bad, n_ok, s_seq, s_nx, s_rt, s_bk, s_ct, s_ex, e_var, e_c, e_bin, e_un, e_blt, e_if, e_and, e_or, e_chain, a_nil, a_cons, e_tup, e_lst, e_call, e_callK, e_met, e_sl, g_nx, g_expr, g_ret, g_retN, g_bk, g_ct, g_if, g_asg, g_par, g_raise, t_name, t_unp, t_nil, t_cons, t_sub, g_for, i_val, i_rng1, i_rng2, e_ref, f_rt, f_nx, f_ex, drop_id, g_aug, o_iadd, e_lc, w_nil, w_cons, e_yes, i_tup, i_rol, al, lim_eq, Nat.reduceLeDiff, Nat.reduceLT, x_t0, x_t1, x_t2, x_t3, l_tup, l_rol, u_tup, o_cmp, o_add, o_sub, o_neg, o_not, o_abs, o_int, o_max, o_min, q_int, q_nint, q_bl, q_nbl, q_str, q_nstr, fnD, List.map_cons, List.map_nil, List.length_cons, List.length_nil, List.replicate_succ, List.replicate_zero, List.cons_append, List.nil_append, List.append_nil, List.getElem?_cons_zero, List.getElem?_cons_succ, List.getElem?_nil, List.set_cons_zero, List.set_cons_succ, List.zip_cons_cons, List.zip_nil_left, List.foldl_cons, List.foldl_nil, Nat.reduceSub, Nat.reduceAdd, Nat.zero_add, Nat.add_zero, if_true, if_false, reduceIte, ite_true, ite_false, eq_self, and_true, true_and, and_self, decide_true, decide_false, is_int_int, is_int_bl, is_int_str, is_int_tup, is_int_rol, is_int_non, is_bool_int, is_bool_bl, is_bool_str, is_bool_tup, is_bool_rol, is_bool_non, is_tuple_int, is_tuple_bl, is_tuple_str, is_tuple_tup, is_tuple_rol, is_tuple_non, is_str_int, is_str_bl, is_str_str, is_str_tup, is_str_rol, is_str_non, is_list_int, is_list_bl, is_list_str, is_list_tup, is_list_rol, is_list_non, Bool.not_true, Bool.not_false, e]
theorem behind_bad2 (ha : good a) (hb : good b) (hc : good c) (hd : good d) (det : a * d - b * c = 1) (e : f_need_matrix [x, .str "k"] g = .ex 0 (.str "k") g) : f_behind_both [mat a b c d, x] g = .ex 0 (.str "k") g := by
  unfold f_behind_both d_behind_both
  simp only [b_ok, b_ex, b_bad, o_ok, o_ex, o_bad, n_ok, s_seq, s_nx, s_rt, s_bk, s_ct, s_ex, e_var, e_c, e_bin, e_un, e_blt, e_if, e_and, e_or, e_chain, a_nil, a_cons, e_tup, e_lst, e_call, e_callK, e_met, e_sl, g_nx, g_expr, g_ret, g_retN, g_bk, g_ct, g_if, g_asg, g_par, g_raise, t_name, t_unp, t_nil, t_cons, t_sub, g_for, i_val, i_rng1, i_rng2, e_ref, f_rt, f_nx, f_ex, drop_id, g_aug, o_iadd, e_lc, w_nil, w_cons, e_yes, i_tup, i_rol, al, lim_eq, Nat.reduceLeDiff, Nat.reduceLT, x_t0, x_t1, x_t2, x_t3, l_tup, l_rol, u_tup, o_cmp, o_add, o_sub, o_neg, o_not, o_abs, o_int, o_max, o_min, q_int, q_nint, q_bl, q_nbl, q_str, q_nstr, fnD, List.map_cons, List.map_nil, List.length_cons, List.length_nil, List.replicate_succ, List.replicate_zero, List.cons_append, List.nil_append, List.append_nil, List.getElem?_cons_zero, List.getElem?_cons_succ, List.getElem?_nil, List.set_cons_zero, List.set_cons_succ, List.zip_cons_cons, List.zip_nil_left, List.foldl_cons, List.foldl_nil, Nat.reduceSub, Nat.reduceAdd, Nat.zero_add, Nat.add_zero, if_true, if_false, reduceIte, ite_true, ite_false, eq_self, and_true, true_and, and_self, decide_true, decide_false, is_int_int, is_int_bl, is_int_str, is_int_tup, is_int_rol, is_int_non, is_bool_int, is_bool_bl, is_bool_str, is_bool_tup, is_bool_rol, is_bool_non, is_tuple_int, is_tuple_bl, is_tuple_str, is_tuple_tup, is_tuple_rol, is_tuple_non, is_str_int, is_str_bl, is_str_str, is_str_tup, is_str_rol, is_str_non, is_list_int, is_list_bl, is_list_str, is_list_tup, is_list_rol, is_list_non, Bool.not_true, Bool.not_false, need_matrix_ok ha hb hc hd det (show ("m" : Str).length ≤ 1000 by decide), e]
theorem sent_bad1 (e : f_need_matrix [x, .str "m"] g = .ex 0 (.str "m") g) : f_sent [x, y] g = .ex 0 (.str "m") g := by
  unfold f_sent d_sent
  simp only [b_ok, b_ex, b_bad, o_ok, o_ex, o_bad, n_ok, s_seq, s_nx, s_rt, s_bk, s_ct, s_ex, e_var, e_c, e_bin, e_un, e_blt, e_if, e_and, e_or, e_chain, a_nil, a_cons, e_tup, e_lst, e_call, e_callK, e_met, e_sl, g_nx, g_expr, g_ret, g_retN, g_bk, g_ct, g_if, g_asg, g_par, g_raise, t_name, t_unp, t_nil, t_cons, t_sub, g_for, i_val, i_rng1, i_rng2, e_ref, f_rt, f_nx, f_ex, drop_id, g_aug, o_iadd, e_lc, w_nil, w_cons, e_yes, i_tup, i_rol, al, lim_eq, Nat.reduceLeDiff, Nat.reduceLT, x_t0, x_t1, x_t2, x_t3, l_tup, l_rol, u_tup, o_cmp, o_add, o_sub, o_neg, o_not, o_abs, o_int, o_max, o_min, q_int, q_nint, q_bl, q_nbl, q_str, q_nstr, fnD, List.map_cons, List.map_nil, List.length_cons, List.length_nil, List.replicate_succ, List.replicate_zero, List.cons_append, List.nil_append, List.append_nil, List.getElem?_cons_zero, List.getElem?_cons_succ, List.getElem?_nil, List.set_cons_zero, List.set_cons_succ, List.zip_cons_cons, List.zip_nil_left, List.foldl_cons, List.foldl_nil, Nat.reduceSub, Nat.reduceAdd, Nat.zero_add, Nat.add_zero, if_true, if_false, reduceIte, ite_true, ite_false, eq_self, and_true, true_and, and_self, decide_true, decide_false, is_int_int, is_int_bl, is_int_str, is_int_tup, is_int_rol, is_int_non, is_bool_int, is_bool_bl, is_bool_str, is_bool_tup, is_bool_rol, is_bool_non, is_tuple_int, is_tuple_bl, is_tuple_str, is_tuple_tup, is_tuple_rol, is_tuple_non, is_str_int, is_str_bl, is_str_str, is_str_tup, is_str_rol, is_str_non, is_list_int, is_list_bl, is_list_str, is_list_tup, is_list_rol, is_list_non, Bool.not_true, Bool.not_false, e]
theorem sent_bad2 (ha : good a) (hb : good b) (hc : good c) (hd : good d) (det : a * d - b * c = 1) : f_sent [mat a b c d, .non] g = .ex 0 (.str "ray") g := by
  unfold f_sent d_sent
  simp only [b_ok, b_ex, b_bad, o_ok, o_ex, o_bad, n_ok, s_seq, s_nx, s_rt, s_bk, s_ct, s_ex, e_var, e_c, e_bin, e_un, e_blt, e_if, e_and, e_or, e_chain, a_nil, a_cons, e_tup, e_lst, e_call, e_callK, e_met, e_sl, g_nx, g_expr, g_ret, g_retN, g_bk, g_ct, g_if, g_asg, g_par, g_raise, t_name, t_unp, t_nil, t_cons, t_sub, g_for, i_val, i_rng1, i_rng2, e_ref, f_rt, f_nx, f_ex, drop_id, g_aug, o_iadd, e_lc, w_nil, w_cons, e_yes, i_tup, i_rol, al, lim_eq, Nat.reduceLeDiff, Nat.reduceLT, x_t0, x_t1, x_t2, x_t3, l_tup, l_rol, u_tup, o_cmp, o_add, o_sub, o_neg, o_not, o_abs, o_int, o_max, o_min, q_int, q_nint, q_bl, q_nbl, q_str, q_nstr, fnD, List.map_cons, List.map_nil, List.length_cons, List.length_nil, List.replicate_succ, List.replicate_zero, List.cons_append, List.nil_append, List.append_nil, List.getElem?_cons_zero, List.getElem?_cons_succ, List.getElem?_nil, List.set_cons_zero, List.set_cons_succ, List.zip_cons_cons, List.zip_nil_left, List.foldl_cons, List.foldl_nil, Nat.reduceSub, Nat.reduceAdd, Nat.zero_add, Nat.add_zero, if_true, if_false, reduceIte, ite_true, ite_false, eq_self, and_true, true_and, and_self, decide_true, decide_false, is_int_int, is_int_bl, is_int_str, is_int_tup, is_int_rol, is_int_non, is_bool_int, is_bool_bl, is_bool_str, is_bool_tup, is_bool_rol, is_bool_non, is_tuple_int, is_tuple_bl, is_tuple_str, is_tuple_tup, is_tuple_rol, is_tuple_non, is_str_int, is_str_bl, is_str_str, is_str_tup, is_str_rol, is_str_non, is_list_int, is_list_bl, is_list_str, is_list_tup, is_list_rol, is_list_non, Bool.not_true, Bool.not_false, need_matrix_ok ha hb hc hd det (show ("m" : Str).length ≤ 1000 by decide), need_ray_non okRay]
theorem matrix_non : f_matrix [.non] g = .ex 0 (.str "row") g := by
  unfold f_matrix d_matrix
  simp only [b_ok, b_ex, b_bad, o_ok, o_ex, o_bad, n_ok, s_seq, s_nx, s_rt, s_bk, s_ct, s_ex, e_var, e_c, e_bin, e_un, e_blt, e_if, e_and, e_or, e_chain, a_nil, a_cons, e_tup, e_lst, e_call, e_callK, e_met, e_sl, g_nx, g_expr, g_ret, g_retN, g_bk, g_ct, g_if, g_asg, g_par, g_raise, t_name, t_unp, t_nil, t_cons, t_sub, g_for, i_val, i_rng1, i_rng2, e_ref, f_rt, f_nx, f_ex, drop_id, g_aug, o_iadd, e_lc, w_nil, w_cons, e_yes, i_tup, i_rol, al, lim_eq, Nat.reduceLeDiff, Nat.reduceLT, x_t0, x_t1, x_t2, x_t3, l_tup, l_rol, u_tup, o_cmp, o_add, o_sub, o_neg, o_not, o_abs, o_int, o_max, o_min, q_int, q_nint, q_bl, q_nbl, q_str, q_nstr, fnD, List.map_cons, List.map_nil, List.length_cons, List.length_nil, List.replicate_succ, List.replicate_zero, List.cons_append, List.nil_append, List.append_nil, List.getElem?_cons_zero, List.getElem?_cons_succ, List.getElem?_nil, List.set_cons_zero, List.set_cons_succ, List.zip_cons_cons, List.zip_nil_left, List.foldl_cons, List.foldl_nil, Nat.reduceSub, Nat.reduceAdd, Nat.zero_add, Nat.add_zero, if_true, if_false, reduceIte, ite_true, ite_false, eq_self, and_true, true_and, and_self, decide_true, decide_false, is_int_int, is_int_bl, is_int_str, is_int_tup, is_int_rol, is_int_non, is_bool_int, is_bool_bl, is_bool_str, is_bool_tup, is_bool_rol, is_bool_non, is_tuple_int, is_tuple_bl, is_tuple_str, is_tuple_tup, is_tuple_rol, is_tuple_non, is_str_int, is_str_bl, is_str_str, is_str_tup, is_str_rol, is_str_non, is_list_int, is_list_bl, is_list_str, is_list_tup, is_list_rol, is_list_non, Bool.not_true, Bool.not_false, need_row_non okRow]
theorem alike_bad1 (hp : ∀ p ∈ ps, okP p) (hl : ps.length ≤ 24) : f_are_alike [row ps, .non] g = .ex 0 (.str "other") g := by
  unfold f_are_alike d_are_alike
  simp only [b_ok, b_ex, b_bad, o_ok, o_ex, o_bad, n_ok, s_seq, s_nx, s_rt, s_bk, s_ct, s_ex, e_var, e_c, e_bin, e_un, e_blt, e_if, e_and, e_or, e_chain, a_nil, a_cons, e_tup, e_lst, e_call, e_callK, e_met, e_sl, g_nx, g_expr, g_ret, g_retN, g_bk, g_ct, g_if, g_asg, g_par, g_raise, t_name, t_unp, t_nil, t_cons, t_sub, g_for, i_val, i_rng1, i_rng2, e_ref, f_rt, f_nx, f_ex, drop_id, g_aug, o_iadd, e_lc, w_nil, w_cons, e_yes, i_tup, i_rol, al, lim_eq, Nat.reduceLeDiff, Nat.reduceLT, x_t0, x_t1, x_t2, x_t3, l_tup, l_rol, u_tup, o_cmp, o_add, o_sub, o_neg, o_not, o_abs, o_int, o_max, o_min, q_int, q_nint, q_bl, q_nbl, q_str, q_nstr, fnD, List.map_cons, List.map_nil, List.length_cons, List.length_nil, List.replicate_succ, List.replicate_zero, List.cons_append, List.nil_append, List.append_nil, List.getElem?_cons_zero, List.getElem?_cons_succ, List.getElem?_nil, List.set_cons_zero, List.set_cons_succ, List.zip_cons_cons, List.zip_nil_left, List.foldl_cons, List.foldl_nil, Nat.reduceSub, Nat.reduceAdd, Nat.zero_add, Nat.add_zero, if_true, if_false, reduceIte, ite_true, ite_false, eq_self, and_true, true_and, and_self, decide_true, decide_false, is_int_int, is_int_bl, is_int_str, is_int_tup, is_int_rol, is_int_non, is_bool_int, is_bool_bl, is_bool_str, is_bool_tup, is_bool_rol, is_bool_non, is_tuple_int, is_tuple_bl, is_tuple_str, is_tuple_tup, is_tuple_rol, is_tuple_non, is_str_int, is_str_bl, is_str_str, is_str_tup, is_str_rol, is_str_non, is_list_int, is_list_bl, is_list_str, is_list_tup, is_list_rol, is_list_non, Bool.not_true, Bool.not_false, need_row_ok hp hl, need_row_non okOther]
theorem alike_bad2 : f_are_alike [.non, y] g = .ex 0 (.str "one") g := by
  unfold f_are_alike d_are_alike
  simp only [b_ok, b_ex, b_bad, o_ok, o_ex, o_bad, n_ok, s_seq, s_nx, s_rt, s_bk, s_ct, s_ex, e_var, e_c, e_bin, e_un, e_blt, e_if, e_and, e_or, e_chain, a_nil, a_cons, e_tup, e_lst, e_call, e_callK, e_met, e_sl, g_nx, g_expr, g_ret, g_retN, g_bk, g_ct, g_if, g_asg, g_par, g_raise, t_name, t_unp, t_nil, t_cons, t_sub, g_for, i_val, i_rng1, i_rng2, e_ref, f_rt, f_nx, f_ex, drop_id, g_aug, o_iadd, e_lc, w_nil, w_cons, e_yes, i_tup, i_rol, al, lim_eq, Nat.reduceLeDiff, Nat.reduceLT, x_t0, x_t1, x_t2, x_t3, l_tup, l_rol, u_tup, o_cmp, o_add, o_sub, o_neg, o_not, o_abs, o_int, o_max, o_min, q_int, q_nint, q_bl, q_nbl, q_str, q_nstr, fnD, List.map_cons, List.map_nil, List.length_cons, List.length_nil, List.replicate_succ, List.replicate_zero, List.cons_append, List.nil_append, List.append_nil, List.getElem?_cons_zero, List.getElem?_cons_succ, List.getElem?_nil, List.set_cons_zero, List.set_cons_succ, List.zip_cons_cons, List.zip_nil_left, List.foldl_cons, List.foldl_nil, Nat.reduceSub, Nat.reduceAdd, Nat.zero_add, Nat.add_zero, if_true, if_false, reduceIte, ite_true, ite_false, eq_self, and_true, true_and, and_self, decide_true, decide_false, is_int_int, is_int_bl, is_int_str, is_int_tup, is_int_rol, is_int_non, is_bool_int, is_bool_bl, is_bool_str, is_bool_tup, is_bool_rol, is_bool_non, is_tuple_int, is_tuple_bl, is_tuple_str, is_tuple_tup, is_tuple_rol, is_tuple_non, is_str_int, is_str_bl, is_str_str, is_str_tup, is_str_rol, is_str_non, is_list_int, is_list_bl, is_list_str, is_list_tup, is_list_rol, is_list_non, Bool.not_true, Bool.not_false, need_row_non okOne]
theorem unlike_bad1 {k : Nat} {xs : List D} (hp : ∀ p ∈ ps, okP p) (hl : ps.length ≤ 24) (q : g[k]? = some (.lst xs)) : f_unlike_ray [row ps, .obj k] g = .ex 0 (.str "other") g := by
  unfold f_unlike_ray d_unlike_ray
  simp only [b_ok, b_ex, b_bad, o_ok, o_ex, o_bad, n_ok, s_seq, s_nx, s_rt, s_bk, s_ct, s_ex, e_var, e_c, e_bin, e_un, e_blt, e_if, e_and, e_or, e_chain, a_nil, a_cons, e_tup, e_lst, e_call, e_callK, e_met, e_sl, g_nx, g_expr, g_ret, g_retN, g_bk, g_ct, g_if, g_asg, g_par, g_raise, t_name, t_unp, t_nil, t_cons, t_sub, g_for, i_val, i_rng1, i_rng2, e_ref, f_rt, f_nx, f_ex, drop_id, g_aug, o_iadd, e_lc, w_nil, w_cons, e_yes, i_tup, i_rol, al, lim_eq, Nat.reduceLeDiff, Nat.reduceLT, x_t0, x_t1, x_t2, x_t3, l_tup, l_rol, u_tup, o_cmp, o_add, o_sub, o_neg, o_not, o_abs, o_int, o_max, o_min, q_int, q_nint, q_bl, q_nbl, q_str, q_nstr, fnD, List.map_cons, List.map_nil, List.length_cons, List.length_nil, List.replicate_succ, List.replicate_zero, List.cons_append, List.nil_append, List.append_nil, List.getElem?_cons_zero, List.getElem?_cons_succ, List.getElem?_nil, List.set_cons_zero, List.set_cons_succ, List.zip_cons_cons, List.zip_nil_left, List.foldl_cons, List.foldl_nil, Nat.reduceSub, Nat.reduceAdd, Nat.zero_add, Nat.add_zero, if_true, if_false, reduceIte, ite_true, ite_false, eq_self, and_true, true_and, and_self, decide_true, decide_false, is_int_int, is_int_bl, is_int_str, is_int_tup, is_int_rol, is_int_non, is_bool_int, is_bool_bl, is_bool_str, is_bool_tup, is_bool_rol, is_bool_non, is_tuple_int, is_tuple_bl, is_tuple_str, is_tuple_tup, is_tuple_rol, is_tuple_non, is_str_int, is_str_bl, is_str_str, is_str_tup, is_str_rol, is_str_non, is_list_int, is_list_bl, is_list_str, is_list_tup, is_list_rol, is_list_non, Bool.not_true, Bool.not_false, need_row_ok hp hl, need_row_lst okOther q]
theorem unlike_bad2 {k : Nat} {xs : List D} (q : g[k]? = some (.lst xs)) : f_unlike_ray [.obj k, y] g = .ex 0 (.str "one") g := by
  unfold f_unlike_ray d_unlike_ray
  simp only [b_ok, b_ex, b_bad, o_ok, o_ex, o_bad, n_ok, s_seq, s_nx, s_rt, s_bk, s_ct, s_ex, e_var, e_c, e_bin, e_un, e_blt, e_if, e_and, e_or, e_chain, a_nil, a_cons, e_tup, e_lst, e_call, e_callK, e_met, e_sl, g_nx, g_expr, g_ret, g_retN, g_bk, g_ct, g_if, g_asg, g_par, g_raise, t_name, t_unp, t_nil, t_cons, t_sub, g_for, i_val, i_rng1, i_rng2, e_ref, f_rt, f_nx, f_ex, drop_id, g_aug, o_iadd, e_lc, w_nil, w_cons, e_yes, i_tup, i_rol, al, lim_eq, Nat.reduceLeDiff, Nat.reduceLT, x_t0, x_t1, x_t2, x_t3, l_tup, l_rol, u_tup, o_cmp, o_add, o_sub, o_neg, o_not, o_abs, o_int, o_max, o_min, q_int, q_nint, q_bl, q_nbl, q_str, q_nstr, fnD, List.map_cons, List.map_nil, List.length_cons, List.length_nil, List.replicate_succ, List.replicate_zero, List.cons_append, List.nil_append, List.append_nil, List.getElem?_cons_zero, List.getElem?_cons_succ, List.getElem?_nil, List.set_cons_zero, List.set_cons_succ, List.zip_cons_cons, List.zip_nil_left, List.foldl_cons, List.foldl_nil, Nat.reduceSub, Nat.reduceAdd, Nat.zero_add, Nat.add_zero, if_true, if_false, reduceIte, ite_true, ite_false, eq_self, and_true, true_and, and_self, decide_true, decide_false, is_int_int, is_int_bl, is_int_str, is_int_tup, is_int_rol, is_int_non, is_bool_int, is_bool_bl, is_bool_str, is_bool_tup, is_bool_rol, is_bool_non, is_tuple_int, is_tuple_bl, is_tuple_str, is_tuple_tup, is_tuple_rol, is_tuple_non, is_str_int, is_str_bl, is_str_str, is_str_tup, is_str_rol, is_str_non, is_list_int, is_list_bl, is_list_str, is_list_tup, is_list_rol, is_list_non, Bool.not_true, Bool.not_false, need_row_lst okOne q]
end
theorem law_sent_row {ps : List (Kd × Rat)} {r : Rat × Rat} (hp : ∀ p ∈ ps, okP p) (hl : ps.length ≤ 12) (g1 : good r.1) (g2 : good r.2) (h : DH) : f_law_sent [rmat ps, prr r] h = .ok (prr (outP ps r)) h := by
  have hp40 : ∀ p ∈ ps, sm 40 p.2 := fun p h => (hp p h).g.sm
  have c1 := (cd_out ps (1, 0) 2 hp40 cd_10).mono (show 2 + (40 + 1) * ps.length ≤ 494 by omega)
  have c2 := (cd_out ps (0, 1) 2 hp40 cd_01).mono (show 2 + (40 + 1) * ps.length ≤ 494 by omega)
  unfold rmat colm
  rw [sent_ok c1.fst c2.fst c1.snd c2.snd g1.sm g2.sm (by omega)]
  conv => rhs; rw [out_mat]
open Classical in
theorem right_ok (n : Nat) (h0 : DH) (d0 : DOK n 0 h0) : ∃ h', f_law_right [.obj n] h0 = .ok (.bl true) h' ∧ Fr n h0 h' := by
  have ln := d0.lt
  unfold f_law_right d_law_right
  simp only [fnD, List.map_cons, List.map_nil, List.length_cons, List.length_nil, Nat.zero_add, Nat.reduceAdd, Nat.reduceSub, List.replicate_succ, List.replicate_zero, List.cons_append, List.nil_append]
  obtain ⟨ps, h1, e1, hp, hl, d1, f1⟩ := law_row_ok (m := 10) d0 (by omega) (by omega)
  refine step (O := fun r => ∃ h', DL.finish h0 r = .ok (.bl true) h' ∧ Fr n h0 h') (by simp only [b_ok, b_ex, b_bad, o_ok, o_ex, o_bad, n_ok, s_seq, s_nx, s_rt, s_bk, s_ct, s_ex, e_var, e_c, e_bin, e_un, e_blt, e_if, e_and, e_or, e_chain, a_nil, a_cons, e_tup, e_lst, e_call, e_callK, e_met, e_sl, g_nx, g_expr, g_ret, g_retN, g_bk, g_ct, g_if, g_asg, g_par, g_raise, t_name, t_unp, t_nil, t_cons, t_sub, g_for, i_val, i_rng1, i_rng2, e_ref, f_rt, f_nx, f_ex, drop_id, g_aug, o_iadd, e_lc, w_nil, w_cons, e_yes, i_tup, i_rol, al, lim_eq, Nat.reduceLeDiff, Nat.reduceLT, x_t0, x_t1, x_t2, x_t3, l_tup, l_rol, u_tup, o_cmp, o_add, o_sub, o_neg, o_not, o_abs, o_int, o_max, o_min, q_int, q_nint, q_bl, q_nbl, q_str, q_nstr, fnD, List.map_cons, List.map_nil, List.length_cons, List.length_nil, List.replicate_succ, List.replicate_zero, List.cons_append, List.nil_append, List.append_nil, List.getElem?_cons_zero, List.getElem?_cons_succ, List.getElem?_nil, List.set_cons_zero, List.set_cons_succ, List.zip_cons_cons, List.zip_nil_left, List.foldl_cons, List.foldl_nil, Nat.reduceSub, Nat.reduceAdd, Nat.zero_add, Nat.add_zero, if_true, if_false, reduceIte, ite_true, ite_false, eq_self, and_true, true_and, and_self, decide_true, decide_false, is_int_int, is_int_bl, is_int_str, is_int_tup, is_int_rol, is_int_non, is_bool_int, is_bool_bl, is_bool_str, is_bool_tup, is_bool_rol, is_bool_non, is_tuple_int, is_tuple_bl, is_tuple_str, is_tuple_tup, is_tuple_rol, is_tuple_non, is_str_int, is_str_bl, is_str_str, is_str_tup, is_str_rol, is_str_non, is_list_int, is_list_bl, is_list_str, is_list_tup, is_list_rol, is_list_non, Bool.not_true, Bool.not_false, show ((10 : Int)) = ((10 : Nat) : Int) from rfl, e1]; rfl) ?_
  obtain ⟨us, h2, e2, hu, hm, d2, f2⟩ := law_near_ok d1 (by omega) hp hl
  refine step (O := fun r => ∃ h', DL.finish h0 r = .ok (.bl true) h' ∧ Fr n h0 h') (by simp only [b_ok, b_ex, b_bad, o_ok, o_ex, o_bad, n_ok, s_seq, s_nx, s_rt, s_bk, s_ct, s_ex, e_var, e_c, e_bin, e_un, e_blt, e_if, e_and, e_or, e_chain, a_nil, a_cons, e_tup, e_lst, e_call, e_callK, e_met, e_sl, g_nx, g_expr, g_ret, g_retN, g_bk, g_ct, g_if, g_asg, g_par, g_raise, t_name, t_unp, t_nil, t_cons, t_sub, g_for, i_val, i_rng1, i_rng2, e_ref, f_rt, f_nx, f_ex, drop_id, g_aug, o_iadd, e_lc, w_nil, w_cons, e_yes, i_tup, i_rol, al, lim_eq, Nat.reduceLeDiff, Nat.reduceLT, x_t0, x_t1, x_t2, x_t3, l_tup, l_rol, u_tup, o_cmp, o_add, o_sub, o_neg, o_not, o_abs, o_int, o_max, o_min, q_int, q_nint, q_bl, q_nbl, q_str, q_nstr, fnD, List.map_cons, List.map_nil, List.length_cons, List.length_nil, List.replicate_succ, List.replicate_zero, List.cons_append, List.nil_append, List.append_nil, List.getElem?_cons_zero, List.getElem?_cons_succ, List.getElem?_nil, List.set_cons_zero, List.set_cons_succ, List.zip_cons_cons, List.zip_nil_left, List.foldl_cons, List.foldl_nil, Nat.reduceSub, Nat.reduceAdd, Nat.zero_add, Nat.add_zero, if_true, if_false, reduceIte, ite_true, ite_false, eq_self, and_true, true_and, and_self, decide_true, decide_false, is_int_int, is_int_bl, is_int_str, is_int_tup, is_int_rol, is_int_non, is_bool_int, is_bool_bl, is_bool_str, is_bool_tup, is_bool_rol, is_bool_non, is_tuple_int, is_tuple_bl, is_tuple_str, is_tuple_tup, is_tuple_rol, is_tuple_non, is_str_int, is_str_bl, is_str_str, is_str_tup, is_str_rol, is_str_non, is_list_int, is_list_bl, is_list_str, is_list_tup, is_list_rol, is_list_non, Bool.not_true, Bool.not_false, e2]; rfl) ?_
  have hl24 : ps.length ≤ 24 := by omega
  have hl12 : ps.length ≤ 12 := by omega
  have hm24 : us.length ≤ 24 := by omega
  refine step (O := fun r => ∃ h', DL.finish h0 r = .ok (.bl true) h' ∧ Fr n h0 h') (by simp only [b_ok, b_ex, b_bad, o_ok, o_ex, o_bad, n_ok, s_seq, s_nx, s_rt, s_bk, s_ct, s_ex, e_var, e_c, e_bin, e_un, e_blt, e_if, e_and, e_or, e_chain, a_nil, a_cons, e_tup, e_lst, e_call, e_callK, e_met, e_sl, g_nx, g_expr, g_ret, g_retN, g_bk, g_ct, g_if, g_asg, g_par, g_raise, t_name, t_unp, t_nil, t_cons, t_sub, g_for, i_val, i_rng1, i_rng2, e_ref, f_rt, f_nx, f_ex, drop_id, g_aug, o_iadd, e_lc, w_nil, w_cons, e_yes, i_tup, i_rol, al, lim_eq, Nat.reduceLeDiff, Nat.reduceLT, x_t0, x_t1, x_t2, x_t3, l_tup, l_rol, u_tup, o_cmp, o_add, o_sub, o_neg, o_not, o_abs, o_int, o_max, o_min, q_int, q_nint, q_bl, q_nbl, q_str, q_nstr, fnD, List.map_cons, List.map_nil, List.length_cons, List.length_nil, List.replicate_succ, List.replicate_zero, List.cons_append, List.nil_append, List.append_nil, List.getElem?_cons_zero, List.getElem?_cons_succ, List.getElem?_nil, List.set_cons_zero, List.set_cons_succ, List.zip_cons_cons, List.zip_nil_left, List.foldl_cons, List.foldl_nil, Nat.reduceSub, Nat.reduceAdd, Nat.zero_add, Nat.add_zero, if_true, if_false, reduceIte, ite_true, ite_false, eq_self, and_true, true_and, and_self, decide_true, decide_false, is_int_int, is_int_bl, is_int_str, is_int_tup, is_int_rol, is_int_non, is_bool_int, is_bool_bl, is_bool_str, is_bool_tup, is_bool_rol, is_bool_non, is_tuple_int, is_tuple_bl, is_tuple_str, is_tuple_tup, is_tuple_rol, is_tuple_non, is_str_int, is_str_bl, is_str_str, is_str_tup, is_str_rol, is_str_non, is_list_int, is_list_bl, is_list_str, is_list_tup, is_list_rol, is_list_non, Bool.not_true, Bool.not_false, matrix_row_ok hp hl24, law_matrix_row hp hl12]; rfl) ?_
  obtain ⟨r, h3, e3, g1, g2, d3, f3⟩ := law_ray_ok d2 (by omega)
  have f03 := f1.trans (f2.trans f3)
  refine step (O := fun r => ∃ h', DL.finish h0 r = .ok (.bl true) h' ∧ Fr n h0 h') (by simp only [b_ok, b_ex, b_bad, o_ok, o_ex, o_bad, n_ok, s_seq, s_nx, s_rt, s_bk, s_ct, s_ex, e_var, e_c, e_bin, e_un, e_blt, e_if, e_and, e_or, e_chain, a_nil, a_cons, e_tup, e_lst, e_call, e_callK, e_met, e_sl, g_nx, g_expr, g_ret, g_retN, g_bk, g_ct, g_if, g_asg, g_par, g_raise, t_name, t_unp, t_nil, t_cons, t_sub, g_for, i_val, i_rng1, i_rng2, e_ref, f_rt, f_nx, f_ex, drop_id, g_aug, o_iadd, e_lc, w_nil, w_cons, e_yes, i_tup, i_rol, al, lim_eq, Nat.reduceLeDiff, Nat.reduceLT, x_t0, x_t1, x_t2, x_t3, l_tup, l_rol, u_tup, o_cmp, o_add, o_sub, o_neg, o_not, o_abs, o_int, o_max, o_min, q_int, q_nint, q_bl, q_nbl, q_str, q_nstr, fnD, List.map_cons, List.map_nil, List.length_cons, List.length_nil, List.replicate_succ, List.replicate_zero, List.cons_append, List.nil_append, List.append_nil, List.getElem?_cons_zero, List.getElem?_cons_succ, List.getElem?_nil, List.set_cons_zero, List.set_cons_succ, List.zip_cons_cons, List.zip_nil_left, List.foldl_cons, List.foldl_nil, Nat.reduceSub, Nat.reduceAdd, Nat.zero_add, Nat.add_zero, if_true, if_false, reduceIte, ite_true, ite_false, eq_self, and_true, true_and, and_self, decide_true, decide_false, is_int_int, is_int_bl, is_int_str, is_int_tup, is_int_rol, is_int_non, is_bool_int, is_bool_bl, is_bool_str, is_bool_tup, is_bool_rol, is_bool_non, is_tuple_int, is_tuple_bl, is_tuple_str, is_tuple_tup, is_tuple_rol, is_tuple_non, is_str_int, is_str_bl, is_str_str, is_str_tup, is_str_rol, is_str_non, is_list_int, is_list_bl, is_list_str, is_list_tup, is_list_rol, is_list_non, Bool.not_true, Bool.not_false, e3]; rfl) ?_
  have hp40 : ∀ p ∈ ps, sm 40 p.2 := fun p h => (hp p h).g.sm
  have hu40 : ∀ p ∈ us, sm 40 p.2 := fun p h => (hu p h).g.sm
  have nq : ∀ h, oNe (rmat ps) (rmat ps) h = .ok (.bl false) h := fun h => q_nself (pl_mat 16 _ _ _ _)
  have pl1 : ∀ s : Rat × Rat, pl 19 (prr s) = true := fun s => pl_pair 17 s.1 s.2
  have lo := fun h => law_out_ok (r := r) (h := h) hp40 (cd_of g1.sm g2.sm) (by omega)
  refine step (O := fun r => ∃ h', DL.finish h0 r = .ok (.bl true) h' ∧ Fr n h0 h') (by simp only [b_ok, b_ex, b_bad, o_ok, o_ex, o_bad, n_ok, s_seq, s_nx, s_rt, s_bk, s_ct, s_ex, e_var, e_c, e_bin, e_un, e_blt, e_if, e_and, e_or, e_chain, a_nil, a_cons, e_tup, e_lst, e_call, e_callK, e_met, e_sl, g_nx, g_expr, g_ret, g_retN, g_bk, g_ct, g_if, g_asg, g_par, g_raise, t_name, t_unp, t_nil, t_cons, t_sub, g_for, i_val, i_rng1, i_rng2, e_ref, f_rt, f_nx, f_ex, drop_id, g_aug, o_iadd, e_lc, w_nil, w_cons, e_yes, i_tup, i_rol, al, lim_eq, Nat.reduceLeDiff, Nat.reduceLT, x_t0, x_t1, x_t2, x_t3, l_tup, l_rol, u_tup, o_cmp, o_add, o_sub, o_neg, o_not, o_abs, o_int, o_max, o_min, q_int, q_nint, q_bl, q_nbl, q_str, q_nstr, fnD, List.map_cons, List.map_nil, List.length_cons, List.length_nil, List.replicate_succ, List.replicate_zero, List.cons_append, List.nil_append, List.append_nil, List.getElem?_cons_zero, List.getElem?_cons_succ, List.getElem?_nil, List.set_cons_zero, List.set_cons_succ, List.zip_cons_cons, List.zip_nil_left, List.foldl_cons, List.foldl_nil, Nat.reduceSub, Nat.reduceAdd, Nat.zero_add, Nat.add_zero, if_true, if_false, reduceIte, ite_true, ite_false, eq_self, and_true, true_and, and_self, decide_true, decide_false, is_int_int, is_int_bl, is_int_str, is_int_tup, is_int_rol, is_int_non, is_bool_int, is_bool_bl, is_bool_str, is_bool_tup, is_bool_rol, is_bool_non, is_tuple_int, is_tuple_bl, is_tuple_str, is_tuple_tup, is_tuple_rol, is_tuple_non, is_str_int, is_str_bl, is_str_str, is_str_tup, is_str_rol, is_str_non, is_list_int, is_list_bl, is_list_str, is_list_tup, is_list_rol, is_list_non, Bool.not_true, Bool.not_false, nq, matrix_row_ok hp hl24, law_sent_row hp hl12 g1 g2, lo, q_nself (pl1 _)]; rfl) ?_
  refine step (O := fun r => ∃ h', DL.finish h0 r = .ok (.bl true) h' ∧ Fr n h0 h') (by simp only [b_ok, b_ex, b_bad, o_ok, o_ex, o_bad, n_ok, s_seq, s_nx, s_rt, s_bk, s_ct, s_ex, e_var, e_c, e_bin, e_un, e_blt, e_if, e_and, e_or, e_chain, a_nil, a_cons, e_tup, e_lst, e_call, e_callK, e_met, e_sl, g_nx, g_expr, g_ret, g_retN, g_bk, g_ct, g_if, g_asg, g_par, g_raise, t_name, t_unp, t_nil, t_cons, t_sub, g_for, i_val, i_rng1, i_rng2, e_ref, f_rt, f_nx, f_ex, drop_id, g_aug, o_iadd, e_lc, w_nil, w_cons, e_yes, i_tup, i_rol, al, lim_eq, Nat.reduceLeDiff, Nat.reduceLT, x_t0, x_t1, x_t2, x_t3, l_tup, l_rol, u_tup, o_cmp, o_add, o_sub, o_neg, o_not, o_abs, o_int, o_max, o_min, q_int, q_nint, q_bl, q_nbl, q_str, q_nstr, fnD, List.map_cons, List.map_nil, List.length_cons, List.length_nil, List.replicate_succ, List.replicate_zero, List.cons_append, List.nil_append, List.append_nil, List.getElem?_cons_zero, List.getElem?_cons_succ, List.getElem?_nil, List.set_cons_zero, List.set_cons_succ, List.zip_cons_cons, List.zip_nil_left, List.foldl_cons, List.foldl_nil, Nat.reduceSub, Nat.reduceAdd, Nat.zero_add, Nat.add_zero, if_true, if_false, reduceIte, ite_true, ite_false, eq_self, and_true, true_and, and_self, decide_true, decide_false, is_int_int, is_int_bl, is_int_str, is_int_tup, is_int_rol, is_int_non, is_bool_int, is_bool_bl, is_bool_str, is_bool_tup, is_bool_rol, is_bool_non, is_tuple_int, is_tuple_bl, is_tuple_str, is_tuple_tup, is_tuple_rol, is_tuple_non, is_str_int, is_str_bl, is_str_str, is_str_tup, is_str_rol, is_str_non, is_list_int, is_list_bl, is_list_str, is_list_tup, is_list_rol, is_list_non, Bool.not_true, Bool.not_false]; rfl) ?_
  -- unlike
  refine stepx (O := fun r => ∃ h', DL.finish h0 r = .ok (.bl true) h' ∧ Fr n h0 h') (fun ρ g => ∃ w7, g = h3 ++ [.lst [pr 0 1, pr 1 0]] ∧ ρ = [some (.obj n), some (row ps), some (row us), some (rmat ps), some (rmat ps), some (prr r), some (unl ps us), w7, none, none, none, none, none, none, none, none, none]) ?_ ?_
  · have q : (h3 ++ [MO.lst [pr 0 1, pr 1 0]])[h3.length]? = some (.lst [pr 0 1, pr 1 0]) := at_new
    have l1 := fun h => law_out_ok (r := (1, 0)) (h := h) hp40 cd_10 (by omega)
    have l2 := fun h => law_out_ok (r := (0, 1)) (h := h) hp40 cd_01 (by omega)
    have l3 := fun h => law_out_ok (r := (1, 0)) (h := h) hu40 cd_10 (by omega)
    have l4 := fun h => law_out_ok (r := (0, 1)) (h := h) hu40 cd_01 (by omega)
    unfold unl
    by_cases c1 : outP ps (1, 0) = outP us (1, 0)
    · by_cases c2 : outP ps (0, 1) = outP us (0, 1)
      · simp only [c1, c2, if_true]
        exact ⟨_, _, by simp only [b_ok, b_ex, b_bad, o_ok, o_ex, o_bad, n_ok, s_seq, s_nx, s_rt, s_bk, s_ct, s_ex, e_var, e_c, e_bin, e_un, e_blt, e_if, e_and, e_or, e_chain, a_nil, a_cons, e_tup, e_lst, e_call, e_callK, e_met, e_sl, g_nx, g_expr, g_ret, g_retN, g_bk, g_ct, g_if, g_asg, g_par, g_raise, t_name, t_unp, t_nil, t_cons, t_sub, g_for, i_val, i_rng1, i_rng2, e_ref, f_rt, f_nx, f_ex, drop_id, g_aug, o_iadd, e_lc, w_nil, w_cons, e_yes, i_tup, i_rol, al, lim_eq, Nat.reduceLeDiff, Nat.reduceLT, x_t0, x_t1, x_t2, x_t3, l_tup, l_rol, u_tup, o_cmp, o_add, o_sub, o_neg, o_not, o_abs, o_int, o_max, o_min, q_int, q_nint, q_bl, q_nbl, q_str, q_nstr, fnD, List.map_cons, List.map_nil, List.length_cons, List.length_nil, List.replicate_succ, List.replicate_zero, List.cons_append, List.nil_append, List.append_nil, List.getElem?_cons_zero, List.getElem?_cons_succ, List.getElem?_nil, List.set_cons_zero, List.set_cons_succ, List.zip_cons_cons, List.zip_nil_left, List.foldl_cons, List.foldl_nil, Nat.reduceSub, Nat.reduceAdd, Nat.zero_add, Nat.add_zero, if_true, if_false, reduceIte, ite_true, ite_false, eq_self, and_true, true_and, and_self, decide_true, decide_false, is_int_int, is_int_bl, is_int_str, is_int_tup, is_int_rol, is_int_non, is_bool_int, is_bool_bl, is_bool_str, is_bool_tup, is_bool_rol, is_bool_non, is_tuple_int, is_tuple_bl, is_tuple_str, is_tuple_tup, is_tuple_rol, is_tuple_non, is_str_int, is_str_bl, is_str_str, is_str_tup, is_str_rol, is_str_non, is_list_int, is_list_bl, is_list_str, is_list_tup, is_list_rol, is_list_non, Bool.not_true, Bool.not_false, fr0, fr1, i_obj q, forO, q, l1, l2, l3, l4, ne_prr, c1, c2] <;> rfl, _, rfl, rfl⟩
      · simp only [c1, c2, if_true, if_false]
        exact ⟨_, _, by simp only [b_ok, b_ex, b_bad, o_ok, o_ex, o_bad, n_ok, s_seq, s_nx, s_rt, s_bk, s_ct, s_ex, e_var, e_c, e_bin, e_un, e_blt, e_if, e_and, e_or, e_chain, a_nil, a_cons, e_tup, e_lst, e_call, e_callK, e_met, e_sl, g_nx, g_expr, g_ret, g_retN, g_bk, g_ct, g_if, g_asg, g_par, g_raise, t_name, t_unp, t_nil, t_cons, t_sub, g_for, i_val, i_rng1, i_rng2, e_ref, f_rt, f_nx, f_ex, drop_id, g_aug, o_iadd, e_lc, w_nil, w_cons, e_yes, i_tup, i_rol, al, lim_eq, Nat.reduceLeDiff, Nat.reduceLT, x_t0, x_t1, x_t2, x_t3, l_tup, l_rol, u_tup, o_cmp, o_add, o_sub, o_neg, o_not, o_abs, o_int, o_max, o_min, q_int, q_nint, q_bl, q_nbl, q_str, q_nstr, fnD, List.map_cons, List.map_nil, List.length_cons, List.length_nil, List.replicate_succ, List.replicate_zero, List.cons_append, List.nil_append, List.append_nil, List.getElem?_cons_zero, List.getElem?_cons_succ, List.getElem?_nil, List.set_cons_zero, List.set_cons_succ, List.zip_cons_cons, List.zip_nil_left, List.foldl_cons, List.foldl_nil, Nat.reduceSub, Nat.reduceAdd, Nat.zero_add, Nat.add_zero, if_true, if_false, reduceIte, ite_true, ite_false, eq_self, and_true, true_and, and_self, decide_true, decide_false, is_int_int, is_int_bl, is_int_str, is_int_tup, is_int_rol, is_int_non, is_bool_int, is_bool_bl, is_bool_str, is_bool_tup, is_bool_rol, is_bool_non, is_tuple_int, is_tuple_bl, is_tuple_str, is_tuple_tup, is_tuple_rol, is_tuple_non, is_str_int, is_str_bl, is_str_str, is_str_tup, is_str_rol, is_str_non, is_list_int, is_list_bl, is_list_str, is_list_tup, is_list_rol, is_list_non, Bool.not_true, Bool.not_false, fr0, fr1, i_obj q, forO, q, l1, l2, l3, l4, ne_prr, c1, c2] <;> rfl, _, rfl, rfl⟩
    · simp only [c1, if_false]
      by_cases c2 : outP ps (0, 1) = outP us (0, 1)
      · exact ⟨_, _, by simp only [b_ok, b_ex, b_bad, o_ok, o_ex, o_bad, n_ok, s_seq, s_nx, s_rt, s_bk, s_ct, s_ex, e_var, e_c, e_bin, e_un, e_blt, e_if, e_and, e_or, e_chain, a_nil, a_cons, e_tup, e_lst, e_call, e_callK, e_met, e_sl, g_nx, g_expr, g_ret, g_retN, g_bk, g_ct, g_if, g_asg, g_par, g_raise, t_name, t_unp, t_nil, t_cons, t_sub, g_for, i_val, i_rng1, i_rng2, e_ref, f_rt, f_nx, f_ex, drop_id, g_aug, o_iadd, e_lc, w_nil, w_cons, e_yes, i_tup, i_rol, al, lim_eq, Nat.reduceLeDiff, Nat.reduceLT, x_t0, x_t1, x_t2, x_t3, l_tup, l_rol, u_tup, o_cmp, o_add, o_sub, o_neg, o_not, o_abs, o_int, o_max, o_min, q_int, q_nint, q_bl, q_nbl, q_str, q_nstr, fnD, List.map_cons, List.map_nil, List.length_cons, List.length_nil, List.replicate_succ, List.replicate_zero, List.cons_append, List.nil_append, List.append_nil, List.getElem?_cons_zero, List.getElem?_cons_succ, List.getElem?_nil, List.set_cons_zero, List.set_cons_succ, List.zip_cons_cons, List.zip_nil_left, List.foldl_cons, List.foldl_nil, Nat.reduceSub, Nat.reduceAdd, Nat.zero_add, Nat.add_zero, if_true, if_false, reduceIte, ite_true, ite_false, eq_self, and_true, true_and, and_self, decide_true, decide_false, is_int_int, is_int_bl, is_int_str, is_int_tup, is_int_rol, is_int_non, is_bool_int, is_bool_bl, is_bool_str, is_bool_tup, is_bool_rol, is_bool_non, is_tuple_int, is_tuple_bl, is_tuple_str, is_tuple_tup, is_tuple_rol, is_tuple_non, is_str_int, is_str_bl, is_str_str, is_str_tup, is_str_rol, is_str_non, is_list_int, is_list_bl, is_list_str, is_list_tup, is_list_rol, is_list_non, Bool.not_true, Bool.not_false, fr0, fr1, i_obj q, forO, q, l1, l2, l3, l4, ne_prr, c1, c2] <;> rfl, _, rfl, rfl⟩
      · exact ⟨_, _, by simp only [b_ok, b_ex, b_bad, o_ok, o_ex, o_bad, n_ok, s_seq, s_nx, s_rt, s_bk, s_ct, s_ex, e_var, e_c, e_bin, e_un, e_blt, e_if, e_and, e_or, e_chain, a_nil, a_cons, e_tup, e_lst, e_call, e_callK, e_met, e_sl, g_nx, g_expr, g_ret, g_retN, g_bk, g_ct, g_if, g_asg, g_par, g_raise, t_name, t_unp, t_nil, t_cons, t_sub, g_for, i_val, i_rng1, i_rng2, e_ref, f_rt, f_nx, f_ex, drop_id, g_aug, o_iadd, e_lc, w_nil, w_cons, e_yes, i_tup, i_rol, al, lim_eq, Nat.reduceLeDiff, Nat.reduceLT, x_t0, x_t1, x_t2, x_t3, l_tup, l_rol, u_tup, o_cmp, o_add, o_sub, o_neg, o_not, o_abs, o_int, o_max, o_min, q_int, q_nint, q_bl, q_nbl, q_str, q_nstr, fnD, List.map_cons, List.map_nil, List.length_cons, List.length_nil, List.replicate_succ, List.replicate_zero, List.cons_append, List.nil_append, List.append_nil, List.getElem?_cons_zero, List.getElem?_cons_succ, List.getElem?_nil, List.set_cons_zero, List.set_cons_succ, List.zip_cons_cons, List.zip_nil_left, List.foldl_cons, List.foldl_nil, Nat.reduceSub, Nat.reduceAdd, Nat.zero_add, Nat.add_zero, if_true, if_false, reduceIte, ite_true, ite_false, eq_self, and_true, true_and, and_self, decide_true, decide_false, is_int_int, is_int_bl, is_int_str, is_int_tup, is_int_rol, is_int_non, is_bool_int, is_bool_bl, is_bool_str, is_bool_tup, is_bool_rol, is_bool_non, is_tuple_int, is_tuple_bl, is_tuple_str, is_tuple_tup, is_tuple_rol, is_tuple_non, is_str_int, is_str_bl, is_str_str, is_str_tup, is_str_rol, is_str_non, is_list_int, is_list_bl, is_list_str, is_list_tup, is_list_rol, is_list_non, Bool.not_true, Bool.not_false, fr0, fr1, i_obj q, forO, q, l1, l2, l3, l4, ne_prr, c1, c2] <;> rfl, _, rfl, rfl⟩
  rintro ρ g ⟨w7, rfl, rfl⟩
  have qu := fun h => q_nself (h := h) (pl_unl ps us)
  refine step (O := fun r => ∃ h', DL.finish h0 r = .ok (.bl true) h' ∧ Fr n h0 h') (by simp only [b_ok, b_ex, b_bad, o_ok, o_ex, o_bad, n_ok, s_seq, s_nx, s_rt, s_bk, s_ct, s_ex, e_var, e_c, e_bin, e_un, e_blt, e_if, e_and, e_or, e_chain, a_nil, a_cons, e_tup, e_lst, e_call, e_callK, e_met, e_sl, g_nx, g_expr, g_ret, g_retN, g_bk, g_ct, g_if, g_asg, g_par, g_raise, t_name, t_unp, t_nil, t_cons, t_sub, g_for, i_val, i_rng1, i_rng2, e_ref, f_rt, f_nx, f_ex, drop_id, g_aug, o_iadd, e_lc, w_nil, w_cons, e_yes, i_tup, i_rol, al, lim_eq, Nat.reduceLeDiff, Nat.reduceLT, x_t0, x_t1, x_t2, x_t3, l_tup, l_rol, u_tup, o_cmp, o_add, o_sub, o_neg, o_not, o_abs, o_int, o_max, o_min, q_int, q_nint, q_bl, q_nbl, q_str, q_nstr, fnD, List.map_cons, List.map_nil, List.length_cons, List.length_nil, List.replicate_succ, List.replicate_zero, List.cons_append, List.nil_append, List.append_nil, List.getElem?_cons_zero, List.getElem?_cons_succ, List.getElem?_nil, List.set_cons_zero, List.set_cons_succ, List.zip_cons_cons, List.zip_nil_left, List.foldl_cons, List.foldl_nil, Nat.reduceSub, Nat.reduceAdd, Nat.zero_add, Nat.add_zero, if_true, if_false, reduceIte, ite_true, ite_false, eq_self, and_true, true_and, and_self, decide_true, decide_false, is_int_int, is_int_bl, is_int_str, is_int_tup, is_int_rol, is_int_non, is_bool_int, is_bool_bl, is_bool_str, is_bool_tup, is_bool_rol, is_bool_non, is_tuple_int, is_tuple_bl, is_tuple_str, is_tuple_tup, is_tuple_rol, is_tuple_non, is_str_int, is_str_bl, is_str_str, is_str_tup, is_str_rol, is_str_non, is_list_int, is_list_bl, is_list_str, is_list_tup, is_list_rol, is_list_non, Bool.not_true, Bool.not_false, are_alike_ok hp hl24 hu hm24, law_matrix_row hu hm, q_rmat, unlike_ok hp hl24 hu hm24, qu]; rfl) ?_
  refine step (O := fun r => ∃ h', DL.finish h0 r = .ok (.bl true) h' ∧ Fr n h0 h') (by simp only [b_ok, b_ex, b_bad, o_ok, o_ex, o_bad, n_ok, s_seq, s_nx, s_rt, s_bk, s_ct, s_ex, e_var, e_c, e_bin, e_un, e_blt, e_if, e_and, e_or, e_chain, a_nil, a_cons, e_tup, e_lst, e_call, e_callK, e_met, e_sl, g_nx, g_expr, g_ret, g_retN, g_bk, g_ct, g_if, g_asg, g_par, g_raise, t_name, t_unp, t_nil, t_cons, t_sub, g_for, i_val, i_rng1, i_rng2, e_ref, f_rt, f_nx, f_ex, drop_id, g_aug, o_iadd, e_lc, w_nil, w_cons, e_yes, i_tup, i_rol, al, lim_eq, Nat.reduceLeDiff, Nat.reduceLT, x_t0, x_t1, x_t2, x_t3, l_tup, l_rol, u_tup, o_cmp, o_add, o_sub, o_neg, o_not, o_abs, o_int, o_max, o_min, q_int, q_nint, q_bl, q_nbl, q_str, q_nstr, fnD, List.map_cons, List.map_nil, List.length_cons, List.length_nil, List.replicate_succ, List.replicate_zero, List.cons_append, List.nil_append, List.append_nil, List.getElem?_cons_zero, List.getElem?_cons_succ, List.getElem?_nil, List.set_cons_zero, List.set_cons_succ, List.zip_cons_cons, List.zip_nil_left, List.foldl_cons, List.foldl_nil, Nat.reduceSub, Nat.reduceAdd, Nat.zero_add, Nat.add_zero, if_true, if_false, reduceIte, ite_true, ite_false, eq_self, and_true, true_and, and_self, decide_true, decide_false, is_int_int, is_int_bl, is_int_str, is_int_tup, is_int_rol, is_int_non, is_bool_int, is_bool_bl, is_bool_str, is_bool_tup, is_bool_rol, is_bool_non, is_tuple_int, is_tuple_bl, is_tuple_str, is_tuple_tup, is_tuple_rol, is_tuple_non, is_str_int, is_str_bl, is_str_str, is_str_tup, is_str_rol, is_str_non, is_list_int, is_list_bl, is_list_str, is_list_tup, is_list_rol, is_list_non, Bool.not_true, Bool.not_false, is_unl, are_alike_ok hu hm24 hp hl24, alike_symm]; rfl) ?_
  -- two matrices
  have d4 : DOK n 400 (h3 ++ [MO.lst [pr 0 1, pr 1 0]]) := (d3.mono (by omega)).add _
  have g4 : Grow n h0 (h3 ++ [MO.lst [pr 0 1, pr 1 0]]) := f03.grow.trans Grow.add
  generalize h3 ++ [MO.lst [pr 0 1, pr 1 0]] = H4 at d4 g4
  obtain ⟨a, b, c, d, h5, e5, dt, ga, gb, gc, gd, d5, f5⟩ := drawn_good d4 (by omega)
  obtain ⟨e, f, g, i, h6, e6, dt2, ge, gf, gg, gi, d6, f6⟩ := drawn_good d5 (by omega)
  have g6 : Grow n h0 h6 := g4.trans (f5.grow.trans f6.grow)
  refine step (O := fun r => ∃ h', DL.finish h0 r = .ok (.bl true) h' ∧ Fr n h0 h') (by simp only [b_ok, b_ex, b_bad, o_ok, o_ex, o_bad, n_ok, s_seq, s_nx, s_rt, s_bk, s_ct, s_ex, e_var, e_c, e_bin, e_un, e_blt, e_if, e_and, e_or, e_chain, a_nil, a_cons, e_tup, e_lst, e_call, e_callK, e_met, e_sl, g_nx, g_expr, g_ret, g_retN, g_bk, g_ct, g_if, g_asg, g_par, g_raise, t_name, t_unp, t_nil, t_cons, t_sub, g_for, i_val, i_rng1, i_rng2, e_ref, f_rt, f_nx, f_ex, drop_id, g_aug, o_iadd, e_lc, w_nil, w_cons, e_yes, i_tup, i_rol, al, lim_eq, Nat.reduceLeDiff, Nat.reduceLT, x_t0, x_t1, x_t2, x_t3, l_tup, l_rol, u_tup, o_cmp, o_add, o_sub, o_neg, o_not, o_abs, o_int, o_max, o_min, q_int, q_nint, q_bl, q_nbl, q_str, q_nstr, fnD, List.map_cons, List.map_nil, List.length_cons, List.length_nil, List.replicate_succ, List.replicate_zero, List.cons_append, List.nil_append, List.append_nil, List.getElem?_cons_zero, List.getElem?_cons_succ, List.getElem?_nil, List.set_cons_zero, List.set_cons_succ, List.zip_cons_cons, List.zip_nil_left, List.foldl_cons, List.foldl_nil, Nat.reduceSub, Nat.reduceAdd, Nat.zero_add, Nat.add_zero, if_true, if_false, reduceIte, ite_true, ite_false, eq_self, and_true, true_and, and_self, decide_true, decide_false, is_int_int, is_int_bl, is_int_str, is_int_tup, is_int_rol, is_int_non, is_bool_int, is_bool_bl, is_bool_str, is_bool_tup, is_bool_rol, is_bool_non, is_tuple_int, is_tuple_bl, is_tuple_str, is_tuple_tup, is_tuple_rol, is_tuple_non, is_str_int, is_str_bl, is_str_str, is_str_tup, is_str_rol, is_str_non, is_list_int, is_list_bl, is_list_str, is_list_tup, is_list_rol, is_list_non, Bool.not_true, Bool.not_false, e5, e6, u_tup]; rfl) ?_
  refine step (O := fun r => ∃ h', DL.finish h0 r = .ok (.bl true) h' ∧ Fr n h0 h') (by simp only [b_ok, b_ex, b_bad, o_ok, o_ex, o_bad, n_ok, s_seq, s_nx, s_rt, s_bk, s_ct, s_ex, e_var, e_c, e_bin, e_un, e_blt, e_if, e_and, e_or, e_chain, a_nil, a_cons, e_tup, e_lst, e_call, e_callK, e_met, e_sl, g_nx, g_expr, g_ret, g_retN, g_bk, g_ct, g_if, g_asg, g_par, g_raise, t_name, t_unp, t_nil, t_cons, t_sub, g_for, i_val, i_rng1, i_rng2, e_ref, f_rt, f_nx, f_ex, drop_id, g_aug, o_iadd, e_lc, w_nil, w_cons, e_yes, i_tup, i_rol, al, lim_eq, Nat.reduceLeDiff, Nat.reduceLT, x_t0, x_t1, x_t2, x_t3, l_tup, l_rol, u_tup, o_cmp, o_add, o_sub, o_neg, o_not, o_abs, o_int, o_max, o_min, q_int, q_nint, q_bl, q_nbl, q_str, q_nstr, fnD, List.map_cons, List.map_nil, List.length_cons, List.length_nil, List.replicate_succ, List.replicate_zero, List.cons_append, List.nil_append, List.append_nil, List.getElem?_cons_zero, List.getElem?_cons_succ, List.getElem?_nil, List.set_cons_zero, List.set_cons_succ, List.zip_cons_cons, List.zip_nil_left, List.foldl_cons, List.foldl_nil, Nat.reduceSub, Nat.reduceAdd, Nat.zero_add, Nat.add_zero, if_true, if_false, reduceIte, ite_true, ite_false, eq_self, and_true, true_and, and_self, decide_true, decide_false, is_int_int, is_int_bl, is_int_str, is_int_tup, is_int_rol, is_int_non, is_bool_int, is_bool_bl, is_bool_str, is_bool_tup, is_bool_rol, is_bool_non, is_tuple_int, is_tuple_bl, is_tuple_str, is_tuple_tup, is_tuple_rol, is_tuple_non, is_str_int, is_str_bl, is_str_str, is_str_tup, is_str_rol, is_str_non, is_list_int, is_list_bl, is_list_str, is_list_tup, is_list_rol, is_list_non, Bool.not_true, Bool.not_false, behind_both_ok ga gb gc gd dt ge gf gg gi dt2]; rfl) ?_
  refine stepx (O := fun r => ∃ h', DL.finish h0 r = .ok (.bl true) h' ∧ Fr n h0 h') (fun ρ k => ∃ w7, k = h6 ++ [.lst [pr 1 0, pr 0 1, prr r]] ∧ ρ = [some (.obj n), some (row ps), some (row us), some (rmat ps), some (rmat ps), some (prr r), some (unl ps us), w7, some (mat a b c d), some (mat e f g i), some (mat (e * a + f * c) (e * b + f * d) (g * a + i * c) (g * b + i * d)), none, none, none, none, none, none]) ?_ ?_
  · have q : (h6 ++ [MO.lst [pr 1 0, pr 0 1, prr r]])[h6.length]? = some (.lst [pr 1 0, pr 0 1, prr r]) := at_new
    simp only [b_ok, b_ex, b_bad, o_ok, o_ex, o_bad, n_ok, s_seq, s_nx, s_rt, s_bk, s_ct, s_ex, e_var, e_c, e_bin, e_un, e_blt, e_if, e_and, e_or, e_chain, a_nil, a_cons, e_tup, e_lst, e_call, e_callK, e_met, e_sl, g_nx, g_expr, g_ret, g_retN, g_bk, g_ct, g_if, g_asg, g_par, g_raise, t_name, t_unp, t_nil, t_cons, t_sub, g_for, i_val, i_rng1, i_rng2, e_ref, f_rt, f_nx, f_ex, drop_id, g_aug, o_iadd, e_lc, w_nil, w_cons, e_yes, i_tup, i_rol, al, lim_eq, Nat.reduceLeDiff, Nat.reduceLT, x_t0, x_t1, x_t2, x_t3, l_tup, l_rol, u_tup, o_cmp, o_add, o_sub, o_neg, o_not, o_abs, o_int, o_max, o_min, q_int, q_nint, q_bl, q_nbl, q_str, q_nstr, fnD, List.map_cons, List.map_nil, List.length_cons, List.length_nil, List.replicate_succ, List.replicate_zero, List.cons_append, List.nil_append, List.append_nil, List.getElem?_cons_zero, List.getElem?_cons_succ, List.getElem?_nil, List.set_cons_zero, List.set_cons_succ, List.zip_cons_cons, List.zip_nil_left, List.foldl_cons, List.foldl_nil, Nat.reduceSub, Nat.reduceAdd, Nat.zero_add, Nat.add_zero, if_true, if_false, reduceIte, ite_true, ite_false, eq_self, and_true, true_and, and_self, decide_true, decide_false, is_int_int, is_int_bl, is_int_str, is_int_tup, is_int_rol, is_int_non, is_bool_int, is_bool_bl, is_bool_str, is_bool_tup, is_bool_rol, is_bool_non, is_tuple_int, is_tuple_bl, is_tuple_str, is_tuple_tup, is_tuple_rol, is_tuple_non, is_str_int, is_str_bl, is_str_str, is_str_tup, is_str_rol, is_str_non, is_list_int, is_list_bl, is_list_str, is_list_tup, is_list_rol, is_list_non, Bool.not_true, Bool.not_false, fr0, fr1, i_obj q]
    refine forO_rule (fun t ρ k => k = h6 ++ [.lst [pr 1 0, pr 0 1, prr r]] ∧ ∃ (ss : List (Rat × Rat)) (w7 : Option D), t = ss.map prr ∧ (∀ s ∈ ss, good s.1 ∧ good s.2) ∧ ρ = [some (.obj n), some (row ps), some (row us), some (rmat ps), some (rmat ps), some (prr r), some (unl ps us), w7, some (mat a b c d), some (mat e f g i), some (mat (e * a + f * c) (e * b + f * d) (g * a + i * c) (g * b + i * d)), none, none, none, none, none, none])
      (fun t => ∃ ρ' k, t = .nx ρ' k ∧ ∃ w7, k = h6 ++ [.lst [pr 1 0, pr 0 1, prr r]] ∧ ρ' = [some (.obj n), some (row ps), some (row us), some (rmat ps), some (rmat ps), some (prr r), some (unl ps us), w7, some (mat a b c d), some (mat e f g i), some (mat (e * a + f * c) (e * b + f * d) (g * a + i * c) (g * b + i * d)), none, none, none, none, none, none]) ?_ ?_ ?_ _ _ _ ⟨rfl, [(1, 0), (0, 1), r], _, rfl, ?_, rfl⟩
    · rintro t ρ k ⟨rfl, _⟩
      exact q
    · rintro x t ρ k ⟨rfl, ss, w7, et, hs, rfl⟩
      match ss, et with
      | s :: ss, et =>
        simp only [List.map_cons, List.cons.injEq] at et
        obtain ⟨rfl, rfl⟩ := et
        obtain ⟨s1, s2⟩ := hs s List.mem_cons_self
        have S1 := s1.sm
        have S2 := s2.sm
        have A := ga.sm
        have B := gb.sm
        have C := gc.sm
        have D' := gd.sm
        have x1 := sm_add (sm_mul A S1) (sm_mul B S2)
        have x2 := sm_add (sm_mul C S1) (sm_mul D' S2)
        have m1 : ∀ h, f_law_sent [mat a b c d, prr s] h = .ok (pr (a * s.1 + b * s.2) (c * s.1 + d * s.2)) h := sent_ok A B C D' S1 S2 (by omega)
        have m2 : ∀ h, f_law_sent [mat e f g i, pr (a * s.1 + b * s.2) (c * s.1 + d * s.2)] h = .ok (pr (e * (a * s.1 + b * s.2) + f * (c * s.1 + d * s.2)) (g * (a * s.1 + b * s.2) + i * (c * s.1 + d * s.2))) h := sent_ok (ge.sm) gf.sm gg.sm gi.sm x1 x2 (by omega)
        have m3 : ∀ h, f_law_sent [mat (e * a + f * c) (e * b + f * d) (g * a + i * c) (g * b + i * d), prr s] h = .ok (pr (e * (a * s.1 + b * s.2) + f * (c * s.1 + d * s.2)) (g * (a * s.1 + b * s.2) + i * (c * s.1 + d * s.2))) h := by
          intro h
          have y1 : sm 161 (e * a + f * c) := sm_add (sm_mul ge.sm A) (sm_mul gf.sm C)
          have y2 : sm 161 (e * b + f * d) := sm_add (sm_mul ge.sm B) (sm_mul gf.sm D')
          have y3 : sm 161 (g * a + i * c) := sm_add (sm_mul gg.sm A) (sm_mul gi.sm C)
          have y4 : sm 161 (g * b + i * d) := sm_add (sm_mul gg.sm B) (sm_mul gi.sm D')
          rw [show prr s = pr s.1 s.2 from rfl, sent_ok y1 y2 y3 y4 S1 S2 (by omega)]
          have k1 : (e * a + f * c) * s.1 + (e * b + f * d) * s.2 = e * (a * s.1 + b * s.2) + f * (c * s.1 + d * s.2) := by grind
          have k2 : (g * a + i * c) * s.1 + (g * b + i * d) * s.2 = g * (a * s.1 + b * s.2) + i * (c * s.1 + d * s.2) := by grind
          rw [k1, k2]
        have m4 : ∀ h, f_law_sent [mat d (-b) (-c) a, pr (a * s.1 + b * s.2) (c * s.1 + d * s.2)] h = .ok (prr s) h := by
          intro h
          rw [sent_ok D' (sm_neg B) (sm_neg C) A x1 x2 (by omega)]
          have k1 : d * (a * s.1 + b * s.2) + -b * (c * s.1 + d * s.2) = s.1 := by grind
          have k2 : -c * (a * s.1 + b * s.2) + a * (c * s.1 + d * s.2) = s.2 := by grind
          rw [k1, k2]
        have m5 : ∀ h, f_sent [mat a b c d, prr s] h = .ok (pr (a * s.1 + b * s.2) (c * s.1 + d * s.2)) h := fun h => sent_prog ga gb gc gd dt s1 s2
        have n1 : ∀ (p q : Rat) h, oNe (pr p q) (pr p q) h = .ok (.bl false) h := fun p q h => q_nself (pl_pair 17 p q)
        refine ⟨_, _, t_name, ?_⟩
        simp only [b_ok, b_ex, b_bad, o_ok, o_ex, o_bad, n_ok, s_seq, s_nx, s_rt, s_bk, s_ct, s_ex, e_var, e_c, e_bin, e_un, e_blt, e_if, e_and, e_or, e_chain, a_nil, a_cons, e_tup, e_lst, e_call, e_callK, e_met, e_sl, g_nx, g_expr, g_ret, g_retN, g_bk, g_ct, g_if, g_asg, g_par, g_raise, t_name, t_unp, t_nil, t_cons, t_sub, g_for, i_val, i_rng1, i_rng2, e_ref, f_rt, f_nx, f_ex, drop_id, g_aug, o_iadd, e_lc, w_nil, w_cons, e_yes, i_tup, i_rol, al, lim_eq, Nat.reduceLeDiff, Nat.reduceLT, x_t0, x_t1, x_t2, x_t3, l_tup, l_rol, u_tup, o_cmp, o_add, o_sub, o_neg, o_not, o_abs, o_int, o_max, o_min, q_int, q_nint, q_bl, q_nbl, q_str, q_nstr, fnD, List.map_cons, List.map_nil, List.length_cons, List.length_nil, List.replicate_succ, List.replicate_zero, List.cons_append, List.nil_append, List.append_nil, List.getElem?_cons_zero, List.getElem?_cons_succ, List.getElem?_nil, List.set_cons_zero, List.set_cons_succ, List.zip_cons_cons, List.zip_nil_left, List.foldl_cons, List.foldl_nil, Nat.reduceSub, Nat.reduceAdd, Nat.zero_add, Nat.add_zero, if_true, if_false, reduceIte, ite_true, ite_false, eq_self, and_true, true_and, and_self, decide_true, decide_false, is_int_int, is_int_bl, is_int_str, is_int_tup, is_int_rol, is_int_non, is_bool_int, is_bool_bl, is_bool_str, is_bool_tup, is_bool_rol, is_bool_non, is_tuple_int, is_tuple_bl, is_tuple_str, is_tuple_tup, is_tuple_rol, is_tuple_non, is_str_int, is_str_bl, is_str_str, is_str_tup, is_str_rol, is_str_non, is_list_int, is_list_bl, is_list_str, is_list_tup, is_list_rol, is_list_non, Bool.not_true, Bool.not_false, m1, m2, m3, m4, m5, n1, q_nself (pl1 _), inverse_ok ga gb gc gd dt]
        exact ⟨ss, _, rfl, fun s' hs' => hs s' (List.mem_cons_of_mem _ hs'), rfl⟩
    · rintro ρ k ⟨rfl, ss, w7, et, hs, rfl⟩
      exact ⟨_, _, rfl, w7, rfl, rfl⟩
    · intro s hs
      simp only [List.mem_cons, List.not_mem_nil, or_false] at hs
      rcases hs with rfl | rfl | rfl
      · exact ⟨good_one, good_zero⟩
      · exact ⟨good_zero, good_one⟩
      · exact ⟨g1, g2⟩
  rintro ρ k ⟨w7, rfl, rfl⟩
  have g7 : Grow n h0 (h6 ++ [MO.lst [pr 1 0, pr 0 1, prr r]]) := g6.trans Grow.add
  have d7 : DOK n 500 (h6 ++ [MO.lst [pr 1 0, pr 0 1, prr r]]) := (d6.mono (by omega)).add _
  generalize h6 ++ [MO.lst [pr 1 0, pr 0 1, prr r]] = K at g7 d7
  refine step (O := fun r => ∃ h', DL.finish h0 r = .ok (.bl true) h' ∧ Fr n h0 h') (by simp only [b_ok, b_ex, b_bad, o_ok, o_ex, o_bad, n_ok, s_seq, s_nx, s_rt, s_bk, s_ct, s_ex, e_var, e_c, e_bin, e_un, e_blt, e_if, e_and, e_or, e_chain, a_nil, a_cons, e_tup, e_lst, e_call, e_callK, e_met, e_sl, g_nx, g_expr, g_ret, g_retN, g_bk, g_ct, g_if, g_asg, g_par, g_raise, t_name, t_unp, t_nil, t_cons, t_sub, g_for, i_val, i_rng1, i_rng2, e_ref, f_rt, f_nx, f_ex, drop_id, g_aug, o_iadd, e_lc, w_nil, w_cons, e_yes, i_tup, i_rol, al, lim_eq, Nat.reduceLeDiff, Nat.reduceLT, x_t0, x_t1, x_t2, x_t3, l_tup, l_rol, u_tup, o_cmp, o_add, o_sub, o_neg, o_not, o_abs, o_int, o_max, o_min, q_int, q_nint, q_bl, q_nbl, q_str, q_nstr, fnD, List.map_cons, List.map_nil, List.length_cons, List.length_nil, List.replicate_succ, List.replicate_zero, List.cons_append, List.nil_append, List.append_nil, List.getElem?_cons_zero, List.getElem?_cons_succ, List.getElem?_nil, List.set_cons_zero, List.set_cons_succ, List.zip_cons_cons, List.zip_nil_left, List.foldl_cons, List.foldl_nil, Nat.reduceSub, Nat.reduceAdd, Nat.zero_add, Nat.add_zero, if_true, if_false, reduceIte, ite_true, ite_false, eq_self, and_true, true_and, and_self, decide_true, decide_false, is_int_int, is_int_bl, is_int_str, is_int_tup, is_int_rol, is_int_non, is_bool_int, is_bool_bl, is_bool_str, is_bool_tup, is_bool_rol, is_bool_non, is_tuple_int, is_tuple_bl, is_tuple_str, is_tuple_tup, is_tuple_rol, is_tuple_non, is_str_int, is_str_bl, is_str_str, is_str_tup, is_str_rol, is_str_non, is_list_int, is_list_bl, is_list_str, is_list_tup, is_list_rol, is_list_non, Bool.not_true, Bool.not_false, u_tup]; rfl) ?_
  -- bad
  have lk := d7.lt
  obtain ⟨x, h8, bx, e8, d8, g8, l8⟩ := pick_new (T := [.non, .tup [pr a b], .obj K.length, if a = 0 then .non else mat a b c (d + 1), .tup [.tup [fr a, fr b], .tup [fr c, .int 1]], .tup [pr a b, pr c d, pr a b], .tup [.tup [fr a, fr b, fr b], .tup [fr c, fr d]]]) (P := fun x => ∀ (s : Str) (k : DH), okName (.str s) = true → k[K.length]? = some (.lst [pr a b, pr c d]) → f_need_matrix [x, .str s] k = .ex 0 (.str s) k) (d7.add [.lst [pr a b, pr c d]]) (by omega) (by
    intro z hz s k hs hk
    simp only [List.mem_cons, List.not_mem_nil, or_false] at hz
    rcases hz with rfl | rfl | rfl | rfl | rfl | rfl | rfl
    · exact need_matrix_bad0 hs
    · exact need_matrix_len hs (by simp)
    · exact need_matrix_bad1 hs hk
    · by_cases a0 : a = 0
      · rw [if_pos a0]
        exact need_matrix_bad0 hs
      · rw [if_neg a0]
        exact need_matrix_det hs ga gb gc (by grind)
    · exact need_matrix_one hs ga gb gc
    · exact need_matrix_len hs (by simp)
    · exact need_matrix_three hs) (by simp) (by simp)
  have ad := law_add_ok gd.sm sm_one (by omega)
  have oa : ∀ h : DH, oAdd (mat a b c d) (.tup [pr a b]) h = .ok (.tup [pr a b, pr c d, pr a b]) h := fun h => o_addt (by simp [lim_eq])
  refine step (O := fun r => ∃ h', DL.finish h0 r = .ok (.bl true) h' ∧ Fr n h0 h') (ρ' := [some (.obj n), some (row ps), some (row us), some (rmat ps), some (rmat ps), some (prr r), some (unl ps us), w7, some (mat a b c d), some (mat e f g i), some (mat (e * a + f * c) (e * b + f * d) (g * a + i * c) (g * b + i * d)), some (fr a), some (fr b), some (fr c), some (fr d), some x, none]) (h' := h8) (by
    by_cases a0 : a = 0
    · simp only [a0, if_true] at e8 oa ⊢
      simp only [b_ok, b_ex, b_bad, o_ok, o_ex, o_bad, n_ok, s_seq, s_nx, s_rt, s_bk, s_ct, s_ex, e_var, e_c, e_bin, e_un, e_blt, e_if, e_and, e_or, e_chain, a_nil, a_cons, e_tup, e_lst, e_call, e_callK, e_met, e_sl, g_nx, g_expr, g_ret, g_retN, g_bk, g_ct, g_if, g_asg, g_par, g_raise, t_name, t_unp, t_nil, t_cons, t_sub, g_for, i_val, i_rng1, i_rng2, e_ref, f_rt, f_nx, f_ex, drop_id, g_aug, o_iadd, e_lc, w_nil, w_cons, e_yes, i_tup, i_rol, al, lim_eq, Nat.reduceLeDiff, Nat.reduceLT, x_t0, x_t1, x_t2, x_t3, l_tup, l_rol, u_tup, o_cmp, o_add, o_sub, o_neg, o_not, o_abs, o_int, o_max, o_min, q_int, q_nint, q_bl, q_nbl, q_str, q_nstr, fnD, List.map_cons, List.map_nil, List.length_cons, List.length_nil, List.replicate_succ, List.replicate_zero, List.cons_append, List.nil_append, List.append_nil, List.getElem?_cons_zero, List.getElem?_cons_succ, List.getElem?_nil, List.set_cons_zero, List.set_cons_succ, List.zip_cons_cons, List.zip_nil_left, List.foldl_cons, List.foldl_nil, Nat.reduceSub, Nat.reduceAdd, Nat.zero_add, Nat.add_zero, if_true, if_false, reduceIte, ite_true, ite_false, eq_self, and_true, true_and, and_self, decide_true, decide_false, is_int_int, is_int_bl, is_int_str, is_int_tup, is_int_rol, is_int_non, is_bool_int, is_bool_bl, is_bool_str, is_bool_tup, is_bool_rol, is_bool_non, is_tuple_int, is_tuple_bl, is_tuple_str, is_tuple_tup, is_tuple_rol, is_tuple_non, is_str_int, is_str_bl, is_str_str, is_str_tup, is_str_rol, is_str_non, is_list_int, is_list_bl, is_list_str, is_list_tup, is_list_rol, is_list_non, Bool.not_true, Bool.not_false, x_fr0, num0, fr1, oa, e8]
    · simp only [a0, if_false] at e8
      simp only [b_ok, b_ex, b_bad, o_ok, o_ex, o_bad, n_ok, s_seq, s_nx, s_rt, s_bk, s_ct, s_ex, e_var, e_c, e_bin, e_un, e_blt, e_if, e_and, e_or, e_chain, a_nil, a_cons, e_tup, e_lst, e_call, e_callK, e_met, e_sl, g_nx, g_expr, g_ret, g_retN, g_bk, g_ct, g_if, g_asg, g_par, g_raise, t_name, t_unp, t_nil, t_cons, t_sub, g_for, i_val, i_rng1, i_rng2, e_ref, f_rt, f_nx, f_ex, drop_id, g_aug, o_iadd, e_lc, w_nil, w_cons, e_yes, i_tup, i_rol, al, lim_eq, Nat.reduceLeDiff, Nat.reduceLT, x_t0, x_t1, x_t2, x_t3, l_tup, l_rol, u_tup, o_cmp, o_add, o_sub, o_neg, o_not, o_abs, o_int, o_max, o_min, q_int, q_nint, q_bl, q_nbl, q_str, q_nstr, fnD, List.map_cons, List.map_nil, List.length_cons, List.length_nil, List.replicate_succ, List.replicate_zero, List.cons_append, List.nil_append, List.append_nil, List.getElem?_cons_zero, List.getElem?_cons_succ, List.getElem?_nil, List.set_cons_zero, List.set_cons_succ, List.zip_cons_cons, List.zip_nil_left, List.foldl_cons, List.foldl_nil, Nat.reduceSub, Nat.reduceAdd, Nat.zero_add, Nat.add_zero, if_true, if_false, reduceIte, ite_true, ite_false, eq_self, and_true, true_and, and_self, decide_true, decide_false, is_int_int, is_int_bl, is_int_str, is_int_tup, is_int_rol, is_int_non, is_bool_int, is_bool_bl, is_bool_str, is_bool_tup, is_bool_rol, is_bool_non, is_tuple_int, is_tuple_bl, is_tuple_str, is_tuple_tup, is_tuple_rol, is_tuple_non, is_str_int, is_str_bl, is_str_str, is_str_tup, is_str_rol, is_str_non, is_list_int, is_list_bl, is_list_str, is_list_tup, is_list_rol, is_list_non, Bool.not_true, Bool.not_false, x_fr0, num0, a0, fr1, ad, oa, e8]) ?_
  have q8 : h8[K.length]? = some (.lst [pr a b, pr c d]) := by
    rw [g8.2 _ (by simp) (by omega)]
    simp
  have g9 : Grow n h0 h8 := g7.trans (Grow.add.trans g8)
  have w1 := inverse_bad (bx "m" h8 okM q8)
  have w2 := behind_bad1 (y := .non) (bx "m" h8 okM q8)
  have w3 := behind_bad2 ga gb gc gd dt (bx "k" h8 okK q8)
  have w4 := sent_bad2 (g := h8) ga gb gc gd dt
  have w5 := sent_bad1 (y := .non) (bx "m" h8 okM q8)
  have w8 := unlike_bad1 (g := h8 ++ [MO.lst []]) hp hl24 at_new
  have w9 := unlike_bad2 (y := row ps) (g := h8 ++ [MO.lst []] ++ [MO.lst []]) at_new
  refine stepx (O := fun r => ∃ h', DL.finish h0 r = .ok (.bl true) h' ∧ Fr n h0 h') (fun ρ k => ∃ j, k[j]? = some (.lst [.str "m", .str "m", .str "k", .str "ray", .str "m", .str "row", .str "other", .str "one", .str "other", .str "one"]) ∧ DOK n 600 k ∧ Grow n h0 k ∧ ρ[16]? = some (some (.obj j))) ?_ ?_
  · refine ⟨_, _, by simp only [b_ok, b_ex, b_bad, o_ok, o_ex, o_bad, n_ok, s_seq, s_nx, s_rt, s_bk, s_ct, s_ex, e_var, e_c, e_bin, e_un, e_blt, e_if, e_and, e_or, e_chain, a_nil, a_cons, e_tup, e_lst, e_call, e_callK, e_met, e_sl, g_nx, g_expr, g_ret, g_retN, g_bk, g_ct, g_if, g_asg, g_par, g_raise, t_name, t_unp, t_nil, t_cons, t_sub, g_for, i_val, i_rng1, i_rng2, e_ref, f_rt, f_nx, f_ex, drop_id, g_aug, o_iadd, e_lc, w_nil, w_cons, e_yes, i_tup, i_rol, al, lim_eq, Nat.reduceLeDiff, Nat.reduceLT, x_t0, x_t1, x_t2, x_t3, l_tup, l_rol, u_tup, o_cmp, o_add, o_sub, o_neg, o_not, o_abs, o_int, o_max, o_min, q_int, q_nint, q_bl, q_nbl, q_str, q_nstr, fnD, List.map_cons, List.map_nil, List.length_cons, List.length_nil, List.replicate_succ, List.replicate_zero, List.cons_append, List.nil_append, List.append_nil, List.getElem?_cons_zero, List.getElem?_cons_succ, List.getElem?_nil, List.set_cons_zero, List.set_cons_succ, List.zip_cons_cons, List.zip_nil_left, List.foldl_cons, List.foldl_nil, Nat.reduceSub, Nat.reduceAdd, Nat.zero_add, Nat.add_zero, if_true, if_false, reduceIte, ite_true, ite_false, eq_self, and_true, true_and, and_self, decide_true, decide_false, is_int_int, is_int_bl, is_int_str, is_int_tup, is_int_rol, is_int_non, is_bool_int, is_bool_bl, is_bool_str, is_bool_tup, is_bool_rol, is_bool_non, is_tuple_int, is_tuple_bl, is_tuple_str, is_tuple_tup, is_tuple_rol, is_tuple_non, is_str_int, is_str_bl, is_str_str, is_str_tup, is_str_rol, is_str_non, is_list_int, is_list_bl, is_list_str, is_list_tup, is_list_rol, is_list_non, Bool.not_true, Bool.not_false, w1, w2, w3, w4, w5, matrix_non, alike_bad1 hp hl24, alike_bad2, w8, w9]; rfl, _, at_new, ((((d8.mono (by omega)).add _)).add _).add _, g9.trans (Grow.add.trans (Grow.add.trans Grow.add)), rfl⟩
  rintro ρ k9 ⟨j9, q9, d9, g9, eρ⟩
  have ps9 : pls 18 [.str "m", .str "m", .str "k", .str "ray", .str "m", .str "row", .str "other", .str "one", .str "other", .str "one"] = true := by decide +kernel
  simp only [b_ok, b_ex, b_bad, o_ok, o_ex, o_bad, n_ok, s_seq, s_nx, s_rt, s_bk, s_ct, s_ex, e_var, e_c, e_bin, e_un, e_blt, e_if, e_and, e_or, e_chain, a_nil, a_cons, e_tup, e_lst, e_call, e_callK, e_met, e_sl, g_nx, g_expr, g_ret, g_retN, g_bk, g_ct, g_if, g_asg, g_par, g_raise, t_name, t_unp, t_nil, t_cons, t_sub, g_for, i_val, i_rng1, i_rng2, e_ref, f_rt, f_nx, f_ex, drop_id, g_aug, o_iadd, e_lc, w_nil, w_cons, e_yes, i_tup, i_rol, al, lim_eq, Nat.reduceLeDiff, Nat.reduceLT, x_t0, x_t1, x_t2, x_t3, l_tup, l_rol, u_tup, o_cmp, o_add, o_sub, o_neg, o_not, o_abs, o_int, o_max, o_min, q_int, q_nint, q_bl, q_nbl, q_str, q_nstr, fnD, List.map_cons, List.map_nil, List.length_cons, List.length_nil, List.replicate_succ, List.replicate_zero, List.cons_append, List.nil_append, List.append_nil, List.getElem?_cons_zero, List.getElem?_cons_succ, List.getElem?_nil, List.set_cons_zero, List.set_cons_succ, List.zip_cons_cons, List.zip_nil_left, List.foldl_cons, List.foldl_nil, Nat.reduceSub, Nat.reduceAdd, Nat.zero_add, Nat.add_zero, if_true, if_false, reduceIte, ite_true, ite_false, eq_self, and_true, true_and, and_self, decide_true, decide_false, is_int_int, is_int_bl, is_int_str, is_int_tup, is_int_rol, is_int_non, is_bool_int, is_bool_bl, is_bool_str, is_bool_tup, is_bool_rol, is_bool_non, is_tuple_int, is_tuple_bl, is_tuple_str, is_tuple_tup, is_tuple_rol, is_tuple_non, is_str_int, is_str_bl, is_str_str, is_str_tup, is_str_rol, is_str_non, is_list_int, is_list_bl, is_list_str, is_list_tup, is_list_rol, is_list_non, Bool.not_true, Bool.not_false, eρ, q_self2 q9 ps9]
  have fin := fin_true ln (g9.trans Grow.add) (d9.add [.lst [.str "m", .str "m", .str "k", .str "ray", .str "m", .str "row", .str "other", .str "one", .str "other", .str "one"]])
  simp only [f_rt] at fin
  exact fin
theorem math (ns : List Int) (hn : ns.length ≤ 63) (_ : ∀ z ∈ ns, Builtin.Int.intBits z ≤ 1048576) : Says f_law ns := law_ok (c := 5) (right := f_law_right) (by omega) right_ok ns hn
end Law
theorem PySem.Challenge.cw_raydrawer_k03_whole_matrices_holds : PySem.Challenge.rw_raydrawer_k03_whole_matrices.Holds := by
  exact Law.holds Law.math
