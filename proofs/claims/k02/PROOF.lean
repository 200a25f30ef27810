import PyProof.Rows.All
import Wide.All
import OpenK.AllK
import Wide.FinOn
import HandS.ForMost
import HandS.ForExc
import HandS.Walk
import HandS.TupAny
import HandS.Style
import HandS.Deep
import HandS.Wide
import HandS.Zip
import HandS.SortKw
import HandS.Lambda
import HandS.IsInst
import KE.KEqNest
import HandS.SortInts
import HandS.More
import HandS.Set
import HandS.Iter
import HandS.Comp
import HandS.Dict
import HandS.SetFor
import HandS.Strs
import KE.SortKeyHeap
import HandS.Conv
import HandS.RaiseMore
import HandS.EndTab
import HandS.EndOwn
import KE.KNest
import KE.KNestM
import PySem.Challenge.RW_yesifs_k02_facts_among_any_values
set_option Elab.async false
set_option linter.all false
set_option maxRecDepth 100000
set_option maxHeartbeats 4000000
namespace Yf
open PySem PySem.Spec L2
open PyProof.Rows hiding St
abbrev D := PyData
/-- a key as a datum -/
def keyD : Key → D
  | .inl i => .int i
  | .inr x => .str x
/-- a tuple of the module's own -/
def KT0 (K : PySem.W.Frag) (a : Addr) (xs : List V) : Prop :=
  ∃ (o : Obj) (its : Array Value) (n : Nat), K.lookup a = some o ∧ o.cls = .type "tuple" ∧ o.data = .seq its n ∧ its.size ≤ sizeLine ∧ Vals xs its.toList
/-- a tuple that is not owned -/
def TupR (K : PySem.W.Frag) (H : Hp) (O : Addr → Prop) (a : Addr) (xs : List V) : Prop := (¬ O a ∧ Rd H a (.tup xs)) ∨ KT0 K a xs
theorem TupR.sq {K : PySem.W.Frag} {H : Hp} {O : Addr → Prop} {a : Addr} {xs : List V} (h : TupR K H O a xs) : SqT K H a xs := h.elim (fun p => .inl p.2) .inr
section
variable (K : PySem.W.Frag) (H : Hp) (O : Addr → Prop)
mutual
/-- the value stands for the frozen datum -/
def Rep : D → V → Prop
  | .none, v => v = .non
  | .bool b, v => v = .bl b
  | .int i, v => v = .int i
  | .str x, v => v = .str x
  | .list ds, v => ∃ a xs, v = .ref a ∧ ¬ O a ∧ Rd H a (.lst xs) ∧ RepAll ds xs
  | .tuple ds, v => ∃ a xs, v = .ref a ∧ TupR K H O a xs ∧ RepAll ds xs
  | .dict kvs, v => ∃ a ks, v = .ref a ∧ ¬ O a ∧ Rd H a (.dK ks) ∧ RepKv kvs ks
def RepAll : List D → List V → Prop
  | [], vs => vs = []
  | d :: ds, vs => ∃ x xs, vs = x :: xs ∧ Rep d x ∧ RepAll ds xs
def RepKv : List (D × D) → List (Key × V) → Prop
  | [], ks => ks = []
  | (k, d) :: r, ks => ∃ j x s, ks = (j, x) :: s ∧ k = keyD j ∧ Rep d x ∧ RepKv r s
end
end
/-- a value of a slot: frozen, or owned -/
inductive M where
  | d (v : D)
  | lst (ds : List D)
  | dct (kvs : List (Key × M))
section
variable (K : PySem.W.Frag) (H : Hp) (O : Addr → Prop)
mutual
def RepM : M → V → List Addr → Prop
  | .d v, x, f => f = [] ∧ Rep K H O v x
  | .lst ds, x, f => ∃ a xs, x = .ref a ∧ f = [a] ∧ H a = some (.lst xs) ∧ RepAll K H O ds xs
  | .dct kvs, x, f => ∃ a ks g, x = .ref a ∧ f = a :: g ∧ a ∉ g ∧ H a = some (.dK ks) ∧ RepMs kvs ks g
def RepMs : List (Key × M) → List (Key × V) → List Addr → Prop
  | [], ks, g => ks = [] ∧ g = []
  | (k, m) :: r, ks, g => ∃ x s f g', ks = (k, x) :: s ∧ g = f ++ g' ∧ (∀ a ∈ f, a ∉ g') ∧ RepM m x f ∧ RepMs r s g'
end
end
mutual
def freeze : M → D
  | .d v => v
  | .lst ds => .list ds
  | .dct kvs => .dict (freezes kvs)
def freezes : List (Key × M) → List (D × D)
  | [] => []
  | (k, m) :: r => (keyD k, freeze m) :: freezes r
end
/-- what is tracked and not owned stays, and stays not owned -/
def Step (H : Hp) (O : Addr → Prop) (H' : Hp) (O' : Addr → Prop) : Prop := ∀ a o, H a = some o → ¬ O a → H' a = some o ∧ ¬ O' a
theorem Step.refl {H : Hp} {O : Addr → Prop} : Step H O H O := fun _ _ e n => ⟨e, n⟩
theorem Step.trans {H H1 H2 : Hp} {O O1 O2 : Addr → Prop} (a : Step H O H1 O1) (b : Step H1 O1 H2 O2) : Step H O H2 O2 := fun x o e n => b x o (a x o e n).1 (a x o e n).2
theorem Step.rd {H H' : Hp} {O O' : Addr → Prop} (h : Step H O H' O') {a : Addr} {u : HO} (n : ¬ O a) (r : Rd H a u) : Rd H' a u ∧ ¬ O' a := by
  rcases r with r | ⟨o, r⟩
  · exact ⟨.inl (h a _ r n).1, (h a _ r n).2⟩
  · exact ⟨.inr ⟨o, (h a _ r n).1⟩, (h a _ r n).2⟩
section
variable {K : PySem.W.Frag} {H H' : Hp} {O O' : Addr → Prop}
theorem TupR.step (h : Step H O H' O') {a : Addr} {xs : List V} (r : TupR K H O a xs) : TupR K H' O' a xs := by
  rcases r with ⟨n, r⟩ | r
  · exact .inl ⟨(h.rd n r).2, (h.rd n r).1⟩
  · exact .inr r
mutual
theorem Rep.step (h : Step H O H' O') : ∀ {d : D} {v : V}, Rep K H O d v → Rep K H' O' d v
  | .none, _, r => by simp only [Rep] at r ⊢; exact r
  | .bool _, _, r => by simp only [Rep] at r ⊢; exact r
  | .int _, _, r => by simp only [Rep] at r ⊢; exact r
  | .str _, _, r => by simp only [Rep] at r ⊢; exact r
  | .list ds, _, r => by
    simp only [Rep] at r ⊢
    obtain ⟨a, xs, e, n, q, z⟩ := r
    exact ⟨a, xs, e, (h.rd n q).2, (h.rd n q).1, RepAll.step h z⟩
  | .tuple ds, _, r => by
    simp only [Rep] at r ⊢
    obtain ⟨a, xs, e, q, z⟩ := r
    exact ⟨a, xs, e, q.step h, RepAll.step h z⟩
  | .dict kvs, _, r => by
    simp only [Rep] at r ⊢
    obtain ⟨a, xs, e, n, q, z⟩ := r
    exact ⟨a, xs, e, (h.rd n q).2, (h.rd n q).1, RepKv.step h z⟩
theorem RepAll.step (h : Step H O H' O') : ∀ {ds : List D} {vs : List V}, RepAll K H O ds vs → RepAll K H' O' ds vs
  | [], _, r => by simp only [RepAll] at r ⊢; exact r
  | d :: ds, _, r => by
    simp only [RepAll] at r ⊢
    obtain ⟨x, xs, e, a, b⟩ := r
    exact ⟨x, xs, e, Rep.step h a, RepAll.step h b⟩
theorem RepKv.step (h : Step H O H' O') : ∀ {ds : List (D × D)} {vs : List (Key × V)}, RepKv K H O ds vs → RepKv K H' O' ds vs
  | [], _, r => by simp only [RepKv] at r ⊢; exact r
  | (k, d) :: ds, _, r => by
    simp only [RepKv] at r ⊢
    obtain ⟨j, x, xs, e, ek, a, b⟩ := r
    exact ⟨j, x, xs, e, ek, Rep.step h a, RepKv.step h b⟩
end
mutual
theorem RepM.step (h : Step H O H' O') : ∀ {m : M} {v : V} {f : List Addr}, (∀ a ∈ f, H' a = H a) → RepM K H O m v f → RepM K H' O' m v f
  | .d v, _, _, _, r => by
    simp only [RepM] at r ⊢
    exact ⟨r.1, r.2.step h⟩
  | .lst ds, _, _, k, r => by
    simp only [RepM] at r ⊢
    obtain ⟨a, xs, e, ef, q, z⟩ := r
    subst ef
    exact ⟨a, xs, e, rfl, (k a (by simp)).trans q, z.step h⟩
  | .dct kvs, _, _, k, r => by
    simp only [RepM] at r ⊢
    obtain ⟨a, ks, g, e, ef, n, q, z⟩ := r
    subst ef
    exact ⟨a, ks, g, e, rfl, n, (k a (by simp)).trans q, RepMs.step h (fun b hb => k b (by simp [hb])) z⟩
theorem RepMs.step (h : Step H O H' O') : ∀ {m : List (Key × M)} {v : List (Key × V)} {f : List Addr}, (∀ a ∈ f, H' a = H a) → RepMs K H O m v f → RepMs K H' O' m v f
  | [], _, _, _, r => by simp only [RepMs] at r ⊢; exact r
  | (k, m) :: r, _, _, hk, q => by
    simp only [RepMs] at q ⊢
    obtain ⟨x, s, f, g', e, eg, n, a, b⟩ := q
    subst eg
    exact ⟨x, s, f, g', e, rfl, n, RepM.step h (fun b hb => hk b (by simp [hb])) a, RepMs.step h (fun b hb => hk b (by simp [hb])) b⟩
end
/-- what was owned is let go -/
theorem RepKv.of_ms : True := trivial
mutual
theorem RepM.freeze (sub : ∀ a, O' a → O a) : ∀ {m : M} {v : V} {f : List Addr}, (∀ a ∈ f, ¬ O' a) → RepM K H O m v f → Rep K H O' (freeze m) v
  | .d v, _, _, _, r => by
    simp only [RepM] at r
    simp only [Yf.freeze]
    exact r.2.step fun a o e n => ⟨e, fun q => n (sub a q)⟩
  | .lst ds, _, _, k, r => by
    simp only [RepM] at r
    simp only [Yf.freeze, Rep]
    obtain ⟨a, xs, e, ef, q, z⟩ := r
    subst ef
    exact ⟨a, xs, e, k a (by simp), .inl q, z.step fun a o e n => ⟨e, fun q => n (sub a q)⟩⟩
  | .dct kvs, _, _, k, r => by
    simp only [RepM] at r
    simp only [Yf.freeze, Rep]
    obtain ⟨a, ks, g, e, ef, n, q, z⟩ := r
    subst ef
    exact ⟨a, ks, e, k a (by simp), .inl q, RepMs.freeze sub (fun b hb => k b (by simp [hb])) z⟩
theorem RepMs.freeze (sub : ∀ a, O' a → O a) : ∀ {m : List (Key × M)} {v : List (Key × V)} {f : List Addr}, (∀ a ∈ f, ¬ O' a) → RepMs K H O m v f → RepKv K H O' (freezes m) v
  | [], _, _, _, r => by
    simp only [RepMs] at r
    simp only [freezes, RepKv]
    exact r.1
  | (k, m) :: r, _, _, hk, q => by
    simp only [RepMs] at q
    simp only [freezes, RepKv]
    obtain ⟨x, s, f, g', e, eg, n, a, b⟩ := q
    subst eg
    exact ⟨k, x, s, e, rfl, RepM.freeze sub (fun b hb => hk b (by simp [hb])) a, RepMs.freeze sub (fun b hb => hk b (by simp [hb])) b⟩
end
end
end Yf
namespace Yf
open PySem PySem.Spec L2
open PyProof.Rows hiding St
inductive Rt where
  | s (i : Nat)
  | t (j : Nat)
  deriving DecidableEq
/-- the slots' values -/
abbrev Sl := List (Option M)
def getR (env : Sl) (ts : List M) : Rt → Option M
  | .s i => (env[i]?).join
  | .t j => ts[j]?
def valR (σ : St) (vs : List V) : Rt → Option V
  | .s i => (σ[i]?).join
  | .t j => vs[j]?
structure Ent where
  H0 : Hp
  O0 : Addr → Prop
  io : List (Nat × V)
  n : Nat
  A : Addr → Prop
  T : List (Addr × Str)
/-- the tables of code objects -/
def tAt (T : List (Addr × Str)) : Addr → Prop := fun a => ∃ p ∈ T, p.1 = a
def Own (F : Rt → List Addr) : Addr → Prop := fun a => ∃ r, a ∈ F r
/-- what is owned, here or by those around -/
def Av (E : Ent) (F : Rt → List Addr) : Addr → Prop := fun a => Own F a ∨ (E.A a ∨ tAt E.T a)
theorem Av.step {E : Ent} {F F' : Rt → List Addr} {H H' : Hp} (h : Step H (Own F) H' (Own F')) : Step H (Av E F) H' (Av E F') := fun a o e n =>
  ⟨(h a o e fun z => n (.inl z)).1, fun z => z.elim (h a o e fun z => n (.inl z)).2 fun z => n (.inr z)⟩
theorem Step.wide {H H' : Hp} {O O' : Addr → Prop} (h : Step H O H' O') (B : Addr → Prop) : Step H (fun a => O a ∨ B a) H' (fun a => O' a ∨ B a) := fun a o e n =>
  ⟨(h a o e fun z => n (.inl z)).1, fun z => z.elim (h a o e fun z => n (.inl z)).2 fun z => n (.inr z)⟩
theorem Av.stepT {E : Ent} {F F' : Rt → List Addr} {H H' : Hp} (h : Step H (fun a => Own F a ∨ tAt E.T a) H' (fun a => Own F' a ∨ tAt E.T a)) : Step H (Av E F) H' (Av E F') := fun a o e n =>
  have z := h a o e fun z => n (z.elim .inl fun z => .inr (.inr z))
  ⟨z.1, fun q => q.elim (fun q => z.2 (.inl q)) fun q => n (.inr q)⟩
structure SR (K : PySem.W.Frag) (E : Ent) (env : Sl) (ts : List M) (σ : St) (vs : List V) (H : Hp) (F : Rt → List Addr) : Prop where
  len : env.length = σ.length
  lent : ts.length = vs.length
  rep : ∀ r m, getR env ts r = some m → ∃ v, valR σ vs r = some v ∧ RepM K H (Av E F) m v (F r)
  emp : ∀ r, getR env ts r = none → F r = []
  dis : ∀ r r' a, a ∈ F r → a ∈ F r' → r = r'
  step : Step E.H0 (fun a => E.O0 a ∨ tAt E.T a) H (fun a => Own F a ∨ tAt E.T a)
  io : ∀ p ∈ E.io, σ[p.1]? = some (some p.2)
  ln : env.length = E.n
  av : ∀ a, E.A a → ¬ E.O0 a ∧ ∃ o, E.H0 a = some o
  tab : LamX.Tabs E.T H
def SRel (K : PySem.W.Frag) (E : Ent) (env : Sl) (ts : List M) (σ : St) (vs : List V) (H : Hp) : Prop := ∃ F, SR K E env ts σ vs H F
section
variable {K : PySem.W.Frag} {E : Ent} {env env' : Sl} {ts ts' : List M} {σ σ' : St} {vs vs' : List V} {H H' : Hp} {F F' : Rt → List Addr} {O : Addr → Prop}
mutual
theorem RepM.there : ∀ {m : M} {v : V} {f : List Addr}, RepM K H O m v f → ∀ a ∈ f, ∃ u, H a = some u ∧ Mut (some u)
  | .d _, _, _, r => by
    simp only [RepM] at r
    intro a ha
    rw [r.1] at ha
    cases ha
  | .lst _, _, _, r => by
    simp only [RepM] at r
    obtain ⟨a, xs, e, ef, q, z⟩ := r
    subst ef
    intro b hb
    simp only [List.mem_singleton] at hb
    subst hb
    exact ⟨_, q, trivial⟩
  | .dct _, _, _, r => by
    simp only [RepM] at r
    obtain ⟨a, ks, g, e, ef, n, q, z⟩ := r
    subst ef
    intro b hb
    rcases List.mem_cons.mp hb with hb | hb
    · subst hb; exact ⟨_, q, trivial⟩
    · exact RepMs.there z b hb
theorem RepMs.there : ∀ {m : List (Key × M)} {v : List (Key × V)} {f : List Addr}, RepMs K H O m v f → ∀ a ∈ f, ∃ u, H a = some u ∧ Mut (some u)
  | [], _, _, r => by
    simp only [RepMs] at r
    intro a ha
    rw [r.2] at ha
    cases ha
  | (k, m) :: r, _, _, q => by
    simp only [RepMs] at q
    obtain ⟨x, s, f, g', e, eg, n, a, b⟩ := q
    subst eg
    intro c hc
    rcases List.mem_append.mp hc with hc | hc
    · exact RepM.there a c hc
    · exact RepMs.there b c hc
end
mutual
theorem RepM.kind : ∀ {m : M} {v : V} {f : List Addr}, RepM K H O m v f → ∀ a ∈ f, (∃ xs, H a = some (.lst xs)) ∨ ∃ kvs, H a = some (.dK kvs)
  | .d _, _, _, r => by
    simp only [RepM] at r
    intro a ha
    rw [r.1] at ha
    cases ha
  | .lst _, _, _, r => by
    simp only [RepM] at r
    obtain ⟨a, xs, e, ef, q, z⟩ := r
    subst ef
    intro b hb
    simp only [List.mem_singleton] at hb
    subst hb
    exact .inl ⟨_, q⟩
  | .dct _, _, _, r => by
    simp only [RepM] at r
    obtain ⟨a, ks, g, e, ef, n, q, z⟩ := r
    subst ef
    intro b hb
    rcases List.mem_cons.mp hb with hb | hb
    · subst hb; exact .inr ⟨_, q⟩
    · exact RepMs.kind z b hb
theorem RepMs.kind : ∀ {m : List (Key × M)} {v : List (Key × V)} {f : List Addr}, RepMs K H O m v f → ∀ a ∈ f, (∃ xs, H a = some (.lst xs)) ∨ ∃ kvs, H a = some (.dK kvs)
  | [], _, _, r => by
    simp only [RepMs] at r
    intro a ha
    rw [r.2] at ha
    cases ha
  | (k, m) :: r, _, _, q => by
    simp only [RepMs] at q
    obtain ⟨x, s, f, g', e, eg, n, a, b⟩ := q
    subst eg
    intro c hc
    rcases List.mem_append.mp hc with hc | hc
    · exact RepM.kind a c hc
    · exact RepMs.kind b c hc
end
theorem SR.there (h : SR K E env ts σ vs H F) {a : Addr} (o : Own F a) : ∃ u, H a = some u ∧ Mut (some u) := by
  obtain ⟨r, hr⟩ := o
  cases e : getR env ts r with
  | none => rw [h.emp r e] at hr; cases hr
  | some m =>
    obtain ⟨v, _, q⟩ := h.rep r m e
    exact q.there a hr
theorem SR.fresh_own (h : SR K E env ts σ vs H F) {p : Addr} (n : H p = none) : ¬ Own F p := fun o => by
  obtain ⟨u, e, _⟩ := h.there o
  rw [n] at e; cases e
theorem SR.kind (h : SR K E env ts σ vs H F) {a : Addr} (o : Own F a) : (∃ xs, H a = some (.lst xs)) ∨ ∃ kvs, H a = some (.dK kvs) := by
  obtain ⟨r, hr⟩ := o
  cases e : getR env ts r with
  | none => rw [h.emp r e] at hr; cases hr
  | some m =>
    obtain ⟨v, _, q⟩ := h.rep r m e
    exact q.kind a hr
theorem SR.notTab (h : SR K E env ts σ vs H F) {a : Addr} (o : Own F a) : ¬ tAt E.T a := fun ⟨p, hp, e⟩ => by
  obtain ⟨ps, e1, _⟩ := h.tab p hp
  rw [e] at e1
  rcases h.kind o with ⟨xs, z⟩ | ⟨xs, z⟩ <;> rw [e1] at z <;> cases z
theorem SR.theirs (h : SR K E env ts σ vs H F) {a : Addr} (z : E.A a ∨ tAt E.T a) : (∃ o, H a = some o) ∧ ¬ Own F a := by
  have tc : tAt E.T a → (∃ o, H a = some o) ∧ ¬ Own F a := fun z => by
    obtain ⟨p, hp, e⟩ := id z
    obtain ⟨ps, e1, _⟩ := h.tab p hp
    exact ⟨⟨_, by rw [← e]; exact e1⟩, fun q => h.notTab q z⟩
  rcases z with z | z
  · refine (Classical.em (tAt E.T a)).elim tc fun nt => ?_
    obtain ⟨n, o, e⟩ := h.av a z
    have q := h.step a o e fun z => z.elim n nt
    exact ⟨⟨o, q.1⟩, fun y => q.2 (.inl y)⟩
  · exact tc z
/-- the tables are kept by a step that spares them -/
theorem SR.tabs (h : SR K E env ts σ vs H F) {F' : Rt → List Addr} (st : Step H (Own F) H' (Own F')) : LamX.Tabs E.T H' := fun p hp => by
  obtain ⟨ps, e1, e2, e3⟩ := h.tab p hp
  refine ⟨ps, (st _ _ e1 fun o => h.notTab o ⟨p, hp, rfl⟩).1, e2, fun pos cv hc => ?_⟩
  obtain ⟨c, a, b⟩ := e3 pos cv hc
  refine ⟨c, a, (st _ _ b fun o => ?_).1⟩
  rcases h.kind o with ⟨xs, z⟩ | ⟨xs, z⟩ <;> rw [b] at z <;> exact absurd (Option.some.inj z) (by unfold LamX.CodeO; intro y; cases y)
theorem SR.fresh_av (h : SR K E env ts σ vs H F) {p : Addr} (n : H p = none) : ¬ Av E F p := fun o => by
  rcases o with o | o
  · exact h.fresh_own n o
  · obtain ⟨⟨u, e⟩, _⟩ := h.theirs o
    rw [n] at e; cases e
/-- the master rule -/
theorem SR.makeT (h : SR K E env ts σ vs H F) (st : Step H (fun a => Own F a ∨ tAt E.T a) H' (fun a => Own F' a ∨ tAt E.T a)) (tb : LamX.Tabs E.T H') (len : env'.length = σ'.length) (lent : ts'.length = vs'.length)
    (rep : ∀ r m, getR env' ts' r = some m → (∃ r0 v, getR env ts r0 = some m ∧ valR σ vs r0 = some v ∧ valR σ' vs' r = some v ∧ F' r = F r0 ∧ ∀ a ∈ F r0, H' a = H a) ∨
      (∃ v, valR σ' vs' r = some v ∧ RepM K H' (Av E F') m v (F' r)))
    (emp : ∀ r, getR env' ts' r = none → F' r = []) (dis : ∀ r r' a, a ∈ F' r → a ∈ F' r' → r = r') (io : ∀ p ∈ E.io, σ'[p.1]? = some (some p.2) := by first | exact h.io | assumption) (ln : env'.length = E.n := by first | exact h.ln | (rw [List.length_set]; exact h.ln) | assumption) : SR K E env' ts' σ' vs' H' F' := by
  refine ⟨len, lent, fun r m e => ?_, emp, dis, h.step.trans st, io, ln, h.av, tb⟩
  rcases rep r m e with ⟨r0, v, e0, v0, v1, ef, hk⟩ | q
  · obtain ⟨v', ev, q⟩ := h.rep r0 m e0
    rw [v0] at ev; cases ev
    refine ⟨v, v1, ?_⟩
    rw [ef]
    exact q.step (Av.stepT st) hk
  · exact q
/-- the master rule -/
theorem SR.make (h : SR K E env ts σ vs H F) (st : Step H (Own F) H' (Own F')) (len : env'.length = σ'.length) (lent : ts'.length = vs'.length)
    (rep : ∀ r m, getR env' ts' r = some m → (∃ r0 v, getR env ts r0 = some m ∧ valR σ vs r0 = some v ∧ valR σ' vs' r = some v ∧ F' r = F r0 ∧ ∀ a ∈ F r0, H' a = H a) ∨
      (∃ v, valR σ' vs' r = some v ∧ RepM K H' (Av E F') m v (F' r)))
    (emp : ∀ r, getR env' ts' r = none → F' r = []) (dis : ∀ r r' a, a ∈ F' r → a ∈ F' r' → r = r') (io : ∀ p ∈ E.io, σ'[p.1]? = some (some p.2) := by first | exact h.io | assumption) (ln : env'.length = E.n := by first | exact h.ln | (rw [List.length_set]; exact h.ln) | assumption) : SR K E env' ts' σ' vs' H' F' := h.makeT (st.wide _) (h.tabs st) len lent rep emp dis io ln
/-- the heap has grown -/
theorem SR.ext (h : SR K E env ts σ vs H F) (k : ∀ a o, H a = some o → H' a = some o) : SR K E env ts σ vs H' F := by
  refine h.make (fun a o e n => ⟨k a o e, n⟩) h.len h.lent (fun r m e => ?_) h.emp h.dis
  obtain ⟨v, ev, q⟩ := h.rep r m e
  refine .inl ⟨r, v, e, ev, ev, rfl, fun a ha => ?_⟩
  obtain ⟨u, eu, _⟩ := q.there a ha
  rw [eu]; exact k a u eu
theorem keep_upd {p : Addr} {o : HO} (n : H p = none) : ∀ a u, H a = some u → upd H p o a = some u := fun a u e => by
  rw [upd_ne (ne_of_none e n)]; exact e
theorem getR_push {m : M} {r : Rt} : getR env (ts ++ [m]) r = if r = .t ts.length then some m else getR env ts r := by
  cases r with
  | s i => simp [getR]
  | t j =>
    simp only [getR, Rt.t.injEq]
    by_cases e : j = ts.length
    · subst e; simp
    · rw [if_neg e]
      by_cases l : j < ts.length
      · rw [List.getElem?_append_left l]
      · rw [List.getElem?_eq_none (by simp; omega), List.getElem?_eq_none (by omega)]
theorem valR_push {v : V} {r : Rt} : valR σ (vs ++ [v]) r = if r = .t vs.length then some v else valR σ vs r := by
  cases r with
  | s i => simp [valR]
  | t j =>
    simp only [valR, Rt.t.injEq]
    by_cases e : j = vs.length
    · subst e; simp
    · rw [if_neg e]
      by_cases l : j < vs.length
      · rw [List.getElem?_append_left l]
      · rw [List.getElem?_eq_none (by simp; omega), List.getElem?_eq_none (by omega)]
theorem getR_last : getR env ts (.t ts.length) = none := by simp [getR]
theorem getR_set {i : Nat} {m : Option M} {r : Rt} (hi : i < env.length) : getR (env.set i m) ts r = if r = .s i then m else getR env ts r := by
  cases r with
  | t j => simp [getR]
  | s j =>
    simp only [getR, Rt.s.injEq]
    by_cases e : j = i
    · subst e; rw [if_pos rfl, List.getElem?_set_self hi]; rfl
    · rw [if_neg e, List.getElem?_set_ne (Ne.symm e)]
theorem valR_set {i : Nat} {v : Option V} {r : Rt} (hi : i < σ.length) : valR (σ.set i v) vs r = if r = .s i then v else valR σ vs r := by
  cases r with
  | t j => simp [valR]
  | s j =>
    simp only [valR, Rt.s.injEq]
    by_cases e : j = i
    · subst e; rw [if_pos rfl, List.getElem?_set_self hi]; rfl
    · rw [if_neg e, List.getElem?_set_ne (Ne.symm e)]
def fset (F : Rt → List Addr) (r : Rt) (f : List Addr) : Rt → List Addr := fun q => if q = r then f else F q
theorem own_fset {r : Rt} {f : List Addr} (hr : F r = []) {a : Addr} : Own (fset F r f) a ↔ a ∈ f ∨ Own F a := by
  constructor
  · rintro ⟨q, hq⟩
    unfold fset at hq
    split at hq
    · exact .inl hq
    · exact .inr ⟨q, hq⟩
  · rintro (h | ⟨q, hq⟩)
    · exact ⟨r, by simp [fset, h]⟩
    · refine ⟨q, ?_⟩
      unfold fset
      split
      · rename_i e; subst e; rw [hr] at hq; cases hq
      · exact hq
/-- a new root on the stack; its footprint is new -/
theorem SR.push (h : SR K E env ts σ vs H F) {m : M} {v : V} {f : List Addr} (k : ∀ a o, H a = some o → H' a = some o) (hf : ∀ a ∈ f, H a = none)
    (q : RepM K H' (Av E (fset F (.t ts.length) f)) m v f) : SR K E env (ts ++ [m]) σ (vs ++ [v]) H' (fset F (.t ts.length) f) := by
  have hl : F (.t ts.length) = [] := h.emp _ getR_last
  have nf : ∀ a, a ∈ f → ¬ Own F a := fun a ha => h.fresh_own (hf a ha)
  refine h.make (fun a o e n => ⟨k a o e, fun z => ?_⟩) h.len (by simp [h.lent]) (fun r m' e => ?_) (fun r e => ?_) (fun r r' a h1 h2 => ?_)
  · rcases (own_fset hl).mp z with z | z
    · rw [hf a z] at e; cases e
    · exact n z
  · rw [getR_push] at e
    by_cases er : r = .t ts.length
    · rw [if_pos er] at e
      cases e
      refine .inr ⟨v, ?_, ?_⟩
      · rw [valR_push, ← h.lent, if_pos er]
      · subst er; rw [show fset F (.t ts.length) f (.t ts.length) = f by simp [fset]]; exact q
    · rw [if_neg er] at e
      obtain ⟨v', ev, q'⟩ := h.rep r m' e
      refine .inl ⟨r, v', e, ev, ?_, by simp [fset, er], fun a ha => ?_⟩
      · rw [valR_push, ← h.lent, if_neg er]; exact ev
      · obtain ⟨u, eu, _⟩ := q'.there a ha
        rw [eu]; exact k a u eu
  · rw [getR_push] at e
    split at e
    · cases e
    · rename_i er; simp [fset, er]; exact h.emp r e
  · unfold fset at h1 h2
    split at h1 <;> split at h2
    · rename_i e1 e2; rw [e1, e2]
    · exact absurd ⟨r', h2⟩ (nf a h1)
    · exact absurd ⟨r, h1⟩ (nf a h2)
    · exact h.dis r r' a h1 h2
theorem fset_same {r : Rt} (h : F r = []) : fset F r [] = F := by
  funext q; unfold fset; split
  · rename_i e; rw [e, h]
  · rfl
/-- a frozen datum on the stack -/
theorem SR.pushD (h : SR K E env ts σ vs H F) {d : D} {v : V} (q : Rep K H (Av E F) d v) : SR K E env (ts ++ [.d d]) σ (vs ++ [v]) H F := by
  have hl : F (.t ts.length) = [] := h.emp _ getR_last
  have := h.push (m := .d d) (v := v) (f := []) (H' := H) (fun _ _ e => e) (by simp) (by rw [fset_same hl]; exact ⟨rfl, q⟩)
  rwa [fset_same hl] at this
/-- the top of the stack goes -/
theorem SR.pop {m : M} {v : V} (h : SR K E env (ts ++ [m]) σ (vs ++ [v]) H F) (ht : ts.length = vs.length) :
    SR K E env ts σ vs H (fset F (.t ts.length) []) ∧ RepM K H (Av E F) m v (F (.t ts.length)) := by
  have hl : getR env (ts ++ [m]) (.t ts.length) = some m := by rw [getR_push, if_pos rfl]
  obtain ⟨v', ev, q⟩ := h.rep _ _ hl
  rw [valR_push, ht, if_pos rfl] at ev
  cases ev
  refine ⟨?_, q⟩
  refine h.make (fun a o e n => ⟨e, fun z => ?_⟩) h.len ht (fun r m' e => ?_) (fun r e => ?_) (fun r r' a h1 h2 => ?_)
  · obtain ⟨q, hq⟩ := z
    unfold fset at hq
    split at hq
    · cases hq
    · exact n ⟨q, hq⟩
  · have er : r ≠ .t ts.length := fun er => by subst er; rw [getR_last] at e; cases e
    have e' : getR env (ts ++ [m]) r = some m' := by rw [getR_push, if_neg er]; exact e
    obtain ⟨v', ev, _⟩ := h.rep r m' e'
    refine .inl ⟨r, v', e', ev, ?_, by simp [fset, er], fun _ _ => rfl⟩
    rw [valR_push, ← ht, if_neg er] at ev
    exact ev
  · unfold fset
    split
    · rfl
    · rename_i er
      exact h.emp r (by rw [getR_push, if_neg er]; exact e)
  · unfold fset at h1 h2
    split at h1
    · cases h1
    · split at h2
      · cases h2
      · exact h.dis r r' a h1 h2
theorem own_pop {r : Rt} {a : Addr} (z : Own (fset F r []) a) : Own F a ∧ ∀ (d : ∀ r r' a, a ∈ F r → a ∈ F r' → r = r'), a ∉ F r := by
  obtain ⟨q, hq⟩ := z
  unfold fset at hq
  split at hq
  · cases hq
  · rename_i ne
    exact ⟨⟨q, hq⟩, fun d h => ne (d _ _ a hq h)⟩
/-- the top of the stack, let go -/
theorem SR.popD {m : M} {v : V} (h : SR K E env (ts ++ [m]) σ (vs ++ [v]) H F) (ht : ts.length = vs.length) :
    ∃ F', SR K E env ts σ vs H F' ∧ Rep K H (Av E F') (freeze m) v := by
  obtain ⟨h1, q⟩ := h.pop ht
  exact ⟨_, h1, q.freeze (fun a z => z.imp_left fun z => (own_pop z).1) fun a ha z => z.elim (fun z => (own_pop z).2 h.dis ha) fun z => (h.theirs z).2 ⟨_, ha⟩⟩
/-- a slot's value onto the stack -/
theorem SR.take (h : SR K E env ts σ vs H F) {i : Nat} {m : M} (e : getR env ts (.s i) = some m) :
    ∃ v F', valR σ vs (.s i) = some v ∧ SR K E (env.set i none) (ts ++ [m]) σ (vs ++ [v]) H F' := by
  have hi : i < env.length := by
    have e' : (env[i]?).join = some m := e
    apply Classical.byContradiction
    intro n
    rw [List.getElem?_eq_none (by omega)] at e'
    cases e'
  obtain ⟨v, ev, q⟩ := h.rep _ _ e
  have hl : F (.t ts.length) = [] := h.emp _ getR_last
  refine ⟨v, fun r => if r = .t ts.length then F (.s i) else if r = .s i then [] else F r, ev, ?_⟩
  have own_eq : Own (fun r => if r = .t ts.length then F (.s i) else if r = .s i then [] else F r) = Own F := by
    funext a
    apply propext
    constructor
    · rintro ⟨r, hr⟩
      try dsimp only at hr
      split at hr
      · exact ⟨_, hr⟩
      · split at hr
        · cases hr
        · exact ⟨_, hr⟩
    · rintro ⟨r, hr⟩
      by_cases e1 : r = .s i
      · exact ⟨.t ts.length, by subst e1; simpa using hr⟩
      · by_cases e2 : r = .t ts.length
        · subst e2; rw [hl] at hr; cases hr
        · exact ⟨r, by simp [e1, e2, hr]⟩
  refine h.make (by rw [own_eq]; exact Step.refl) (by simp [h.len]) (by simp [h.lent]) (fun r m' e' => ?_) (fun r e' => ?_) (fun r r' a h1 h2 => ?_)
  · rw [getR_push] at e'
    split at e'
    · rename_i er
      cases e'
      exact .inl ⟨.s i, v, e, ev, by rw [valR_push, ← h.lent, if_pos er], by simp [er], fun _ _ => rfl⟩
    · rename_i er
      rw [getR_set hi] at e'
      split at e'
      · cases e'
      · rename_i es
        obtain ⟨v', ev', _⟩ := h.rep r m' e'
        exact .inl ⟨r, v', e', ev', by rw [valR_push, ← h.lent, if_neg er]; exact ev', by simp [er, es], fun _ _ => rfl⟩
  · rw [getR_push] at e'
    split at e'
    · cases e'
    · rename_i er
      rw [getR_set hi] at e'
      try dsimp only
      rw [if_neg er]
      split
      · rfl
      · rename_i es
        rw [if_neg es] at e'
        exact h.emp r e'
  · try dsimp only at h1 h2
    by_cases e1 : r = .t ts.length <;> by_cases e2 : r' = .t ts.length
    · rw [e1, e2]
    · rw [if_pos e1] at h1
      rw [if_neg e2] at h2
      split at h2
      · cases h2
      · rename_i es; exact absurd (h.dis _ _ a h2 h1) es
    · rw [if_neg e1] at h1
      rw [if_pos e2] at h2
      split at h1
      · cases h1
      · rename_i es; exact absurd (h.dis _ _ a h1 h2) es
    · rw [if_neg e1] at h1
      rw [if_neg e2] at h2
      split at h1
      · cases h1
      · split at h2
        · cases h2
        · exact h.dis _ _ a h1 h2
/-- the top of the stack into a slot -/
theorem SR.put {m : M} {v : V} (h : SR K E env (ts ++ [m]) σ (vs ++ [v]) H F) (ht : ts.length = vs.length) {i : Nat} (hi : i < env.length) (hio : ∀ p ∈ E.io, p.1 ≠ i ∨ p.2 = v) :
    ∃ F', SR K E (env.set i (some m)) ts (σ.set i (some v)) vs H F' := by
  have hl : getR env (ts ++ [m]) (.t ts.length) = some m := by rw [getR_push, if_pos rfl]
  have hiσ : i < σ.length := by rw [← h.len]; exact hi
  have io' : ∀ p ∈ E.io, (σ.set i (some v))[p.1]? = some (some p.2) := fun p hp => by
    by_cases e : i = p.1
    · subst e
      rw [List.getElem?_set_self hiσ]
      rcases hio p hp with n | n
      · exact absurd rfl n
      · rw [n]
    · rw [List.getElem?_set_ne e]
      exact h.io p hp
  refine ⟨fun r => if r = .s i then F (.t ts.length) else if r = .t ts.length then [] else F r, ?_⟩
  refine h.make (fun a o e n => ⟨e, fun z => ?_⟩) (by simp [h.len]) ht (fun r m' e' => ?_) (fun r e' => ?_) (fun r r' a h1 h2 => ?_)
  · obtain ⟨q, hq⟩ := z
    try dsimp only at hq
    split at hq
    · exact n ⟨_, hq⟩
    · split at hq
      · cases hq
      · exact n ⟨_, hq⟩
  · rw [getR_set hi] at e'
    split at e'
    · rename_i er
      cases e'
      exact .inl ⟨.t ts.length, v, hl, by rw [valR_push, ht, if_pos rfl], by rw [valR_set hiσ, if_pos er], by simp [er], fun _ _ => rfl⟩
    · rename_i er
      have et : r ≠ .t ts.length := fun et => by subst et; rw [getR_last] at e'; cases e'
      have e2 : getR env (ts ++ [m]) r = some m' := by rw [getR_push, if_neg et]; exact e'
      obtain ⟨v', ev', _⟩ := h.rep r m' e2
      refine .inl ⟨r, v', e2, ev', ?_, by simp [er, et], fun _ _ => rfl⟩
      rw [valR_set hiσ, if_neg er]
      rw [valR_push, ← ht, if_neg et] at ev'
      exact ev'
  · rw [getR_set hi] at e'
    try dsimp only
    split at e'
    · cases e'
    · rename_i er
      rw [if_neg er]
      split
      · rfl
      · rename_i et
        exact h.emp r (by rw [getR_push, if_neg et]; exact e')
  · try dsimp only at h1 h2
    by_cases e1 : r = .s i <;> by_cases e2 : r' = .s i
    · rw [e1, e2]
    · rw [if_pos e1] at h1
      rw [if_neg e2] at h2
      split at h2
      · cases h2
      · rename_i es; exact absurd (h.dis _ _ a h2 h1) es
    · rw [if_neg e1] at h1
      rw [if_pos e2] at h2
      split at h1
      · cases h1
      · rename_i es; exact absurd (h.dis _ _ a h1 h2) es
    · rw [if_neg e1] at h1
      rw [if_neg e2] at h2
      split at h1
      · cases h1
      · split at h2
        · cases h2
        · exact h.dis _ _ a h1 h2
/-- a slot is forgotten -/
theorem SR.drop (h : SR K E env ts σ vs H F) (i : Nat) : ∃ F', SR K E (env.set i none) ts σ vs H F' := by
  by_cases hi : i < env.length
  · refine ⟨fset F (.s i) [], ?_⟩
    refine h.make (fun a o e n => ⟨e, fun z => n (own_pop z).1⟩) (by simp [h.len]) h.lent (fun r m' e' => ?_) (fun r e' => ?_) (fun r r' a h1 h2 => ?_)
    · rw [getR_set hi] at e'
      split at e'
      · cases e'
      · rename_i er
        obtain ⟨v', ev', _⟩ := h.rep r m' e'
        exact .inl ⟨r, v', e', ev', ev', by simp [fset, er], fun _ _ => rfl⟩
    · rw [getR_set hi] at e'
      unfold fset
      split
      · rfl
      · rename_i er
        rw [if_neg er] at e'
        exact h.emp r e'
    · unfold fset at h1 h2
      split at h1
      · cases h1
      · split at h2
        · cases h2
        · exact h.dis r r' a h1 h2
  · refine ⟨F, ?_⟩
    rw [List.set_eq_of_length_le (by omega)]
    exact h
/-- a root's value is replaced by another one of the same footprint or less, the heap written there alone -/
theorem SR.write (h : SR K E env ts σ vs H F) {r : Rt} {m m' : M} {v : V} {f : List Addr} (e : getR env ts r = some m) (ev : valR σ vs r = some v)
    (henv : ∀ q, getR env' ts' q = if q = r then some m' else getR env ts q) (hl : env'.length = env.length) (hlt : ts'.length = ts.length)
    (k : ∀ a o, a ∉ F r → H a = some o → H' a = some o) (hf : ∀ a ∈ f, a ∈ F r ∨ H a = none)
    (q : RepM K H' (Av E (fset F r f)) m' v f) : SR K E env' ts' σ vs H' (fset F r f) := by
  have nf : ∀ a, a ∈ f → ∀ r', r' ≠ r → a ∉ F r' := fun a ha r' ne h' => by
    rcases hf a ha with z | z
    · exact ne (h.dis _ _ a h' z)
    · exact h.fresh_own z ⟨r', h'⟩
  have ln' : env'.length = E.n := by rw [hl]; exact h.ln
  refine h.make (fun a o ea n => ⟨k a o (fun z => n ⟨r, z⟩) ea, fun z => ?_⟩) (by rw [hl]; exact h.len) (by rw [hlt]; exact h.lent) (fun r1 m1 e1 => ?_) (fun r1 e1 => ?_) (fun r1 r2 a h1 h2 => ?_)
  · obtain ⟨q1, hq⟩ := z
    unfold fset at hq
    split at hq
    · rcases hf a hq with z | z
      · exact n ⟨r, z⟩
      · rw [z] at ea; cases ea
    · exact n ⟨q1, hq⟩
  · rw [henv] at e1
    split at e1
    · rename_i er
      cases e1
      subst er
      exact .inr ⟨v, ev, by rw [show fset F r1 f r1 = f by simp [fset]]; exact q⟩
    · rename_i er
      obtain ⟨v', ev', q'⟩ := h.rep r1 m1 e1
      refine .inl ⟨r1, v', e1, ev', ev', by simp [fset, er], fun a ha => ?_⟩
      obtain ⟨u, eu, _⟩ := q'.there a ha
      rw [eu]
      exact k a u (fun z => er (h.dis _ _ a ha z)) eu
  · rw [henv] at e1
    unfold fset
    split at e1
    · cases e1
    · rename_i er
      rw [if_neg er]
      exact h.emp r1 e1
  · unfold fset at h1 h2
    split at h1 <;> split at h2
    · rename_i x1 x2; rw [x1, x2]
    · rename_i x1 x2; exact absurd h2 (nf a h1 r2 x2)
    · rename_i x1 x2; exact absurd h1 (nf a h2 r1 x1)
    · exact h.dis r1 r2 a h1 h2
/-- what lies between the stack's base and its top goes -/
theorem SR.squash {tm : List M} {vm : List V} {tk : List M} {vk : List V} (h : SR K E env (ts ++ tm ++ tk) σ (vs ++ vm ++ vk) H F) (ht : ts.length = vs.length) (hm : tm.length = vm.length) : ∃ F', SR K E env (ts ++ tk) σ (vs ++ vk) H F' := by
  let φ : Rt → Rt := fun r => match r with
    | .s i => .s i
    | .t j => if j < ts.length then .t j else .t (j + tm.length)
  have hg : ∀ r, getR env (ts ++ tm ++ tk) (φ r) = getR env (ts ++ tk) r := fun r => by
    cases r with
    | s i => rfl
    | t j =>
      show getR env _ (if j < ts.length then Rt.t j else .t (j + tm.length)) = _
      split
      · rename_i l
        show (ts ++ tm ++ tk)[j]? = (ts ++ tk)[j]?
        rw [List.append_assoc, List.getElem?_append_left l, List.getElem?_append_left l]
      · rename_i l
        show (ts ++ tm ++ tk)[j + tm.length]? = (ts ++ tk)[j]?
        rw [List.getElem?_append_right (by simp; omega), List.getElem?_append_right (by omega)]
        congr 1
        simp
        omega
  have hv : ∀ r, valR σ (vs ++ vm ++ vk) (φ r) = valR σ (vs ++ vk) r := fun r => by
    cases r with
    | s i => rfl
    | t j =>
      show valR σ _ (if j < ts.length then Rt.t j else .t (j + tm.length)) = _
      split
      · rename_i l
        show (vs ++ vm ++ vk)[j]? = (vs ++ vk)[j]?
        rw [List.append_assoc, List.getElem?_append_left (by omega), List.getElem?_append_left (by omega)]
      · rename_i l
        show (vs ++ vm ++ vk)[j + tm.length]? = (vs ++ vk)[j]?
        rw [List.getElem?_append_right (by simp; omega), List.getElem?_append_right (by omega)]
        congr 1
        simp
        omega
  have inj : ∀ r r', φ r = φ r' → r = r' := fun r r' e => by
    cases r with
    | s i =>
      cases r' with
      | s j => exact e
      | t j =>
        have e : Rt.s i = (if j < ts.length then Rt.t j else .t (j + tm.length)) := e
        split at e <;> cases e
    | t j =>
      cases r' with
      | s i =>
        have e : (if j < ts.length then Rt.t j else .t (j + tm.length)) = Rt.s i := e
        split at e <;> cases e
      | t i =>
        have e : (if j < ts.length then Rt.t j else Rt.t (j + tm.length)) = (if i < ts.length then Rt.t i else .t (i + tm.length)) := e
        split at e <;> split at e <;> (injection e with e; congr 1 <;> omega)
  refine ⟨fun r => F (φ r), ?_⟩
  have hl := h.lent
  simp only [List.length_append] at hl
  refine h.make (fun a o e n => ⟨e, fun ⟨r, z⟩ => n ⟨_, z⟩⟩) h.len (by simp; omega) (fun r m e => ?_) (fun r e => h.emp _ (by rw [hg]; exact e)) (fun r r' a h1 h2 => inj _ _ (h.dis _ _ a h1 h2))
  rw [← hg] at e
  obtain ⟨v, ev, _⟩ := h.rep _ m e
  exact .inl ⟨φ r, v, e, ev, by rw [← hv]; exact ev, rfl, fun _ _ => rfl⟩
theorem SRel.squash {tm : List M} {vm : List V} {tk : List M} {vk : List V} (h : SRel K E env (ts ++ tm ++ tk) σ (vs ++ vm ++ vk) H) (ht : ts.length = vs.length) (hm : tm.length = vm.length) : SRel K E env (ts ++ tk) σ (vs ++ vk) H := by
  obtain ⟨F, h⟩ := h
  exact h.squash ht hm
theorem SR.pops {tm : List M} {vm : List V} (h : SR K E env (ts ++ tm) σ (vs ++ vm) H F) (ht : ts.length = vs.length) (hm : tm.length = vm.length) : ∃ F', SR K E env ts σ vs H F' := by
  have h' : SR K E env (ts ++ tm ++ []) σ (vs ++ vm ++ []) H F := by simpa using h
  obtain ⟨F', q⟩ := h'.squash ht hm
  exact ⟨F', by simpa using q⟩
theorem SRel.pops {tm : List M} {vm : List V} (h : SRel K E env (ts ++ tm) σ (vs ++ vm) H) (ht : ts.length = vs.length) (hm : tm.length = vm.length) : SRel K E env ts σ vs H := by
  obtain ⟨F, h⟩ := h
  exact h.pops ht hm
theorem SRel.lent (h : SRel K E env ts σ vs H) : ts.length = vs.length := by
  obtain ⟨F, h⟩ := h
  exact h.lent
end
end Yf
namespace Yf
open PySem PySem.Spec L2
open PyProof.Rows hiding St
/-- an exception: the class by its name, its own fields -/
structure Xc where
  cls : Str
  fs : List (Str × D)
inductive Res (α : Type) where
  | ok (a : α) (env : Sl)
  | exc (x : Xc) (env : Sl)
  | stuck
def Res.bind {α β : Type} (r : Res α) (f : α → Sl → Res β) : Res β :=
  match r with
  | .ok a env => f a env
  | .exc x env => .exc x env
  | .stuck => .stuck
/-- a value on the stack, or a slot's -/
abbrev Rv := Sum Nat M
def ext : Rv → List M
  | .inl _ => []
  | .inr m => [m]
def extV : Rv → V → List V
  | .inl _, _ => []
  | .inr _, v => [v]
def root : Rv → Nat → Rt
  | .inl i, _ => .s i
  | .inr _, n => .t n
def getO (env : Sl) : Rv → Option M
  | .inl i => (env[i]?).join
  | .inr m => some m
theorem ext_len (p : Rv) (v : V) : (ext p).length = (extV p v).length := by cases p <;> rfl
def exts : List Rv → List M
  | [] => []
  | p :: ps => ext p ++ exts ps
def extVs : List Rv → List V → List V
  | p :: ps, v :: vs => extV p v ++ extVs ps vs
  | _, _ => []
def roots : List Rv → Nat → List Rt
  | [], _ => []
  | p :: ps, n => root p n :: roots ps (n + (ext p).length)
theorem exts_len : ∀ {ps : List Rv} {ws : List V}, ws.length = ps.length → (exts ps).length = (extVs ps ws).length
  | [], [], _ => rfl
  | p :: ps, w :: ws, h => by
    simp only [exts, extVs, List.length_append]
    rw [ext_len p w, exts_len (ps := ps) (ws := ws) (by simpa using h)]
def ValsAre (σ : St) (vs : List V) : List Rt → List V → Prop
  | [], [] => True
  | r :: rs, w :: ws => valR σ vs r = some w ∧ ValsAre σ vs rs ws
  | _, _ => False
def FsRel (K : PySem.W.Frag) (H : Hp) (O : Addr → Prop) : List (Str × D) → List (Str × V) → Prop
  | [], fs => fs = []
  | (n, d) :: r, fs => ∃ v s, fs = (n, v) :: s ∧ Rep K H O d v ∧ FsRel K H O r s
theorem FsRel.step {K : PySem.W.Frag} {H H' : Hp} {O O' : Addr → Prop} (h : Step H O H' O') : ∀ {ds : List (Str × D)} {vs : List (Str × V)}, FsRel K H O ds vs → FsRel K H' O' ds vs
  | [], _, r => r
  | (k, d) :: ds, _, r => by
    obtain ⟨v, s, e, a, b⟩ := r
    exact ⟨v, s, e, a.step h, FsRel.step h b⟩
def XRel (K : PySem.W.Frag) (mg : Str → Option Value) (H : Hp) (O : Addr → Prop) (x : Xc) (cls : Value) (dx : Option Addr) : Prop :=
  ∃ C p fs, mg x.cls = some (.ref C) ∧ cls = .ref C ∧ dx = some p ∧ H p = some (.xd fs) ∧ ¬ O p ∧ FsRel K H O x.fs fs
theorem XRel.step {K : PySem.W.Frag} {mg : Str → Option Value} {H H' : Hp} {O O' : Addr → Prop} (h : Step H O H' O') {x : Xc} {cls : Value} {dx : Option Addr} (r : XRel K mg H O x cls dx) : XRel K mg H' O' x cls dx := by
  obtain ⟨C, p, fs, a, b, c, d, e, f⟩ := r
  exact ⟨C, p, fs, a, b, c, (h p _ d e).1, (h p _ d e).2, f.step h⟩
def SRelX (K : PySem.W.Frag) (mg : Str → Option Value) (E : Ent) (env : Sl) (ts : List M) (σ : St) (vs : List V) (H : Hp) (x : Xc) (cls : Value) (dx : Option Addr) : Prop :=
  ∃ F, SR K E env ts σ vs H F ∧ XRel K mg H (Av E F) x cls dx
/-- a context's constants -/
structure Kx where
  K : PySem.W.Frag
  mg : Str → Option Value
  E : Ent
  W : WX
def Post (C : Kx) (R : Res Rv) (ts : List M) (σ : St) (vs : List V) (Q : VK) : Prop :=
  match R with
  | .ok p env => ∀ v H, SRel C.K C.E env (ts ++ ext p) σ (vs ++ extV p v) H → valR σ (vs ++ extV p v) (root p ts.length) = some v → Q v H
  | .exc x env => ∀ cls dx H, SRelX C.K C.mg C.E env ts σ vs H x cls dx → C.W cls dx σ H
  | .stuck => False
def PostA (C : Kx) (R : Res (List Rv)) (ts : List M) (σ : St) (vs : List V) (Q : List V → Hp → Prop) : Prop :=
  match R with
  | .ok ps env => ∀ ws H, ws.length = ps.length → SRel C.K C.E env (ts ++ exts ps) σ (vs ++ extVs ps ws) H → ValsAre σ (vs ++ extVs ps ws) (roots ps ts.length) ws → Q ws H
  | .exc x env => ∀ cls dx H, SRelX C.K C.mg C.E env ts σ vs H x cls dx → C.W cls dx σ H
  | .stuck => False
def tE (C : Kx) (f : Sl → Res Rv) : TE := fun σ H Q => ∃ env ts vs, SRel C.K C.E env ts σ vs H ∧ Post C (f env) ts σ vs Q
def tAs : List TE → TA
  | [] => tNil
  | t :: r => tCons t (tAs r)
def evs : List (Sl → Res Rv) → Sl → Res (List Rv)
  | [], env => .ok [] env
  | f :: fs, env => (f env).bind fun p env1 => (evs fs env1).bind fun ps env2 => .ok (p :: ps) env2
section
variable {C : Kx} {env : Sl} {ts : List M} {σ : St} {vs : List V} {H : Hp}
/-- the base of the stack alone -/
theorem SR.base {K : PySem.W.Frag} {E : Ent} {tm : List M} {vm : List V} {F : Rt → List Addr} (h : SR K E env (ts ++ tm) σ (vs ++ vm) H F) (ht : ts.length = vs.length) :
    ∃ F2, SR K E env ts σ vs H F2 ∧ (∀ a, Own F2 a → Own F a) ∧ ∀ j a, ts.length ≤ j → a ∈ F (.t j) → ¬ Own F2 a := by
  refine ⟨fun r => match r with | .s i => F (.s i) | .t j => if j < ts.length then F (.t j) else [], ?_, ?_, ?_⟩
  · have sub : ∀ r m, getR env ts r = some m → getR env (ts ++ tm) r = some m := fun r m e => by
      cases r with
      | s i => exact e
      | t j =>
        have e : ts[j]? = some m := e
        have l := (List.getElem?_eq_some_iff.mp e).1
        show (ts ++ tm)[j]? = some m
        rw [List.getElem?_append_left l]; exact e
    have same : ∀ r, (match r with | .s i => F (.s i) | .t j => if j < ts.length then F (.t j) else []) = F r ∨ (match r with | .s i => F (.s i) | .t j => if j < ts.length then F (.t j) else []) = [] := fun r => by
      cases r with
      | s i => exact .inl rfl
      | t j => by_cases l : j < ts.length <;> simp [l]
    have mem : ∀ r a, a ∈ (match r with | .s i => F (.s i) | .t j => if j < ts.length then F (.t j) else []) → a ∈ F r := fun r a ha => by
      rcases same r with e | e
      · rw [e] at ha; exact ha
      · rw [e] at ha; cases ha
    refine h.make (fun a o e n => ⟨e, fun ⟨r, z⟩ => n ⟨r, mem r a z⟩⟩) h.len ht (fun r m e => ?_) (fun r e => ?_) (fun r r' a h1 h2 => h.dis r r' a (mem r a h1) (mem r' a h2))
    · obtain ⟨v, ev, _⟩ := h.rep r m (sub r m e)
      refine .inl ⟨r, v, sub r m e, ev, ?_, ?_, fun _ _ => rfl⟩
      · cases r with
        | s i => exact ev
        | t j =>
          have e : ts[j]? = some m := e
          have l := (List.getElem?_eq_some_iff.mp e).1
          have ev : (vs ++ vm)[j]? = some v := ev
          rw [List.getElem?_append_left (by omega)] at ev
          exact ev
      · cases r with
        | s i => rfl
        | t j =>
          have e : ts[j]? = some m := e
          have l := (List.getElem?_eq_some_iff.mp e).1
          simp [l]
    · cases r with
      | s i => exact h.emp (.s i) e
      | t j =>
        have e : ts[j]? = none := e
        have l := List.getElem?_eq_none_iff.mp e
        simp [Nat.not_lt.mpr l]
  · rintro a ⟨r, z⟩
    refine ⟨r, ?_⟩
    cases r with
    | s i => exact z
    | t j =>
      dsimp only at z
      split at z
      · exact z
      · cases z
  · rintro j a hj ha ⟨r, z⟩
    have z' : a ∈ F r ∧ r ≠ .t j := by
      cases r with
      | s i => exact ⟨z, by intro e; cases e⟩
      | t i =>
        dsimp only at z
        split at z
        · refine ⟨z, ?_⟩
          intro e
          cases e
          omega
        · cases z
    exact z'.2 (h.dis _ _ a z'.1 ha)
theorem SRelX.pops {K : PySem.W.Frag} {mg : Str → Option Value} {E : Ent} {tm : List M} {vm : List V} {x : Xc} {cls : Value} {dx : Option Addr} (h : SRelX K mg E env (ts ++ tm) σ (vs ++ vm) H x cls dx) (ht : ts.length = vs.length) (hm : tm.length = vm.length) :
    SRelX K mg E env ts σ vs H x cls dx := by
  obtain ⟨F, h, q⟩ := h
  obtain ⟨F2, h2, sub, _⟩ := h.base ht
  exact ⟨F2, h2, q.step fun a o e n => ⟨e, fun z => n (z.imp_left (sub a))⟩⟩
theorem repAll_of {K : PySem.W.Frag} {O : Addr → Prop} : ∀ {ds : List D} {xs : List V}, ds.length = xs.length → (∀ (j : Nat) d x, ds[j]? = some d → xs[j]? = some x → Rep K H O d x) → RepAll K H O ds xs
  | [], [], _, _ => by simp [RepAll]
  | d :: ds, x :: xs, l, h => by
    simp only [RepAll]
    exact ⟨x, xs, rfl, h 0 d x rfl rfl, repAll_of (by simpa using l) fun j d' x' e e' => h (j + 1) d' x' (by simpa using e) (by simpa using e')⟩
/-- all values on the stack, let go -/
theorem SR.frees {K : PySem.W.Frag} {E : Ent} {ms : List M} {xs : List V} {F : Rt → List Addr} (h : SR K E env (ts ++ ms) σ (vs ++ xs) H F) (ht : ts.length = vs.length) :
    ∃ F2, SR K E env ts σ vs H F2 ∧ RepAll K H (Av E F2) (ms.map freeze) xs := by
  obtain ⟨F2, h2, sub, out⟩ := h.base ht
  have hl := h.lent
  simp only [List.length_append] at hl
  refine ⟨F2, h2, repAll_of (by simp; omega) fun j d x e e' => ?_⟩
  rw [List.getElem?_map] at e
  cases em : ms[j]? with
  | none => rw [em] at e; cases e
  | some m =>
    rw [em] at e
    cases e
    have er : getR env (ts ++ ms) (.t (ts.length + j)) = some m := by
      show (ts ++ ms)[ts.length + j]? = some m
      rw [List.getElem?_append_right (by omega)]; simpa using em
    obtain ⟨v, ev, q⟩ := h.rep _ _ er
    have ev : (vs ++ xs)[ts.length + j]? = some v := ev
    rw [List.getElem?_append_right (by omega), ht, Nat.add_sub_cancel_left, e'] at ev
    cases ev
    exact q.freeze (fun a z => z.imp_left (sub a)) fun a ha z => z.elim (out _ a (by omega) ha) fun z => (h.theirs z).2 ⟨_, ha⟩
theorem tA_of : ∀ {fs : List (Sl → Res Rv)} {env : Sl} {ts : List M} {vs : List V} {H : Hp} {Q : List V → Hp → Prop}, SRel C.K C.E env ts σ vs H → PostA C (evs fs env) ts σ vs Q → tAs (fs.map (tE C)) σ H Q
  | [], env, ts, vs, H, Q, h, q => by
    have := q [] H rfl (by simpa [exts, extVs] using h) trivial
    exact this
  | f :: fs, env, ts, vs, H, Q, h, q => by
    show tCons (tE C f) (tAs (fs.map (tE C))) σ H Q
    refine ⟨env, ts, vs, h, ?_⟩
    have lt := h.lent
    simp only [evs] at q
    cases e : f env with
    | stuck => rw [e] at q; exact q
    | exc x env1 => rw [e] at q; exact q
    | ok p env1 =>
      rw [e] at q
      simp only [Res.bind] at q
      intro v H1 h1 ev
      refine tA_of (fs := fs) h1 ?_
      cases e2 : evs fs env1 with
      | stuck => rw [e2] at q; exact q
      | exc x env2 =>
        rw [e2] at q
        intro cls dx H2 hx
        exact q cls dx H2 (hx.pops lt (ext_len p v))
      | ok ps env2 =>
        rw [e2] at q
        simp only at q
        intro ws H2 lw h2 va
        have sh : SRel C.K C.E env2 (ts ++ exts (p :: ps)) σ (vs ++ extVs (p :: ps) (v :: ws)) H2 := by
          simpa [exts, extVs, List.append_assoc] using h2
        refine q (v :: ws) H2 (by simp [lw]) sh ⟨?_, ?_⟩
        · cases p with
          | inl i => exact ev
          | inr m =>
            show (vs ++ (v :: extVs ps ws))[ts.length]? = some v
            rw [lt]; simp
        · simpa [extVs, List.append_assoc] using va
/-- expressions -/
structure DE (X : Cx) (C : Kx) (e : Expr) (f : Sl → Res Rv) : Prop where
  pe : PE X e (tE C f)
theorem _root_.L2.PE.weak {X : Cx} {e : Expr} {t t' : TE} (h : PE X e t) (w : ∀ σ H Q, t' σ H Q → t σ H Q) : PE X e t' := ⟨fun pins s σ H Q I q => h.run pins s σ H Q I (w σ H Q q)⟩
theorem _root_.L2.PT.weak {X : Cx} {e : Expr} {t t' : TT} (h : PT X e t) (w : ∀ σ H Q, t' σ H Q → t σ H Q) : PT X e t' := ⟨fun pins s σ H Q I q => h.run pins s σ H Q I (w σ H Q q)⟩
theorem _root_.L2.PW.weak {X : Cx} {e : Expr} {t t' : TT} (h : PW X e t) (w : ∀ σ H Q, t' σ H Q → t σ H Q) : PW X e t' := ⟨fun wh pins s σ H Q I q => h.run wh pins s σ H Q I (w σ H Q q)⟩
theorem _root_.L2.PS.weak {X : Cx} {e : Stmt} {t t' : TS} (h : PS X e t) (w : ∀ D σ H, t' D σ H → t D σ H) : PS X e t' := ⟨fun pins s σ H D I q => h.run pins s σ H D I (w D σ H q)⟩
theorem _root_.L2.PSs.weak {X : Cx} {e : List Stmt} {t t' : TS} (h : PSs X e t) (w : ∀ D σ H, t' D σ H → t D σ H) : PSs X e t' := ⟨fun pins s σ H D I q => h.run pins s σ H D I (w D σ H q)⟩
/-- a relation of roots, what they hold, their values -/
def RtsAre (env : Sl) (ts : List M) (σ : St) (vs : List V) : List Rt → List M → List V → Prop
  | [], [], [] => True
  | r :: rs, m :: ms, x :: xs => getR env ts r = some m ∧ valR σ vs r = some x ∧ RtsAre env ts σ vs rs ms xs
  | _, _, _ => False
/-- what an operation by values yields on roots -/
def SemN (C : Kx) (r : List V → Hp → VK → Prop) (g : List M → Option M) : Prop :=
  ∀ {env : Sl} {ts : List M} {σ : St} {vs : List V} {H : Hp} {F : Rt → List Addr} {rs : List Rt} {ms : List M} {xs : List V} {k : M} {Q : VK}, SR C.K C.E env ts σ vs H F → RtsAre env ts σ vs rs ms xs → g ms = some k →
    (∀ v H', SRel C.K C.E env (ts ++ [k]) σ (vs ++ [v]) H' → Q v H') → r xs H Q
def getOs (env : Sl) : List Rv → Option (List M)
  | [] => some []
  | p :: ps => (getO env p).bind fun m => (getOs env ps).map (m :: ·)
def evOp (g : List M → Option M) (fs : List (Sl → Res Rv)) : Sl → Res Rv := fun env => (evs fs env).bind fun ps env' =>
  match (getOs env' ps).bind g with
  | some k => .ok (.inr k) env'
  | none => .stuck
theorem getR_root {p : Rv} {env : Sl} {ts more : List M} : getR env (ts ++ ext p ++ more) (root p ts.length) = getO env p := by
  cases p with
  | inl i => rfl
  | inr m => simp [ext, root, getR, getO]
theorem rtsAre_of : ∀ {ps : List Rv} {env : Sl} {ts : List M} {σ : St} {vs : List V} {ms : List M} {ws : List V}, ws.length = ps.length → ts.length = vs.length → ValsAre σ (vs ++ extVs ps ws) (roots ps ts.length) ws → getOs env ps = some ms →
    RtsAre env (ts ++ exts ps) σ (vs ++ extVs ps ws) (roots ps ts.length) ms ws
  | [], _, _, _, _, ms, [], _, _, _, e => by
    simp only [getOs, Option.some.injEq] at e
    subst e
    trivial
  | p :: ps, env, ts, σ, vs, ms, w :: ws, l, lt, va, e => by
    simp only [getOs] at e
    cases e1 : getO env p with
    | none => rw [e1] at e; cases e
    | some m =>
      rw [e1] at e
      simp only [Option.bind_some] at e
      cases e2 : getOs env ps with
      | none => rw [e2] at e; cases e
      | some ms' =>
        rw [e2] at e
        simp only [Option.map_some, Option.some.injEq] at e
        subst e
        obtain ⟨v1, v2⟩ := va
        refine ⟨?_, v1, ?_⟩
        · show getR env (ts ++ (ext p ++ exts ps)) _ = _
          rw [← List.append_assoc, getR_root]; exact e1
        · have ih := rtsAre_of (ps := ps) (env := env) (ts := ts ++ ext p) (σ := σ) (vs := vs ++ extV p w) (ms := ms') (ws := ws) (by simpa using l) (by simp [lt, ext_len p w]) (by simpa [extVs, List.append_assoc, roots] using v2) e2
          simpa [exts, extVs, List.append_assoc, roots] using ih
theorem evOp_of {r : List V → Hp → VK → Prop} {g : List M → Option M} (S : SemN C r g) {fs : List (Sl → Res Rv)} {Q : VK} (h : tE C (evOp g fs) σ H Q) : tAs (fs.map (tE C)) σ H (fun xs H' => r xs H' Q) := by
  obtain ⟨env, ts, vs, h, q⟩ := h
  refine tA_of h ?_
  simp only [evOp] at q
  cases e : evs fs env with
  | stuck => rw [e] at q; exact q
  | exc x env1 => rw [e] at q; exact q
  | ok ps env1 =>
    rw [e] at q
    simp only [Res.bind] at q
    intro ws H1 lw h1 va
    cases e1 : getOs env1 ps with
    | none => rw [e1] at q; exact q.elim
    | some ms =>
      rw [e1] at q
      simp only [Option.bind_some] at q
      cases e2 : g ms with
      | none => rw [e2] at q; exact q.elim
      | some k =>
        rw [e2] at q
        simp only at q
        obtain ⟨F, h1⟩ := h1
        refine S h1 (rtsAre_of lw h.lent va e1) e2 fun v H' h2 => ?_
        have h3 := h2.squash (tk := [k]) (vk := [v]) h.lent (exts_len lw)
        refine q v H' h3 ?_
        show (vs ++ [v])[ts.length]? = some v
        rw [h.lent]; simp
/-- the reading of two by a list -/
theorem tOp_of {r : R2} {ta tb : TE} {Q : VK} (h : tAs [ta, tb] σ H fun xs H' => (match xs with | [x, y] => r x y H' Q | _ => False)) : tOp r ta tb σ H Q := h
/-- binary operators, comparisons -/
def R2l (r : R2) : List V → Hp → VK → Prop := fun xs H Q => match xs with | [x, y] => r x y H Q | _ => False
def R1l (r : V → Hp → VK → Prop) : List V → Hp → VK → Prop := fun xs H Q => match xs with | [x] => r x H Q | _ => False
variable {X : Cx} {a b : Expr} {fa fb : Sl → Res Rv} {pos : Pos}
theorem de_bin {op : Operator} {r : R2} {g : List M → Option M} (ho : OpR X (binaryOp op) r) (S : SemN C (R2l r) g) (ha : DE X C a fa) (hb : DE X C b fb) : DE X C (.BinOp a op b pos) (evOp g [fa, fb]) :=
  ⟨(pe_op ho ha.pe hb.pe).weak fun σ H Q h => evOp_of S h⟩
theorem de_cmp {op : CmpOp} {r : R2} {g : List M → Option M} (ho : OpR X (compareOp op) r) (S : SemN C (R2l r) g) (ha : DE X C a fa) (hb : DE X C b fb) (hm : behindInMarks op b = false) : DE X C (.Compare a [op] [b] pos) (evOp g [fa, fb]) :=
  ⟨(pe_cmpR ho ha.pe hb.pe hm).weak fun σ H Q h => evOp_of S h⟩
theorem de_un {op : UnaryOp} {r : V → Hp → VK → Prop} {g : List M → Option M} (ho : UnR X (unaryOp op) r) (S : SemN C (R1l r) g) (ha : DE X C a fa) : DE X C (.UnaryOp op a pos) (evOp g [fa]) :=
  ⟨(pe_un ho ha.pe).weak fun σ H Q h => evOp_of S h⟩
theorem de_ix {r : R2} {g : List M → Option M} (ho : IxR X r) (S : SemN C (R2l r) g) (ha : DE X C a fa) (hb : DE X C b fb) (hs : PlainIx b) : DE X C (.Subscript a b pos) (evOp g [fa, fb]) :=
  ⟨(pe_ix ho ha.pe hb.pe hs).weak fun σ H Q h => evOp_of S h⟩
end
end Yf
namespace Yf
open PySem PySem.Spec L2
open PyProof.Rows hiding St
section
variable {X : Cx} {C : Kx} {e a b c : Expr} {f fa fb fc : Sl → Res Rv} {pos : Pos} {σ : St} {H : Hp}
/-! ### constants and names -/
def evC (d : D) : Sl → Res Rv := fun env => .ok (.inr (.d d)) env
theorem flat_rep {K : PySem.W.Frag} {H : Hp} {O : Addr → Prop} : True := trivial
theorem tE_const {d : D} {v : V} (hr : ∀ (K : PySem.W.Frag) (H : Hp) (O : Addr → Prop), Rep K H O d v) {Q : VK} (h : tE C (evC d) σ H Q) : tC v σ H Q := by
  obtain ⟨env, ts, vs, h, q⟩ := h
  obtain ⟨F, h1⟩ := h
  refine q v H ⟨F, h1.pushD (hr _ _ _)⟩ ?_
  show (vs ++ [v])[ts.length]? = some v
  rw [h1.lent]; simp
theorem de_int {i : Int} {j : Nat} : DE X C (.Constant (.int i) j pos) (evC (.int i)) := ⟨pe_int.weak fun _ _ _ h => tE_const (fun _ _ _ => by simp only [Rep]) h⟩
theorem de_bl {i : Bool} {j : Nat} : DE X C (.Constant (.bool i) j pos) (evC (.bool i)) := ⟨pe_bl.weak fun _ _ _ h => tE_const (fun _ _ _ => by simp only [Rep]) h⟩
theorem de_str {i : Str} {j : Nat} : DE X C (.Constant (.str i) j pos) (evC (.str i)) := ⟨pe_str.weak fun _ _ _ h => tE_const (fun _ _ _ => by simp only [Rep]) h⟩
theorem de_non {j : Nat} : DE X C (.Constant .none j pos) (evC .none) := ⟨pe_non.weak fun _ _ _ h => tE_const (fun _ _ _ => by simp only [Rep]) h⟩
def evN (i : Nat) : Sl → Res Rv := fun env =>
  match (env[i]?).join with
  | some _ => .ok (.inl i) env
  | none => .stuck
theorem getσ {K : PySem.W.Frag} {E : Ent} {env : Sl} {ts : List M} {σ : St} {vs : List V} {H : Hp} {F : Rt → List Addr} {i : Nat} {m : M} (h : SR K E env ts σ vs H F) (e : (env[i]?).join = some m) : ∃ v, σ[i]? = some (some v) ∧ RepM K H (Av E F) m v (F (.s i)) := by
  obtain ⟨v, ev, q⟩ := h.rep (.s i) m e
  refine ⟨v, ?_, q⟩
  have ev : (σ[i]?).join = some v := ev
  cases e1 : σ[i]? with
  | none => rw [e1] at ev; cases ev
  | some o =>
    rw [e1] at ev
    exact congrArg some ev
theorem tE_name {i : Nat} {Q : VK} (h : tE C (evN i) σ H Q) : tVar i σ H Q := by
  obtain ⟨env, ts, vs, h, q⟩ := h
  obtain ⟨F, h1⟩ := h
  simp only [evN] at q
  cases e : (env[i]?).join with
  | none => rw [e] at q; exact q.elim
  | some m =>
    rw [e] at q
    obtain ⟨v, ev, _⟩ := getσ h1 e
    refine ⟨v, ev, q v H ⟨F, by simpa [ext, extV] using h1⟩ ?_⟩
    show (σ[i]?).join = some v
    rw [ev]; rfl
theorem de_name {i : Nat} {x : Str} (hN : X.N[i]? = some x) (hv : Vis X.env.scope x) (hd : (x == ("__debug__" : Str)) = false) (hcd : (x == ("__classdict__" : Str)) = false) : DE X C (.Name x pos) (evN i) :=
  ⟨(pe_var hN hv hd hcd).weak fun _ _ _ h => tE_name h⟩
/-- a slot's value let go -/
theorem SR.freeze {K : PySem.W.Frag} {E : Ent} {env : Sl} {ts : List M} {σ : St} {vs : List V} {H : Hp} {F : Rt → List Addr} {i : Nat} {m : M} (h : SR K E env ts σ vs H F) (e : (env[i]?).join = some m) :
    ∃ F' v, σ[i]? = some (some v) ∧ SR K E (env.set i (some (.d (freeze m)))) ts σ vs H F' ∧ Rep K H (Av E F') (freeze m) v := by
  obtain ⟨v, ev, q⟩ := getσ h e
  have hi : i < env.length := by
    apply Classical.byContradiction
    intro n
    rw [List.getElem?_eq_none (by omega)] at e
    cases e
  have fz : Rep K H (Av E (fset F (.s i) [])) (Yf.freeze m) v := q.freeze (fun a z => z.imp_left fun z => (own_pop z).1) fun a ha z => z.elim (fun z => (own_pop z).2 h.dis ha) fun z => (h.theirs z).2 ⟨_, ha⟩
  refine ⟨fset F (.s i) [], v, ev, ?_, fz⟩
  refine h.write (m' := .d (Yf.freeze m)) (r := .s i) (v := v) (f := []) e (by show (σ[i]?).join = _; rw [ev]; rfl) (fun q => ?_) (by simp) rfl (fun _ _ _ e => e) (by simp) ⟨rfl, fz⟩
  rw [getR_set hi]
/-- a value that may be kept: a slot's is let go -/
def valOf (p : Rv) (env : Sl) : Res Rv :=
  match p with
  | .inr m => .ok (.inr m) env
  | .inl i =>
    match (env[i]?).join with
    | some m => .ok (.inr (.d (freeze m))) (env.set i (some (.d (freeze m))))
    | none => .stuck
def evV (f : Sl → Res Rv) : Sl → Res Rv := fun env => (f env).bind valOf
theorem tE_val {Q : VK} (h : tE C (evV f) σ H Q) : tE C f σ H Q := by
  obtain ⟨env, ts, vs, h, q⟩ := h
  refine ⟨env, ts, vs, h, ?_⟩
  simp only [evV] at q
  cases e : f env with
  | stuck => rw [e] at q; exact q
  | exc x env1 => rw [e] at q; exact q
  | ok p env1 =>
    rw [e] at q
    simp only [Res.bind] at q
    cases p with
    | inr m => exact q
    | inl i =>
      intro v H1 h1 ev
      simp only [valOf] at q
      cases e2 : (env1[i]?).join with
      | none => rw [e2] at q; exact q.elim
      | some m =>
        rw [e2] at q
        obtain ⟨F, h1⟩ := h1
        have h1 : SR C.K C.E env1 ts σ vs H1 F := by simpa [ext, extV] using h1
        obtain ⟨F', v', ev', h2, q2⟩ := h1.freeze e2
        have ev : (σ[i]?).join = some v := ev
        rw [ev'] at ev
        cases ev
        refine q v H1 ⟨F', h2.pushD q2⟩ ?_
        show (vs ++ [v])[ts.length]? = some v
        rw [h1.lent]; simp
theorem de_val (h : DE X C e f) : DE X C e (evV f) := ⟨h.pe.weak fun _ _ _ q => tE_val q⟩
/-! ### lists of expressions -/
structure DA (X : Cx) (C : Kx) (es : List Expr) (fs : List (Sl → Res Rv)) : Prop where
  pa : PA X es (tAs (fs.map (tE C)))
theorem da_nil : DA X C [] [] := ⟨pa_nil⟩
theorem da_cons {es : List Expr} {fs : List (Sl → Res Rv)} (h : DE X C e f) (t : DA X C es fs) (hs : starEach (e :: es) X.env = (false, eval e X.env) :: starEach es X.env) : DA X C (e :: es) (f :: fs) := ⟨pa_cons h.pe t.pa hs⟩
/-! ### displays -/
/-- the arguments that a display keeps: all let go -/
def evTup (fs : List (Sl → Res Rv)) : Sl → Res Rv := fun env => (evs fs env).bind fun ps env' =>
  match getOs env' ps with
  | some ms => if ps.all (fun p => p.isRight) && decide (ms.length ≤ sizeLine) then .ok (.inr (.d (.tuple (ms.map freeze)))) env' else .stuck
  | none => .stuck
def evLst (fs : List (Sl → Res Rv)) : Sl → Res Rv := fun env => (evs fs env).bind fun ps env' =>
  match getOs env' ps with
  | some ms => if ps.all (fun p => p.isRight) && decide (ms.length ≤ sizeLine) then .ok (.inr (.lst (ms.map freeze))) env' else .stuck
  | none => .stuck
theorem exts_right : ∀ {ps : List Rv} {env : Sl} {ms : List M} {ws : List V}, ws.length = ps.length → ps.all (fun p => p.isRight) = true → getOs env ps = some ms → exts ps = ms ∧ extVs ps ws = ws
  | [], _, ms, [], _, _, e => by
    simp only [getOs, Option.some.injEq] at e
    subst e
    exact ⟨rfl, rfl⟩
  | .inl _ :: _, _, _, _, _, h, _ => by simp at h
  | .inr m :: ps, env, ms, w :: ws, l, h, e => by
    simp only [getOs, getO, Option.bind_some] at e
    cases e2 : getOs env ps with
    | none => rw [e2] at e; cases e
    | some ms' =>
      rw [e2] at e
      simp only [Option.map_some, Option.some.injEq] at e
      subst e
      obtain ⟨h1, h2⟩ := exts_right (ps := ps) (ws := ws) (by simpa using l) (by simpa using h) e2
      exact ⟨by simp [exts, ext, h1], by simp [extVs, extV, h2]⟩
/-- the common part of displays -/
theorem tDisp_of {fs : List (Sl → Res Rv)} {mk : List M → M} {Q : VK} {R : List V → Hp → Prop}
    (h : tE C (fun env => (evs fs env).bind fun ps env' => match getOs env' ps with
      | some ms => if ps.all (fun p => p.isRight) && decide (ms.length ≤ sizeLine) then .ok (.inr (mk ms)) env' else .stuck
      | none => .stuck) σ H Q)
    (k : ∀ env ts vs ms ws H1, SRel C.K C.E env (ts ++ ms) σ (vs ++ ws) H1 → ts.length = vs.length → ms.length = ws.length → ms.length ≤ sizeLine → (∀ v H2, SRel C.K C.E env (ts ++ [mk ms]) σ (vs ++ [v]) H2 → Q v H2) → R ws H1) : tAs (fs.map (tE C)) σ H R := by
  obtain ⟨env, ts, vs, h, q⟩ := h
  dsimp only at q
  refine tA_of h ?_
  cases e : evs fs env with
  | stuck => rw [e] at q; exact q
  | exc x env1 => rw [e] at q; exact q
  | ok ps env1 =>
    rw [e] at q
    simp only [Res.bind] at q
    intro ws H1 lw h1 va
    cases e1 : getOs env1 ps with
    | none => rw [e1] at q; exact q.elim
    | some ms =>
      rw [e1] at q
      simp only at q
      cases e2 : (ps.all (fun p => p.isRight) && decide (ms.length ≤ sizeLine)) with
      | false => rw [e2, if_neg (by decide)] at q; exact q.elim
      | true =>
        rw [e2, if_pos rfl] at q
        rw [Bool.and_eq_true, decide_eq_true_eq] at e2
        obtain ⟨x1, x2⟩ := exts_right lw e2.1 e1
        rw [x1, x2] at h1
        have hl := h1.lent
        simp only [List.length_append] at hl
        have lt := h.lent
        refine k env1 ts vs ms ws H1 h1 lt (by omega) e2.2 fun v H2 h2 => q v H2 h2 ?_
        show (vs ++ [v])[ts.length]? = some v
        rw [lt]; simp
theorem de_tup {es : List Expr} {fs : List (Sl → Res Rv)} {k : Nat} (h : DA X C es fs) : DE X C (.Tuple es k pos) (evTup fs) := by
  refine ⟨(pe_tup h.pa).weak fun σ H Q q => ?_⟩
  refine tDisp_of (mk := fun ms => .d (.tuple (ms.map freeze))) q fun env ts vs ms ws H1 ⟨F, h1⟩ lt lm lz k => ⟨by omega, fun p np => ?_⟩
  obtain ⟨F2, h2, q2⟩ := h1.frees lt
  have h3 := h2.ext (keep_upd (o := .tup ws) np)
  refine k _ _ ⟨F2, h3.pushD ?_⟩
  simp only [Rep]
  exact ⟨p, ws, rfl, .inl ⟨h2.fresh_av np, .inl upd_same⟩, q2.step fun a o e n => ⟨keep_upd np a o e, n⟩⟩
theorem push_lst {K : PySem.W.Frag} {E : Ent} {env : Sl} {ts : List M} {vs : List V} {H : Hp} {F : Rt → List Addr} (h2 : SR K E env ts σ vs H F) {p : Addr} (np : H p = none) {ds : List D} {ws : List V} (q2 : RepAll K H (Av E F) ds ws) :
    SRel K E env (ts ++ [.lst ds]) σ (vs ++ [.ref p]) (upd H p (.lst ws)) := by
  refine ⟨_, h2.push (m := .lst ds) (f := [p]) (keep_upd (o := .lst ws) np) (by simp [np]) ?_⟩
  simp only [RepM]
  refine ⟨p, ws, rfl, rfl, upd_same, q2.step fun a o e n => ⟨keep_upd np a o e, fun z => ?_⟩⟩
  rcases z with z | z
  · rcases (own_fset (h2.emp _ getR_last)).mp z with z | z
    · simp at z; subst z; rw [np] at e; cases e
    · exact n (.inl z)
  · exact n (.inr z)
theorem de_lst {es : List Expr} {fs : List (Sl → Res Rv)} (h : DA X C es fs) : DE X C (.List es pos) (evLst fs) := by
  refine ⟨(pe_lst h.pa).weak fun σ H Q q => ?_⟩
  refine tDisp_of (mk := fun ms => .lst (ms.map freeze)) q fun env ts vs ms ws H1 ⟨F, h1⟩ lt lm lz k => ⟨by omega, fun p np => ?_⟩
  obtain ⟨F2, h2, q2⟩ := h1.frees lt
  exact k _ _ (push_lst h2 np q2)
/-! ### truth, and, or, not, if-else -/
structure DT (X : Cx) (C : Kx) (e : Expr) (f : Sl → Res Rv) : Prop where
  pt : PT X e (fun σ H Q => tE C f σ H fun v H' => ∃ k, v = .bl k ∧ Q k H')
theorem dt_val (h : DE X C e f) (he : ∀ whole, isTrue e X.env whole = (do let v ← whole; standAt e.pos; holding [v] (truthy v))) : DT X C e f := ⟨pt_val h.pe he⟩
theorem dt_cmp {op : CmpOp} {r : R2} {g : List M → Option M} (ho : OpR X (compareOp op) r) (S : SemN C (R2l r) g) (ha : DE X C a fa) (hb : DE X C b fb) (hm : behindInMarks op b = false) : DT X C (.Compare a [op] [b] pos) (evOp g [fa, fb]) :=
  ⟨(pt_cmpR ho ha.pe hb.pe hm).weak fun σ H Q h => evOp_of S h⟩
/-- the bool that a value is -/
def boolOf (env : Sl) (p : Rv) : Option Bool :=
  match getO env p with
  | some (.d (.bool b)) => some b
  | _ => none
def evNot (f : Sl → Res Rv) : Sl → Res Rv := fun env => (f env).bind fun p env' => match boolOf env' p with
  | some b => .ok (.inr (.d (.bool (!b)))) env'
  | none => .stuck
def evIf (f fa fb : Sl → Res Rv) : Sl → Res Rv := fun env => (f env).bind fun p env' => match boolOf env' p with
  | some true => fa env'
  | some false => fb env'
  | none => .stuck
def evAnd (fa fb : Sl → Res Rv) : Sl → Res Rv := evIf fa fb (evC (.bool false))
def evOr (fa fb : Sl → Res Rv) : Sl → Res Rv := evIf fa (evC (.bool true)) fb
theorem bool_is {env : Sl} {p : Rv} {b : Bool} {ts : List M} {vs : List V} {v : V} (h : SRel C.K C.E env (ts ++ ext p) σ (vs ++ extV p v) H) (ev : valR σ (vs ++ extV p v) (root p ts.length) = some v) (e : boolOf env p = some b) : v = .bl b ∧ SRel C.K C.E env ts σ vs H := by
  obtain ⟨F, h⟩ := h
  have lt : ts.length = vs.length := by
    have := h.lent
    simp [ext_len p v] at this
    exact this
  refine ⟨?_, SRel.pops ⟨F, h⟩ lt (ext_len p v)⟩
  simp only [boolOf] at e
  cases e1 : getO env p with
  | none => rw [e1] at e; cases e
  | some m =>
    have e0 : getR env (ts ++ ext p) (root p ts.length) = some m := by
      have := getR_root (p := p) (env := env) (ts := ts) (more := [])
      rw [List.append_nil] at this
      rw [this, e1]
    obtain ⟨v', ev', q⟩ := h.rep _ _ e0
    rw [ev] at ev'
    cases ev'
    rw [e1] at e
    match m, e with
    | .d (.bool b'), e =>
      cases e
      have q := q.2
      simp only [Rep] at q
      exact q
/-- behind a test -/
theorem tIf_of {f fa fb : Sl → Res Rv} {Q : VK} (h : tE C (evIf f fa fb) σ H Q) : tE C f σ H (fun x H1 => ∃ c, x = .bl c ∧ if c = true then tE C fa σ H1 Q else tE C fb σ H1 Q) := by
  obtain ⟨env, ts, vs, h, q⟩ := h
  refine ⟨env, ts, vs, h, ?_⟩
  simp only [evIf] at q
  cases e : f env with
  | stuck => rw [e] at q; exact q
  | exc x env1 => rw [e] at q; exact q
  | ok p env1 =>
    rw [e] at q
    simp only [Res.bind] at q
    intro v H1 h1 ev
    cases e1 : boolOf env1 p with
    | none => rw [e1] at q; exact q.elim
    | some c =>
      obtain ⟨ec, h2⟩ := bool_is h1 ev e1
      refine ⟨c, ec, ?_⟩
      rw [e1] at q
      cases c with
      | true => exact ⟨env1, ts, vs, h2, q⟩
      | false => exact ⟨env1, ts, vs, h2, q⟩
theorem tC_of {d : D} {v : V} (hr : ∀ (K : PySem.W.Frag) (H : Hp) (O : Addr → Prop), Rep K H O d v) {Q : VK} (h : tE C (evC d) σ H Q) : Q v H := tE_const hr h
theorem de_not (h : DE X C a f) : DE X C (.UnaryOp .Not a pos) (evNot f) := by
  refine ⟨(pe_not h.pe).weak fun σ H Q q => ?_⟩
  have q' : tE C (evIf f (evC (.bool false)) (evC (.bool true))) σ H Q := by
    have e : evNot f = evIf f (evC (.bool false)) (evC (.bool true)) := by
      funext env
      simp only [evNot, evIf]
      cases f env with
      | stuck => rfl
      | exc x env1 => rfl
      | ok p env1 =>
        simp only [Res.bind]
        cases boolOf env1 p with
        | none => rfl
        | some b => cases b <;> rfl
    rw [← e]; exact q
  have z := tIf_of q'
  refine (show tE C f σ H _ → tNotV (tE C f) σ H Q from id) ?_
  obtain ⟨env, ts, vs, h0, p⟩ := z
  refine ⟨env, ts, vs, h0, ?_⟩
  cases e : f env with
  | stuck => rw [e] at p; exact p
  | exc x env1 => rw [e] at p; exact p
  | ok p' env1 =>
    rw [e] at p
    intro v H1 h1 ev
    obtain ⟨c, ec, w⟩ := p v H1 h1 ev
    refine ⟨c, ec, ?_⟩
    cases c with
    | true => exact tC_of (v := .bl false) (d := .bool false) (fun _ _ _ => by simp only [Rep]) w
    | false => exact tC_of (v := .bl true) (d := .bool true) (fun _ _ _ => by simp only [Rep]) w
theorem tE_mono {f : Sl → Res Rv} {Q Q' : VK} (h : tE C f σ H Q) (w : ∀ v H', Q v H' → Q' v H') : tE C f σ H Q' := by
  obtain ⟨env, ts, vs, h0, p⟩ := h
  refine ⟨env, ts, vs, h0, ?_⟩
  cases e : f env with
  | stuck => rw [e] at p; exact p
  | exc x env1 => rw [e] at p; exact p
  | ok p' env1 =>
    rw [e] at p
    intro v H1 h1 ev
    exact w v H1 (p v H1 h1 ev)
theorem de_one {op : BoolOp} (h : DE X C a f) : DE X C (.BoolOp op [a] pos) f := ⟨pe_one h.pe⟩
theorem de_and {rest : List Expr} (ha : DE X C a fa) (hb : DE X C (.BoolOp .And (b :: rest) pos) fb) : DE X C (.BoolOp .And (a :: b :: rest) pos) (evAnd fa fb) := by
  refine ⟨(pe_and ha.pe hb.pe).weak fun σ H Q q => tE_mono (tIf_of q) fun v H' ⟨c, ec, w⟩ => ⟨c, ec, ?_⟩⟩
  cases c with
  | true => exact w
  | false => exact tC_of (v := .bl false) (d := .bool false) (fun _ _ _ => by simp only [Rep]) w
theorem de_or {rest : List Expr} (ha : DE X C a fa) (hb : DE X C (.BoolOp .Or (b :: rest) pos) fb) : DE X C (.BoolOp .Or (a :: b :: rest) pos) (evOr fa fb) := by
  refine ⟨(pe_or ha.pe hb.pe).weak fun σ H Q q => tE_mono (tIf_of q) fun v H' ⟨c, ec, w⟩ => ⟨c, ec, ?_⟩⟩
  cases c with
  | true => exact tC_of (v := .bl true) (d := .bool true) (fun _ _ _ => by simp only [Rep]) w
  | false => exact w
theorem de_ifExp (hc : DT X C c fc) (ha : DE X C a fa) (hb : DE X C b fb) : DE X C (.IfExp c a b pos) (evIf fc fa fb) := by
  refine ⟨(pe_ifExp hc.pt ha.pe hb.pe).weak fun σ H Q q => tE_mono (tIf_of q) fun v H' ⟨k, ec, w⟩ => ⟨k, ec, w⟩⟩
/-- tests -/
structure DW (X : Cx) (C : Kx) (e : Expr) (f : Sl → Res Rv) : Prop where
  pw : PW X e (fun σ H Q => tE C f σ H fun v H' => ∃ k, v = .bl k ∧ Q k H')
theorem DW.dt (h : DW X C e f) : DT X C e f := ⟨h.pw.pt⟩
theorem dw_and1 (h : DT X C a f) : DW X C (.BoolOp .And [a] pos) f := ⟨pw_and1 h.pt⟩
theorem dw_or1 (h : DT X C a f) : DW X C (.BoolOp .Or [a] pos) f := ⟨pw_or1 h.pt⟩
theorem dw_and {rest : List Expr} (ha : DT X C a fa) (hb : DW X C (.BoolOp .And (b :: rest) pos) fb) : DW X C (.BoolOp .And (a :: b :: rest) pos) (evAnd fa fb) := by
  refine ⟨(pw_and ha.pt hb.pw).weak fun σ H Q q => tE_mono (tIf_of q) fun v H' ⟨c, ec, w⟩ => ⟨c, ec, ?_⟩⟩
  cases c with
  | true => exact w
  | false =>
    obtain ⟨k, ek, z⟩ := tC_of (v := .bl false) (d := .bool false) (fun _ _ _ => by simp only [Rep]) w
    cases ek
    exact z
theorem dw_or {rest : List Expr} (ha : DT X C a fa) (hb : DW X C (.BoolOp .Or (b :: rest) pos) fb) : DW X C (.BoolOp .Or (a :: b :: rest) pos) (evOr fa fb) := by
  refine ⟨(pw_or ha.pt hb.pw).weak fun σ H Q q => tE_mono (tIf_of q) fun v H' ⟨c, ec, w⟩ => ⟨c, ec, ?_⟩⟩
  cases c with
  | true =>
    obtain ⟨k, ek, z⟩ := tC_of (v := .bl true) (d := .bool true) (fun _ _ _ => by simp only [Rep]) w
    cases ek
    exact z
  | false => exact w
theorem dt_not (h : DT X C a f) : DT X C (.UnaryOp .Not a pos) (evNot f) := by
  refine ⟨(pt_not h.pt).weak fun σ H Q q => ?_⟩
  have q' : tE C (evIf f (evC (.bool false)) (evC (.bool true))) σ H (fun v H' => ∃ k, v = .bl k ∧ Q k H') := by
    have e : evNot f = evIf f (evC (.bool false)) (evC (.bool true)) := by
      funext env
      simp only [evNot, evIf]
      cases f env with
      | stuck => rfl
      | exc x env1 => rfl
      | ok p env1 =>
        simp only [Res.bind]
        cases boolOf env1 p with
        | none => rfl
        | some b => cases b <;> rfl
    rw [← e]; exact q
  refine tE_mono (tIf_of q') fun v H' ⟨c, ec, w⟩ => ⟨c, ec, ?_⟩
  cases c with
  | true =>
    obtain ⟨k, ek, z⟩ := tC_of (v := .bl false) (d := .bool false) (fun _ _ _ => by simp only [Rep]) w
    cases ek
    exact z
  | false =>
    obtain ⟨k, ek, z⟩ := tC_of (v := .bl true) (d := .bool true) (fun _ _ _ => by simp only [Rep]) w
    cases ek
    exact z
end
end Yf
namespace Yf
open PySem PySem.Spec L2
open PyProof.Rows hiding St
inductive SRes where
  | nx (env : Sl)
  | rt (m : M) (env : Sl)
  | bk (env : Sl)
  | ct (env : Sl)
  | exc (x : Xc) (env : Sl)
  | stuck
def PostS (C : Kx) (R : SRes) (ts : List M) (vs : List V) (D : Ends) : Prop :=
  match R with
  | .nx env => ∀ σ H, SRel C.K C.E env ts σ vs H → D.nx σ H
  | .rt m env => ∀ σ v H, SRel C.K C.E env (ts ++ [m]) σ (vs ++ [v]) H → D.rt v H
  | .bk env => ∀ σ H, SRel C.K C.E env ts σ vs H → D.bk σ H
  | .ct env => ∀ σ H, SRel C.K C.E env ts σ vs H → D.ct σ H
  | .exc x env => ∀ cls dx σ H, SRelX C.K C.mg C.E env ts σ vs H x cls dx → C.W cls dx σ H
  | .stuck => False
def tS (C : Kx) (s : Sl → SRes) : TS := fun D σ H => ∃ env ts vs, SRel C.K C.E env ts σ vs H ∧ PostS C (s env) ts vs D
structure DS (X : Cx) (C : Kx) (st : Stmt) (s : Sl → SRes) : Prop where
  ps : PS X st (tS C s)
structure DSs (X : Cx) (C : Kx) (st : List Stmt) (s : Sl → SRes) : Prop where
  pss : PSs X st (tS C s)
def sNil : Sl → SRes := fun env => .nx env
def sSeq (s u : Sl → SRes) : Sl → SRes := fun env =>
  match s env with
  | .nx env' => u env'
  | r => r
/-- behind an expression -/
def sBind (r : Res Rv) (k : Rv → Sl → SRes) : SRes :=
  match r with
  | .ok p env => k p env
  | .exc x env => .exc x env
  | .stuck => .stuck
section
variable {X : Cx} {C : Kx} {e a b c : Expr} {f fa fb fc : Sl → Res Rv} {pos : Pos} {σ : St} {H : Hp} {st : Stmt} {rest : List Stmt} {s u : Sl → SRes}
theorem dss_nil : DSs X C [] sNil := ⟨pss_nil.weak fun D σ H ⟨env, ts, vs, h, q⟩ => q σ H h⟩
theorem tSeq_of {D : Ends} (h : tS C (sSeq s u) D σ H) : tS C s { D with nx := tS C u D } σ H := by
  obtain ⟨env, ts, vs, h, q⟩ := h
  refine ⟨env, ts, vs, h, ?_⟩
  simp only [sSeq] at q
  cases e : s env with
  | nx env' =>
    rw [e] at q
    intro σ' H' h'
    exact ⟨env', ts, vs, h', q⟩
  | rt m env' => rw [e] at q; exact q
  | bk env' => rw [e] at q; exact q
  | ct env' => rw [e] at q; exact q
  | exc x env' => rw [e] at q; exact q
  | stuck => rw [e] at q; exact q
theorem dss_cons (h : DS X C st s) (t : DSs X C rest u) : DSs X C (st :: rest) (sSeq s u) := ⟨(pss_cons h.ps t.pss).weak fun D σ H q => tSeq_of q⟩
theorem dss_one (h : DS X C st s) : DSs X C [st] s := ⟨pss_one h.ps⟩
theorem ds_pass : DS X C (.Pass pos) sNil := ⟨ps_pass.weak fun D σ H ⟨env, ts, vs, h, q⟩ => q σ H h⟩
theorem ds_break : DS X C (.Break pos) (fun env => .bk env) := ⟨ps_break.weak fun D σ H ⟨env, ts, vs, h, q⟩ => q σ H h⟩
theorem ds_continue : DS X C (.Continue pos) (fun env => .ct env) := ⟨ps_continue.weak fun D σ H ⟨env, ts, vs, h, q⟩ => q σ H h⟩
theorem ds_doc {x : Str} {j : Nat} {pos' : Pos} : DS X C (.Expr (.Constant (.str x) j pos) pos') sNil := ⟨ps_doc.weak fun D σ H ⟨env, ts, vs, h, q⟩ => q σ H h⟩
/-- from a statement's expression -/
theorem sBind_of {k : Rv → Sl → SRes} {D : Ends} {Q : VK} (h : tS C (fun env => sBind (f env) k) D σ H)
    (w : ∀ p env ts vs v H1, SRel C.K C.E env (ts ++ ext p) σ (vs ++ extV p v) H1 → ts.length = vs.length → valR σ (vs ++ extV p v) (root p ts.length) = some v → PostS C (k p env) ts vs D → Q v H1) : tE C f σ H Q := by
  obtain ⟨env, ts, vs, h, q⟩ := h
  refine ⟨env, ts, vs, h, ?_⟩
  dsimp only at q
  cases e : f env with
  | stuck => rw [e] at q; exact q
  | exc x env1 => rw [e] at q; exact fun cls dx H1 hx => q cls dx σ H1 hx
  | ok p env1 =>
    rw [e] at q
    exact fun v H1 h1 ev => w p env1 ts vs v H1 h1 h.lent ev q
def sEx (f : Sl → Res Rv) : Sl → SRes := fun env => sBind (f env) fun _ env' => .nx env'
theorem ds_expr (he : DE X C e f) (hs : swapsWith e none pos.line X.env = pure false) : DS X C (.Expr e pos) (sEx f) :=
  ⟨(ps_expr he.pe hs).weak fun D σ H q => sBind_of q fun p env ts vs v H1 h1 lt ev w => w σ H1 (h1.pops lt (ext_len p v))⟩
/-- a value that is handed over: a slot's own goes, but a parameter's that is to stay -/
def takeOf (io : List Nat) (p : Rv) (env : Sl) : Res M :=
  match p with
  | .inr m => .ok m env
  | .inl i =>
    match (env[i]?).join with
    | some (.d v) => .ok (.d v) env
    | some m => if io.contains i then .ok (.d (freeze m)) (env.set i (some (.d (freeze m)))) else .ok m (env.set i none)
    | none => .stuck
theorem takeOf_of {io : List Nat} {p : Rv} {env env' : Sl} {ts : List M} {vs : List V} {v : V} {m : M} (h : SRel C.K C.E env (ts ++ ext p) σ (vs ++ extV p v) H) (lt : ts.length = vs.length) (ev : valR σ (vs ++ extV p v) (root p ts.length) = some v)
    (e : takeOf io p env = .ok m env') : SRel C.K C.E env' (ts ++ [m]) σ (vs ++ [v]) H := by
  cases p with
  | inr m' =>
    simp only [takeOf] at e
    cases e
    exact h
  | inl i =>
    obtain ⟨F, h⟩ := h
    have h : SR C.K C.E env ts σ vs H F := by simpa [ext, extV] using h
    have ev : (σ[i]?).join = some v := ev
    simp only [takeOf] at e
    cases e1 : (env[i]?).join with
    | none => rw [e1] at e; cases e
    | some m0 =>
      rw [e1] at e
      have frz : SRel C.K C.E (env.set i (some (.d (freeze m0)))) (ts ++ [.d (freeze m0)]) σ (vs ++ [v]) H := by
        obtain ⟨F', v', ev', h2, q2⟩ := h.freeze e1
        rw [ev'] at ev
        cases ev
        exact ⟨F', h2.pushD q2⟩
      have tk : SRel C.K C.E (env.set i none) (ts ++ [m0]) σ (vs ++ [v]) H := by
        obtain ⟨v', F', ev', h2⟩ := h.take (i := i) (m := m0) e1
        have ev' : (σ[i]?).join = some v' := ev'
        rw [ev] at ev'
        cases ev'
        exact ⟨F', h2⟩
      cases m0 with
      | d d0 =>
        simp only at e
        cases e
        obtain ⟨v', ev', q⟩ := getσ h e1
        rw [ev'] at ev
        cases ev
        exact ⟨F, h.pushD (by have := q.2; exact this)⟩
      | lst ds =>
        simp only at e
        split at e
        · cases e; exact frz
        · cases e; exact tk
      | dct ds =>
        simp only at e
        split at e
        · cases e; exact frz
        · cases e; exact tk
def sRet (io : List Nat) (f : Sl → Res Rv) : Sl → SRes := fun env => sBind (f env) fun p env' =>
  match takeOf io p env' with
  | .ok m env2 => .rt m env2
  | _ => .stuck
theorem ds_ret {io : List Nat} (he : DE X C e f) : DS X C (.Return (some e) pos) (sRet io f) := by
  refine ⟨(ps_ret he.pe).weak fun D σ H q => sBind_of q fun p env ts vs v H1 h1 lt ev w => ?_⟩
  cases e1 : takeOf io p env with
  | ok m env2 =>
    rw [e1] at w
    exact w σ v H1 (takeOf_of h1 lt ev e1)
  | exc x env2 => rw [e1] at w; exact w.elim
  | stuck => rw [e1] at w; exact w.elim
theorem ds_retN : DS X C (.Return none pos) (fun env => .rt (.d .none) env) := by
  refine ⟨ps_retN.weak fun D σ H ⟨env, ts, vs, h, q⟩ => ?_⟩
  obtain ⟨F, h⟩ := h
  exact q σ .non H ⟨F, h.pushD (by simp only [Rep])⟩
/-- a slot's value stored -/
theorem put_of {env : Sl} {ts : List M} {vs : List V} {m : M} {v : V} {i : Nat} (h : SRel C.K C.E env (ts ++ [m]) σ (vs ++ [v]) H) (lt : ts.length = vs.length) (hi : i < env.length) (hio : ∀ p ∈ C.E.io, p.1 ≠ i) :
    SRel C.K C.E (env.set i (some m)) ts (σ.set i (some v)) vs H := by
  obtain ⟨F, h⟩ := h
  exact h.put lt hi fun p hp => .inl (hio p hp)
def sSet (i : Nat) (f : Sl → Res Rv) : Sl → SRes := fun env => sBind (f env) fun p env' =>
  match valOf p env' with
  | .ok (.inr m) env2 => .nx (env2.set i (some m))
  | _ => .stuck
theorem valOf_of {p : Rv} {env env' : Sl} {ts : List M} {vs : List V} {v : V} {m : M} (h : SRel C.K C.E env (ts ++ ext p) σ (vs ++ extV p v) H) (lt : ts.length = vs.length) (ev : valR σ (vs ++ extV p v) (root p ts.length) = some v)
    (e : valOf p env = .ok (.inr m) env') : SRel C.K C.E env' (ts ++ [m]) σ (vs ++ [v]) H := by
  cases p with
  | inr m' =>
    simp only [valOf] at e
    cases e
    exact h
  | inl i =>
    obtain ⟨F, h⟩ := h
    have h : SR C.K C.E env ts σ vs H F := by simpa [ext, extV] using h
    have ev : (σ[i]?).join = some v := ev
    simp only [valOf] at e
    cases e1 : (env[i]?).join with
    | none => rw [e1] at e; cases e
    | some m0 =>
      rw [e1] at e
      simp only at e
      cases e
      obtain ⟨F', v', ev', h2, q2⟩ := h.freeze e1
      rw [ev'] at ev
      cases ev
      exact ⟨F', h2.pushD q2⟩
theorem ds_set {i : Nat} {x : Str} {pos' : Pos} (hN : X.N.Nodup) (hi : X.N[i]? = some x) (hx : Loc X.env.scope x) (he : DE X C e f) (hs : swapsWith e (some (.Name x pos')) pos.line X.env = pure false)
    (hf : X.fn x = true ∨ X.env.scope.names.lookup x = some .local) (hio : ∀ p ∈ C.E.io, p.1 ≠ i) (hn : X.N.length = C.E.n) : DS X C (.Assign [.Name x pos'] e pos) (sSet i f) := by
  refine ⟨(ps_set hN hi hx he.pe hs hf).weak fun D σ H q => ?_⟩
  refine sBind_of q fun p env ts vs v H1 h1 lt ev w => ?_
  cases e1 : valOf p env with
  | exc x env2 => rw [e1] at w; exact w.elim
  | stuck => rw [e1] at w; exact w.elim
  | ok r env2 =>
    rw [e1] at w
    cases r with
    | inl j => exact w.elim
    | inr m =>
      have h2 := valOf_of h1 lt ev e1
      refine w _ H1 (put_of h2 lt ?_ hio)
      obtain ⟨F, h2⟩ := h2
      rw [h2.ln, ← hn]
      exact (List.getElem?_eq_some_iff.mp hi).1
def sIf (f : Sl → Res Rv) (s u : Sl → SRes) : Sl → SRes := fun env => sBind (f env) fun p env' =>
  match boolOf env' p with
  | some true => s env'
  | some false => u env'
  | none => .stuck
theorem ds_if {sa sb : List Stmt} (hc : DT X C c f) (ha : DSs X C sa s) (hb : DSs X C sb u) : DS X C (.If c sa sb pos) (sIf f s u) := by
  refine ⟨(ps_if hc.pt ha.pss hb.pss).weak fun D σ H q => sBind_of q fun p env ts vs v H1 h1 lt ev w => ?_⟩
  cases e1 : boolOf env p with
  | none => rw [e1] at w; exact w.elim
  | some k =>
    rw [e1] at w
    obtain ⟨ek, h2⟩ := bool_is h1 ev e1
    refine ⟨k, ek, ?_⟩
    cases k with
    | true => exact ⟨env, ts, vs, h2, w⟩
    | false => exact ⟨env, ts, vs, h2, w⟩
/-- while: at most n turns -/
def sWhile (f : Sl → Res Rv) (s : Sl → SRes) : Nat → Sl → SRes
  | 0, _ => .stuck
  | n + 1, env => sBind (f env) fun p env' =>
    match boolOf env' p with
    | some true =>
      match s env' with
      | .nx env2 => sWhile f s n env2
      | .ct env2 => sWhile f s n env2
      | .bk env2 => .nx env2
      | r => r
    | some false => .nx env'
    | none => .stuck
theorem ds_while {sa : List Stmt} {n : Nat} (hp : PassesOwn (model X.prog X.w) X.A X.env X.xe) (hc : DT X C c f) (ha : DSs X C sa s) : DS X C (.While c sa [] pos) (sWhile f s n) := by
  refine ⟨(ps_while hp hc.pt ha.pss).weak fun D σ H q => ?_⟩
  obtain ⟨env, ts, vs, h, q⟩ := q
  have lt := h.lent
  refine ⟨fun m σ H => ∃ env, SRel C.K C.E env ts σ vs H ∧ PostS C (sWhile f s m env) ts vs D, ⟨n, env, h, q⟩, ?_⟩
  rintro m σ H ⟨env, h, q⟩
  cases m with
  | zero => exact q.elim
  | succ m =>
    refine ⟨env, ts, vs, h, ?_⟩
    simp only [sWhile] at q
    cases e : f env with
    | stuck => rw [e] at q; exact q
    | exc x env1 => rw [e] at q; exact fun cls dx H1 hx => q cls dx σ H1 hx
    | ok p env1 =>
      rw [e] at q
      simp only [sBind] at q
      intro v H1 h1 ev
      cases e1 : boolOf env1 p with
      | none => rw [e1] at q; exact q.elim
      | some k =>
        rw [e1] at q
        obtain ⟨ek, h2⟩ := bool_is h1 ev e1
        refine ⟨k, ek, ?_⟩
        cases k with
        | false => exact q σ H1 h2
        | true =>
          simp only at q
          refine ⟨fun σ' H' => ∃ env, SRel C.K C.E env ts σ' vs H' ∧ PostS C (sWhile f s m env) ts vs D, fun σ' H' z => ⟨m, Nat.lt_succ_self m, z⟩, env1, ts, vs, h2, ?_⟩
          cases e2 : s env1 with
          | nx env2 => rw [e2] at q; exact fun σ' H' h' => ⟨env2, h', q⟩
          | ct env2 => rw [e2] at q; exact fun σ' H' h' => ⟨env2, h', q⟩
          | bk env2 => rw [e2] at q; exact q
          | rt m env2 => rw [e2] at q; exact q
          | exc x env2 => rw [e2] at q; exact q
          | stuck => rw [e2] at q; exact q
/-! ### what is walked -/
/-- a walk that yields the data ds; its own roots ms lie on the stack from ts on -/
def Walks (C : Kx) (J : It) (ts : List M) (vs : List V) (ms : List M) (ws : List V) (ds : List D) : Prop :=
  ∃ (G : Hp → Prop) (Y : Nat → Hp → V → Hp → Prop), Walk J ds.length G Y ∧
    (∀ env σ H tm vm, SRel C.K C.E env (ts ++ ms ++ tm) σ (vs ++ ws ++ vm) H → G H) ∧
    ∀ env σ H tm vm i x H' d, ds[i]? = some d → SRel C.K C.E env (ts ++ ms ++ tm) σ (vs ++ ws ++ vm) H → Y i H x H' → SRel C.K C.E env (ts ++ ms ++ tm ++ [.d d]) σ (vs ++ ws ++ vm ++ [x]) H'
structure DI (X : Cx) (C : Kx) (tg iter : Expr) (fi : Sl → Res (List M × List D)) : Prop where
  pi : ∃ wi, PI X tg iter wi ∧ ∀ σ H env ts vs (R : It → Hp → Prop), SRel C.K C.E env ts σ vs H →
    (match fi env with
    | .ok (ms, ds) env' => ∀ J H' ws, ms.length = ws.length → SRel C.K C.E env' (ts ++ ms) σ (vs ++ ws) H' → Walks C J ts vs ms ws ds → R J H'
    | .exc x env' => ∀ cls dx H', SRelX C.K C.mg C.E env' ts σ vs H' x cls dx → C.W cls dx σ H'
    | .stuck => False) → wi σ H R
/-- a target: the slots that an item goes to -/
def unpack : List Nat → D → Sl → Option Sl
  | [i], d, env => some (env.set i (some (.d d)))
  | is, .tuple ds, env => if is.length = ds.length then some ((is.zip ds).foldl (fun e p => e.set p.1 (some (.d p.2))) env) else none
  | _, _, _ => none
/-- the store of an item, at a slot's name or a tuple of names -/
def gName1 (i : Nat) (d : D) (env : Sl) : Option Sl := some (env.set i (some (.d d)))
structure DG (X : Cx) (C : Kx) (tg : Expr) (g : D → Sl → Option Sl) : Prop where
  pg : ∃ t, PG X tg t ∧ ∀ env ts σ vs H d v env' (Q : St → Hp → Prop), SRel C.K C.E env (ts ++ [.d d]) σ (vs ++ [v]) H → g d env = some env' → (∀ σ' H', SRel C.K C.E env' ts σ' vs H' → Q σ' H') → t v σ H Q
theorem dg_name {i : Nat} {x : Str} (hN : X.N.Nodup) (hi : X.N[i]? = some x) (hx : Loc X.env.scope x) (hf : X.fn x = true ∨ X.env.scope.names.lookup x = some .local) (hio : ∀ p ∈ C.E.io, p.1 ≠ i) (hn : X.N.length = C.E.n) : DG X C (.Name x pos) (gName1 i) := by
  refine ⟨_, pg_name hN hi hx hf, fun env ts σ vs H d v env' Q h e q => ?_⟩
  cases e
  have lt : ts.length = vs.length := by have := h.lent; simpa using this
  refine q _ _ (put_of h lt ?_ hio)
  obtain ⟨F, h⟩ := h
  rw [h.ln, ← hn]
  exact (List.getElem?_eq_some_iff.mp hi).1
def sFor (g : D → Sl → Option Sl) (s : Sl → SRes) : List D → Sl → SRes
  | [], env => .nx env
  | d :: ds, env =>
    match g d env with
    | none => .stuck
    | some env1 =>
      match s env1 with
      | .nx env2 => sFor g s ds env2
      | .ct env2 => sFor g s ds env2
      | .bk env2 => .nx env2
      | r => r
def sForI (fi : Sl → Res (List M × List D)) (g : D → Sl → Option Sl) (s : Sl → SRes) : Sl → SRes := fun env =>
  match fi env with
  | .ok (_, ds) env' => sFor g s ds env'
  | .exc x env' => .exc x env'
  | .stuck => .stuck
/-- what was wanted below the loop's own roots -/
theorem postS_up {R : SRes} {ts ms : List M} {vs ws : List V} {D : Ends} (lt : ts.length = vs.length) (lm : ms.length = ws.length) (h : PostS C R ts vs D) : PostS C R (ts ++ ms) (vs ++ ws) D := by
  cases R with
  | nx env => exact fun σ H q => h σ H (q.pops lt lm)
  | bk env => exact fun σ H q => h σ H (q.pops lt lm)
  | ct env => exact fun σ H q => h σ H (q.pops lt lm)
  | rt m env => exact fun σ v H q => h σ v H (q.squash lt lm)
  | exc x env => exact fun cls dx σ H q => h cls dx σ H (q.pops lt lm)
  | stuck => exact h
theorem srel_len {K : PySem.W.Frag} {E : Ent} {env : Sl} {ts : List M} {vs : List V} (h : SRel K E env ts σ vs H) : env.length = σ.length := by
  obtain ⟨F, h⟩ := h
  exact h.len
theorem ds_for {tg iter : Expr} {fi : Sl → Res (List M × List D)} {g : D → Sl → Option Sl} {sa : List Stmt} (hp : PassesOwn (model X.prog X.w) X.A X.env X.xe) (hc : X.calm = true) (hi : DI X C tg iter fi) (hg : DG X C tg g) (ha : DSs X C sa s)
    (hs : ∀ x, foldedSetIterable iter X.env x = pure x) : DS X C (.For tg iter sa [] pos) (sForI fi g s) := by
  obtain ⟨wi, pi, hwi⟩ := hi.pi
  obtain ⟨t, pg, ht⟩ := hg.pg
  refine ⟨(ps_for hp hc pi pg ha.pss hs).weak fun D σ H q => ?_⟩
  obtain ⟨env, ts, vs, h, q⟩ := q
  have lt := h.lent
  refine hwi σ H env ts vs _ h ?_
  simp only [sForI] at q
  cases e : fi env with
  | stuck => rw [e] at q; exact q
  | exc x env1 => rw [e] at q; exact fun cls dx H1 hx => q cls dx σ H1 hx
  | ok r env1 =>
    obtain ⟨ms, ds⟩ := r
    rw [e] at q
    simp only at q
    intro J H1 ws lm h1 wk
    obtain ⟨G, Y, W, hG, hY⟩ := wk
    refine for_it W (fun i σ H => ∃ env, SRel C.K C.E env (ts ++ ms) σ (vs ++ ws) H ∧ PostS C (sFor g s (ds.drop i) env) ts vs D) ⟨env1, h1, q⟩ (fun i σ H hi ⟨env, h, _⟩ => hG env σ H [] [] (by simpa using h)) ?_ ?_
    · rintro i x σ H H' hi ⟨env, h, q⟩ hy
      have ei : ds[i]? = some ds[i] := List.getElem?_eq_getElem hi
      have hd : ds.drop i = ds[i] :: ds.drop (i + 1) := List.drop_eq_getElem_cons hi
      rw [hd] at q
      simp only [sFor] at q
      have h2 : SRel C.K C.E env (ts ++ ms ++ [.d ds[i]]) σ (vs ++ ws ++ [x]) H' := by
        have := hY env σ H [] [] i x H' ds[i] ei (by simpa using h) hy
        simpa using this
      cases eg : g ds[i] env with
      | none => rw [eg] at q; exact q.elim
      | some env2 =>
        rw [eg] at q
        simp only at q
        refine ht env _ σ _ H' _ x env2 _ h2 eg fun σ2 H2 h3 => ⟨env2, _, _, h3, ?_⟩
        cases e2 : s env2 with
        | nx env3 => rw [e2] at q; exact fun σ3 H3 h4 => ⟨env3, h4, q⟩
        | ct env3 => rw [e2] at q; exact fun σ3 H3 h4 => ⟨env3, h4, q⟩
        | bk env3 => rw [e2] at q; exact fun σ3 H3 h4 => q σ3 H3 (h4.pops lt lm)
        | rt m env3 => rw [e2] at q; exact fun σ3 v H3 h4 => q σ3 v H3 (h4.squash lt lm)
        | exc x env3 => rw [e2] at q; exact fun cls dx σ3 H3 h4 => q cls dx σ3 H3 (h4.pops lt lm)
        | stuck => rw [e2] at q; exact q
    · rintro σ H ⟨env, h, q⟩
      rw [List.drop_length] at q
      exact q σ H (h.pops lt lm)
end
end Yf
namespace Yf
open PySem PySem.Spec L2
open PyProof.Rows hiding St
/-- roots rearranged -/
theorem SR.remap {K : PySem.W.Frag} {E : Ent} {env env' : Sl} {ts ts' : List M} {σ : St} {vs vs' : List V} {H : Hp} {F : Rt → List Addr} (h : SR K E env ts σ vs H F) (φ : Rt → Rt)
    (hg : ∀ r m, getR env' ts' r = some m → getR env ts (φ r) = some m ∧ ∀ v, valR σ vs (φ r) = some v → valR σ vs' r = some v)
    (inj : ∀ r r', getR env' ts' r ≠ none → getR env' ts' r' ≠ none → φ r = φ r' → r = r') (len : env'.length = env.length) (lent : ts'.length = vs'.length) : ∃ F', SR K E env' ts' σ vs' H F' ∧ (∀ a, Own F' a → Own F a) ∧ ∀ r m, getR env' ts' r = some m → F' r = F (φ r) := by
  let F' : Rt → List Addr := fun r => match getR env' ts' r with | none => [] | some _ => F (φ r)
  have hF : ∀ r m, getR env' ts' r = some m → F' r = F (φ r) := fun r m e => by show (match getR env' ts' r with | none => [] | some _ => F (φ r)) = _; rw [e]
  have hN : ∀ r, getR env' ts' r = none → F' r = [] := fun r e => by show (match getR env' ts' r with | none => [] | some _ => F (φ r)) = _; rw [e]
  have mem : ∀ r a, a ∈ F' r → getR env' ts' r ≠ none ∧ a ∈ F (φ r) := fun r a ha => by
    cases e : getR env' ts' r with
    | none => rw [hN r e] at ha; cases ha
    | some m => rw [hF r m e] at ha; exact ⟨nofun, ha⟩
  have sub : ∀ a, Own F' a → Own F a := fun a ⟨r, ha⟩ => ⟨φ r, (mem r a ha).2⟩
  have ln' : env'.length = E.n := by rw [len]; exact h.ln
  refine ⟨F', h.make (fun a o e n => ⟨e, fun z => n (sub a z)⟩) (by rw [len]; exact h.len) lent (fun r m e => ?_) hN (fun r r' a h1 h2 => ?_), sub, hF⟩
  · obtain ⟨e1, e2⟩ := hg r m e
    obtain ⟨v, ev, _⟩ := h.rep _ m e1
    exact .inl ⟨φ r, v, e1, ev, e2 v ev, hF r m e, fun _ _ => rfl⟩
  · obtain ⟨n1, m1⟩ := mem r a h1
    obtain ⟨n2, m2⟩ := mem r' a h2
    exact inj r r' n1 n2 (h.dis _ _ a m1 m2)
section
variable {K : PySem.W.Frag} {E : Ent} {env env' : Sl} {ts tm more : List M} {σ : St} {vs vm morev : List V} {H : Hp} {F : Rt → List Addr} {m : M} {v w : V} {i : Nat}
/-- a frozen datum put into the stack -/
theorem SR.insD (h : SR K E env (ts ++ more) σ (vs ++ morev) H F) (lt : ts.length = vs.length) {d : D} (q : Rep K H (Av E F) d w) : ∃ F', SR K E env (ts ++ .d d :: more) σ (vs ++ w :: morev) H F' := by
  have h1 := h.pushD q
  let φ : Rt → Rt := fun r => match r with
    | .s i => .s i
    | .t j => if j < ts.length then .t j else if j = ts.length then .t (ts ++ more).length else .t (j - 1)
  have hl := h.lent
  simp only [List.length_append] at hl
  refine Exists.elim (h1.remap (env' := env) (ts' := ts ++ .d d :: more) (vs' := vs ++ w :: morev) φ (fun r m e => ?_) (fun r r' n1 n2 e => ?_) rfl (by simp; omega)) fun F' h2 => ⟨F', h2.1⟩
  · cases r with
    | s i => exact ⟨e, fun v ev => ev⟩
    | t j =>
      have e : (ts ++ .d d :: more)[j]? = some m := e
      show getR env _ (if j < ts.length then Rt.t j else if j = ts.length then .t (ts ++ more).length else .t (j - 1)) = _ ∧ ∀ v, valR σ _ (if j < ts.length then Rt.t j else if j = ts.length then .t (ts ++ more).length else .t (j - 1)) = _ → (vs ++ w :: morev)[j]? = some v
      split
      · rename_i l
        rw [List.getElem?_append_left l] at e
        refine ⟨?_, fun v ev => ?_⟩
        · show (ts ++ more ++ [.d d])[j]? = _
          rw [List.append_assoc, List.getElem?_append_left l]; exact e
        · have ev : (vs ++ morev ++ [w])[j]? = some v := ev
          rw [List.append_assoc, List.getElem?_append_left (by omega)] at ev
          rw [List.getElem?_append_left (by omega)]; exact ev
      · rename_i l
        split
        · rename_i ej
          subst ej
          rw [List.getElem?_append_right (by omega), Nat.sub_self] at e
          refine ⟨?_, fun v ev => ?_⟩
          · show (ts ++ more ++ [.d d])[(ts ++ more).length]? = _
            rw [List.getElem?_append_right (by omega), Nat.sub_self]; exact e
          · have ev : (vs ++ morev ++ [w])[(ts ++ more).length]? = some v := ev
            rw [List.getElem?_append_right (by simp; omega)] at ev
            have e0 : (ts ++ more).length - (vs ++ morev).length = 0 := by simp; omega
            rw [e0] at ev
            rw [List.getElem?_append_right (by omega), lt, Nat.sub_self]; exact ev
        · rename_i ne
          obtain ⟨k, rfl⟩ : ∃ k, j = ts.length + 1 + k := ⟨j - ts.length - 1, by omega⟩
          rw [List.getElem?_append_right (by omega)] at e
          have e1 : ts.length + 1 + k - ts.length = k + 1 := by omega
          rw [e1, List.getElem?_cons_succ] at e
          have hk := (List.getElem?_eq_some_iff.mp e).1
          refine ⟨?_, fun v ev => ?_⟩
          · show (ts ++ more ++ [.d d])[ts.length + 1 + k - 1]? = _
            rw [List.getElem?_append_left (by simp; omega), List.getElem?_append_right (by omega)]
            rw [show ts.length + 1 + k - 1 - ts.length = k by omega]; exact e
          · have ev : (vs ++ morev ++ [w])[ts.length + 1 + k - 1]? = some v := ev
            rw [List.getElem?_append_left (by simp; omega), List.getElem?_append_right (by omega)] at ev
            rw [show ts.length + 1 + k - 1 - vs.length = k by omega] at ev
            rw [List.getElem?_append_right (by omega), show ts.length + 1 + k - vs.length = k + 1 by omega, List.getElem?_cons_succ]; exact ev
  · cases r with
    | s i =>
      cases r' with
      | s i' => exact e
      | t j' =>
        have e : Rt.s i = (if j' < ts.length then Rt.t j' else if j' = ts.length then .t (ts ++ more).length else .t (j' - 1)) := e
        split at e
        · cases e
        · split at e <;> cases e
    | t j =>
      cases r' with
      | s i' =>
        have e : (if j < ts.length then Rt.t j else if j = ts.length then .t (ts ++ more).length else .t (j - 1)) = Rt.s i' := e
        split at e
        · cases e
        · split at e <;> cases e
      | t j' =>
        have l1 : j < ts.length + 1 + more.length := by
          apply Classical.byContradiction
          intro n
          apply n1
          show (ts ++ .d d :: more)[j]? = none
          rw [List.getElem?_eq_none (by simp; omega)]
        have l2 : j' < ts.length + 1 + more.length := by
          apply Classical.byContradiction
          intro n
          apply n2
          show (ts ++ .d d :: more)[j']? = none
          rw [List.getElem?_eq_none (by simp; omega)]
        have e : (if j < ts.length then Rt.t j else if j = ts.length then .t (ts ++ more).length else .t (j - 1)) = (if j' < ts.length then Rt.t j' else if j' = ts.length then .t (ts ++ more).length else .t (j' - 1)) := e
        have lm : (ts ++ more).length = ts.length + more.length := by simp
        congr 1
        repeat' split at e
        all_goals first | omega | (have e' := Rt.t.inj e; omega) | (cases e)
/-- a slot's value put into the stack -/
theorem SR.insS (h : SR K E env (ts ++ more) σ (vs ++ morev) H F) (lt : ts.length = vs.length) (e0 : (env[i]?).join = some m) (ev0 : (σ[i]?).join = some w) : ∃ F', SR K E (env.set i none) (ts ++ m :: more) σ (vs ++ w :: morev) H F' := by
  have hi : i < env.length := by
    apply Classical.byContradiction
    intro n
    rw [List.getElem?_eq_none (by omega)] at e0
    cases e0
  let φ : Rt → Rt := fun r => match r with
    | .s i => .s i
    | .t j => if j < ts.length then .t j else if j = ts.length then .s i else .t (j - 1)
  have hl := h.lent
  simp only [List.length_append] at hl
  refine Exists.elim (h.remap (env' := env.set i none) (ts' := ts ++ m :: more) (vs' := vs ++ w :: morev) φ (fun r m' e => ?_) (fun r r' n1 n2 e => ?_) (by simp) (by simp; omega)) fun F' h2 => ⟨F', h2.1⟩
  · cases r with
    | s k =>
      rw [getR_set hi] at e
      split at e
      · cases e
      · exact ⟨e, fun v ev => ev⟩
    | t j =>
      have e : (ts ++ m :: more)[j]? = some m' := e
      show getR env _ (if j < ts.length then Rt.t j else if j = ts.length then .s i else .t (j - 1)) = _ ∧ ∀ v, valR σ _ (if j < ts.length then Rt.t j else if j = ts.length then .s i else .t (j - 1)) = _ → (vs ++ w :: morev)[j]? = some v
      split
      · rename_i l
        rw [List.getElem?_append_left l] at e
        refine ⟨?_, fun v ev => ?_⟩
        · show (ts ++ more)[j]? = _
          rw [List.getElem?_append_left l]; exact e
        · have ev : (vs ++ morev)[j]? = some v := ev
          rw [List.getElem?_append_left (by omega)] at ev
          rw [List.getElem?_append_left (by omega)]; exact ev
      · rename_i l
        split
        · rename_i ej
          subst ej
          rw [List.getElem?_append_right (by omega), Nat.sub_self] at e
          cases e
          refine ⟨e0, fun v ev => ?_⟩
          have ev : (σ[i]?).join = some v := ev
          rw [ev0] at ev
          rw [List.getElem?_append_right (by omega), lt, Nat.sub_self]; exact ev
        · rename_i ne
          obtain ⟨k, rfl⟩ : ∃ k, j = ts.length + 1 + k := ⟨j - ts.length - 1, by omega⟩
          rw [List.getElem?_append_right (by omega)] at e
          have e1 : ts.length + 1 + k - ts.length = k + 1 := by omega
          rw [e1, List.getElem?_cons_succ] at e
          refine ⟨?_, fun v ev => ?_⟩
          · show (ts ++ more)[ts.length + 1 + k - 1]? = _
            rw [List.getElem?_append_right (by omega)]
            rw [show ts.length + 1 + k - 1 - ts.length = k by omega]; exact e
          · have ev : (vs ++ morev)[ts.length + 1 + k - 1]? = some v := ev
            rw [List.getElem?_append_right (by omega)] at ev
            rw [show ts.length + 1 + k - 1 - vs.length = k by omega] at ev
            rw [List.getElem?_append_right (by omega), show ts.length + 1 + k - vs.length = k + 1 by omega, List.getElem?_cons_succ]; exact ev
  · have nS : ∀ k, getR (env.set i none) (ts ++ m :: more) (.s k) ≠ none → k ≠ i := fun k n e => by
      subst e
      apply n
      rw [getR_set hi, if_pos rfl]
    cases r with
    | s k =>
      cases r' with
      | s i' => exact e
      | t j' =>
        have e : Rt.s k = (if j' < ts.length then Rt.t j' else if j' = ts.length then .s i else .t (j' - 1)) := e
        split at e
        · cases e
        · split at e
          · cases e; exact absurd rfl (nS _ n1)
          · cases e
    | t j =>
      cases r' with
      | s k =>
        have e : (if j < ts.length then Rt.t j else if j = ts.length then .s i else .t (j - 1)) = Rt.s k := e
        split at e
        · cases e
        · split at e
          · cases e; exact absurd rfl (nS _ n2)
          · cases e
      | t j' =>
        have e : (if j < ts.length then Rt.t j else if j = ts.length then .s i else .t (j - 1)) = (if j' < ts.length then Rt.t j' else if j' = ts.length then .s i else .t (j' - 1)) := e
        congr 1
        repeat' split at e
        all_goals first | omega | (have e' := Rt.t.inj e; omega) | (cases e)
/-- a value of the stack back into a slot -/
theorem SR.back (h : SR K E env (ts ++ m :: more) σ (vs ++ w :: morev) H F) (lt : ts.length = vs.length) (hi : i < env.length) (ev0 : (σ[i]?).join = some w) : ∃ F', SR K E (env.set i (some m)) (ts ++ more) σ (vs ++ morev) H F' ∧ ∀ a, Own F' a → Own F a := by
  let φ : Rt → Rt := fun r => match r with
    | .s k => if k = i then .t ts.length else .s k
    | .t j => if j < ts.length then .t j else .t (j + 1)
  have hl := h.lent
  simp only [List.length_append, List.length_cons] at hl
  have get1 : (ts ++ m :: more)[ts.length]? = some m := by rw [List.getElem?_append_right (by omega), Nat.sub_self]; rfl
  have val1 : (vs ++ w :: morev)[ts.length]? = some w := by rw [List.getElem?_append_right (by omega), lt, Nat.sub_self]; rfl
  refine Exists.elim (h.remap (env' := env.set i (some m)) (ts' := ts ++ more) (vs' := vs ++ morev) φ (fun r m' e => ?_) (fun r r' n1 n2 e => ?_) (by simp) (by simp; omega)) fun F' h2 => ⟨F', h2.1, h2.2.1⟩
  · cases r with
    | s k =>
      rw [getR_set hi] at e
      show getR env _ (if k = i then Rt.t ts.length else .s k) = _ ∧ ∀ v, valR σ _ (if k = i then Rt.t ts.length else .s k) = _ → (σ[k]?).join = some v
      by_cases ek : k = i
      · subst ek
        rw [if_pos rfl] at e ⊢
        cases e
        refine ⟨get1, fun v ev => ?_⟩
        have ev : (vs ++ w :: morev)[ts.length]? = some v := ev
        rw [val1] at ev
        cases ev
        exact ev0
      · rw [if_neg (by simpa using ek)] at e
        rw [if_neg ek]
        exact ⟨e, fun v ev => ev⟩
    | t j =>
      have e : (ts ++ more)[j]? = some m' := e
      show getR env _ (if j < ts.length then Rt.t j else .t (j + 1)) = _ ∧ ∀ v, valR σ _ (if j < ts.length then Rt.t j else .t (j + 1)) = _ → (vs ++ morev)[j]? = some v
      split
      · rename_i l
        rw [List.getElem?_append_left l] at e
        refine ⟨?_, fun v ev => ?_⟩
        · show (ts ++ m :: more)[j]? = _
          rw [List.getElem?_append_left l]; exact e
        · have ev : (vs ++ w :: morev)[j]? = some v := ev
          rw [List.getElem?_append_left (by omega)] at ev
          rw [List.getElem?_append_left (by omega)]; exact ev
      · rename_i l
        rw [List.getElem?_append_right (by omega)] at e
        refine ⟨?_, fun v ev => ?_⟩
        · show (ts ++ m :: more)[j + 1]? = _
          rw [List.getElem?_append_right (by omega), show j + 1 - ts.length = (j - ts.length) + 1 by omega, List.getElem?_cons_succ]; exact e
        · have ev : (vs ++ w :: morev)[j + 1]? = some v := ev
          rw [List.getElem?_append_right (by omega), show j + 1 - vs.length = (j - vs.length) + 1 by omega, List.getElem?_cons_succ] at ev
          rw [List.getElem?_append_right (by omega)]; exact ev
  · cases r with
    | s k =>
      cases r' with
      | s k' =>
        have e : (if k = i then Rt.t ts.length else .s k) = (if k' = i then Rt.t ts.length else .s k') := e
        split at e <;> split at e
        · congr 1; omega
        · cases e
        · cases e
        · exact e
      | t j' =>
        have e : (if k = i then Rt.t ts.length else .s k) = (if j' < ts.length then Rt.t j' else .t (j' + 1)) := e
        repeat' split at e
        all_goals first | omega | (have e' := Rt.t.inj e; omega) | (cases e)
    | t j =>
      cases r' with
      | s k' =>
        have e : (if j < ts.length then Rt.t j else .t (j + 1)) = (if k' = i then Rt.t ts.length else .s k') := e
        repeat' split at e
        all_goals first | omega | (have e' := Rt.t.inj e; omega) | (cases e)
      | t j' =>
        have e : (if j < ts.length then Rt.t j else .t (j + 1)) = (if j' < ts.length then Rt.t j' else .t (j' + 1)) := e
        congr 1
        repeat' split at e
        all_goals first | omega | (have e' := Rt.t.inj e; omega) | (cases e)
/-- a value of the stack goes -/
theorem SR.dropT (h : SR K E env (ts ++ m :: more) σ (vs ++ w :: morev) H F) (lt : ts.length = vs.length) : ∃ F', SR K E env (ts ++ more) σ (vs ++ morev) H F' ∧ ∀ a, Own F' a → Own F a := by
  let φ : Rt → Rt := fun r => match r with
    | .s k => .s k
    | .t j => if j < ts.length then .t j else .t (j + 1)
  have hl := h.lent
  simp only [List.length_append, List.length_cons] at hl
  refine Exists.elim (h.remap (env' := env) (ts' := ts ++ more) (vs' := vs ++ morev) φ (fun r m' e => ?_) (fun r r' n1 n2 e => ?_) rfl (by simp; omega)) fun F' h2 => ⟨F', h2.1, h2.2.1⟩
  · cases r with
    | s k => exact ⟨e, fun v ev => ev⟩
    | t j =>
      have e : (ts ++ more)[j]? = some m' := e
      show getR env _ (if j < ts.length then Rt.t j else .t (j + 1)) = _ ∧ ∀ v, valR σ _ (if j < ts.length then Rt.t j else .t (j + 1)) = _ → (vs ++ morev)[j]? = some v
      split
      · rename_i l
        rw [List.getElem?_append_left l] at e
        refine ⟨?_, fun v ev => ?_⟩
        · show (ts ++ m :: more)[j]? = _
          rw [List.getElem?_append_left l]; exact e
        · have ev : (vs ++ w :: morev)[j]? = some v := ev
          rw [List.getElem?_append_left (by omega)] at ev
          rw [List.getElem?_append_left (by omega)]; exact ev
      · rename_i l
        rw [List.getElem?_append_right (by omega)] at e
        refine ⟨?_, fun v ev => ?_⟩
        · show (ts ++ m :: more)[j + 1]? = _
          rw [List.getElem?_append_right (by omega), show j + 1 - ts.length = (j - ts.length) + 1 by omega, List.getElem?_cons_succ]; exact e
        · have ev : (vs ++ w :: morev)[j + 1]? = some v := ev
          rw [List.getElem?_append_right (by omega), show j + 1 - vs.length = (j - vs.length) + 1 by omega, List.getElem?_cons_succ] at ev
          rw [List.getElem?_append_right (by omega)]; exact ev
  · cases r with
    | s k =>
      cases r' with
      | s k' => exact e
      | t j' =>
        have e : Rt.s k = (if j' < ts.length then Rt.t j' else .t (j' + 1)) := e
        repeat' split at e
        all_goals first | omega | (have e' := Rt.t.inj e; omega) | (cases e)
    | t j =>
      cases r' with
      | s k' =>
        have e : (if j < ts.length then Rt.t j else .t (j + 1)) = Rt.s k' := e
        repeat' split at e
        all_goals first | omega | (have e' := Rt.t.inj e; omega) | (cases e)
      | t j' =>
        have e : (if j < ts.length then Rt.t j else .t (j + 1)) = (if j' < ts.length then Rt.t j' else .t (j' + 1)) := e
        congr 1
        repeat' split at e
        all_goals first | omega | (have e' := Rt.t.inj e; omega) | (cases e)
/-- a value of the stack let go in its place -/
theorem SR.freezeT (h : SR K E env (ts ++ m :: more) σ (vs ++ w :: morev) H F) (lt : ts.length = vs.length) : ∃ F', SR K E env (ts ++ .d (Yf.freeze m) :: more) σ (vs ++ w :: morev) H F' := by
  have get1 : getR env (ts ++ m :: more) (.t ts.length) = some m := by show (ts ++ m :: more)[ts.length]? = _; rw [List.getElem?_append_right (by omega), Nat.sub_self]; rfl
  have val1 : valR σ (vs ++ w :: morev) (.t ts.length) = some w := by show (vs ++ w :: morev)[ts.length]? = _; rw [List.getElem?_append_right (by omega), lt, Nat.sub_self]; rfl
  obtain ⟨v', ev', q⟩ := h.rep _ _ get1
  rw [val1] at ev'
  cases ev'
  have fz : Rep K H (Av E (fset F (.t ts.length) [])) (Yf.freeze m) w := q.freeze (fun a z => z.imp_left fun z => (own_pop z).1) fun a ha z => z.elim (fun z => (own_pop z).2 h.dis ha) fun z => (h.theirs z).2 ⟨_, ha⟩
  refine ⟨fset F (.t ts.length) [], h.write (m' := .d (Yf.freeze m)) (r := .t ts.length) (v := w) (f := []) get1 val1 (fun q => ?_) rfl (by simp) (fun _ _ _ e => e) (by simp) ⟨rfl, fz⟩⟩
  cases q with
  | s k => simp [getR]
  | t j =>
    show (ts ++ .d (Yf.freeze m) :: more)[j]? = if Rt.t j = .t ts.length then _ else (ts ++ m :: more)[j]?
    by_cases ej : j = ts.length
    · subst ej
      rw [if_pos rfl, List.getElem?_append_right (by omega), Nat.sub_self]; rfl
    · rw [if_neg (by simpa using ej)]
      by_cases l : j < ts.length
      · rw [List.getElem?_append_left l, List.getElem?_append_left l]
      · rw [List.getElem?_append_right (by omega), List.getElem?_append_right (by omega)]
        obtain ⟨k, hk⟩ : ∃ k, j - ts.length = k + 1 := ⟨j - ts.length - 1, by omega⟩
        rw [hk, List.getElem?_cons_succ, List.getElem?_cons_succ]
end
/-! ### arguments -/
def argOf (own : Bool) (p : Rv) (env : Sl) : Option (M × Sl × Option Nat) :=
  match p with
  | .inr m => some (if own then m else .d (freeze m), env, none)
  | .inl i =>
    match (env[i]?).join with
    | none => none
    | some (.d d) => some (.d d, env, none)
    | some m => if own then some (m, env.set i none, some i) else some (.d (freeze m), env.set i (some (.d (freeze m))), none)
/-- the arguments as the callee gets them; the state; for each that may be changed the slot that it came from -/
def argsOf (io : List Nat) : Nat → List Rv → Sl → Option (List M × Sl × List (Option Nat))
  | _, [], env => some ([], env, [])
  | j, p :: ps, env =>
    match argOf (io.contains j) p env with
    | none => none
    | some (m, env1, b) =>
      match argsOf io (j + 1) ps env1 with
      | none => none
      | some (ms, env2, bs) => some (m :: ms, env2, if io.contains j then b :: bs else bs)
def SlotsAre (σ : St) : List Rv → List V → Prop
  | [], _ => True
  | p :: ps, w :: ws => (match p with | .inl i => (σ[i]?).join = some w | .inr _ => True) ∧ SlotsAre σ ps ws
  | _, _ => False
theorem slotsAre_of {σ : St} {vs : List V} : ∀ {ps : List Rv} {ws : List V} {n : Nat}, ws.length = ps.length → ValsAre σ vs (roots ps n) ws → SlotsAre σ ps ws
  | [], _, _, _, _ => trivial
  | p :: ps, w :: ws, n, l, h => by
    obtain ⟨h1, h2⟩ := h
    refine ⟨?_, slotsAre_of (by simpa using l) h2⟩
    cases p with
    | inl i => exact h1
    | inr m => trivial
/-- the slots that are to be filled again hold the values still -/
def BacksAre (σ : St) (n : Nat) : List (Option Nat) → List V → Prop
  | [], [] => True
  | none :: bs, _ :: ws => BacksAre σ n bs ws
  | some i :: bs, w :: ws => (σ[i]?).join = some w ∧ i < n ∧ BacksAre σ n bs ws
  | _, _ => False
def iosOf {α : Type} (io : List Nat) : Nat → List α → List α
  | _, [] => []
  | j, x :: xs => if io.contains j then x :: iosOf io (j + 1) xs else iosOf io (j + 1) xs
section
variable {K : PySem.W.Frag} {E : Ent} {σ : St} {H : Hp}
theorem argsOf_of {io : List Nat} : ∀ {ps : List Rv} {ws : List V} {j : Nat} {env env' : Sl} {ts : List M} {vs : List V} {ms : List M} {bs : List (Option Nat)}, ws.length = ps.length → ts.length = vs.length → SlotsAre σ ps ws → SRel K E env (ts ++ exts ps) σ (vs ++ extVs ps ws) H →
    argsOf io j ps env = some (ms, env', bs) → SRel K E env' (ts ++ ms) σ (vs ++ ws) H ∧ BacksAre σ E.n bs (iosOf io j ws) ∧ (∀ (k : Nat) m, ms[k]? = some m → io.contains (j + k) = false → ∃ d, m = .d d) ∧ ms.length = ws.length
  | [], [], j, env, env', ts, vs, ms, bs, _, _, _, h, e => by
    simp only [argsOf, Option.some.injEq, Prod.mk.injEq] at e
    obtain ⟨rfl, rfl, rfl⟩ := e
    exact ⟨by simpa [exts, extVs] using h, trivial, by simp, rfl⟩
  | p :: ps, w :: ws, j, env, env', ts, vs, ms, bs, l, lt, sl, h, e => by
    simp only [argsOf] at e
    cases e1 : argOf (io.contains j) p env with
    | none => rw [e1] at e; cases e
    | some r =>
      obtain ⟨m, env1, b⟩ := r
      rw [e1] at e
      simp only at e
      cases e2 : argsOf io (j + 1) ps env1 with
      | none => rw [e2] at e; cases e
      | some r2 =>
        obtain ⟨ms', env2, bs'⟩ := r2
        rw [e2] at e
        simp only [Option.some.injEq, Prod.mk.injEq] at e
        obtain ⟨rfl, rfl, rfl⟩ := e
        have step : SRel K E env1 (ts ++ m :: exts ps) σ (vs ++ w :: extVs ps ws) H ∧ (io.contains j = false → ∃ d, m = .d d) ∧ (b = none ∨ ∃ i, b = some i ∧ (σ[i]?).join = some w ∧ i < E.n) := by
          cases p with
          | inr m0 =>
            simp only [argOf, Option.some.injEq, Prod.mk.injEq] at e1
            obtain ⟨rfl, rfl, rfl⟩ := e1
            obtain ⟨F, h⟩ := h
            have h : SR K E env (ts ++ m0 :: exts ps) σ (vs ++ w :: extVs ps ws) H F := h
            refine ⟨?_, fun n => ?_, .inl rfl⟩
            · cases io.contains j with
              | true => exact ⟨F, h⟩
              | false => exact h.freezeT lt
            · rw [n]; exact ⟨_, rfl⟩
          | inl i =>
            obtain ⟨F, h⟩ := h
            have h : SR K E env (ts ++ exts ps) σ (vs ++ extVs ps ws) H F := h
            have ev : (σ[i]?).join = some w := sl.1
            simp only [argOf] at e1
            cases e3 : (env[i]?).join with
            | none => rw [e3] at e1; cases e1
            | some m0 =>
              have hi : i < env.length := by
                apply Classical.byContradiction
                intro n
                rw [List.getElem?_eq_none (by omega)] at e3
                cases e3
              have frz : ∃ F', SR K E (env.set i (some (.d (freeze m0)))) (ts ++ .d (freeze m0) :: exts ps) σ (vs ++ w :: extVs ps ws) H F' := by
                obtain ⟨F', v', ev', h2, q2⟩ := h.freeze e3
                rw [ev'] at ev
                cases ev
                exact h2.insD lt q2
              have own : io.contains j = true → ∃ F', SR K E (env.set i none) (ts ++ m0 :: exts ps) σ (vs ++ w :: extVs ps ws) H F' := fun _ => h.insS lt e3 ev
              rw [e3] at e1
              cases m0 with
              | d d0 =>
                simp only [Option.some.injEq, Prod.mk.injEq] at e1
                obtain ⟨rfl, rfl, rfl⟩ := e1
                obtain ⟨v', ev', q⟩ := getσ h e3
                rw [ev'] at ev
                cases ev
                exact ⟨h.insD lt q.2, fun _ => ⟨_, rfl⟩, .inl rfl⟩
              | lst ds =>
                simp only at e1
                cases eo : io.contains j with
                | true =>
                  rw [eo, if_pos rfl] at e1
                  cases e1
                  exact ⟨own eo, fun n => (nomatch n), .inr ⟨i, rfl, ev, by rw [← h.ln]; exact hi⟩⟩
                | false =>
                  rw [eo, if_neg (by decide)] at e1
                  cases e1
                  exact ⟨frz, fun _ => ⟨_, rfl⟩, .inl rfl⟩
              | dct ds =>
                simp only at e1
                cases eo : io.contains j with
                | true =>
                  rw [eo, if_pos rfl] at e1
                  cases e1
                  exact ⟨own eo, fun n => (nomatch n), .inr ⟨i, rfl, ev, by rw [← h.ln]; exact hi⟩⟩
                | false =>
                  rw [eo, if_neg (by decide)] at e1
                  cases e1
                  exact ⟨frz, fun _ => ⟨_, rfl⟩, .inl rfl⟩
        obtain ⟨s1, s2, s3⟩ := step
        obtain ⟨i1, i2, i3, i4⟩ := argsOf_of (ps := ps) (ws := ws) (j := j + 1) (env := env1) (env' := env2) (ts := ts ++ [m]) (vs := vs ++ [w]) (ms := ms') (bs := bs') (by simpa using l) (by simp [lt]) sl.2 (by simpa [List.append_assoc] using s1) e2
        refine ⟨by simpa [List.append_assoc] using i1, ?_, fun k m' ek hk => ?_, by simp [i4]⟩
        · simp only [iosOf]
          cases eo : io.contains j with
          | true =>
            rw [if_pos rfl, if_pos rfl]
            rcases s3 with rfl | ⟨i, rfl, z1, z2⟩
            · exact i2
            · exact ⟨z1, z2, i2⟩
          | false => rw [if_neg (by decide), if_neg (by decide)]; exact i2
        · cases k with
          | zero =>
            simp only [List.getElem?_cons_zero, Option.some.injEq] at ek
            subst ek
            exact s2 (by simpa using hk)
          | succ k =>
            refine i3 k m' (by simpa using ek) ?_
            rw [← hk]
            congr 1
            omega
/-- what was changed goes back to its slots -/
def putBack : List (Option Nat) → List M → Sl → Sl
  | some i :: bs, o :: os, env => putBack bs os (env.set i (some o))
  | none :: bs, _ :: os, env => putBack bs os env
  | _, _, env => env
theorem putBack_of : ∀ {bs : List (Option Nat)} {os : List M} {ws : List V} {env : Sl} {ts : List M} {vs : List V} {more : List M} {morev : List V} {F : Rt → List Addr}, BacksAre σ E.n bs ws → os.length = ws.length → ts.length = vs.length → SR K E env (ts ++ os ++ more) σ (vs ++ ws ++ morev) H F →
    ∃ F', SR K E (putBack bs os env) (ts ++ more) σ (vs ++ morev) H F' ∧ ∀ a, Own F' a → Own F a
  | [], [], [], env, ts, vs, more, morev, F, _, _, _, h => ⟨F, by simpa [putBack] using h, fun _ z => z⟩
  | none :: bs, o :: os, w :: ws, env, ts, vs, more, morev, F, b, l, lt, h => by
    have h' : SR K E env (ts ++ o :: (os ++ more)) σ (vs ++ w :: (ws ++ morev)) H F := by simpa [List.append_assoc] using h
    obtain ⟨F1, h2, s1⟩ := h'.dropT lt
    obtain ⟨F2, h3, s2⟩ := putBack_of (bs := bs) (os := os) (ws := ws) (more := more) (morev := morev) b (by simpa using l) lt (by simpa [List.append_assoc] using h2)
    exact ⟨F2, h3, fun a z => s1 a (s2 a z)⟩
  | some i :: bs, o :: os, w :: ws, env, ts, vs, more, morev, F, b, l, lt, h => by
    obtain ⟨b1, b2, b3⟩ := b
    have h' : SR K E env (ts ++ o :: (os ++ more)) σ (vs ++ w :: (ws ++ morev)) H F := by simpa [List.append_assoc] using h
    obtain ⟨F1, h2, s1⟩ := h'.back lt (by rw [h'.ln]; exact b2) b1
    obtain ⟨F2, h3, s2⟩ := putBack_of (bs := bs) (os := os) (ws := ws) (more := more) (morev := morev) b3 (by simpa using l) lt (by simpa [List.append_assoc] using h2)
    exact ⟨F2, h3, fun a z => s1 a (s2 a z)⟩
  | [], _ :: _, [], _, _, _, _, _, _, _, l, _, _ => by simp at l
  | [], _, _ :: _, _, _, _, _, _, _, b, _, _, _ => by simp [BacksAre] at b
  | none :: _, _, [], _, _, _, _, _, _, b, _, _, _ => by simp [BacksAre] at b
  | some _ :: _, _, [], _, _, _, _, _, _, b, _, _, _ => by simp [BacksAre] at b
  | none :: _, [], _ :: _, _, _, _, _, _, _, _, l, _, _ => by simp at l
  | some _ :: _, [], _ :: _, _, _, _, _, _, _, _, l, _, _ => by simp at l
end
end Yf
namespace Yf
open PySem PySem.Spec L2
open PyProof.Rows hiding St
/-- a def: which parameters it may change, how many it has, what it does -/
structure Fn where
  io : List Nat
  ar : Nat
  run : List M → Option (Sum Xc M × List M)
/-- arguments on a stack of their own -/
abbrev Alone (T : List (Addr × Str)) (H : Hp) (F : Rt → List Addr) (A : Addr → Prop) : Ent := ⟨H, Own F, [], 0, A, T⟩
/-- a def's promise -/
def spF (K : PySem.W.Frag) (mg : Str → Option Value) (T : List (Addr × Str)) (fn : Fn) : Sp := fun vs H Q Exc => vs.length = fn.ar ∧ ∃ ms F A, SR K (Alone T H F A) [] ms [] vs H F ∧ (∀ (j : Nat) m, ms[j]? = some m → fn.io.contains j = false → ∃ d, m = .d d) ∧
  match fn.run ms with
  | some (.inr r, os) => ∀ v H' F', SR K (Alone T H F A) [] (os ++ [r]) [] (iosOf fn.io 0 vs ++ [v]) H' F' → Q v H'
  | some (.inl x, os) => ∀ cls dx H' F', SR K (Alone T H F A) [] os [] (iosOf fn.io 0 vs) H' F' → XRel K mg H' (Av (Alone T H F A) F') x cls dx → Exc cls dx H'
  | none => False
theorem spF_len {K : PySem.W.Frag} {mg : Str → Option Value} {T : List (Addr × Str)} {fn : Fn} : ∀ vs H Q E, spF K mg T fn vs H Q E → vs.length = fn.ar := fun _ _ _ _ h => h.1
section
variable {K : PySem.W.Frag} {E : Ent} {env : Sl} {ts ms os : List M} {σ : St} {vs xs ws : List V} {H H' : Hp} {F F' : Rt → List Addr}
/-- the arguments on top of the stack, alone -/
def shiftF (F : Rt → List Addr) (n : Nat) : Rt → List Addr := fun r => match r with
  | .s _ => []
  | .t j => F (.t (n + j))
theorem own_shift {n : Nat} {a : Addr} (h : Own (shiftF F n) a) : Own F a := by
  obtain ⟨r, hr⟩ := h
  cases r with
  | s i => cases hr
  | t j => exact ⟨_, hr⟩
/-- what the others own -/
def othA (E : Ent) (F : Rt → List Addr) (n : Nat) : Addr → Prop := fun a => Av E F a ∧ ¬ Own (shiftF F n) a
theorem SR.args (h : SR K E env (ts ++ ms) σ (vs ++ xs) H F) (lt : ts.length = vs.length) : SR K (Alone E.T H (shiftF F ts.length) (othA E F ts.length)) [] ms [] xs H (shiftF F ts.length) := by
  have hl := h.lent
  simp only [List.length_append] at hl
  have g : ∀ (j : Nat), getR env (ts ++ ms) (.t (ts.length + j)) = ms[j]? := fun j => by
    show (ts ++ ms)[ts.length + j]? = _
    rw [List.getElem?_append_right (by omega), Nat.add_sub_cancel_left]
  have gv : ∀ (j : Nat), valR σ (vs ++ xs) (.t (ts.length + j)) = xs[j]? := fun j => by
    show (vs ++ xs)[ts.length + j]? = _
    rw [lt, List.getElem?_append_right (by omega), Nat.add_sub_cancel_left]
  refine ⟨rfl, by omega, fun r m e => ?_, fun r e => ?_, fun r r' a h1 h2 => ?_, Step.refl, (fun _ hp => nomatch hp), rfl, fun a z => ⟨z.2, z.1.elim (fun q => let ⟨u, e, _⟩ := h.there q; ⟨u, e⟩) fun q => (h.theirs q).1⟩, h.tab⟩
  · cases r with
    | s i => simp [getR] at e
    | t j =>
      have e : ms[j]? = some m := e
      obtain ⟨v, ev, q⟩ := h.rep _ m ((g j).trans e)
      rw [gv] at ev
      refine ⟨v, ev, q.step (fun a o e n => ⟨e, fun z => n (z.elim (fun z => .inl (own_shift z)) fun z => z.elim (fun z => z.1) fun z => .inr (.inr z))⟩) fun _ _ => rfl⟩
  · cases r with
    | s i => rfl
    | t j => exact h.emp _ ((g j).trans e)
  · cases r with
    | s i => cases h1
    | t j =>
      cases r' with
      | s i => cases h2
      | t j' =>
        have e := h.dis _ _ a h1 h2
        injection e with e
        congr 1
        omega
/-- behind the call -/
theorem SR.called (h : SR K E env (ts ++ ms) σ (vs ++ xs) H F) (lt : ts.length = vs.length) (h2 : SR K (Alone E.T H (shiftF F ts.length) (othA E F ts.length)) [] os [] ws H' F') : ∃ F2, SR K E env (ts ++ os) σ (vs ++ ws) H' F2 ∧ ∀ a, Av E F2 a → Av (Alone E.T H (shiftF F ts.length) (othA E F ts.length)) F' a := by
  have hl := h.lent
  have hl2 := h2.lent
  simp only [List.length_append] at hl
  let F2 : Rt → List Addr := fun r => match r with
    | .s i => F (.s i)
    | .t j => if j < ts.length then F (.t j) else F' (.t (j - ts.length))
  -- what the others own is not the callee's
  have oth : ∀ r a, a ∈ F r → (∀ j, r = .t j → j < ts.length) → H' a = H a ∧ ¬ Own F' a := fun r a ha hr => by
    obtain ⟨u, eu, _⟩ := h.there ⟨r, ha⟩
    have n : ¬ Own (shiftF F ts.length) a := fun ⟨q, hq⟩ => by
      cases q with
      | s i => cases hq
      | t j =>
        have e := h.dis _ _ a ha hq
        have := hr _ e
        omega
    have z := h2.step a u eu fun y => y.elim n (h.notTab ⟨r, ha⟩)
    exact ⟨z.1.trans eu.symm, fun y => z.2 (.inl y)⟩
  have own2 : ∀ a, Own F2 a → Own F a ∧ ¬ Own F' a ∨ Own F' a := fun a ⟨r, hr⟩ => by
    cases r with
    | s i => exact .inl ⟨⟨_, hr⟩, (oth _ a hr (fun j e => nomatch e)).2⟩
    | t j =>
      have hr : a ∈ (if j < ts.length then F (.t j) else F' (.t (j - ts.length))) := hr
      split at hr
      · rename_i l
        exact .inl ⟨⟨_, hr⟩, (oth _ a hr (fun j' e => by cases e; exact l)).2⟩
      · exact .inr ⟨_, hr⟩
  have st : Step H (fun a => Own F a ∨ tAt E.T a) H' (fun a => Own F2 a ∨ tAt E.T a) := fun a o e n => by
    have z := h2.step a o e fun q => n (q.imp_left own_shift)
    refine ⟨z.1, fun q => ?_⟩
    rcases q with q | q
    · rcases own2 a q with q | q
      · exact n (.inl q.1)
      · exact z.2 (.inl q)
    · exact n (.inr q)
  have avb : ∀ a, Av E F2 a → Av (Alone E.T H (shiftF F ts.length) (othA E F ts.length)) F' a := fun a z => by
    rcases z with z | z
    · obtain ⟨r, hr⟩ := z
      have back : ∀ r, a ∈ F r → (∀ j, r = .t j → j < ts.length) → othA E F ts.length a := fun r hr c => ⟨.inl ⟨r, hr⟩, fun ⟨q, hq⟩ => by
        cases q with
        | s i => cases hq
        | t j =>
          have e := h.dis _ _ a hr hq
          have := c _ e
          omega⟩
      cases r with
      | s i => exact .inr (.inl (back (.s i) hr fun j e => nomatch e))
      | t j =>
        have hr : a ∈ (if j < ts.length then F (.t j) else F' (.t (j - ts.length))) := hr
        split at hr
        · rename_i l2
          exact .inr (.inl (back (.t j) hr fun j' e => by cases e; exact l2))
        · exact .inl ⟨_, hr⟩
    · exact .inr (.inl ⟨.inr z, fun q => (h.theirs z).2 (own_shift q)⟩)
  refine ⟨F2, h.makeT st h2.tab h.len (by simp; omega) (fun r m e => ?_) (fun r e => ?_) (fun r r' a h1 h2' => ?_), fun a z => avb a z⟩
  · cases r with
    | s i =>
      obtain ⟨v, ev, _⟩ := h.rep (.s i) m e
      exact .inl ⟨.s i, v, e, ev, ev, rfl, fun a ha => (oth _ a ha (fun j e => nomatch e)).1⟩
    | t j =>
      have e : (ts ++ os)[j]? = some m := e
      by_cases l : j < ts.length
      · rw [List.getElem?_append_left l] at e
        have e' : getR env (ts ++ ms) (.t j) = some m := by show (ts ++ ms)[j]? = _; rw [List.getElem?_append_left l]; exact e
        obtain ⟨v, ev, _⟩ := h.rep (.t j) m e'
        refine .inl ⟨.t j, v, e', ev, ?_, ?_, fun a ha => (oth _ a ha (fun j' e => by cases e; exact l)).1⟩
        · have ev : (vs ++ xs)[j]? = some v := ev
          rw [List.getElem?_append_left (by omega)] at ev
          show (vs ++ ws)[j]? = some v
          rw [List.getElem?_append_left (by omega)]; exact ev
        · show (if j < ts.length then _ else _) = _
          rw [if_pos l]
      · rw [List.getElem?_append_right (by omega)] at e
        obtain ⟨v, ev, q⟩ := h2.rep (.t (j - ts.length)) m e
        refine .inr ⟨v, ?_, ?_⟩
        · have ev : ws[j - ts.length]? = some v := ev
          show (vs ++ ws)[j]? = some v
          rw [List.getElem?_append_right (by omega), ← lt]; exact ev
        · have eF : F2 (.t j) = F' (.t (j - ts.length)) := by show (if j < ts.length then _ else _) = _; rw [if_neg l]
          rw [eF]
          exact q.step (fun a o e n => ⟨e, fun z => n (avb a z)⟩) fun _ _ => rfl
  · cases r with
    | s i => exact h.emp (.s i) e
    | t j =>
      have e : (ts ++ os)[j]? = none := e
      have l := List.getElem?_eq_none_iff.mp e
      simp only [List.length_append] at l
      show (if j < ts.length then _ else _) = _
      rw [if_neg (by omega)]
      refine h2.emp (.t (j - ts.length)) ?_
      show os[j - ts.length]? = none
      rw [List.getElem?_eq_none (by omega)]
  · have cl : ∀ r a, a ∈ F2 r → (∃ q, r = q ∧ a ∈ F q ∧ ∀ j, q = .t j → j < ts.length) ∨ (∃ j, r = .t j ∧ ts.length ≤ j ∧ a ∈ F' (.t (j - ts.length))) := fun r a hr => by
      cases r with
      | s i => exact .inl ⟨_, rfl, hr, fun j e => nomatch e⟩
      | t j =>
        have hr : a ∈ (if j < ts.length then F (.t j) else F' (.t (j - ts.length))) := hr
        split at hr
        · rename_i l; exact .inl ⟨_, rfl, hr, fun j' e => by cases e; exact l⟩
        · rename_i l; exact .inr ⟨j, rfl, by omega, hr⟩
    rcases cl r a h1 with ⟨q, rfl, c1, c2⟩ | ⟨j, rfl, c1, c2⟩ <;> rcases cl r' a h2' with ⟨q', rfl, d1, d2⟩ | ⟨j', rfl, d1, d2⟩
    · exact h.dis _ _ a c1 d1
    · exact absurd ⟨_, d2⟩ (oth _ a c1 c2).2
    · exact absurd ⟨_, c2⟩ (oth _ a d1 d2).2
    · have e := h2.dis _ _ a c2 d2
      injection e with e
      congr 1
      omega
end
/-! ### calls -/
def evCall (fn : Fn) (fs : List (Sl → Res Rv)) : Sl → Res Rv := fun env => (evs fs env).bind fun ps env1 =>
  match argsOf fn.io 0 ps env1 with
  | none => .stuck
  | some (ms, env2, bs) =>
    if ps.length = fn.ar then
      match fn.run ms with
      | some (.inr r, os) => .ok (.inr r) (putBack bs os env2)
      | some (.inl x, os) => .exc x (putBack bs os env2)
      | none => .stuck
    else .stuck
abbrev kx (X : Cx) (E : Ent) (W : WX) : Kx := ⟨X.K, X.mg, E, W⟩
section
variable {X : Cx} {E : Ent} {W : WX} {σ : St} {H : Hp}
theorem tCall_of {fn : Fn} {fs : List (Sl → Res Rv)} {Q : VK} (h : tE (kx X E W) (evCall fn fs) σ H Q) : tAs (fs.map (tE (kx X E W))) σ H (fun vs H1 => spF X.K X.mg E.T fn vs H1 Q (WE W σ)) := by
  obtain ⟨env, ts, vs, h, q⟩ := h
  have lt := h.lent
  refine tA_of h ?_
  simp only [evCall] at q
  cases e : evs fs env with
  | stuck => rw [e] at q; exact q
  | exc x env1 => rw [e] at q; exact q
  | ok ps env1 =>
    rw [e] at q
    simp only [Res.bind] at q
    intro ws H1 lw h1 va
    cases e1 : argsOf fn.io 0 ps env1 with
    | none => rw [e1] at q; exact q.elim
    | some r =>
      obtain ⟨ms, env2, bs⟩ := r
      rw [e1] at q
      simp only at q
      by_cases ea : ps.length = fn.ar
      · rw [if_pos ea] at q
        obtain ⟨h2, bk, nio, lm⟩ := argsOf_of lw lt (slotsAre_of lw va) h1 e1
        obtain ⟨F, h2⟩ := h2
        refine ⟨by rw [lw]; exact ea, ms, _, _, h2.args lt, fun j m ej hj => nio j m ej (by simpa using hj), ?_⟩
        cases e2 : fn.run ms with
        | none => rw [e2] at q; exact q.elim
        | some r =>
          obtain ⟨o, os⟩ := r
          rw [e2] at q
          cases o with
          | inr r =>
            simp only at q ⊢
            intro v H' F' h3
            have l3 := h3.lent
            simp only [List.length_append, List.length_cons, List.length_nil] at l3
            obtain ⟨F2, h4, _⟩ := h2.called lt h3
            obtain ⟨F3, h5, _⟩ := putBack_of (os := os) (ws := iosOf fn.io 0 ws) (more := [r]) (morev := [v]) bk (by omega) lt (by simpa [List.append_assoc] using h4)
            refine q v H' ⟨F3, h5⟩ ?_
            show (vs ++ [v])[ts.length]? = some v
            rw [lt]; simp
          | inl x =>
            simp only at q ⊢
            intro cls dx H' F' h3 hx
            have l3 := h3.lent
            obtain ⟨F2, h4, s4⟩ := h2.called lt h3
            obtain ⟨F3, h5, s5⟩ := putBack_of (os := os) (ws := iosOf fn.io 0 ws) (more := []) (morev := []) bk l3 lt (by simpa [List.append_assoc] using h4)
            refine q cls dx H' ⟨F3, by simpa using h5, hx.step fun a o e n => ⟨e, fun z => n (s4 a (z.imp_left (s5 a)))⟩⟩
      · rw [if_neg ea] at q; exact q.elim
variable {k : Nat} {f : Addr} {fd : FuncData} {ps : List Str} {fn : Fn} {x : Str} {p pos : Pos} {e : Expr} {es : List Expr} {fs : List (Sl → Res Rv)}
theorem de_call (F : FnOk X.prog X.w X.K X.mg X.base (L2.CX X.prog X.w) k f fd ps (spF X.K X.mg E.T fn)) (hr : Room k X.A) (hg : Gl X x) (hm : X.mg x = some (.ref f)) (hk : PySem.W.keepIn X.K (.ref f) = true) (hb : Binds X.K fd ps []) (tk : Takes X W)
    (ha : DA X (kx X E W) (e :: es) fs) (hdb : (x == ("__debug__" : Str)) = false) (he : starEach (e :: es) X.env = (false, eval e X.env) :: starEach es X.env) (hpl : (backTo pos (starEach es X.env)).any (·.1) = false) :
    DE X (kx X E W) (.Call (.Name x p) (e :: es) [] pos) (evCall fn fs) :=
  ⟨(pe_callS F hr hg hm hk hb (fun σ => passAt tk σ) ha.pa hdb he hpl).weak fun σ H Q q => tCall_of q⟩
/-- without arguments; nothing is let out -/
def evCall0 (fn : Fn) : Sl → Res Rv := fun env =>
  if fn.ar = 0 then
    match fn.run [] with
    | some (.inr r, _) => .ok (.inr r) env
    | _ => .stuck
  else .stuck
theorem de_call0 (F : FnOk X.prog X.w X.K X.mg X.base (L2.CX X.prog X.w) k f fd ps (spF X.K X.mg E.T fn)) (hr : Room k X.A) (hg : Gl X x) (hm : X.mg x = some (.ref f)) (hk : PySem.W.keepIn X.K (.ref f) = true) (hb : Binds X.K fd ps [])
    (hdb : (x == ("__debug__" : Str)) = false) : DE X (kx X E W) (.Call (.Name x p) [] [] pos) (evCall0 fn) := by
  refine ⟨(pe_call0 (dvs := []) F hr hg hm hk hb .nil passL hdb).weak fun σ H Q q => ?_⟩
  obtain ⟨env, ts, vs, h, q⟩ := q
  have lt := h.lent
  obtain ⟨F, h⟩ := h
  show spF X.K X.mg E.T fn ([] ++ []) H Q E0
  simp only [evCall0] at q
  by_cases ea : fn.ar = 0
  · rw [if_pos ea] at q
    have h2 : SR X.K E env (ts ++ []) σ (vs ++ []) H F := by simpa using h
    refine ⟨by simp [ea], [], _, _, h2.args lt, fun j m ej _ => by simp at ej, ?_⟩
    cases e2 : fn.run [] with
    | none => rw [e2] at q; exact q.elim
    | some r =>
      obtain ⟨o, os⟩ := r
      rw [e2] at q
      cases o with
      | inl x => exact q.elim
      | inr r =>
        simp only at q ⊢
        intro v H' F' h3
        obtain ⟨F2, h4, _⟩ := h2.called lt h3
        have l3 := h3.lent
        simp only [iosOf, List.length_append, List.length_cons, List.length_nil] at l3
        have e0 : os = [] := List.eq_nil_of_length_eq_zero (by simpa [iosOf] using l3)
        subst e0
        refine q v H' (show SRel X.K E env (ts ++ [r]) σ (vs ++ [v]) H' from ⟨F2, by simpa [iosOf] using h4⟩) ?_
        show (vs ++ [v])[ts.length]? = some v
        rw [lt]; simp
  · rw [if_neg ea] at q; exact q.elim
end
/-! ### a def by its body -/
def collect (io : List Nat) (ar : Nat) (env : Sl) : Option (List M) :=
  (iosOf io 0 (List.range ar)).foldr (fun j r => match (env[j]?).join, r with | some m, some ms => some (m :: ms) | _, _ => none) (some [])
def bodyEnv (n : Nat) (ms : List M) : Sl := ms.map some ++ List.replicate (n - ms.length) none
/-- what a body does with its arguments -/
def mkRun (io : List Nat) (ar n : Nat) (s : Sl → SRes) (ms : List M) : Option (Sum Xc M × List M) :=
  match s (bodyEnv n ms) with
  | .rt m env => (collect io ar env).map fun os => (.inr m, os)
  | .nx env => (collect io ar env).map fun os => (.inr (.d .none), os)
  | .exc x env => (collect io ar env).map fun os => (.inl x, os)
  | _ => none
def mkFn (io : List Nat) (ar n : Nat) (s : Sl → SRes) : Fn := ⟨io, ar, mkRun io ar n s⟩
theorem collect_of {env : Sl} {L : List Nat} {ms : List M} (h : L.foldr (fun j r => match (env[j]?).join, r with | some m, some ms => some (m :: ms) | _, _ => none) (some []) = some ms) :
    ms.length = L.length ∧ ∀ (k j : Nat), L[k]? = some j → ms[k]? = (env[j]?).join := by
  induction L generalizing ms with
  | nil =>
    cases h
    exact ⟨rfl, fun k j e => by simp at e⟩
  | cons j0 L ih =>
    simp only [List.foldr_cons] at h
    cases e1 : (env[j0]?).join with
    | none => rw [e1] at h; cases h
    | some m =>
      rw [e1] at h
      cases e2 : L.foldr (fun j r => match (env[j]?).join, r with | some m, some ms => some (m :: ms) | _, _ => none) (some []) with
      | none => rw [e2] at h; cases h
      | some ms' =>
        rw [e2] at h
        cases h
        obtain ⟨h1, h2⟩ := ih e2
        refine ⟨by simp [h1], fun k j e => ?_⟩
        cases k with
        | zero =>
          simp only [List.getElem?_cons_zero, Option.some.injEq] at e
          subst e
          simp [e1]
        | succ k => simpa using h2 k j (by simpa using e)
theorem mem_iosOf {α : Type} {io : List Nat} : ∀ {xs : List α} {j k : Nat} {x : α}, (iosOf io j xs)[k]? = some x → ∃ i, io.contains (j + i) = true ∧ xs[i]? = some x
  | [], _, _, _, h => by simp [iosOf] at h
  | y :: ys, j, k, x, h => by
    simp only [iosOf] at h
    cases e : io.contains j with
    | true =>
      rw [e, if_pos rfl] at h
      cases k with
      | zero => exact ⟨0, e, by simpa using h⟩
      | succ k =>
        obtain ⟨i, h1, h2⟩ := mem_iosOf (io := io) (xs := ys) (j := j + 1) (k := k) (by simpa using h)
        exact ⟨i + 1, by rw [← h1]; congr 1; omega, by simpa using h2⟩
    | false =>
      rw [e, if_neg (by decide)] at h
      obtain ⟨i, h1, h2⟩ := mem_iosOf (io := io) (xs := ys) (j := j + 1) h
      exact ⟨i + 1, by rw [← h1]; congr 1; omega, by simpa using h2⟩
/-- positions and values alike -/
theorem iosOf_zip {α β : Type} {io : List Nat} : ∀ {xs : List α} {ys : List β} {j : Nat}, xs.length = ys.length → (iosOf io j xs).length = (iosOf io j ys).length ∧ ∀ (k : Nat) a b, (iosOf io j xs)[k]? = some a → (iosOf io j ys)[k]? = some b → ∃ i, io.contains (j + i) = true ∧ xs[i]? = some a ∧ ys[i]? = some b
  | [], [], _, _ => ⟨rfl, fun k a b h => by simp [iosOf] at h⟩
  | x :: xs, y :: ys, j, l => by
    obtain ⟨h1, h2⟩ := iosOf_zip (io := io) (xs := xs) (ys := ys) (j := j + 1) (by simpa using l)
    simp only [iosOf]
    cases e : io.contains j with
    | true =>
      rw [if_pos rfl, if_pos rfl]
      refine ⟨by simp [h1], fun k a b ha hb => ?_⟩
      cases k with
      | zero => exact ⟨0, e, by simpa using ha, by simpa using hb⟩
      | succ k =>
        obtain ⟨i, z, p, q⟩ := h2 k a b (by simpa using ha) (by simpa using hb)
        exact ⟨i + 1, by rw [← z]; congr 1; omega, by simpa using p, by simpa using q⟩
    | false =>
      rw [if_neg (by decide), if_neg (by decide)]
      refine ⟨h1, fun k a b ha hb => ?_⟩
      obtain ⟨i, z, p, q⟩ := h2 k a b ha hb
      exact ⟨i + 1, by rw [← z]; congr 1; omega, by simpa using p, by simpa using q⟩
theorem iosOf_inj {io : List Nat} : ∀ (n j : Nat), (iosOf io j (List.range' j n)).Nodup ∧ ∀ x ∈ iosOf io j (List.range' j n), j ≤ x
  | 0, j => by simp [iosOf]
  | n + 1, j => by
    obtain ⟨h1, h2⟩ := iosOf_inj n (j + 1)
    rw [List.range'_succ]
    simp only [iosOf]
    cases e : io.contains j with
    | true =>
      rw [if_pos rfl]
      refine ⟨List.nodup_cons.mpr ⟨fun z => ?_, h1⟩, fun x hx => ?_⟩
      · have := h2 j z; omega
      · rcases List.mem_cons.mp hx with z | z
        · omega
        · have := h2 x z; omega
    | false =>
      rw [if_neg (by decide)]
      exact ⟨h1, fun x hx => by have := h2 x hx; omega⟩
/-- the parameters that may be changed, with their values -/
def ioVals (io : List Nat) (vs : List V) : List (Nat × V) := (iosOf io 0 (List.range vs.length)).zip (iosOf io 0 vs)
section
variable {K : PySem.W.Frag} {ms : List M} {vs : List V} {H H' : Hp} {F F' : Rt → List Addr} {A : Addr → Prop} {T : List (Addr × Str)} {N : List Str} {io : List Nat}
theorem ioVals_mem {p : Nat × V} (h : p ∈ ioVals io vs) : vs[p.1]? = some p.2 := by
  obtain ⟨k, hk⟩ := List.mem_iff_getElem?.mp h
  rw [ioVals, List.getElem?_zip_eq_some] at hk
  obtain ⟨i, _, h1, h2⟩ := (iosOf_zip (io := io) (xs := List.range vs.length) (ys := vs) (j := 0) (by simp)).2 k _ _ hk.1 hk.2
  have : i = p.1 := by
    rw [List.getElem?_range] at h1
    · simpa using h1
    · have := (List.getElem?_eq_some_iff.mp h1).1; simpa using this
  rw [← this]; exact h2
/-- a def's entry -/
theorem SR.enter (h : SR K (Alone T H F A) [] ms [] vs H F) (hN : vs.length ≤ N.length) : ∃ F1, SR K ⟨H, Own F, ioVals io vs, N.length, A, T⟩ (bodyEnv N.length ms) [] (L2.start N vs) [] H F1 := by
  have lm : ms.length = vs.length := h.lent
  have hb : (bodyEnv N.length ms).length = N.length := by simp [bodyEnv]; omega
  have hs : (L2.start N vs).length = N.length := by simp [L2.start]; omega
  -- the entry's own state, then roots moved
  have h' : SR K ⟨H, Own F, [], N.length, A, T⟩ (List.replicate N.length none) ms (List.replicate N.length none) vs H (fun r => match r with | .s _ => [] | .t j => F (.t j)) := by
    have ow : ∀ a, Own (fun r => match r with | .s _ => [] | .t j => F (.t j)) a ↔ Own F a := fun a => by
      constructor
      · rintro ⟨r, hr⟩
        cases r with
        | s i => cases hr
        | t j => exact ⟨_, hr⟩
      · rintro ⟨r, hr⟩
        cases r with
        | s i => rw [h.emp (.s i) (by simp [getR])] at hr; cases hr
        | t j => exact ⟨.t j, hr⟩
    refine ⟨by simp, lm, fun r m e => ?_, fun r e => ?_, fun r r' a h1 h2 => ?_, fun a o e n => ⟨e, fun z => n (z.imp_left (ow a).mp)⟩, (fun _ hp => nomatch hp), by simp, h.av, h.tab⟩
    · cases r with
      | s i =>
        have e : ((List.replicate N.length (none : Option M))[i]?).join = some m := e
        rw [List.getElem?_replicate] at e
        split at e <;> cases e
      | t j =>
        obtain ⟨v, ev, q⟩ := h.rep (.t j) m e
        exact ⟨v, ev, q.step (fun a o e n => ⟨e, fun z => n (z.imp_left (ow a).mp)⟩) fun _ _ => rfl⟩
    · cases r with
      | s i => rfl
      | t j => exact h.emp (.t j) e
    · cases r with
      | s i => cases h1
      | t j =>
        cases r' with
        | s i => cases h2
        | t j' => exact h.dis _ _ a h1 h2
  have getB : ∀ (i : Nat) m, ((bodyEnv N.length ms)[i]?).join = some m → ms[i]? = some m := fun i m e => by
    unfold bodyEnv at e
    by_cases l : i < ms.length
    · rw [List.getElem?_append_left (by simpa using l), List.getElem?_map] at e
      cases q : ms[i]? with
      | none => rw [q] at e; cases e
      | some x => rw [q] at e; simpa using e
    · rw [List.getElem?_append_right (by simp; omega), List.getElem?_replicate] at e
      split at e <;> cases e
  have getS : ∀ (i : Nat) v, vs[i]? = some v → ((L2.start N vs)[i]?).join = some v := fun i v e => by
    have l := (List.getElem?_eq_some_iff.mp e).1
    unfold L2.start
    rw [List.getElem?_append_left (by simpa using l), List.getElem?_map, e]
    rfl
  have getS' : ∀ (i : Nat) v, vs[i]? = some v → (L2.start N vs)[i]? = some (some v) := fun i v e => by
    have l := (List.getElem?_eq_some_iff.mp e).1
    unfold L2.start
    rw [List.getElem?_append_left (by simpa using l), List.getElem?_map, e]
    rfl
  refine ⟨fun r => match r with | .s i => F (.t i) | .t _ => [], ?_⟩
  have ow : ∀ a, Own (fun r => match r with | .s i => F (.t i) | .t _ => []) a ↔ Own F a := fun a => by
    constructor
    · rintro ⟨r, hr⟩
      cases r with
      | s i => exact ⟨_, hr⟩
      | t j => cases hr
    · rintro ⟨r, hr⟩
      cases r with
      | s i => rw [h.emp (.s i) (by simp [getR])] at hr; cases hr
      | t j => exact ⟨.s j, hr⟩
  refine ⟨by rw [hb, hs], rfl, fun r m e => ?_, fun r e => ?_, fun r r' a h1 h2 => ?_, fun a o e n => ⟨e, fun z => n (z.imp_left (ow a).mp)⟩, fun p hp => getS' _ _ (ioVals_mem hp), hb, h.av, h.tab⟩
  · cases r with
    | t j => simp [getR] at e
    | s i =>
      obtain ⟨v, ev, q⟩ := h.rep (.t i) m (getB i m e)
      exact ⟨v, getS i v ev, q.step (fun a o e n => ⟨e, fun z => n (z.imp_left (ow a).mp)⟩) fun _ _ => rfl⟩
  · cases r with
    | t j => rfl
    | s i =>
      refine h.emp (.t i) ?_
      show ms[i]? = none
      cases q : ms[i]? with
      | none => rfl
      | some m =>
        have l := (List.getElem?_eq_some_iff.mp q).1
        have e : ((bodyEnv N.length ms)[i]?).join = none := e
        unfold bodyEnv at e
        rw [List.getElem?_append_left (by simpa using l), List.getElem?_map, q] at e
        cases e
  · cases r with
    | t j => cases h1
    | s i =>
      cases r' with
      | t j => cases h2
      | s i' =>
        have e := h.dis _ _ a h1 h2
        injection e with e
        rw [e]
/-- a def's end: its parameters that may be changed, and what is on the stack -/
theorem SR.leave {env : Sl} {ts os : List M} {σ : St} {ws : List V} {O0 : Addr → Prop} (h : SR K ⟨H, O0, ioVals io vs, N.length, A, T⟩ env ts σ ws H' F') (e : collect io vs.length env = some os) (hF : O0 = Own F) :
    ∃ F2, SR K (Alone T H F A) [] (os ++ ts) [] (iosOf io 0 vs ++ ws) H' F2 ∧ ∀ a, Av (Alone T H F A) F2 a → Av ⟨H, O0, ioVals io vs, N.length, A, T⟩ F' a := by
  subst hF
  obtain ⟨lo, go⟩ := collect_of e
  obtain ⟨le, zp⟩ := iosOf_zip (io := io) (xs := List.range vs.length) (ys := vs) (j := 0) (by simp)
  have nd := (iosOf_inj (io := io) vs.length 0).1
  rw [← List.range_eq_range'] at nd
  let L := iosOf io 0 (List.range vs.length)
  have lL : os.length = L.length := lo
  let φ : Rt → Rt := fun r => match r with
    | .s i => .s i
    | .t j => if j < os.length then .s (L.getD j 0) else .t (j - os.length)
  have getL : ∀ j, j < os.length → L[j]? = some (L.getD j 0) := fun j l => by
    rw [List.getD_eq_getElem?_getD, List.getElem?_eq_getElem (by omega)]; rfl
  let F2 : Rt → List Addr := fun r => match r with
    | .s _ => []
    | .t j => if j < os.length then F' (.s (L.getD j 0)) else F' (.t (j - os.length))
  have sub : ∀ a, Own F2 a → Own F' a := fun a ⟨r, hr⟩ => by
    cases r with
    | s i => cases hr
    | t j =>
      have hr : a ∈ (if j < os.length then F' (.s (L.getD j 0)) else F' (.t (j - os.length))) := hr
      split at hr
      · exact ⟨_, hr⟩
      · exact ⟨_, hr⟩
  have hl := h.lent
  refine ⟨F2, ⟨rfl, by simp only [List.length_append]; omega, fun r m em => ?_, fun r em => ?_, fun r r' a h1 h2 => ?_, fun a o ea n => ?_, (fun _ hp => nomatch hp), rfl, h.av, h.tab⟩, fun a z => z.imp_left (sub a)⟩
  · cases r with
    | s i => simp [getR] at em
    | t j =>
      have em : (os ++ ts)[j]? = some m := em
      by_cases l : j < os.length
      · rw [List.getElem?_append_left l] at em
        have eg := go j _ (getL j l)
        rw [em] at eg
        obtain ⟨v, ev, q⟩ := h.rep (.s (L.getD j 0)) m eg.symm
        have hv : (iosOf io 0 vs)[j]? = some (iosOf io 0 vs)[j] := List.getElem?_eq_getElem (by omega)
        have io' := h.io (L.getD j 0, (iosOf io 0 vs)[j]'(by omega)) (List.mem_iff_getElem?.mpr ⟨j, by
          rw [ioVals, List.getElem?_zip_eq_some]
          exact ⟨getL j l, hv⟩⟩)
        have ev : (σ[L.getD j 0]?).join = some v := ev
        have io' : σ[L.getD j 0]? = some (some ((iosOf io 0 vs)[j]'(by omega))) := io'
        rw [io'] at ev
        have ev : some ((iosOf io 0 vs)[j]'(by omega)) = some v := ev
        cases ev
        refine ⟨(iosOf io 0 vs)[j]'(by omega), ?_, ?_⟩
        · show (iosOf io 0 vs ++ ws)[j]? = _
          rw [List.getElem?_append_left (by omega)]; exact hv
        · have eF : F2 (.t j) = F' (.s (L.getD j 0)) := by show (if j < os.length then _ else _) = _; rw [if_pos l]
          rw [eF]
          exact q.step (fun a o e n => ⟨e, fun z => n (z.imp_left (sub a))⟩) fun _ _ => rfl
      · rw [List.getElem?_append_right (by omega)] at em
        obtain ⟨v, ev, q⟩ := h.rep (.t (j - os.length)) m em
        refine ⟨v, ?_, ?_⟩
        · show (iosOf io 0 vs ++ ws)[j]? = _
          rw [List.getElem?_append_right (by omega), show j - (iosOf io 0 vs).length = j - os.length by omega]; exact ev
        · have eF : F2 (.t j) = F' (.t (j - os.length)) := by show (if j < os.length then _ else _) = _; rw [if_neg l]
          rw [eF]
          exact q.step (fun a o e n => ⟨e, fun z => n (z.imp_left (sub a))⟩) fun _ _ => rfl
  · cases r with
    | s i => rfl
    | t j =>
      have em : (os ++ ts)[j]? = none := em
      have l := List.getElem?_eq_none_iff.mp em
      simp only [List.length_append] at l
      show (if j < os.length then _ else _) = _
      rw [if_neg (by omega)]
      refine h.emp (.t (j - os.length)) ?_
      show ts[j - os.length]? = none
      rw [List.getElem?_eq_none (by omega)]
  · have cl : ∀ r a, a ∈ F2 r → a ∈ F' (φ r) ∧ ∃ j, r = .t j := fun r a hr => by
      cases r with
      | s i => cases hr
      | t j =>
        have hr : a ∈ (if j < os.length then F' (.s (L.getD j 0)) else F' (.t (j - os.length))) := hr
        refine ⟨?_, j, rfl⟩
        show a ∈ F' (if j < os.length then .s (L.getD j 0) else .t (j - os.length))
        split at hr <;> rename_i l
        · rw [if_pos l]; exact hr
        · rw [if_neg l]; exact hr
    obtain ⟨c1, j, rfl⟩ := cl r a h1
    obtain ⟨c2, j', rfl⟩ := cl r' a h2
    have e : (if j < os.length then Rt.s (L.getD j 0) else .t (j - os.length)) = (if j' < os.length then Rt.s (L.getD j' 0) else .t (j' - os.length)) := h.dis _ _ a c1 c2
    congr 1
    split at e <;> split at e <;> rename_i l l'
    · injection e with e
      have g1 := getL j l
      have g2 := getL j' l'
      rw [← e] at g2
      obtain ⟨b1, d1⟩ := List.getElem?_eq_some_iff.mp g1
      obtain ⟨b2, d2⟩ := List.getElem?_eq_some_iff.mp g2
      exact (List.getElem_inj nd).mp (d1.trans d2.symm)
    · cases e
    · cases e
    · injection e with e
      omega
  · have z := h.step a o ea n
    exact ⟨z.1, fun q => z.2 (q.imp_left (sub a))⟩
end
section
variable {P : Program} {w : World} {K : PySem.W.Frag} {mg : Str → Option Value} {base : Heap}
/-- a def, by the evaluation of its body -/
theorem fn_ok {x qual : Str} {st : Stmt} {f : Addr} {fd : FuncData} {N ps : List Str} {k : Nat} {io : List Nat} {s : Sl → SRes} (Fn0 : Fun K x qual st f fd) (S : FnScope N ps (defScope st)) (hl : ps.length ≤ N.length)
    (hbody : ∀ (cdv : Value) (A : Around) (outer : List Env) (s0 : Shared) (H : Hp) (vs : List V) (E : XK) (F : Rt → List Addr) (AA : Addr → Prop), Room k (A.deeper (envOfC qual (defScope st) s0.heap.objs.size f cdv)) →
      Takes (cxOf (L2.CX P w) P w K mg base N qual (defScope st) f cdv A outer s0 H E) (fun cls d _ H => E cls d H) → vs.length = ps.length →
      DSs (cxOf (L2.CX P w) P w K mg base N qual (defScope st) f cdv A outer s0 H E) ⟨K, mg, ⟨H, Own F, ioVals io vs, N.length, AA, T⟩, fun cls d _ H => E cls d H⟩ (defBody st) s) :
    FnOk P w K mg base (L2.CX P w) (k + 1) f fd ps (spF K mg T (mkFn io ps.length N.length s)) := by
  refine Fn0.okX S (fun vs H Q E h => h.1) fun cdv A outer s0 H vs Q E hr hsp => ?_
  obtain ⟨lv, ms, F, AA, h, hio, q⟩ := hsp
  have lv : vs.length = ps.length := lv
  have B := hbody cdv A outer s0 H vs E F AA hr (takes_of rfl rfl rfl rfl) lv
  refine ⟨_, B.pss, ?_⟩
  obtain ⟨F1, h1⟩ := h.enter (N := N) (io := io) (by omega)
  refine ⟨bodyEnv N.length ms, [], [], ⟨F1, h1⟩, ?_⟩
  have q : (match mkRun io ps.length N.length s ms with
  | some (.inr r, os) => ∀ v H' F', SR K (Alone T H F AA) [] (os ++ [r]) [] (iosOf io 0 vs ++ [v]) H' F' → Q v H'
  | some (.inl x, os) => ∀ cls dx H' F', SR K (Alone T H F AA) [] os [] (iosOf io 0 vs) H' F' → XRel K mg H' (Av (Alone T H F AA) F') x cls dx → E cls dx H'
  | none => False) := q
  unfold mkRun at q
  rw [← lv] at q
  cases e : s (bodyEnv N.length ms) with
  | stuck => rw [e] at q; exact q
  | bk env => rw [e] at q; exact q.elim
  | ct env => rw [e] at q; exact q.elim
  | rt m env =>
    rw [e] at q
    simp only at q
    intro σ v H' ⟨F', h2⟩
    cases e2 : collect io vs.length env with
    | none => rw [e2] at q; exact q.elim
    | some os =>
      rw [e2] at q
      obtain ⟨F2, h3, _⟩ := h2.leave e2 rfl
      exact q v H' F2 (by simpa using h3)
  | nx env =>
    rw [e] at q
    simp only at q
    intro σ H' ⟨F', h2⟩
    cases e2 : collect io vs.length env with
    | none => rw [e2] at q; exact q.elim
    | some os =>
      rw [e2] at q
      obtain ⟨F2, h3, _⟩ := (h2.pushD (d := .none) (v := .non) (by simp only [Rep])).leave e2 rfl
      exact q .non H' F2 (by simpa using h3)
  | exc x env =>
    rw [e] at q
    simp only at q
    intro cls dx σ H' ⟨F', h2, hx⟩
    cases e2 : collect io vs.length env with
    | none => rw [e2] at q; exact q.elim
    | some os =>
      rw [e2] at q
      obtain ⟨F2, h3, sub⟩ := h2.leave e2 rfl
      exact q cls dx H' F2 (by simpa using h3) (hx.step fun a o e n => ⟨e, fun z => n (sub a z)⟩)
end
end Yf
namespace Yf
open PySem PySem.Spec L2
open PyProof.Rows hiding St
section
variable {C : Kx} {env : Sl} {ts : List M} {σ : St} {vs : List V} {H : Hp} {F : Rt → List Addr} {rs : List Rt} {xs : List V} {m n l : M}
theorem one_of (h : SR C.K C.E env ts σ vs H F) (r : RtsAre env ts σ vs rs [m] xs) : ∃ x f, xs = [x] ∧ RepM C.K H (Av C.E F) m x f := by
  rcases rs with _ | ⟨r1, _ | ⟨r2, rs⟩⟩ <;> rcases xs with _ | ⟨x, _ | ⟨y, xs⟩⟩ <;> simp only [RtsAre, and_false, and_true] at r
  obtain ⟨e1, v1⟩ := r
  obtain ⟨v, ev, q⟩ := h.rep _ _ e1
  rw [v1] at ev
  cases ev
  exact ⟨_, _, rfl, q⟩
theorem two_of (h : SR C.K C.E env ts σ vs H F) (r : RtsAre env ts σ vs rs [m, n] xs) : ∃ x y f g, xs = [x, y] ∧ RepM C.K H (Av C.E F) m x f ∧ RepM C.K H (Av C.E F) n y g := by
  rcases rs with _ | ⟨r1, _ | ⟨r2, _ | ⟨r3, rs⟩⟩⟩ <;> rcases xs with _ | ⟨x, _ | ⟨y, _ | ⟨z, xs⟩⟩⟩ <;> simp only [RtsAre, and_false, and_true] at r
  obtain ⟨e1, v1, e2, v2⟩ := r
  obtain ⟨v, ev, q⟩ := h.rep _ _ e1
  rw [v1] at ev
  cases ev
  obtain ⟨v', ev', q'⟩ := h.rep _ _ e2
  rw [v2] at ev'
  cases ev'
  exact ⟨_, _, _, _, rfl, q, q'⟩
theorem rts_len : ∀ {rs : List Rt} {ms : List M} {xs : List V}, RtsAre env ts σ vs rs ms xs → ms.length = xs.length
  | [], [], [], _ => rfl
  | _ :: rs, _ :: ms, _ :: xs, h => by simp [rts_len h.2.2]
/-- a scalar on the stack -/
theorem push_sc (h : SR C.K C.E env ts σ vs H F) {d : D} {v : V} (q : Rep C.K H (Av C.E F) d v) : SRel C.K C.E env (ts ++ [.d d]) σ (vs ++ [v]) H := ⟨F, h.pushD q⟩
/-- what is seen of a value: as a frozen one, whoever owns it -/
def none0 : Addr → Prop := fun _ => False
theorem RepM.see {K : PySem.W.Frag} {O : Addr → Prop} {m : M} {v : V} {f : List Addr} (q : RepM K H O m v f) : Rep K H none0 (Yf.freeze m) v := q.freeze (fun _ z => z.elim) fun _ _ z => z
/-! ### ints -/
def gI2 (g : Int → Int → Option D) : List M → Option M
  | [.d (.int i), .d (.int j)] => (g i j).map .d
  | _ => none
theorem gI2_inv {g : Int → Int → Option D} {ms : List M} {k : M} (e : gI2 g ms = some k) : ∃ i j d, ms = [.d (.int i), .d (.int j)] ∧ g i j = some d ∧ k = .d d := by
  unfold gI2 at e
  split at e
  · rename_i i j
    cases h : g i j with
    | none => rw [h] at e; cases e
    | some d => rw [h] at e; cases e; exact ⟨i, j, d, rfl, h, rfl⟩
  · cases e
theorem int_rep {K : PySem.W.Frag} {O : Addr → Prop} {i : Int} {v : V} {f : List Addr} (q : RepM K H O (.d (.int i)) v f) : v = .int i := by
  have := q.2; simp only [Rep] at this; exact this
theorem str_rep {K : PySem.W.Frag} {O : Addr → Prop} {i : Str} {v : V} {f : List Addr} (q : RepM K H O (.d (.str i)) v f) : v = .str i := by
  have := q.2; simp only [Rep] at this; exact this
theorem bool_rep {K : PySem.W.Frag} {O : Addr → Prop} {i : Bool} {v : V} {f : List Addr} (q : RepM K H O (.d (.bool i)) v f) : v = .bl i := by
  have := q.2; simp only [Rep] at this; exact this
/-- from two ints a scalar -/
theorem semI2 {r : R2} {g : Int → Int → Option D} (h : ∀ i j d H Q, g i j = some d → (∀ v, (∀ (K : PySem.W.Frag) (H : Hp) (O : Addr → Prop), Rep K H O d v) → Q v H) → r (.int i) (.int j) H Q) : SemN C (R2l r) (gI2 g) := by
  intro env ts σ vs H F rs ms xs k Q hs hr e q
  obtain ⟨i, j, d, rfl, e1, rfl⟩ := gI2_inv e
  obtain ⟨x, y, f, g', rfl, q1, q2⟩ := two_of hs hr
  rw [int_rep q1, int_rep q2]
  exact h i j d H Q e1 fun v hv => q v H (push_sc hs (hv _ _ _))
def gSub := gI2 fun i j => some (.int (i - j))
def gMul0 := gI2 fun i j => if i.natAbs.log2 + j.natAbs.log2 < 1000000 then some (.int (i * j)) else none
def gFdiv := gI2 fun i j => if 0 < j ∧ j.natAbs.log2 < 9000 then some (.int (i / j)) else none
def gMod := gI2 fun i j => if 0 < j then some (.int (i % j)) else none
def gPow := gI2 fun i j => if 0 ≤ j ∧ j ≤ 1000000 ∧ i.natAbs < 2 ^ 64 then some (.int (i ^ j.toNat)) else none
theorem sem_sub : SemN C (R2l (rI0 fun i j => .int (i - j))) gSub := semI2 fun i j d H Q e q => by
  cases e
  exact ⟨i, j, rfl, rfl, q _ fun _ _ _ => by simp only [Rep]⟩
theorem sem_mul0 : SemN C (R2l (rI CMulW fun i j => .int (i * j))) gMul0 := semI2 fun i j d H Q e q => by
  split at e
  · rename_i c
    cases e
    exact ⟨i, j, rfl, rfl, c, q _ fun _ _ _ => by simp only [Rep]⟩
  · cases e
theorem sem_fdiv : SemN C (R2l (rI CDivW fun i j => .int (i / j))) gFdiv := semI2 fun i j d H Q e q => by
  split at e
  · rename_i c
    cases e
    exact ⟨i, j, rfl, rfl, c, q _ fun _ _ _ => by simp only [Rep]⟩
  · cases e
theorem sem_mod : SemN C (R2l (rI (fun _ j => 0 < j) fun i j => .int (i % j))) gMod := semI2 fun i j d H Q e q => by
  split at e
  · rename_i c
    cases e
    exact ⟨i, j, rfl, rfl, c, q _ fun _ _ _ => by simp only [Rep]⟩
  · cases e
theorem sem_pow : SemN C (R2l (rI CPow fun i j => .int (i ^ j.toNat))) gPow := semI2 fun i j d H Q e q => by
  split at e
  · rename_i c
    cases e
    exact ⟨i, j, rfl, rfl, c, q _ fun _ _ _ => by simp only [Rep]⟩
  · cases e
/-- order: ints, texts -/
def gOrd (gi : Int → Int → Bool) (gs : List Nat → List Nat → Bool) : List M → Option M
  | [.d (.int i), .d (.int j)] => some (.d (.bool (gi i j)))
  | [.d (.str x), .d (.str y)] => some (.d (.bool (gs x.cps.toList y.cps.toList)))
  | _ => none
def gLt := gOrd (fun i j => decide (i < j)) fun x y => decide (x < y)
def gLe := gOrd (fun i j => decide (i ≤ j)) fun x y => !decide (y < x)
def gGt := gOrd (fun i j => decide (j < i)) fun x y => decide (y < x)
def gGe := gOrd (fun i j => decide (j ≤ i)) fun x y => !decide (x < y)
theorem sem_ord {gi : Int → Int → Bool} {gs : List Nat → List Nat → Bool} {r r' : R2} (h : ∀ i j H Q, Q (.bl (gi i j)) H → r (.int i) (.int j) H Q) (h' : ∀ i j H Q, Q (.bl (gs i.cps.toList j.cps.toList)) H → r' (.str i) (.str j) H Q) :
    SemN C (R2l fun x y H Q => r x y H Q ∨ r' x y H Q) (gOrd gi gs) := by
  intro env ts σ vs H F rs ms xs k Q hs hr e q
  unfold gOrd at e
  split at e
  · cases e
    obtain ⟨x, y, f, g', rfl, q1, q2⟩ := two_of hs hr
    rw [int_rep q1, int_rep q2]
    exact .inl (h _ _ _ _ (q _ H (push_sc hs (by simp only [Rep]))))
  · cases e
    obtain ⟨x, y, f, g', rfl, q1, q2⟩ := two_of hs hr
    rw [str_rep q1, str_rep q2]
    exact .inr (h' _ _ _ _ (q _ H (push_sc hs (by simp only [Rep]))))
  · cases e
def rLtS : R2 := fun x y H Q => ∃ i j, x = .str i ∧ y = .str j ∧ Q (.bl (decide (i.cps.toList < j.cps.toList))) H
def rLeS : R2 := fun x y H Q => ∃ i j, x = .str i ∧ y = .str j ∧ Q (.bl (!decide (j.cps.toList < i.cps.toList))) H
def rGtS : R2 := fun x y H Q => ∃ i j, x = .str i ∧ y = .str j ∧ Q (.bl (decide (j.cps.toList < i.cps.toList))) H
def rGeS : R2 := fun x y H Q => ∃ i j, x = .str i ∧ y = .str j ∧ Q (.bl (!decide (i.cps.toList < j.cps.toList))) H
def rLt : R2 := fun x y H Q => rI0 (fun i j => .bl (decide (i < j))) x y H Q ∨ rLtS x y H Q
def rLe : R2 := fun x y H Q => rI0 (fun i j => .bl (decide (i ≤ j))) x y H Q ∨ rLeS x y H Q
def rGt' : R2 := fun x y H Q => rI0 (fun i j => .bl (decide (j < i))) x y H Q ∨ rGtS x y H Q
def rGe : R2 := fun x y H Q => rI0 (fun i j => .bl (decide (j ≤ i))) x y H Q ∨ rGeS x y H Q
theorem or_lt {X : Cx} : OpR X (compareOp .Lt) rLt := op_lt.or op_lt_str
theorem or_le {X : Cx} : OpR X (compareOp .LtE) rLe := op_le.or op_le_str
theorem or_gt {X : Cx} : OpR X (compareOp .Gt) rGt' := op_gt.or op_gt_str
theorem or_ge {X : Cx} : OpR X (compareOp .GtE) rGe := op_ge.or op_ge_str
theorem sem_lt : SemN C (R2l rLt) gLt := sem_ord (fun i j H Q q => ⟨i, j, rfl, rfl, q⟩) fun i j H Q q => ⟨i, j, rfl, rfl, q⟩
theorem sem_le : SemN C (R2l rLe) gLe := sem_ord (fun i j H Q q => ⟨i, j, rfl, rfl, q⟩) fun i j H Q q => ⟨i, j, rfl, rfl, q⟩
theorem sem_gt : SemN C (R2l rGt') gGt := sem_ord (fun i j H Q q => ⟨i, j, rfl, rfl, q⟩) fun i j H Q q => ⟨i, j, rfl, rfl, q⟩
theorem sem_ge : SemN C (R2l rGe) gGe := sem_ord (fun i j H Q q => ⟨i, j, rfl, rfl, q⟩) fun i j H Q q => ⟨i, j, rfl, rfl, q⟩
end
end Yf
namespace Yf
open PySem PySem.Spec L2
open PyProof.Rows hiding St
section
variable {K : PySem.W.Frag} {H : Hp} {O : Addr → Prop}
theorem RepAll.len : ∀ {ds : List D} {xs : List V}, RepAll K H O ds xs → ds.length = xs.length
  | [], _, h => by simp only [RepAll] at h; subst h; rfl
  | d :: ds, _, h => by
    simp only [RepAll] at h
    obtain ⟨x, xs, rfl, _, h⟩ := h
    simp [RepAll.len h]
theorem RepAll.get : ∀ {ds : List D} {xs : List V} {i : Nat} {d : D}, RepAll K H O ds xs → ds[i]? = some d → ∃ x, xs[i]? = some x ∧ Rep K H O d x
  | [], _, _, _, _, e => by simp at e
  | d0 :: ds, _, 0, d, h, e => by
    simp only [RepAll] at h
    obtain ⟨x, xs, rfl, q, h⟩ := h
    simp only [List.getElem?_cons_zero, Option.some.injEq] at e
    subst e
    exact ⟨x, rfl, q⟩
  | d0 :: ds, _, i + 1, d, h, e => by
    simp only [RepAll] at h
    obtain ⟨x, xs, rfl, q, h⟩ := h
    obtain ⟨y, e1, e2⟩ := RepAll.get (i := i) h (by simpa using e)
    exact ⟨y, by simpa using e1, e2⟩
theorem RepAll.append : ∀ {ds es : List D} {xs ys : List V}, RepAll K H O ds xs → RepAll K H O es ys → RepAll K H O (ds ++ es) (xs ++ ys)
  | [], _, _, _, h, h' => by simp only [RepAll] at h; subst h; exact h'
  | d :: ds, _, _, _, h, h' => by
    simp only [RepAll] at h
    obtain ⟨x, xs, rfl, q, h⟩ := h
    simp only [List.cons_append, RepAll]
    exact ⟨x, _, rfl, q, RepAll.append h h'⟩
theorem RepAll.drop : ∀ {ds : List D} {xs : List V} (n : Nat), RepAll K H O ds xs → RepAll K H O (ds.drop n) (xs.drop n)
  | _, _, 0, h => h
  | [], _, _ + 1, h => by simp only [RepAll] at h; subst h; simp [RepAll]
  | d :: ds, _, n + 1, h => by
    simp only [RepAll] at h
    obtain ⟨x, xs, rfl, q, h⟩ := h
    exact RepAll.drop n h
theorem RepAll.take : ∀ {ds : List D} {xs : List V} (n : Nat), RepAll K H O ds xs → RepAll K H O (ds.take n) (xs.take n)
  | _, _, 0, h => by simp [RepAll]
  | [], _, _ + 1, h => by simp only [RepAll] at h; subst h; simp [RepAll]
  | d :: ds, _, n + 1, h => by
    simp only [RepAll] at h
    obtain ⟨x, xs, rfl, q, h⟩ := h
    simp only [List.take_succ_cons, RepAll]
    exact ⟨x, _, rfl, q, RepAll.take n h⟩
theorem RepAll.reverse : ∀ {ds : List D} {xs : List V}, RepAll K H O ds xs → RepAll K H O ds.reverse xs.reverse
  | [], _, h => by simp only [RepAll] at h; subst h; simp [RepAll]
  | d :: ds, _, h => by
    simp only [RepAll] at h
    obtain ⟨x, xs, rfl, q, h⟩ := h
    simp only [List.reverse_cons]
    exact RepAll.append (RepAll.reverse h) (by simp only [RepAll]; exact ⟨x, [], rfl, q, rfl⟩)
theorem RepAll.eraseIdx : ∀ {ds : List D} {xs : List V} (n : Nat), RepAll K H O ds xs → RepAll K H O (ds.eraseIdx n) (xs.eraseIdx n)
  | [], _, _, h => by simp only [RepAll] at h; subst h; simp [RepAll]
  | d :: ds, _, 0, h => by
    simp only [RepAll] at h
    obtain ⟨x, xs, rfl, q, h⟩ := h
    exact h
  | d :: ds, _, n + 1, h => by
    simp only [RepAll] at h
    obtain ⟨x, xs, rfl, q, h⟩ := h
    simp only [List.eraseIdx_cons_succ, RepAll]
    exact ⟨x, _, rfl, q, RepAll.eraseIdx n h⟩
theorem RepAll.rep {ds : List D} {xs : List V} (h : RepAll K H O ds xs) : ∀ k : Nat, RepAll K H O (List.replicate k ds).flatten (List.replicate k xs).flatten
  | 0 => by simp [RepAll]
  | k + 1 => by
    rw [List.replicate_succ, List.replicate_succ, List.flatten_cons, List.flatten_cons]
    exact RepAll.append h (RepAll.rep h k)
end
/-- the items of a list, of a tuple -/
def listOf : M → Option (List D)
  | .lst ds => some ds
  | .d (.list ds) => some ds
  | _ => none
def tupOf : M → Option (List D)
  | .d (.tuple ds) => some ds
  | _ => none
section
variable {K : PySem.W.Frag} {H : Hp} {O : Addr → Prop} {m : M} {v : V} {f : List Addr} {ds : List D}
theorem listOf_rep (q : RepM K H O m v f) (e : listOf m = some ds) : ∃ a xs, v = .ref a ∧ Rd H a (.lst xs) ∧ RepAll K H O ds xs := by
  unfold listOf at e
  split at e
  · cases e
    simp only [RepM] at q
    obtain ⟨a, xs, e1, _, e2, z⟩ := q
    exact ⟨a, xs, e1, .inl e2, z⟩
  · cases e
    have q := q.2
    simp only [Rep] at q
    obtain ⟨a, xs, e1, _, e2, z⟩ := q
    exact ⟨a, xs, e1, e2, z⟩
  · cases e
theorem tupOf_rep (q : RepM K H O m v f) (e : tupOf m = some ds) : ∃ a xs, v = .ref a ∧ TupR K H O a xs ∧ RepAll K H O ds xs ∧ m = .d (.tuple ds) := by
  unfold tupOf at e
  split at e
  · cases e
    have q := q.2
    simp only [Rep] at q
    obtain ⟨a, xs, e1, e2, z⟩ := q
    exact ⟨a, xs, e1, e2, z, rfl⟩
  · cases e
end
theorem Inv.lstR {X : Cx} {pins : List (Addr × Obj)} {σ : St} {H : Hp} {s : Shared} {l : Addr} {xs : List V} (I : Inv X pins σ H s) (hH : Rd H l (.lst xs)) : xs.length ≤ sizeLine ∧ ∃ (its : List Value) (n : Nat), Vals xs its ∧ xs.length = its.length ∧ s.heap.get? l = some { cls := .type "list", data := .seq its.toArray n } := by
  obtain ⟨z, its, n, r, e⟩ := hH.ok I.hok
  exact ⟨z, its, n, r, r.length, e⟩
/-! ### + -/
def rCatR : R2 := fun x y H Q => ∃ l b xs zs, x = .ref l ∧ y = .ref b ∧ Rd H l (.lst xs) ∧ Rd H b (.lst zs) ∧ xs.length + zs.length ≤ sizeLine ∧ ∀ p, H p = none → Q (.ref p) (upd H p (.lst (xs ++ zs)))
theorem op_catR {X : Cx} : OpR X (binaryOp .Add) rCatR := by
  intro pins s σ H x y v u Q I rx ry h
  obtain ⟨l, b, xs, zs, rfl, rfl, hH, hB, hz, q⟩ := h
  cases rx
  cases ry
  obtain ⟨z, its, n, r, hl, e⟩ := Inv.lstR I hH
  obtain ⟨z2, its2, n2, r2, hl2, e2⟩ := Inv.lstR I hB
  refine PySem.P.add_list e e2 ?_ (by rw [List.size_toArray, List.size_toArray]; omega)
  have ea : its.toArray ++ its2.toArray = (its ++ its2).toArray := by simp
  rw [ea]
  exact ⟨.ref _, _, I.lnew (t' := s.toks) (r.append r2) (by rw [List.length_append]; omega), rfl, q _ I.fresh⟩
def rAddS : R2 := fun x y H Q => ∃ i j, x = .str i ∧ y = .str j ∧ i.length + j.length ≤ sizeLine ∧ Q (.str (i ++ j)) H
def rAdd4 (K : PySem.W.Frag) : R2 := fun x y H Q => rI0 (fun i j => .int (i + j)) x y H Q ∨ (rAddS x y H Q ∨ (rCatA K x y H Q ∨ rCatR x y H Q))
theorem or_add {X : Cx} : OpR X (binaryOp .Add) (rAdd4 X.K) := op_add.or (op_add_str.or (op_catA.or op_catR))
def gAdd : List M → Option M
  | [m, n] =>
    match m, n with
    | .d (.int i), .d (.int j) => some (.d (.int (i + j)))
    | .d (.str x), .d (.str y) => if x.length + y.length ≤ sizeLine then some (.d (.str (x ++ y))) else none
    | m, n =>
      match tupOf m, tupOf n with
      | some a, some b => if a.length + b.length ≤ sizeLine then some (.d (.tuple (a ++ b))) else none
      | _, _ =>
        match listOf m, listOf n with
        | some a, some b => if a.length + b.length ≤ sizeLine then some (.lst (a ++ b)) else none
        | _, _ => none
  | _ => none
section
variable {C : Kx}
/-- a new tuple -/
theorem push_tup {env : Sl} {ts : List M} {σ : St} {vs : List V} {H : Hp} {F : Rt → List Addr} (h : SR C.K C.E env ts σ vs H F) {p : Addr} (np : H p = none) {ds : List D} {ws : List V} (q2 : RepAll C.K H (Av C.E F) ds ws) :
    SRel C.K C.E env (ts ++ [.d (.tuple ds)]) σ (vs ++ [.ref p]) (upd H p (.tup ws)) := by
  have h3 := h.ext (keep_upd (o := .tup ws) np)
  refine ⟨F, h3.pushD ?_⟩
  simp only [Rep]
  exact ⟨p, ws, rfl, .inl ⟨h.fresh_av np, .inl upd_same⟩, q2.step fun a o e n => ⟨keep_upd np a o e, n⟩⟩
theorem push_lst' {env : Sl} {ts : List M} {σ : St} {vs : List V} {H : Hp} {F : Rt → List Addr} (h : SR C.K C.E env ts σ vs H F) {p : Addr} (np : H p = none) {ds : List D} {ws : List V} (q2 : RepAll C.K H (Av C.E F) ds ws) :
    SRel C.K C.E env (ts ++ [.lst ds]) σ (vs ++ [.ref p]) (upd H p (.lst ws)) := push_lst h np q2
theorem sem_add : SemN C (R2l (rAdd4 C.K)) gAdd := by
  intro env ts σ vs H F rs ms xs k Q hs hr e q
  match ms, e with
  | [m, n], e =>
    obtain ⟨x, y, f, g, rfl, q1, q2⟩ := two_of hs hr
    simp only [gAdd] at e
    show rAdd4 C.K x y H Q
    split at e
    · cases e
      rw [int_rep q1, int_rep q2]
      exact .inl ⟨_, _, rfl, rfl, q _ H (push_sc hs (by simp only [Rep]))⟩
    · split at e
      · rename_i c
        cases e
        rw [str_rep q1, str_rep q2]
        exact .inr (.inl ⟨_, _, rfl, rfl, c, q _ H (push_sc hs (by simp only [Rep]))⟩)
      · cases e
    · split at e
      · rename_i a b ea eb
        split at e
        · rename_i c
          cases e
          obtain ⟨p, xs, rfl, t1, z1, _⟩ := tupOf_rep q1 ea
          obtain ⟨p', ys, rfl, t2, z2, _⟩ := tupOf_rep q2 eb
          refine .inr (.inr (.inl ⟨p, p', xs, ys, rfl, rfl, t1.sq, t2.sq, by rw [← z1.len, ← z2.len]; exact c, fun e0 => ?_, fun _ e0 => ?_, fun _ _ r nr => ?_⟩))
          · subst e0
            have := z1.len
            have e1 : a = [] := List.eq_nil_of_length_eq_zero this
            subst e1
            exact q _ H (push_sc hs (by simp only [Rep]; exact ⟨p', ys, rfl, t2, z2⟩))
          · subst e0
            have := z2.len
            have e1 : b = [] := List.eq_nil_of_length_eq_zero this
            subst e1
            rw [List.append_nil] at q
            exact q _ H (push_sc hs (by simp only [Rep]; exact ⟨p, xs, rfl, t1, z1⟩))
          · exact q _ _ (push_tup hs nr (z1.append z2))
        · cases e
      · split at e
        · rename_i a b ea eb
          split at e
          · rename_i c
            cases e
            obtain ⟨p, xs, rfl, t1, z1⟩ := listOf_rep q1 ea
            obtain ⟨p', ys, rfl, t2, z2⟩ := listOf_rep q2 eb
            exact .inr (.inr (.inr ⟨p, p', xs, ys, rfl, rfl, t1, t2, by rw [← z1.len, ← z2.len]; exact c, fun r nr => q _ _ (push_lst' hs nr (z1.append z2))⟩))
          · cases e
        · cases e
/-! ### * -/
def gMul : List M → Option M
  | [m, n] =>
    match m, n with
    | .d (.int i), .d (.int j) => if i.natAbs.log2 + j.natAbs.log2 < 1000000 then some (.d (.int (i * j))) else none
    | .lst a, .d (.int k) => if 0 ≤ k ∧ k < 1000 ∧ a.length * k.toNat ≤ sizeLine then some (.lst (List.replicate k.toNat a).flatten) else none
    | _, _ => none
  | _ => none
def rMul2 : R2 := fun x y H Q => rI CMulW (fun i j => .int (i * j)) x y H Q ∨ rRep x y H Q
theorem or_mul {X : Cx} : OpR X (binaryOp .Mult) rMul2 := op_mulW.or op_rep
theorem sem_mul : SemN C (R2l rMul2) gMul := by
  intro env ts σ vs H F rs ms xs k Q hs hr e q
  match ms, e with
  | [m, n], e =>
    obtain ⟨x, y, f, g, rfl, q1, q2⟩ := two_of hs hr
    simp only [gMul] at e
    show rMul2 x y H Q
    split at e
    · split at e
      · rename_i c
        cases e
        rw [int_rep q1, int_rep q2]
        exact .inl ⟨_, _, rfl, rfl, c, q _ H (push_sc hs (by simp only [Rep]))⟩
      · cases e
    · split at e
      · rename_i c
        cases e
        simp only [RepM] at q1
        obtain ⟨p, xs, rfl, _, e2, z⟩ := q1
        rw [int_rep q2]
        refine .inr ⟨p, _, xs, rfl, rfl, e2, by omega, by omega, by rw [← z.len]; exact c.2.2, fun r nr => q _ _ (push_lst' hs nr (z.rep _))⟩
      · cases e
    · cases e
/-! ### ==, != -/
mutual
theorem dp_of {K : PySem.W.Frag} {H : Hp} {O : Addr → Prop} : ∀ {d : D} {v : V}, d.canLay0 = true → Rep K H O d v → Dp K H v d
  | .none, _, _, h => by simp only [Rep] at h; subst h; exact .non
  | .bool b, _, _, h => by simp only [Rep] at h; subst h; exact .bl b
  | .int b, _, _, h => by simp only [Rep] at h; subst h; exact .int b
  | .str b, _, _, h => by simp only [Rep] at h; subst h; exact .str b
  | .list ds, _, c, h => by
    simp only [Rep] at h
    obtain ⟨a, xs, rfl, _, r, z⟩ := h
    exact .lst (.inl r) (dps_of (by simpa [PyData.canLay0] using c) z)
  | .tuple ds, _, c, h => by
    simp only [Rep] at h
    obtain ⟨a, xs, rfl, r, z⟩ := h
    exact .tup r.sq (dps_of (by simpa [PyData.canLay0] using c) z)
  | .dict _, _, c, _ => by simp [PyData.canLay0] at c
theorem dps_of {K : PySem.W.Frag} {H : Hp} {O : Addr → Prop} : ∀ {ds : List D} {vs : List V}, PyData.canLayAll0 ds = true → RepAll K H O ds vs → DpAll K H vs ds
  | [], _, _, h => by simp only [RepAll] at h; subst h; exact .nil
  | d :: ds, _, c, h => by
    simp only [RepAll] at h
    obtain ⟨x, xs, rfl, q, h⟩ := h
    simp only [PyData.canLayAll0, Bool.and_eq_true] at c
    exact .cons (dp_of c.1 q) (dps_of c.2 h)
end
/-- two lists, two tuples, one of them empty -/
def gE0 (m n : M) : Option Bool :=
  match listOf m, listOf n with
  | some a, some b => if a.isEmpty || b.isEmpty then some (a.isEmpty && b.isEmpty) else none
  | _, _ =>
    match tupOf m, tupOf n with
    | some a, some b => if a.isEmpty || b.isEmpty then some (a.isEmpty && b.isEmpty) else none
    | _, _ => none
def eqD (m n : M) : Option Bool :=
  if SeqAt.shaped (freeze m) && SeqAt.shaped (freeze n) then some (PyData.eqv (freeze m) (freeze n)) else gE0 m n
def gEq : List M → Option M
  | [m, n] => (eqD m n).map fun b => .d (.bool b)
  | _ => none
def gNe : List M → Option M
  | [m, n] => (eqD m n).map fun b => .d (.bool (!b))
  | _ => none
def rE0 (K : PySem.W.Frag) (neg : Bool) : R2 := fun x y H Q => ∃ a b xs ys, x = .ref a ∧ y = .ref b ∧ ((Rd H a (.lst xs) ∧ Rd H b (.lst ys)) ∨ (SqT K H a xs ∧ SqT K H b ys)) ∧ (xs.isEmpty || ys.isEmpty) = true ∧ Q (.bl ((xs.isEmpty && ys.isEmpty) != neg)) H
theorem isEmpty_eq {α β : Type} {xs : List α} {ys : List β} (h : xs.length = ys.length) : xs.isEmpty = ys.isEmpty := by
  cases xs <;> cases ys <;> simp at h ⊢
theorem IsTup.isTuple {h : Heap} {a : Addr} {its : Array Value} (t : IsTup h a its) : h.IsTuple a its := by
  obtain ⟨o, ho, hc, n, hd⟩ := t
  exact ⟨o, ho, hc, n, hd⟩
theorem op_e0 {X : Cx} (hu : X.A.units + 64 < cLine) : OpR X (compareOp .Eq) (rE0 X.K false) := by
  intro pins s σ H x y v u Q I rx ry h
  obtain ⟨a, b, xs, ys, rfl, rfl, hh, he, q⟩ := h
  cases rx
  cases ry
  rcases hh with ⟨h1, h2⟩ | ⟨h1, h2⟩
  · obtain ⟨z, its, n, r, hl, e⟩ := Inv.lstR I h1
    obtain ⟨z2, its2, n2, r2, hl2, e2⟩ := Inv.lstR I h2
    have l1 : s.heap.IsList a its.toArray := ⟨_, e, rfl, n, rfl⟩
    have l2 : s.heap.IsList b its2.toArray := ⟨_, e2, rfl, n2, rfl⟩
    rw [isEmpty_eq hl, isEmpty_eq hl2] at he q
    cases its with
    | nil =>
      cases its2 with
      | nil => exact SeqAt.eq_listAt (e := fun _ => true) l1 l2 rfl (by omega) (fun j h1 _ => by simp at h1) ⟨.bl true, H, I, rfl, by simpa using q⟩
      | cons x xs => exact SeqAt.eq_list_lengthsAt l1 l2 (by simp) (by omega) ⟨.bl false, H, I, rfl, by simpa using q⟩
    | cons x xs =>
      cases its2 with
      | nil => exact SeqAt.eq_list_lengthsAt l1 l2 (by simp) (by omega) ⟨.bl false, H, I, rfl, by simpa using q⟩
      | cons y ys => simp at he
  · obtain ⟨its, r, t1, _⟩ := I.tuple h1
    obtain ⟨its2, r2, t2, _⟩ := I.tuple h2
    rw [isEmpty_eq r.length, isEmpty_eq r2.length] at he q
    have z : min its.toArray.size its2.toArray.size = 0 := by
      cases its <;> cases its2 <;> simp at he ⊢
    refine SeqAt.eq_tupleAt (e := fun _ => true) (IsTup.isTuple t1) (IsTup.isTuple t2) (by omega) (fun j h1 h2 => by omega) ⟨.bl _, H, I, rfl, ?_⟩
    cases its <;> cases its2 <;> simp at he q ⊢ <;> exact q
theorem op_ne0 {X : Cx} (hu : X.A.units + 64 < cLine) : OpR X (compareOp .NotEq) (rE0 X.K true) := by
  intro pins s σ H x y v u Q I rx ry h
  obtain ⟨a, b, xs, ys, rfl, rfl, hh, he, q⟩ := h
  cases rx
  cases ry
  rcases hh with ⟨h1, h2⟩ | ⟨h1, h2⟩
  · obtain ⟨z, its, n, r, hl, e⟩ := Inv.lstR I h1
    obtain ⟨z2, its2, n2, r2, hl2, e2⟩ := Inv.lstR I h2
    have l1 : s.heap.IsList a its.toArray := ⟨_, e, rfl, n, rfl⟩
    have l2 : s.heap.IsList b its2.toArray := ⟨_, e2, rfl, n2, rfl⟩
    rw [isEmpty_eq hl, isEmpty_eq hl2] at he q
    cases its with
    | nil =>
      cases its2 with
      | nil => exact SeqAt.RcNeAt.lists (e := fun _ => true) l1 l2 rfl (by omega) (fun j h1 _ => by simp at h1) X.prog X.w _ _ ⟨.bl false, H, I, rfl, by simpa using q⟩
      | cons x xs => exact SeqAt.RcNeAt.lists_lengths l1 l2 (by simp) (by omega) X.prog X.w _ _ ⟨.bl true, H, I, rfl, by simpa using q⟩
    | cons x xs =>
      cases its2 with
      | nil => exact SeqAt.RcNeAt.lists_lengths l1 l2 (by simp) (by omega) X.prog X.w _ _ ⟨.bl true, H, I, rfl, by simpa using q⟩
      | cons y ys => simp at he
  · obtain ⟨its, r, t1, _⟩ := I.tuple h1
    obtain ⟨its2, r2, t2, _⟩ := I.tuple h2
    rw [isEmpty_eq r.length, isEmpty_eq r2.length] at he q
    have z : min its.toArray.size its2.toArray.size = 0 := by
      cases its <;> cases its2 <;> simp at he ⊢
    refine SeqAt.RcNeAt.tuples (e := fun _ => true) (IsTup.isTuple t1) (IsTup.isTuple t2) (by omega) (fun j h1 h2 => by omega) X.prog X.w _ _ ⟨.bl _, H, I, rfl, ?_⟩
    cases its <;> cases its2 <;> simp at he q ⊢ <;> exact q
def rEq2 (K : PySem.W.Frag) : R2 := fun x y H Q => rEqD K x y H Q ∨ rE0 K false x y H Q
def rNe2 (K : PySem.W.Frag) : R2 := fun x y H Q => rNeD K x y H Q ∨ rE0 K true x y H Q
theorem or_eq {X : Cx} (hu : X.A.units + 64 < cLine) : OpR X (compareOp .Eq) (rEq2 X.K) := (op_eqD hu).or (op_e0 hu)
theorem or_ne {X : Cx} (hu : X.A.units + 64 < cLine) : OpR X (compareOp .NotEq) (rNe2 X.K) := (op_neD hu).or (op_ne0 hu)
theorem e0_rep {m n : M} {b : Bool} (e : gE0 m n = some b) {K : PySem.W.Frag} {H : Hp} {O : Addr → Prop} {x y : V} {f g : List Addr} (q1 : RepM K H O m x f) (q2 : RepM K H O n y g) :
    ∃ p q xs ys, x = .ref p ∧ y = .ref q ∧ ((Rd H p (.lst xs) ∧ Rd H q (.lst ys)) ∨ (SqT K H p xs ∧ SqT K H q ys)) ∧ (xs.isEmpty || ys.isEmpty) = true ∧ b = (xs.isEmpty && ys.isEmpty) := by
  unfold gE0 at e
  split at e
  · rename_i a c ea ec
    split at e
    · rename_i hc
      cases e
      obtain ⟨p, xs, rfl, t1, z1⟩ := listOf_rep q1 ea
      obtain ⟨p', ys, rfl, t2, z2⟩ := listOf_rep q2 ec
      rw [isEmpty_eq z1.len, isEmpty_eq z2.len] at *
      exact ⟨p, p', xs, ys, rfl, rfl, .inl ⟨t1, t2⟩, hc, rfl⟩
    · cases e
  · split at e
    · rename_i a c ea ec
      split at e
      · rename_i hc
        cases e
        obtain ⟨p, xs, rfl, t1, z1, _⟩ := tupOf_rep q1 ea
        obtain ⟨p', ys, rfl, t2, z2, _⟩ := tupOf_rep q2 ec
        rw [isEmpty_eq z1.len, isEmpty_eq z2.len] at *
        exact ⟨p, p', xs, ys, rfl, rfl, .inr ⟨t1.sq, t2.sq⟩, hc, rfl⟩
      · cases e
    · cases e
theorem sem_eq : SemN C (R2l (rEq2 C.K)) gEq := by
  intro env ts σ vs H F rs ms xs k Q hs hr e q
  match ms, e with
  | [m, n], e =>
    obtain ⟨x, y, f, g, rfl, q1, q2⟩ := two_of hs hr
    simp only [gEq] at e
    cases e1 : eqD m n with
    | none => rw [e1] at e; cases e
    | some b =>
      rw [e1] at e
      cases e
      have fin : Q (.bl b) H := q _ H (push_sc hs (by simp only [Rep]))
      show rEq2 C.K x y H Q
      unfold eqD at e1
      split at e1
      · rename_i c
        cases e1
        rw [Bool.and_eq_true] at c
        exact .inl ⟨_, _, dp_of (SeqAt.canLay_of_shaped c.1) q1.see, dp_of (SeqAt.canLay_of_shaped c.2) q2.see, c.1, c.2, fin⟩
      · obtain ⟨p, p', xs, ys, rfl, rfl, z, ze, rfl⟩ := e0_rep e1 q1 q2
        exact .inr ⟨p, p', xs, ys, rfl, rfl, z, ze, by simpa using fin⟩
theorem sem_ne : SemN C (R2l (rNe2 C.K)) gNe := by
  intro env ts σ vs H F rs ms xs k Q hs hr e q
  match ms, e with
  | [m, n], e =>
    obtain ⟨x, y, f, g, rfl, q1, q2⟩ := two_of hs hr
    simp only [gNe] at e
    cases e1 : eqD m n with
    | none => rw [e1] at e; cases e
    | some b =>
      rw [e1] at e
      cases e
      have fin : Q (.bl (!b)) H := q _ H (push_sc hs (by simp only [Rep]))
      show rNe2 C.K x y H Q
      unfold eqD at e1
      split at e1
      · rename_i c
        cases e1
        rw [Bool.and_eq_true] at c
        exact .inl ⟨_, _, dp_of (SeqAt.canLay_of_shaped c.1) q1.see, dp_of (SeqAt.canLay_of_shaped c.2) q2.see, c.1, c.2, fin⟩
      · obtain ⟨p, p', xs, ys, rfl, rfl, z, ze, rfl⟩ := e0_rep e1 q1 q2
        exact .inr ⟨p, p', xs, ys, rfl, rfl, z, ze, by simpa using fin⟩
/-! ### is None, is True -/
def isNoneM : M → Bool
  | .d .none => true
  | _ => false
def gIs : List M → Option M
  | [m, .d .none] => some (.d (.bool (isNoneM m)))
  | [.d (.bool a), .d (.bool b)] => some (.d (.bool (decide (a = b))))
  | _ => none
def gIsnt : List M → Option M
  | [m, .d .none] => some (.d (.bool (!isNoneM m)))
  | [.d (.bool a), .d (.bool b)] => some (.d (.bool (!decide (a = b))))
  | _ => none
theorem rep_non {K : PySem.W.Frag} {H : Hp} {O : Addr → Prop} {m : M} {x : V} {f : List Addr} (q : RepM K H O m x f) : decide (x = .non) = isNoneM m := by
  cases m with
  | d v =>
    have q := q.2
    cases v with
    | none => simp only [Rep] at q; subst q; rfl
    | bool b => simp only [Rep] at q; subst q; rfl
    | int b => simp only [Rep] at q; subst q; rfl
    | str b => simp only [Rep] at q; subst q; rfl
    | list b => simp only [Rep] at q; obtain ⟨a, xs, rfl, _⟩ := q; rfl
    | tuple b => simp only [Rep] at q; obtain ⟨a, xs, rfl, _⟩ := q; rfl
    | dict b => simp only [Rep] at q; obtain ⟨a, xs, rfl, _⟩ := q; rfl
  | lst v => simp only [RepM] at q; obtain ⟨a, xs, rfl, _⟩ := q; rfl
  | dct v => simp only [RepM] at q; obtain ⟨a, xs, g, rfl, _⟩ := q; rfl
def rIs : R2 := fun x y H Q => (y = .non ∧ Q (.bl (decide (x = .non))) H) ∨ rIsB x y H Q
def rIsnt : R2 := fun x y H Q => (y = .non ∧ Q (.bl (!decide (x = .non))) H) ∨ rNotB x y H Q
theorem or_is {X : Cx} : OpR X (compareOp .Is) rIs := op_isN.or op_isBl
theorem or_isnt {X : Cx} : OpR X (compareOp .IsNot) rIsnt := op_notN.or op_notBl
theorem none_rep {K : PySem.W.Frag} {H : Hp} {O : Addr → Prop} {v : V} {f : List Addr} (q : RepM K H O (.d .none) v f) : v = .non := by
  have := q.2; simp only [Rep] at this; exact this
theorem sem_is : SemN C (R2l rIs) gIs := by
  intro env ts σ vs H F rs ms xs k Q hs hr e q
  unfold gIs at e
  split at e
  · rename_i m
    cases e
    obtain ⟨x, y, f, g, rfl, q1, q2⟩ := two_of hs hr
    rw [none_rep q2]
    refine .inl ⟨rfl, ?_⟩
    rw [rep_non q1]
    exact q (.bl (isNoneM m)) H (push_sc hs (by simp only [Rep]))
  · rename_i a b
    cases e
    obtain ⟨x, y, f, g, rfl, q1, q2⟩ := two_of hs hr
    rw [bool_rep q1, bool_rep q2]
    exact .inr ⟨a, b, rfl, rfl, q _ H (push_sc hs (by simp only [Rep]))⟩
  · cases e
theorem sem_isnt : SemN C (R2l rIsnt) gIsnt := by
  intro env ts σ vs H F rs ms xs k Q hs hr e q
  unfold gIsnt at e
  split at e
  · rename_i m
    cases e
    obtain ⟨x, y, f, g, rfl, q1, q2⟩ := two_of hs hr
    rw [none_rep q2]
    refine .inl ⟨rfl, ?_⟩
    rw [rep_non q1]
    exact q (.bl (!isNoneM m)) H (push_sc hs (by simp only [Rep]))
  · rename_i a b
    cases e
    obtain ⟨x, y, f, g, rfl, q1, q2⟩ := two_of hs hr
    rw [bool_rep q1, bool_rep q2]
    exact .inr ⟨a, b, rfl, rfl, q _ H (push_sc hs (by simp only [Rep]))⟩
  · cases e
end
end Yf
namespace Yf
open PySem PySem.Spec L2
open PyProof.Rows hiding St
/-! ### dicts seen -/
def keyOf : D → Option Key
  | .int i => some (.inl i)
  | .str x => some (.inr x)
  | _ => none
def valM (kvs : List (Key × M)) (k : Key) : Option M := (kvs.find? fun kv => decide (kv.1 = k)).map (·.2)
/-- a frozen dict's pairs -/
def pairsD : List (D × D) → Option (List (Key × M))
  | [] => some []
  | (k, d) :: r =>
    match keyOf k, pairsD r with
    | some j, some s => some ((j, .d d) :: s)
    | _, _ => none
def dctOf : M → Option (List (Key × M))
  | .dct kvs => some kvs
  | .d (.dict kvs) => pairsD kvs
  | _ => none
section
variable {K : PySem.W.Frag} {H : Hp} {O : Addr → Prop} {m : M} {v : V} {f : List Addr}
theorem keyOf_inv {d : D} {k : Key} (e : keyOf d = some k) : d = keyD k := by
  unfold keyOf at e
  split at e
  · cases e; rfl
  · cases e; rfl
  · cases e
theorem keyD_of (k : Key) : keyOf (keyD k) = some k := by cases k <;> rfl
theorem keyD_inj {a b : Key} (e : keyD a = keyD b) : a = b := by
  have := keyD_of a
  rw [e, keyD_of] at this
  cases this
  rfl
theorem rep_key {k : Key} {v : V} (q : Rep K H O (keyD k) v) : v = kV k := by
  cases k with
  | inl i => simp only [keyD, Rep] at q; exact q
  | inr x => simp only [keyD, Rep] at q; exact q
theorem key_rep {k : Key} : Rep K H O (keyD k) (kV k) := by
  cases k with
  | inl i => simp only [keyD, Rep]; rfl
  | inr x => simp only [keyD, Rep]; rfl
theorem pairsD_rep : ∀ {kvs : List (D × D)} {r : List (Key × M)} {ks : List (Key × V)}, RepKv K H O kvs ks → pairsD kvs = some r → RepMs K H O r ks []
  | [], r, ks, h, e => by
    simp only [RepKv] at h
    simp only [pairsD, Option.some.injEq] at e
    subst h; subst e
    simp [RepMs]
  | (k, d) :: kvs, r, ks, h, e => by
    simp only [RepKv] at h
    obtain ⟨j, x, s, rfl, rfl, q, h⟩ := h
    simp only [pairsD, keyD_of] at e
    cases e1 : pairsD kvs with
    | none => rw [e1] at e; cases e
    | some r' =>
      rw [e1] at e
      cases e
      simp only [RepMs]
      exact ⟨x, s, [], [], rfl, rfl, by simp, ⟨rfl, q⟩, pairsD_rep h e1⟩
theorem dctOf_rep {kvs : List (Key × M)} (q : RepM K H O m v f) (e : dctOf m = some kvs) : ∃ a ks g, v = .ref a ∧ Rd H a (.dK ks) ∧ RepMs K H O kvs ks g := by
  unfold dctOf at e
  split at e
  · cases e
    simp only [RepM] at q
    obtain ⟨a, ks, g, e1, _, _, e2, z⟩ := q
    exact ⟨a, ks, g, e1, .inl e2, z⟩
  · have q := q.2
    simp only [Rep] at q
    obtain ⟨a, ks, e1, _, e2, z⟩ := q
    exact ⟨a, ks, [], e1, e2, pairsD_rep z e⟩
  · cases e
theorem ms_val : ∀ {kvs : List (Key × M)} {ks : List (Key × V)} {g : List Addr} (k : Key), RepMs K H O kvs ks g →
    (match valM kvs k with | some m => ∃ x f, valV ks k = some x ∧ RepM K H O m x f | none => valV ks k = none)
  | [], ks, g, k, h => by
    simp only [RepMs] at h
    rw [h.1]
    rfl
  | (j, m) :: kvs, ks, g, k, h => by
    simp only [RepMs] at h
    obtain ⟨x, s, f, g', rfl, rfl, _, q, h⟩ := h
    have ih := ms_val k h
    by_cases e : j = k
    · have e1 : valM ((j, m) :: kvs) k = some m := by simp [valM, e]
      rw [e1]
      exact ⟨x, f, valV_pos (p := (j, x)) e, q⟩
    · have e1 : valM ((j, m) :: kvs) k = valM kvs k := by simp [valM, e]
      rw [e1, valV_neg (p := (j, x)) e]
      exact ih
theorem ms_keys : ∀ {kvs : List (Key × M)} {ks : List (Key × V)} {g : List Addr}, RepMs K H O kvs ks g → kvs.map (·.1) = ks.map (·.1) ∧ kvs.length = ks.length
  | [], ks, g, h => by
    simp only [RepMs] at h
    rw [h.1]
    exact ⟨rfl, rfl⟩
  | (j, m) :: kvs, ks, g, h => by
    simp only [RepMs] at h
    obtain ⟨x, s, f, g', rfl, rfl, _, q, h⟩ := h
    obtain ⟨h1, h2⟩ := ms_keys h
    exact ⟨by simp [h1], by simp [h2]⟩
theorem DGet.rd {H : Hp} {a : Addr} {kvs : List (Key × V)} {k : Key} (e : Rd H a (.dK kvs)) : DGet H a (kV k) (valV kvs k) := .inl ⟨kvs, k, e, rfl, rfl⟩
end
/-! ### in, not in -/
/-- a text of one sign -/
def signOf (x : Str) : Option Nat :=
  match x.cps.toList with
  | [c] => some c
  | _ => none
theorem signOf_inv {x : Str} {c : Nat} (e : signOf x = some c) : x = ⟨#[c]⟩ := by
  unfold signOf at e
  split at e
  · rename_i c' h
    cases e
    have : x.cps = #[c] := by
      apply Array.toList_inj.mp
      simpa using h
    cases x
    simp only at this
    subst this
    rfl
  · cases e
def gInB : List M → Option Bool
  | [x, c] =>
    match listOf c with
    | some ds => if SeqAt.shaped (freeze x) && SeqAt.shaped (.list ds) then some (ds.any fun z => PyData.eqv z (freeze x)) else none
    | none =>
      match tupOf c with
      | some ds => if SeqAt.shaped (freeze x) && SeqAt.shaped (.list ds) then some (ds.any fun z => PyData.eqv z (freeze x)) else none
      | none =>
        match dctOf c with
        | some kvs => (match x with | .d d => (keyOf d).map fun k => (valM kvs k).isSome | _ => none)
        | none => (match x, c with | .d (.str y), .d (.str z) => (signOf y).map fun s => decide (s ∈ z.cps.toList) | _, _ => none)
  | _ => none
def gIn (ms : List M) : Option M := (gInB ms).map fun b => .d (.bool b)
def gNin (ms : List M) : Option M := (gInB ms).map fun b => .d (.bool (!b))
def rInA (K : PySem.W.Frag) (neg : Bool) : R2 := fun x y H Q =>
  (∃ d ds, Dp K H x d ∧ (Dp K H y (.list ds) ∨ Dp K H y (.tuple ds)) ∧ SeqAt.shaped d = true ∧ SeqAt.shaped (.list ds) = true ∧ Q (.bl ((ds.any fun z => PyData.eqv z d) ^^ neg)) H) ∨
  (∃ a o, y = .ref a ∧ DGet H a x o ∧ Q (.bl (o.isSome ^^ neg)) H) ∨
  (∃ (c : Nat) (z : Str), x = .str ⟨#[c]⟩ ∧ y = .str z ∧ Q (.bl (decide (c ∈ z.cps.toList) ^^ neg)) H)
theorem or_in {X : Cx} (hu : X.A.units + 66 < cLine) : OpR X (compareOp .In) (rInA X.K false) := by
  intro pins s σ H x y v u Q I rx ry h
  rcases h with ⟨d, ds, hd, he, sd, se, q⟩ | ⟨a, o, rfl, g, q⟩ | ⟨c, z, rfl, rfl, q⟩
  · rw [Bool.xor_false] at q
    obtain ⟨as, r1⟩ := Dp.reads I d x v hd rx
    rcases he with he | he
    · obtain ⟨bs, r2⟩ := Dp.reads I (.list ds) y u he ry
      exact SeqAt.in_list_reads r2 r1 (SeqAt.canLay_of_shaped se) (SeqAt.canLay_of_shaped sd) (room_in_shaped sd (by omega)) ⟨.bl _, H, I, rfl, q⟩
    · obtain ⟨bs, r2⟩ := Dp.reads I (.tuple ds) y u he ry
      exact SeqAt.in_tuple_reads r2 r1 (SeqAt.canLay_of_shaped (d := .list ds) se) (SeqAt.canLay_of_shaped sd) (room_in_shaped sd (by omega)) ⟨.bl _, H, I, rfl, q⟩
  · rw [Bool.xor_false] at q
    obtain rfl : u = Value.ref a := ry
    exact d_in (by omega) I g rx fun s3 I3 => ⟨.bl o.isSome, H, I3, rfl, q⟩
  · rw [Bool.xor_false] at q
    exact op_in_sign pins s σ H _ _ v u Q I rx ry ⟨c, z, rfl, rfl, q⟩
theorem or_nin {X : Cx} (hu : X.A.units + 66 < cLine) : OpR X (compareOp .NotIn) (rInA X.K true) := by
  intro pins s σ H x y v u Q I rx ry h
  rcases h with ⟨d, ds, hd, he, sd, se, q⟩ | ⟨a, o, rfl, g, q⟩ | ⟨c, z, rfl, rfl, q⟩
  · rw [Bool.xor_true] at q
    obtain ⟨as, r1⟩ := Dp.reads I d x v hd rx
    rcases he with he | he
    · obtain ⟨bs, r2⟩ := Dp.reads I (.list ds) y u he ry
      exact SeqAt.notIn_list_reads r2 r1 (SeqAt.canLay_of_shaped se) (SeqAt.canLay_of_shaped sd) (room_in_shaped sd (by omega)) ⟨.bl _, H, I, rfl, q⟩
    · obtain ⟨bs, r2⟩ := Dp.reads I (.tuple ds) y u he ry
      exact SeqAt.notIn_tuple_reads r2 r1 (SeqAt.canLay_of_shaped (d := .list ds) se) (SeqAt.canLay_of_shaped sd) (room_in_shaped sd (by omega)) ⟨.bl _, H, I, rfl, q⟩
  · rw [Bool.xor_true] at q
    obtain rfl : u = Value.ref a := ry
    exact d_notIn (by omega) I g rx fun s3 I3 => ⟨.bl (!o.isSome), H, I3, rfl, q⟩
  · rw [Bool.xor_true] at q
    exact op_notIn_sign pins s σ H _ _ v u Q I rx ry ⟨c, z, rfl, rfl, q⟩
section
variable {C : Kx}
theorem dp_list {K : PySem.W.Frag} {H : Hp} {O : Addr → Prop} {a : Addr} {xs : List V} {ds : List D} (r : Rd H a (.lst xs)) (z : RepAll K H O ds xs) (s : SeqAt.shaped (.list ds) = true) : Dp K H (.ref a) (.list ds) :=
  .lst (.inl r) (dps_of (by simpa [PyData.canLay0] using SeqAt.canLay_of_shaped s) z)
theorem dp_tup {K : PySem.W.Frag} {H : Hp} {O : Addr → Prop} {a : Addr} {xs : List V} {ds : List D} (r : SqT K H a xs) (z : RepAll K H O ds xs) (s : SeqAt.shaped (.list ds) = true) : Dp K H (.ref a) (.tuple ds) :=
  .tup r (dps_of (by simpa [PyData.canLay0] using SeqAt.canLay_of_shaped s) z)
theorem in_rep {neg : Bool} {ms : List M} {b : Bool} {env : Sl} {ts : List M} {σ : St} {vs : List V} {H : Hp} {F : Rt → List Addr} {rs : List Rt} {xs : List V} {Q : VK} (hs : SR C.K C.E env ts σ vs H F) (hr : RtsAre env ts σ vs rs ms xs) (e : gInB ms = some b) (q : Q (.bl (b ^^ neg)) H) :
    R2l (rInA C.K neg) xs H Q := by
  match ms, e with
  | [m, n], e =>
    obtain ⟨x, y, f, g, rfl, q1, q2⟩ := two_of hs hr
    simp only [gInB] at e
    show rInA C.K neg x y H Q
    cases e1 : listOf n with
    | some ds =>
      rw [e1] at e
      simp only at e
      split at e
      · rename_i c
        cases e
        rw [Bool.and_eq_true] at c
        obtain ⟨p, ys, rfl, r, z⟩ := listOf_rep q2 e1
        exact .inl ⟨_, ds, dp_of (SeqAt.canLay_of_shaped c.1) q1.see, .inl (dp_list r z c.2), c.1, c.2, q⟩
      · cases e
    | none =>
      rw [e1] at e
      simp only at e
      cases e2 : tupOf n with
      | some ds =>
        rw [e2] at e
        simp only at e
        split at e
        · rename_i c
          cases e
          rw [Bool.and_eq_true] at c
          obtain ⟨p, ys, rfl, r, z, _⟩ := tupOf_rep q2 e2
          exact .inl ⟨_, ds, dp_of (SeqAt.canLay_of_shaped c.1) q1.see, .inr (dp_tup r.sq z c.2), c.1, c.2, q⟩
        · cases e
      | none =>
        rw [e2] at e
        simp only at e
        cases e3 : dctOf n with
        | some kvs =>
          rw [e3] at e
          simp only at e
          cases m with
          | d d =>
            simp only at e
            cases e4 : keyOf d with
            | none => rw [e4] at e; cases e
            | some k =>
              rw [e4] at e
              cases e
              obtain ⟨a, ks, g', rfl, r, z⟩ := dctOf_rep q2 e3
              have ed := keyOf_inv e4
              subst ed
              have ex := rep_key q1.2
              subst ex
              refine .inr (.inl ⟨a, _, rfl, DGet.rd (k := k) r, ?_⟩)
              have := ms_val k z
              dsimp only at q
              cases e5 : valM kvs k with
              | none => rw [e5] at this q; rw [this]; exact q
              | some m' =>
                rw [e5] at this q
                obtain ⟨x', _, e6, _⟩ := this
                rw [e6]; exact q
          | lst d => cases e
          | dct d => cases e
        | none =>
          rw [e3] at e
          simp only at e
          split at e
          · rename_i y0 z0
            cases e4 : signOf y0 with
            | none => rw [e4] at e; cases e
            | some c0 =>
              rw [e4] at e
              cases e
              rw [str_rep q1, str_rep q2, signOf_inv e4]
              exact .inr (.inr ⟨_, _, rfl, rfl, q⟩)
          · cases e
theorem sem_in : SemN C (R2l (rInA C.K false)) gIn := by
  intro env ts σ vs H F rs ms xs k Q hs hr e q
  unfold gIn at e
  cases e1 : gInB ms with
  | none => rw [e1] at e; cases e
  | some b =>
    rw [e1] at e
    cases e
    exact in_rep hs hr e1 (by rw [Bool.xor_false]; exact q _ H (push_sc hs (by simp only [Rep])))
theorem sem_nin : SemN C (R2l (rInA C.K true)) gNin := by
  intro env ts σ vs H F rs ms xs k Q hs hr e q
  unfold gNin at e
  cases e1 : gInB ms with
  | none => rw [e1] at e; cases e
  | some b =>
    rw [e1] at e
    cases e
    exact in_rep hs hr e1 (by rw [Bool.xor_true]; exact q _ H (push_sc hs (by simp only [Rep])))
/-! ### subscripts -/
def gIx : List M → Option M
  | [m, .d (.int i)] =>
    match listOf m with
    | some ds => (atI ds i).map .d
    | none =>
      match tupOf m with
      | some ds => (atI ds i).map .d
      | none =>
        match m with
        | .d (.str z) => if z.length ≤ sizeLine then (atI z.cps.toList i).map fun c => .d (.str ⟨#[c]⟩) else none
        | _ =>
          match dctOf m with
          | some kvs => (match valM kvs (.inl i) with | some (.d v) => some (.d v) | _ => none)
          | none => none
  | [m, .d (.str x)] =>
    match dctOf m with
    | some kvs => (match valM kvs (.inr x) with | some (.d v) => some (.d v) | _ => none)
    | none => none
  | _ => none
def rIxD : R2 := fun x y H Q => ∃ a v, x = .ref a ∧ DGet H a y (some v) ∧ Q v H
theorem ix_dict {X : Cx} (hu : X.A.units + 1 < cLine) : IxR X rIxD := by
  intro value slice pins s σ H x y v u Q I rx ry h hs
  obtain ⟨a, z, rfl, g, q⟩ := h
  obtain rfl : v = Value.ref a := rx
  exact tail_any (dict_typeIs I g) PySem.F.slot_dict_getitem.lookup (d_getItem hu I g ry fun w' s3 I3 rw' => ⟨z, H, I3, rw', q⟩) hs
def rIx4 (K : PySem.W.Frag) : R2 := fun x y H Q => rIx K x y H Q ∨ rIxD x y H Q
theorem or_ix {X : Cx} (hu : X.A.units + 1 < cLine) : IxR X (rIx4 X.K) := ix_seq.or (ix_dict hu)
theorem atI_rep {K : PySem.W.Frag} {H : Hp} {O : Addr → Prop} {ds : List D} {xs : List V} {i : Int} {d : D} (z : RepAll K H O ds xs) (e : atI ds i = some d) : ∃ x, atI xs i = some x ∧ Rep K H O d x := by
  unfold atI at e ⊢
  rw [← z.len]
  cases e1 : ixN ds.length i with
  | none => rw [e1] at e; cases e
  | some j =>
    rw [e1] at e
    exact z.get e
theorem sem_ix : SemN C (R2l (rIx4 C.K)) gIx := by
  intro env ts σ vs H F rs ms xs k Q hs hr e q
  unfold gIx at e
  split at e
  · rename_i m i
    obtain ⟨x, y, f, g, rfl, q1, q2⟩ := two_of hs hr
    rw [int_rep q2]
    show rIx4 C.K x (.int i) H Q
    cases e1 : listOf m with
    | some ds =>
      rw [e1] at e
      simp only at e
      cases e2 : atI ds i with
      | none => rw [e2] at e; cases e
      | some d =>
        rw [e2] at e
        cases e
        obtain ⟨p, ys, rfl, r, z⟩ := listOf_rep q1 e1
        obtain ⟨w, ew, qw⟩ := atI_rep z e2
        exact .inl (.inl ⟨p, ys, i, w, rfl, rfl, .inl r, ew, q _ H (push_sc hs qw)⟩)
    | none =>
      rw [e1] at e
      simp only at e
      cases e2 : tupOf m with
      | some ds =>
        rw [e2] at e
        simp only at e
        cases e3 : atI ds i with
        | none => rw [e3] at e; cases e
        | some d =>
          rw [e3] at e
          cases e
          obtain ⟨p, ys, rfl, r, z, _⟩ := tupOf_rep q1 e2
          obtain ⟨w, ew, qw⟩ := atI_rep z e3
          exact .inl (.inr (.inl ⟨p, ys, i, w, rfl, rfl, r.sq, ew, q _ H (push_sc hs qw)⟩))
      | none =>
        rw [e2] at e
        simp only at e
        split at e
        · split at e
          · rename_i hz
            cases e3 : atI _ i with
            | none => rw [e3] at e; cases e
            | some c =>
              rw [e3] at e
              cases e
              rw [str_rep q1]
              exact .inl (.inr (.inr ⟨_, i, c, rfl, rfl, hz, e3, q _ H (push_sc hs (by simp only [Rep]))⟩))
          · cases e
        · cases e3 : dctOf m with
          | none => rw [e3] at e; cases e
          | some kvs =>
            rw [e3] at e
            simp only at e
            split at e
            · rename_i v0 ev
              cases e
              obtain ⟨a, ks, g', rfl, r, z⟩ := dctOf_rep q1 e3
              have := ms_val (.inl i) z
              rw [ev] at this
              obtain ⟨w, _, ew, qw⟩ := this
              exact .inr ⟨a, w, rfl, by rw [← ew]; exact DGet.rd (k := .inl i) r, q _ H (push_sc hs qw.2)⟩
            · cases e
  · rename_i m x0
    obtain ⟨x, y, f, g, rfl, q1, q2⟩ := two_of hs hr
    rw [str_rep q2]
    show rIx4 C.K x (.str x0) H Q
    cases e3 : dctOf m with
    | none => rw [e3] at e; cases e
    | some kvs =>
      rw [e3] at e
      simp only at e
      split at e
      · rename_i v0 ev
        cases e
        obtain ⟨a, ks, g', rfl, r, z⟩ := dctOf_rep q1 e3
        have := ms_val (.inr x0) z
        rw [ev] at this
        obtain ⟨w, _, ew, qw⟩ := this
        exact .inr ⟨a, w, rfl, by rw [← ew]; exact DGet.rd (k := .inr x0) r, q _ H (push_sc hs qw.2)⟩
      · cases e
  · cases e
/-! ### slices -/
def cutD (ds : List D) (lo hi : Option Int) : List D := (ds.drop (HT.sIx ds.length 0 lo)).take (HT.sIx ds.length ds.length hi - HT.sIx ds.length 0 lo)
theorem RepAll.cut {K : PySem.W.Frag} {H : Hp} {O : Addr → Prop} {ds : List D} {xs : List V} (z : RepAll K H O ds xs) (lo hi : Option Int) : RepAll K H O (cutD ds lo hi) (cutV xs lo hi) := by
  unfold cutD cutV
  rw [← z.len]
  exact (z.drop _).take _
def slM (m : M) (lo hi : Option Int) : Option M :=
  match listOf m with
  | some ds => some (.lst (cutD ds lo hi))
  | none =>
    match tupOf m with
    | some ds => some (.d (.tuple (cutD ds lo hi)))
    | none =>
      match m with
      | .d (.str z) => if z.length ≤ sizeLine then some (.d (.str (cutS z lo hi))) else none
      | _ => none
def rSl3 (K : PySem.W.Frag) : V → Option Int → Option Int → Hp → VK → Prop := fun x lo hi H Q => rSlL K x lo hi H Q ∨ (rSlA K x lo hi H Q ∨ rSlS x lo hi H Q)
theorem sl_all {X : Cx} : SlR X (rSl3 X.K) := sl_list.or (sl_tupA.or sl_str)
theorem slM_rep {env : Sl} {ts : List M} {σ : St} {vs : List V} {H : Hp} {F : Rt → List Addr} {m k : M} {x : V} {f : List Addr} {lo hi : Option Int} {Q : VK} (hs : SR C.K C.E env ts σ vs H F) (q1 : RepM C.K H (Av C.E F) m x f) (e : slM m lo hi = some k)
    (q : ∀ v H', SRel C.K C.E env (ts ++ [k]) σ (vs ++ [v]) H' → Q v H') : rSl3 C.K x lo hi H Q := by
  unfold slM at e
  cases e1 : listOf m with
  | some ds =>
    rw [e1] at e
    cases e
    obtain ⟨p, ys, rfl, r, z⟩ := listOf_rep q1 e1
    exact .inl ⟨p, ys, rfl, .inl r, fun l nl => q _ _ (push_lst' hs nl (z.cut lo hi))⟩
  | none =>
    rw [e1] at e
    simp only at e
    cases e2 : tupOf m with
    | some ds =>
      rw [e2] at e
      cases e
      obtain ⟨p, ys, rfl, r, z, _⟩ := tupOf_rep q1 e2
      refine .inr (.inl ⟨p, ys, rfl, r.sq, fun hw => ?_, fun _ l nl => q _ _ (push_tup hs nl (z.cut lo hi))⟩)
      have ec : cutD ds lo hi = ds := by
        unfold cutD
        rw [z.len, hw.1, hw.2, List.drop_zero, Nat.sub_zero]
        exact List.take_of_length_le (by rw [z.len]; exact Nat.le_refl _)
      rw [ec] at q
      exact q _ H (push_sc hs (by simp only [Rep]; exact ⟨p, ys, rfl, r, z⟩))
    | none =>
      rw [e2] at e
      simp only at e
      split at e
      · split at e
        · rename_i hz
          cases e
          rw [str_rep q1]
          exact .inr (.inr ⟨_, rfl, hz, q _ H (push_sc hs (by simp only [Rep]))⟩)
        · cases e
      · cases e
def gSl11 : List M → Option M | [m, .d (.int i), .d (.int j)] => slM m (some i) (some j) | _ => none
def gSl10 : List M → Option M | [m, .d (.int i)] => slM m (some i) none | _ => none
def gSl01 : List M → Option M | [m, .d (.int j)] => slM m none (some j) | _ => none
def gSl00 : List M → Option M | [m] => slM m none none | _ => none
variable {X : Cx} {a b c : Expr} {fa fb fc : Sl → Res Rv} {pos p2 : Pos}
theorem three_of {env : Sl} {ts : List M} {σ : St} {vs : List V} {H : Hp} {F : Rt → List Addr} {rs : List Rt} {xs : List V} {m n l : M} (h : SR C.K C.E env ts σ vs H F) (r : RtsAre env ts σ vs rs [m, n, l] xs) : ∃ x y z f g e, xs = [x, y, z] ∧ RepM C.K H (Av C.E F) m x f ∧ RepM C.K H (Av C.E F) n y g ∧ RepM C.K H (Av C.E F) l z e := by
  rcases rs with _ | ⟨r1, _ | ⟨r2, _ | ⟨r3, _ | ⟨r4, rs⟩⟩⟩⟩ <;> rcases xs with _ | ⟨x, _ | ⟨y, _ | ⟨z, _ | ⟨z', xs⟩⟩⟩⟩ <;> simp only [RtsAre, and_false, and_true] at r
  obtain ⟨e1, v1, e2, v2, e3, v3⟩ := r
  obtain ⟨v, ev, q⟩ := h.rep _ _ e1
  rw [v1] at ev
  cases ev
  obtain ⟨v', ev', q'⟩ := h.rep _ _ e2
  rw [v2] at ev'
  cases ev'
  obtain ⟨v'', ev'', q''⟩ := h.rep _ _ e3
  rw [v3] at ev''
  cases ev''
  exact ⟨_, _, _, _, _, _, rfl, q, q', q''⟩
def rS11 (K : PySem.W.Frag) : List V → Hp → VK → Prop := fun xs H Q => match xs with | [x, y, z] => ∃ i, y = .int i ∧ ∃ j, z = .int j ∧ rSl3 K x (some i) (some j) H Q | _ => False
def rS10 (K : PySem.W.Frag) : List V → Hp → VK → Prop := fun xs H Q => match xs with | [x, y] => ∃ i, y = .int i ∧ rSl3 K x (some i) none H Q | _ => False
def rS01 (K : PySem.W.Frag) : List V → Hp → VK → Prop := fun xs H Q => match xs with | [x, y] => ∃ i, y = .int i ∧ rSl3 K x none (some i) H Q | _ => False
def rS00 (K : PySem.W.Frag) : List V → Hp → VK → Prop := fun xs H Q => match xs with | [x] => rSl3 K x none none H Q | _ => False
/-- an int, at once -/
def evI (f : Sl → Res Rv) : Sl → Res Rv := fun env => (f env).bind fun p env' =>
  match getO env' p with
  | some (.d (.int i)) => .ok (.inr (.d (.int i))) env'
  | _ => .stuck
theorem tE_int {σ : St} {H : Hp} {f : Sl → Res Rv} {Q : VK} (h : tE C (evI f) σ H Q) : tE C f σ H (fun v H' => ∃ i, v = .int i ∧ Q v H') := by
  obtain ⟨env, ts, vs, h, q⟩ := h
  have lt := h.lent
  refine ⟨env, ts, vs, h, ?_⟩
  simp only [evI] at q
  cases e : f env with
  | stuck => rw [e] at q; exact q
  | exc x env1 => rw [e] at q; exact q
  | ok p env1 =>
    rw [e] at q
    simp only [Res.bind] at q
    intro v H1 h1 ev
    obtain ⟨F, h1⟩ := h1
    split at q
    · rename_i i eo
      have e0 : getR env1 (ts ++ ext p) (root p ts.length) = some (.d (.int i)) := by
        have := getR_root (p := p) (env := env1) (ts := ts) (more := [])
        rw [List.append_nil] at this
        rw [this, eo]
      obtain ⟨v', ev', qr⟩ := h1.rep _ _ e0
      rw [ev] at ev'
      cases ev'
      have ei := int_rep qr
      refine ⟨i, ei, ?_⟩
      have h2 : SRel C.K C.E env1 ts σ vs H1 := SRel.pops ⟨F, h1⟩ lt (ext_len p v)
      obtain ⟨F2, h2⟩ := h2
      refine q v H1 ⟨F2, h2.pushD (by simp only [Rep]; exact ei)⟩ ?_
      show (vs ++ [v])[ts.length]? = some v
      rw [lt]; simp
    · exact q.elim
theorem tPart_of {σ : St} {H : Hp} {f : Sl → Res Rv} {R : Option Int → Hp → Prop} (h : tE C (evI f) σ H fun v H' => ∀ i, v = .int i → R (some i) H') : tPart (tE C f) σ H R :=
  tE_mono (tE_int h) fun v H' ⟨i, ei, q⟩ => ⟨i, ei, q i ei⟩
theorem de_sl11 (hK : C.K = X.K) (ha : DE X C a fa) (hb : DE X C b fb) (hc : DE X C c fc) : DE X C (.Subscript a (.Slice (some b) (some c) none p2) pos) (evOp gSl11 [fa, evI fb, evI fc]) := by
  refine ⟨(pe_slice sl_all ha.pe (po_some hb.pe) (po_some hc.pe)).weak fun σ H Q h => ?_⟩
  have S : SemN C (rS11 X.K) gSl11 := by
    intro env ts σ vs H F rs ms xs k Q hs hr e q
    unfold gSl11 at e
    split at e
    · obtain ⟨x, y, z, f, g, e', rfl, q1, q2, q3⟩ := three_of hs hr
      rw [int_rep q2, int_rep q3]
      refine ⟨_, rfl, _, rfl, ?_⟩
      rw [← hK]; exact slM_rep hs q1 e q
    · cases e
  refine tE_mono (evOp_of S h) fun x H1 h1 => tPart_of (tE_mono h1 fun y H2 h2 i ei => tPart_of (tE_mono h2 fun z H3 h3 j ej => ?_))
  obtain ⟨i', e1, j', e2, h4⟩ := h3
  rw [ei] at e1; cases e1
  rw [ej] at e2; cases e2
  exact h4
theorem de_sl10 (hK : C.K = X.K) (ha : DE X C a fa) (hb : DE X C b fb) : DE X C (.Subscript a (.Slice (some b) none none p2) pos) (evOp gSl10 [fa, evI fb]) := by
  refine ⟨(pe_slice sl_all ha.pe (po_some hb.pe) po_none).weak fun σ H Q h => ?_⟩
  have S : SemN C (rS10 X.K) gSl10 := by
    intro env ts σ vs H F rs ms xs k Q hs hr e q
    unfold gSl10 at e
    split at e
    · obtain ⟨x, y, f, g, rfl, q1, q2⟩ := two_of hs hr
      rw [int_rep q2]
      refine ⟨_, rfl, ?_⟩
      rw [← hK]; exact slM_rep hs q1 e q
    · cases e
  refine tE_mono (evOp_of S h) fun x H1 h1 => tPart_of (tE_mono h1 fun y H2 h2 i ei => ?_)
  obtain ⟨i', e1, h4⟩ := h2
  rw [ei] at e1; cases e1
  exact h4
theorem de_sl01 (hK : C.K = X.K) (ha : DE X C a fa) (hb : DE X C b fb) : DE X C (.Subscript a (.Slice none (some b) none p2) pos) (evOp gSl01 [fa, evI fb]) := by
  refine ⟨(pe_slice sl_all ha.pe po_none (po_some hb.pe)).weak fun σ H Q h => ?_⟩
  have S : SemN C (rS01 X.K) gSl01 := by
    intro env ts σ vs H F rs ms xs k Q hs hr e q
    unfold gSl01 at e
    split at e
    · obtain ⟨x, y, f, g, rfl, q1, q2⟩ := two_of hs hr
      rw [int_rep q2]
      refine ⟨_, rfl, ?_⟩
      rw [← hK]; exact slM_rep hs q1 e q
    · cases e
  refine tE_mono (evOp_of S h) fun x H1 h1 => ?_
  show tPart (tE C fb) σ H1 fun u H3 => rSl3 X.K x none u H3 Q
  refine tPart_of (tE_mono h1 fun y H2 h2 i ei => ?_)
  obtain ⟨i', e1, h4⟩ := h2
  rw [ei] at e1; cases e1
  exact h4
theorem de_sl00 (hK : C.K = X.K) (ha : DE X C a fa) : DE X C (.Subscript a (.Slice none none none p2) pos) (evOp gSl00 [fa]) := by
  refine ⟨(pe_slice sl_all ha.pe po_none po_none).weak fun σ H Q h => ?_⟩
  have S : SemN C (rS00 X.K) gSl00 := by
    intro env ts σ vs H F rs ms xs k Q hs hr e q
    unfold gSl00 at e
    split at e
    · obtain ⟨x, f, rfl, q1⟩ := one_of hs hr
      show rSl3 X.K x none none H Q
      rw [← hK]; exact slM_rep hs q1 e q
    · cases e
  exact evOp_of S h
end
/-! ### x[::-1] -/
theorem fm_map {α β : Type} {f : α → Option β} {g : α → β} : ∀ {l : List α}, (∀ k ∈ l, f k = some (g k)) → l.filterMap f = l.map g
  | [], _ => rfl
  | x :: l, h => by
    rw [List.filterMap_cons, h x List.mem_cons_self, List.map_cons, fm_map fun k hk => h k (List.mem_cons_of_mem _ hk)]
section
open HT
theorem getItem_tuple_rev {prog : Program} {w : World} {A : Around} {E : Value → Shared → Prop} {s : Shared} {t sl : Addr} {items : Array Value} {vl vu vk : Value} {Q : Value → Shared → Prop} (ht : IsTup s.heap t items) (hs : s.heap.IsSliceOf sl vl vu vk) (pl : IsPart vl none) (pu : IsPart vu none) (pk : IsPart vk (some (-1)))
    (h : Q (.ref s.heap.objs.size) { s with heap := s.heap.push { cls := .type "tuple", data := .seq items.toList.reverse.toArray } })
    (hsz : items.size ≤ sizeLine) : wpAny (model prog w) A (getItem (.ref t) (.ref sl)) Q E s := by
  have htake : sizeOk (.seq items.toList.reverse.toArray) := by
    show items.toList.reverse.toArray.size ≤ sizeLine
    simpa using hsz
  obtain ⟨os, hos, hcs, hds⟩ := id hs
  have hTs : s.TypeIs (.ref sl) "slice" := ⟨os, hos, hcs⟩
  unfold getItem
  try with_reducible refine wpAny_holding ?_
  first | refine wpAny_bind (wpAny_pure ?_) | skip
  refine wpAny_bind (wpAny_sequenceKey ht.typeIs (by decide) ?_)
  refine wpAny_bind (wpAny_callSpecial?_slot (name := Str.ofString "__getitem__") ht.typeIs PyProof.Rows.slot_tuple_getitem
    (wpAny_call_entry PyProof.Rows.slot_tuple_getitem ht.typeIs entry_tuple_getitem ?_ (args_tuple_getitem _ _)))
  show wpAny _ _ (Builtin.Tuple.tupleItemsOf (.ref t) >>= _) _ _ s
  refine wpAny_bind (PyProof.Rows.tupleItemsOf_ ht ?_)
  refine wpAny_bind (wpAny_typeOf hTs ?_)
  rw [if_pos (by decide)]
  have hn : Builtin.Slice.slicePlaces ((items.size : Int) - 1) (-1) (-1) = items.size := by
    unfold Builtin.Slice.slicePlaces
    rw [if_neg (by decide)]
    by_cases h0 : items.size = 0
    · rw [h0]; decide
    · rw [if_pos (by omega)]
      have : ((items.size : Int) - 1 - -1 - 1) / (- -1) + 1 = (items.size : Int) := by rw [show (- -1 : Int) = 1 from rfl, Int.ediv_one]; omega
      rw [this]; simp
  have hadj : Builtin.Slice.sliceAdjust none none (-1) (items.size : Int) = ((items.size : Int) - 1, -1) := rfl
  obtain ⟨A', hA⟩ : ∃ A', A' = A.in1 := ⟨_, rfl⟩
  unfold Builtin.Slice.sliceApplied Builtin.Slice.sliceFields
  refine wpAny_bind (wpAny_bind (wpAny_bind (wpAny_field hos hds (x := vl) rfl (wpAny_bind (wpAny_field hos hds (x := vu) rfl (wpAny_bind (wpAny_field hos hds (x := vk) rfl (wpAny_pure ?_))))))))
  refine wpAny_bind (slicePart_ pk ?_)
  show wpAny _ _ (if ((-1 : Int) == 0) = true then _ else _) _ _ s
  rw [if_neg (by decide)]
  refine wpAny_bind (slicePart_ pl (wpAny_bind (slicePart_ pu (wpAny_bind (wpAny_pure ?_)))))
  show wpAny _ _ (match Builtin.Slice.sliceAdjust none none (-1) (items.size : Int) with | (lo, hi) => pure (lo, (-1 : Int), Builtin.Slice.slicePlaces lo hi (-1))) _ _ s
  rw [hadj]
  show wpAny _ _ (pure ((items.size : Int) - 1, (-1 : Int), Builtin.Slice.slicePlaces ((items.size : Int) - 1) (-1) (-1))) _ _ s
  rw [hn]
  refine wpAny_pure ?_
  have hno : ¬ (((((items.size : Int) - 1) == 0) && ((-1 : Int) == 1) && (items.size == items.size)) = true) := by
    intro q
    rw [Bool.and_eq_true, Bool.and_eq_true] at q
    exact absurd q.1.2 (by decide)
  show wpAny _ _ (if ((((items.size : Int) - 1) == 0) && ((-1 : Int) == 1) && (items.size == items.size)) = true then _ else _) _ _ s
  have hpk : ((List.range items.size).filterMap fun (k : Nat) => items[(((items.size : Int) - 1) + (k : Int) * -1).toNat]?).toArray = items.toList.reverse.toArray := by
    congr 1
    refine List.ext_getElem? fun i => ?_
    have e : (List.range items.size).filterMap (fun (k : Nat) => items[(((items.size : Int) - 1) + (k : Int) * -1).toNat]?) = (List.range items.size).map (fun k => items[items.size - 1 - k]?.getD default) := by
      refine fm_map fun k hk => ?_
      have hk := List.mem_range.mp hk
      have e1 : (((items.size : Int) - 1) + (k : Int) * -1).toNat = items.size - 1 - k := by omega
      rw [e1]
      have : items.size - 1 - k < items.size := by omega
      simp [this]
    rw [e, List.getElem?_map]
    by_cases hi : i < items.size
    · rw [List.getElem?_range hi, List.getElem?_reverse (by simpa using hi)]
      have : items.size - 1 - i < items.size := by omega
      simp [this]
    · rw [List.getElem?_eq_none (by simpa using hi), List.getElem?_eq_none (by simpa using hi)]
      rfl
  rw [if_neg hno, hpk]
  first
    | exact wpAny_bind (m := Builtin.Tuple.tupleExact _) (wpAny_newObj_type (wpAny_pure ⟨_, rfl, wpAny_pure h⟩) htake)
    | exact wpAny_bind (m := Builtin.Tuple.tupleExact _) (wpAny_newObj_type (wpAny_bind (wpAny_pure (wpAny_pure ⟨_, rfl, wpAny_pure h⟩))) htake)
    | exact wpAny_bind (wpAny_bind (m := Builtin.Tuple.tupleExact _) (wpAny_newObj_type (wpAny_pure (wpAny_pure ⟨_, rfl, wpAny_pure h⟩)) htake))
    | exact wpAny_bind (wpAny_bind (m := Builtin.Tuple.tupleExact _) (wpAny_newObj_type (wpAny_pure ⟨_, rfl, wpAny_pure h⟩) htake))
end
def revM (m : M) : Option M :=
  match listOf m with
  | some ds => some (.lst ds.reverse)
  | none =>
    match tupOf m with
    | some ds => some (.d (.tuple ds.reverse))
    | none => none
def gRev : List M → Option M
  | [m] => revM m
  | _ => none
section
variable {X : Cx} {C : Kx} {e a : Expr} {fa : Sl → Res Rv} {pos p2 : Pos}
def rRevT (K : PySem.W.Frag) : V → Hp → VK → Prop := fun x H Q => ∃ a xs, x = .ref a ∧ SqT K H a xs ∧ ∀ p, H p = none → Q (.ref p) (upd H p (.tup xs.reverse))
def rRevL (K : PySem.W.Frag) : V → Hp → VK → Prop := fun x H Q => ∃ a xs, x = .ref a ∧ SqL K H a xs ∧ ∀ p, H p = none → Q (.ref p) (upd H p (.lst xs.reverse))
def rRev2 (K : PySem.W.Frag) : V → Hp → VK → Prop := fun x H Q => rRevL K x H Q ∨ rRevT K x H Q
theorem pe_rev2 {e : Expr} {te : TE} {k : Nat} {p1 p2 p3 pos : Pos} (he : PE X e te) : PE X (.Subscript e (.Slice none none (some (.UnaryOp .USub (.Constant (.int 1) k p1) p2)) p3) pos) (tUn (rRev2 X.K) te) := by
  refine ⟨fun pins s σ H Q I h => ?_⟩
  refine Subscript_ (thn (he.run pins s σ H _ I h) fun v s1 ⟨x, H1, I1, r1, q1⟩ => ?_)
  have hst : PO X (some (.UnaryOp .USub (.Constant (.int 1) k p1) p2)) (tPart (tUn (rU fun i => .int (-i)) (tC (.int 1)))) := po_some (pe_un un_neg pe_int)
  refine wpAny_Slice (thn (po_none.run pins s1 σ H1 (fun o H2 => o = none ∧ H2 = H1) I1 ⟨rfl, rfl⟩) fun vl s2 ⟨l, H2, I2, pl, el, e2⟩ => ?_)
  subst el e2
  refine thn (po_none.run pins s2 σ H2 (fun o H3 => o = none ∧ H3 = H2) I2 ⟨rfl, rfl⟩) fun vu s3 ⟨u, H3, I3, pu, eu, e3⟩ => ?_
  subst eu e3
  refine thn (hst.run pins s3 σ H3 (fun o H4 => o = some (-1) ∧ H4 = H3) I3 ⟨1, rfl, -1, rfl, rfl, rfl⟩) fun vs s4 ⟨o, H4, I4, ps, eo, e4⟩ => ?_
  subst eo e4
  have I5 : Inv X pins σ H4 { s4 with heap := s4.heap.push { cls := .type "slice", data := .fields #[vl, vu, vs] } } := I4.kept (t' := s4.toks) fun b ob q => Heap.get?_push_of_some _ q
  show wpAny (model X.prog X.w) X.A (subscriptTail e (.Slice none none (some (.UnaryOp .USub (.Constant (.int 1) k p1) p2)) p3) v (.ref s4.heap.objs.size)) (EP X pins σ Q) X.xe { s4 with heap := s4.heap.push { cls := .type "slice", data := .fields #[vl, vu, vs] } }
  rcases q1 with ⟨a, xs, ex, hx, q⟩ | ⟨a, xs, ex, hx, q⟩
  · subst ex
    cases r1
    obtain ⟨its, r, ht, hz⟩ := I5.list hx
    have hlen := r.length
    refine tail_any (ops := [.ref a, .ref s4.heap.objs.size]) ht.isList.typeIs (PySem.slot_list_getitem.lookup) ?_ (by with_unfolding_all rfl)
    refine wpAny_getItem_list_slice ht.isList (Heap.IsSliceOf.new _ vl vu vs) pl pu ps (by decide) ?_ (by rw [List.size_toArray]; omega)
    rw [PySem.W.krv_pick]
    refine ⟨.ref _, _, I5.laid (t' := s4.toks) (o := .lst xs.reverse) (fun b ob q => Heap.get?_push_of_some _ q) (Nat.le_refl _) ?_, rfl, q _ (I5.hok.fresh (Nat.le_refl _))⟩
    exact ⟨by rw [List.length_reverse]; exact hz, _, 0, r.reverse, Heap.get?_push_size _ rfl⟩
  · subst ex
    cases r1
    obtain ⟨its, r, ht, hz⟩ := I5.tuple hx
    have hlen := r.length
    refine tail_any (ops := [.ref a, .ref s4.heap.objs.size]) ht.typeIs (PyProof.Rows.slot_tuple_getitem.lookup) ?_ (by with_unfolding_all rfl)
    refine getItem_tuple_rev ht (Heap.IsSliceOf.new _ vl vu vs) pl pu ps ?_ (by rw [List.size_toArray]; omega)
    refine ⟨.ref _, _, I5.laid (t' := s4.toks) (o := .tup xs.reverse) (fun b ob q => Heap.get?_push_of_some _ q) (Nat.le_refl _) ?_, rfl, q _ (I5.hok.fresh (Nat.le_refl _))⟩
    exact ⟨by rw [List.length_reverse]; exact hz, _, r.reverse, PyProof.Rows.IsTup.new _ _⟩
theorem sem_rev : SemN C (R1l (rRev2 C.K)) gRev := by
  intro env ts σ vs H F rs ms xs k Q hs hr e q
  unfold gRev at e
  split at e
  · obtain ⟨x, f, rfl, q1⟩ := one_of hs hr
    show rRev2 C.K x H Q
    unfold revM at e
    split at e
    · rename_i ds e1
      cases e
      obtain ⟨p, ys, rfl, r, z⟩ := listOf_rep q1 e1
      exact .inl ⟨p, ys, rfl, .inl r, fun l nl => q _ _ (push_lst' hs nl z.reverse)⟩
    · split at e
      · rename_i ds e1
        cases e
        obtain ⟨p, ys, rfl, r, z, _⟩ := tupOf_rep q1 e1
        exact .inr ⟨p, ys, rfl, r.sq, fun l nl => q _ _ (push_tup hs nl z.reverse)⟩
      · cases e
  · cases e
theorem de_rev {k : Nat} {p1 p3 : Pos} (hK : C.K = X.K) (ha : DE X C a fa) : DE X C (.Subscript a (.Slice none none (some (.UnaryOp .USub (.Constant (.int 1) k p1) p2)) p3) pos) (evOp gRev [fa]) :=
  ⟨(pe_rev2 ha.pe).weak fun σ H Q h => by rw [← hK]; exact evOp_of sem_rev h⟩
end
end Yf
namespace Yf
open PySem PySem.Spec L2
open PyProof.Rows hiding St
section
variable {X : Cx} {C : Kx} {e : Expr} {es : List Expr} {fs : List (Sl → Res Rv)} {pos p : Pos} {x : Str} {id T : String} {r : List V → Hp → VK → Prop} {g : List M → Option M}
theorem de_callB (hc : CallR X (.builtin id) r) (S : SemN C r g) (hg : Gl X x) (hm : X.mg x = none) (hv : bootBuiltins x = some (.builtin id)) (ha : DA X C (e :: es) fs) (hn : x ≠ "__name__") (hdb : (x == ("__debug__" : Str)) = false)
    (he : starEach (e :: es) X.env = (false, eval e X.env) :: starEach es X.env) (hpl : (backTo pos (starEach es X.env)).any (·.1) = false) : DE X C (.Call (.Name x p) (e :: es) [] pos) (evOp g fs) :=
  ⟨(pe_callB hc hg hm hv ha.pa hn hdb he hpl).weak fun σ H Q h => evOp_of S h⟩
theorem de_callTy (hc : CallR X (.type T) r) (S : SemN C r g) (hg : Gl X x) (hm : X.mg x = none) (hv : bootBuiltins x = some (.type T)) (ha : DA X C (e :: es) fs) (hn : x ≠ "__name__") (hdb : (x == ("__debug__" : Str)) = false)
    (he : starEach (e :: es) X.env = (false, eval e X.env) :: starEach es X.env) (hpl : (backTo pos (starEach es X.env)).any (·.1) = false) : DE X C (.Call (.Name x p) (e :: es) [] pos) (evOp g fs) :=
  ⟨(pe_callTy hc hg hm hv ha.pa hn hdb he hpl).weak fun σ H Q h => evOp_of S h⟩
end
section
variable {X : Cx} {C : Kx}
/-! ### len -/
def gLen : List M → Option M
  | [m] =>
    match listOf m with
    | some ds => some (.d (.int ds.length))
    | none =>
      match tupOf m with
      | some ds => some (.d (.int ds.length))
      | none =>
        match dctOf m with
        | some kvs => some (.d (.int kvs.length))
        | none => (match m with | .d (.str z) => if z.length ≤ sizeLine then some (.d (.int z.length)) else none | _ => none)
  | _ => none
def rLen3 (K : PySem.W.Frag) : List V → Hp → VK → Prop := fun xs H Q => (∃ p ys, xs = [.ref p] ∧ (SqL K H p ys ∨ SqT K H p ys) ∧ Q (.int ys.length) H) ∨
  ((∃ z, xs = [.str z] ∧ z.length ≤ sizeLine ∧ Q (.int z.length) H) ∨ ∃ p kvs, xs = [.ref p] ∧ Rd H p (.dK kvs) ∧ Q (.int kvs.length) H)
theorem call_lenD' : CallR X (.builtin "len") (fun xs H Q => ∃ p kvs, xs = [.ref p] ∧ Rd H p (.dK kvs) ∧ Q (.int kvs.length) H) := by
  intro pins s σ H xs us Q I r h
  obtain ⟨p, kvs, rfl, e, q⟩ := h
  obtain ⟨u, rfl, ru⟩ := vals1 r
  obtain rfl : u = Value.ref p := ru
  exact d_len I e fun t s' I' => ⟨.int _, H, I', ⟨t, rfl⟩, q⟩
theorem or_len : CallR X (.builtin "len") (rLen3 X.K) := call_len_seq.or (call_len_str.or call_lenD')
theorem sem_len : SemN C (rLen3 C.K) gLen := by
  intro env ts σ vs H F rs ms xs k Q hs hr e q
  unfold gLen at e
  split at e
  · rename_i m
    obtain ⟨x, f, rfl, q1⟩ := one_of hs hr
    cases e1 : listOf m with
    | some ds =>
      rw [e1] at e
      cases e
      obtain ⟨p, ys, rfl, r, z⟩ := listOf_rep q1 e1
      exact .inl ⟨p, ys, rfl, .inl (.inl r), q _ H (push_sc hs (by simp only [Rep]; rw [z.len]))⟩
    | none =>
      rw [e1] at e
      simp only at e
      cases e2 : tupOf m with
      | some ds =>
        rw [e2] at e
        cases e
        obtain ⟨p, ys, rfl, r, z, _⟩ := tupOf_rep q1 e2
        exact .inl ⟨p, ys, rfl, .inr r.sq, q _ H (push_sc hs (by simp only [Rep]; rw [z.len]))⟩
      | none =>
        rw [e2] at e
        simp only at e
        cases e3 : dctOf m with
        | some kvs =>
          rw [e3] at e
          cases e
          obtain ⟨a, ks, g', rfl, r, z⟩ := dctOf_rep q1 e3
          exact .inr (.inr ⟨a, ks, rfl, r, q _ H (push_sc hs (by simp only [Rep]; rw [(ms_keys z).2]))⟩)
        | none =>
          rw [e3] at e
          simp only at e
          split at e
          · split at e
            · rename_i hz
              cases e
              rw [str_rep q1]
              exact .inr (.inl ⟨_, rfl, hz, q _ H (push_sc hs (by simp only [Rep]))⟩)
            · cases e
          · cases e
  · cases e
/-! ### int, str of an int -/
def gInt : List M → Option M
  | [.d (.int i)] => some (.d (.int i))
  | [.d (.bool b)] => some (.d (.int (if b then 1 else 0)))
  | _ => none
def rInt2 : List V → Hp → VK → Prop := fun xs H Q => (∃ i, xs = [.int i] ∧ Q (.int i) H) ∨ ∃ k, xs = [.bl k] ∧ Q (.int (if k then 1 else 0)) H
theorem cr_int : CallR X (.type "int") rInt2 := call_int1
theorem sem_int : SemN C rInt2 gInt := by
  intro env ts σ vs H F rs ms xs k Q hs hr e q
  unfold gInt at e
  split at e
  · cases e
    obtain ⟨x, f, rfl, q1⟩ := one_of hs hr
    rw [int_rep q1]
    exact .inl ⟨_, rfl, q _ H (push_sc hs (by simp only [Rep]))⟩
  · cases e
    obtain ⟨x, f, rfl, q1⟩ := one_of hs hr
    rw [bool_rep q1]
    exact .inr ⟨_, rfl, q _ H (push_sc hs (by simp only [Rep]))⟩
  · cases e
def gStr : List M → Option M
  | [.d (.int i)] => if i.natAbs.log2 < 1920 then some (.d (.str (toString i))) else none
  | _ => none
def rStrI : List V → Hp → VK → Prop := fun xs H Q => ∃ i, xs = [.int i] ∧ i.natAbs.log2 < 1920 ∧ Q (.str (toString i)) H
theorem cr_str : CallR X (.type "str") rStrI := call_str_int
theorem sem_str : SemN C rStrI gStr := by
  intro env ts σ vs H F rs ms xs k Q hs hr e q
  unfold gStr at e
  split at e
  · split at e
    · rename_i c
      cases e
      obtain ⟨x, f, rfl, q1⟩ := one_of hs hr
      rw [int_rep q1]
      exact ⟨_, rfl, c, q _ H (push_sc hs (by simp only [Rep]))⟩
    · cases e
  · cases e
/-! ### max, min of two ints -/
def gMax2 : List M → Option M
  | [.d (.int i), .d (.int j)] => some (.d (.int (if j > i then j else i)))
  | _ => none
def rMax2 : List V → Hp → VK → Prop := fun xs H Q => ∃ i j, xs = [.int i, .int j] ∧ Q (.int (if j > i then j else i)) H
theorem cr_max2 (hc : X.calm = true) : CallR X (.builtin "max") rMax2 := call_max2 hc
theorem sem_max2 : SemN C rMax2 gMax2 := by
  intro env ts σ vs H F rs ms xs k Q hs hr e q
  unfold gMax2 at e
  split at e
  · cases e
    obtain ⟨x, y, f, g, rfl, q1, q2⟩ := two_of hs hr
    rw [int_rep q1, int_rep q2]
    exact ⟨_, _, rfl, q _ H (push_sc hs (by simp only [Rep]))⟩
  · cases e
/-! ### list, tuple -/
def gList : List M → Option M
  | [m] =>
    match listOf m with
    | some ds => some (.lst ds)
    | none => (match tupOf m with | some ds => some (.lst ds) | none => none)
  | _ => none
def gTuple : List M → Option M
  | [m] =>
    match listOf m with
    | some ds => some (.d (.tuple ds))
    | none => (match tupOf m with | some ds => some (.d (.tuple ds)) | none => none)
  | _ => none
def rListOf (K : PySem.W.Frag) : List V → Hp → VK → Prop := fun xs H Q => ∃ p ys, xs = [.ref p] ∧ (SqL K H p ys ∨ SqT K H p ys) ∧ ∀ l, H l = none → Q (.ref l) (upd H l (.lst ys))
def rTupleOf (K : PySem.W.Frag) : List V → Hp → VK → Prop := fun xs H Q => ∃ p ys, xs = [.ref p] ∧ ((SqL K H p ys ∧ ∀ l, H l = none → Q (.ref l) (upd H l (.tup ys))) ∨ (SqT K H p ys ∧ Q (.ref p) H))
theorem cr_list : CallR X (.type "list") (rListOf X.K) := call_list_of
theorem cr_tuple : CallR X (.type "tuple") (rTupleOf X.K) := call_tuple_of
theorem sem_list : SemN C (rListOf C.K) gList := by
  intro env ts σ vs H F rs ms xs k Q hs hr e q
  unfold gList at e
  split at e
  · rename_i m
    obtain ⟨x, f, rfl, q1⟩ := one_of hs hr
    cases e1 : listOf m with
    | some ds =>
      rw [e1] at e
      cases e
      obtain ⟨p, ys, rfl, r, z⟩ := listOf_rep q1 e1
      exact ⟨p, ys, rfl, .inl (.inl r), fun l nl => q _ _ (push_lst' hs nl z)⟩
    | none =>
      rw [e1] at e
      simp only at e
      cases e2 : tupOf m with
      | some ds =>
        rw [e2] at e
        cases e
        obtain ⟨p, ys, rfl, r, z, _⟩ := tupOf_rep q1 e2
        exact ⟨p, ys, rfl, .inr r.sq, fun l nl => q _ _ (push_lst' hs nl z)⟩
      | none => rw [e2] at e; cases e
  · cases e
theorem sem_tuple : SemN C (rTupleOf C.K) gTuple := by
  intro env ts σ vs H F rs ms xs k Q hs hr e q
  unfold gTuple at e
  split at e
  · rename_i m
    obtain ⟨x, f, rfl, q1⟩ := one_of hs hr
    cases e1 : listOf m with
    | some ds =>
      rw [e1] at e
      cases e
      obtain ⟨p, ys, rfl, r, z⟩ := listOf_rep q1 e1
      exact ⟨p, ys, rfl, .inl ⟨.inl r, fun l nl => q _ _ (push_tup hs nl z)⟩⟩
    | none =>
      rw [e1] at e
      simp only at e
      cases e2 : tupOf m with
      | some ds =>
        rw [e2] at e
        cases e
        obtain ⟨p, ys, rfl, r, z, _⟩ := tupOf_rep q1 e2
        exact ⟨p, ys, rfl, .inr ⟨r.sq, q _ H (push_sc hs (by simp only [Rep]; exact ⟨p, ys, rfl, r, z⟩))⟩⟩
      | none => rw [e2] at e; cases e
  · cases e
/-! ### all, any of bools -/
def boolsOf : List D → Option (List Bool)
  | [] => some []
  | .bool b :: r => (boolsOf r).map (b :: ·)
  | _ => none
theorem boolsOf_rep {K : PySem.W.Frag} {H : Hp} {O : Addr → Prop} : ∀ {ds : List D} {xs : List V} {bs : List Bool}, RepAll K H O ds xs → boolsOf ds = some bs → xs = bs.map V.bl
  | [], xs, bs, h, e => by
    simp only [RepAll] at h
    simp only [boolsOf, Option.some.injEq] at e
    subst h; subst e
    rfl
  | d :: ds, xs, bs, h, e => by
    simp only [RepAll] at h
    obtain ⟨x, ys, rfl, q, h⟩ := h
    cases d with
    | bool b =>
      simp only [boolsOf] at e
      cases e1 : boolsOf ds with
      | none => rw [e1] at e; cases e
      | some bs' =>
        rw [e1] at e
        cases e
        simp only [Rep] at q
        subst q
        rw [boolsOf_rep h e1]; rfl
    | none => simp [boolsOf] at e
    | int _ => simp [boolsOf] at e
    | str _ => simp [boolsOf] at e
    | list _ => simp [boolsOf] at e
    | tuple _ => simp [boolsOf] at e
    | dict _ => simp [boolsOf] at e
def gAll : List M → Option M
  | [m] => ((listOf m).bind boolsOf).map fun bs => .d (.bool (bs.all id))
  | _ => none
def gAny : List M → Option M
  | [m] => ((listOf m).bind boolsOf).map fun bs => .d (.bool (bs.any id))
  | _ => none
theorem sem_all : SemN C (rAll C.K) gAll := by
  intro env ts σ vs H F rs ms xs k Q hs hr e q
  unfold gAll at e
  split at e
  · rename_i m
    obtain ⟨x, f, rfl, q1⟩ := one_of hs hr
    cases e1 : listOf m with
    | none => rw [e1] at e; cases e
    | some ds =>
      rw [e1] at e
      simp only [Option.bind_some] at e
      cases e2 : boolsOf ds with
      | none => rw [e2] at e; cases e
      | some bs =>
        rw [e2] at e
        cases e
        obtain ⟨p, ys, rfl, r, z⟩ := listOf_rep q1 e1
        have := boolsOf_rep z e2
        subst this
        exact ⟨p, bs, rfl, .inl r, q _ H (push_sc hs (by simp only [Rep]))⟩
  · cases e
theorem sem_any : SemN C (rAny C.K) gAny := by
  intro env ts σ vs H F rs ms xs k Q hs hr e q
  unfold gAny at e
  split at e
  · rename_i m
    obtain ⟨x, f, rfl, q1⟩ := one_of hs hr
    cases e1 : listOf m with
    | none => rw [e1] at e; cases e
    | some ds =>
      rw [e1] at e
      simp only [Option.bind_some] at e
      cases e2 : boolsOf ds with
      | none => rw [e2] at e; cases e
      | some bs =>
        rw [e2] at e
        cases e
        obtain ⟨p, ys, rfl, r, z⟩ := listOf_rep q1 e1
        have := boolsOf_rep z e2
        subst this
        exact ⟨p, bs, rfl, .inl r, q _ H (push_sc hs (by simp only [Rep]))⟩
  · cases e
/-! ### isinstance with a built-in class -/
def tyName : M → String
  | .d .none => "NoneType"
  | .d (.bool _) => "bool"
  | .d (.int _) => "int"
  | .d (.str _) => "str"
  | .d (.list _) => "list"
  | .d (.tuple _) => "tuple"
  | .d (.dict _) => "dict"
  | .lst _ => "list"
  | .dct _ => "dict"
theorem rd_ty {K : PySem.W.Frag} {H : Hp} {a : Addr} : True := trivial
theorem ty_rep {K : PySem.W.Frag} {H : Hp} {O : Addr → Prop} {m : M} {v : V} {f : List Addr} (q : RepM K H O m v f) : TyX K H v (.type (tyName m)) := by
  cases m with
  | lst ds => simp only [RepM] at q; obtain ⟨a, xs, rfl, _, e, _⟩ := q; exact .base (.lst e)
  | dct ds => simp only [RepM] at q; obtain ⟨a, xs, g, rfl, _, _, e, _⟩ := q; exact .base (.dK e)
  | d d =>
    have q := q.2
    cases d with
    | none => simp only [Rep] at q; subst q; exact .base .non
    | bool b => simp only [Rep] at q; subst q; exact .base (.bl b)
    | int b => simp only [Rep] at q; subst q; exact .base (.int b)
    | str b => simp only [Rep] at q; subst q; exact .base (.str b)
    | list b =>
      simp only [Rep] at q
      obtain ⟨a, xs, rfl, _, r, _⟩ := q
      rcases r with r | ⟨o, r⟩
      · exact .base (.lst r)
      · exact .base (.frz r)
    | tuple b =>
      simp only [Rep] at q
      obtain ⟨a, xs, rfl, r, _⟩ := q
      rcases r with ⟨_, r⟩ | ⟨o, its, n, e1, e2, _⟩
      · rcases r with r | ⟨o, r⟩
        · exact .base (.tup r)
        · exact .fTuple r
      · exact .kTuple e1 e2
    | dict b =>
      simp only [Rep] at q
      obtain ⟨a, xs, rfl, _, r, _⟩ := q
      rcases r with r | ⟨o, r⟩
      · exact .base (.dK r)
      · exact .fDict r
end
end Yf
namespace Yf
open PySem PySem.Spec L2
open PyProof.Rows hiding St
open RZ
theorem _root_.L2.PA.weak {X : Cx} {es : List Expr} {t t' : TA} (h : PA X es t) (w : ∀ σ H Q, t' σ H Q → t σ H Q) : PA X es t' := ⟨fun pos pins s σ H Q I q => h.run pos pins s σ H Q I (w σ H Q q)⟩
theorem _root_.L2.PI.weak {X : Cx} {tg e : Expr} {t t' : TI} (h : PI X tg e t) (w : ∀ σ H Q, t' σ H Q → t σ H Q) : PI X tg e t' := ⟨fun pins s σ H Q I q => h.run pins s σ H Q I (w σ H Q q)⟩
theorem _root_.L2.PI.or {X : Cx} {tg e : Expr} {t t' : TI} (h : PI X tg e t) (h' : PI X tg e t') : PI X tg e (fun σ H Q => t σ H Q ∨ t' σ H Q) := ⟨fun pins s σ H Q I q => q.elim (h.run pins s σ H Q I) (h'.run pins s σ H Q I)⟩
section
variable {X : Cx} {C : Kx} {σ : St} {H : Hp}
/-! ### arguments, let go -/
theorem tAs_val : ∀ {fs : List (Sl → Res Rv)} {σ : St} {H : Hp} {Q : List V → Hp → Prop}, tAs ((fs.map evV).map (tE C)) σ H Q → tAs (fs.map (tE C)) σ H Q
  | [], _, _, _, h => h
  | f :: fs, σ, H, Q, h => by
    have h : tE C (evV f) σ H (fun v H1 => tAs ((fs.map evV).map (tE C)) σ H1 fun ws H2 => Q (v :: ws) H2) := h
    exact tE_mono (tE_val h) fun v H1 q => tAs_val q
def evDs (fs : List (Sl → Res Rv)) : Sl → Res (List D) := fun env => (evs (fs.map evV) env).bind fun ps env' =>
  match getOs env' ps with
  | some ms => if ps.all (fun p => p.isRight) then .ok (ms.map freeze) env' else .stuck
  | none => .stuck
theorem repAll_len {K : PySem.W.Frag} {H : Hp} {O : Addr → Prop} : ∀ {ds : List D} {xs : List V}, RepAll K H O ds xs → ds.length = xs.length
  | [], _, h => by simp only [RepAll] at h; subst h; rfl
  | d :: ds, _, h => by
    simp only [RepAll] at h
    obtain ⟨x, s, rfl, _, q⟩ := h
    simp [repAll_len q]
theorem pushDs {K : PySem.W.Frag} {E : Ent} {env : Sl} {F : Rt → List Addr} : ∀ {ds : List D} {ws : List V} {ts : List M} {vs : List V}, SR K E env ts σ vs H F → RepAll K H (Av E F) ds ws → SR K E env (ts ++ ds.map .d) σ (vs ++ ws) H F
  | [], ws, ts, vs, h, q => by
    simp only [RepAll] at q
    subst q
    simpa using h
  | d :: ds, _, ts, vs, h, q => by
    simp only [RepAll] at q
    obtain ⟨x, s, rfl, a, b⟩ := q
    have := pushDs (h.pushD a) b
    simpa [List.append_assoc] using this
def PostD (C : Kx) (R : Res (List D)) (ts : List M) (σ : St) (vs : List V) (Q : List V → Hp → Prop) : Prop :=
  match R with
  | .ok ds env => ∀ ws H, ts.length = vs.length → ws.length = ds.length → SRel C.K C.E env (ts ++ ds.map .d) σ (vs ++ ws) H → Q ws H
  | .exc x env => ∀ cls dx H, SRelX C.K C.mg C.E env ts σ vs H x cls dx → C.W cls dx σ H
  | .stuck => False
theorem tDs_of {fs : List (Sl → Res Rv)} {env : Sl} {ts : List M} {vs : List V} {Q : List V → Hp → Prop} (h : SRel C.K C.E env ts σ vs H) (q : PostD C (evDs fs env) ts σ vs Q) : tAs (fs.map (tE C)) σ H Q := by
  refine tAs_val (tA_of h ?_)
  simp only [evDs] at q
  cases e : evs (fs.map evV) env with
  | stuck => rw [e] at q; exact q
  | exc x env1 => rw [e] at q; exact q
  | ok ps env1 =>
    rw [e] at q
    simp only [Res.bind] at q
    intro ws H1 lw h1 va
    cases e1 : getOs env1 ps with
    | none => rw [e1] at q; exact q.elim
    | some ms =>
      rw [e1] at q
      simp only at q
      cases e2 : ps.all (fun p => p.isRight) with
      | false => rw [e2, if_neg (by decide)] at q; exact q.elim
      | true =>
        rw [e2, if_pos rfl] at q
        obtain ⟨x1, x2⟩ := exts_right lw e2 e1
        rw [x1, x2] at h1
        obtain ⟨F, h1⟩ := h1
        obtain ⟨F2, h2, q2⟩ := h1.frees h.lent
        refine q ws H1 h.lent (by have := repAll_len q2; simp at this ⊢; omega) ⟨F2, pushDs h2 q2⟩
theorem rep_at {K : PySem.W.Frag} {E : Ent} {env : Sl} {ts tm : List M} {vs vm : List V} {d : D} {v : V} (h : SRel K E env (ts ++ .d d :: tm) σ (vs ++ v :: vm) H) (lt : ts.length = vs.length) : ∃ F, SR K E env (ts ++ .d d :: tm) σ (vs ++ v :: vm) H F ∧ Rep K H (Av E F) d v := by
  obtain ⟨F, h⟩ := h
  obtain ⟨v', ev, q⟩ := h.rep (.t ts.length) (.d d) (by show (ts ++ M.d d :: tm)[ts.length]? = _; simp)
  have ev : (vs ++ v :: vm)[ts.length]? = some v' := ev
  rw [lt] at ev
  simp at ev
  subst ev
  exact ⟨F, h, q.2⟩
/-! ### what a value yields, item by item -/
def signs (z : Str) : List D := z.cps.toList.map fun c => .str ⟨#[c]⟩
def itemsOf : D → Option (List D)
  | .list ds => some ds
  | .tuple ds => some ds
  | .str z => some (signs z)
  | _ => none
def fSeq (f : Sl → Res Rv) : Sl → Res (List M × List D) := fun env => (evDs [f] env).bind fun ds env' =>
  match ds with
  | [d] => (match itemsOf d with | some is => .ok ([.d d], is) env' | none => .stuck)
  | _ => .stuck
theorem walk_list' {K : PySem.W.Frag} {a : Addr} {n : Nat} : Walk (Itl K a) n (fun H => ∃ xs, SqL K H a xs ∧ xs.length = n) (fun i H x H' => H' = H ∧ ∀ xs, SqL K H a xs → xs[i]? = some x) :=
  ⟨fun i H hi ⟨xs, q, l⟩ => ⟨xs, xs[i], q, by simp [List.getElem?_eq_getElem, l, hi]⟩, fun H ⟨xs, q, l⟩ => ⟨xs, q, by omega⟩, fun _ _ _ _ _ _ y => y⟩
theorem walk_tup' {K : PySem.W.Frag} {a : Addr} {n : Nat} : Walk (Itt K a) n (fun H => ∃ xs, SqT K H a xs ∧ xs.length = n) (fun i H x H' => H' = H ∧ ∀ xs, SqT K H a xs → xs[i]? = some x) :=
  ⟨fun i H hi ⟨xs, q, l⟩ => ⟨xs, xs[i], q, by simp [List.getElem?_eq_getElem, l, hi]⟩, fun H ⟨xs, q, l⟩ => ⟨xs, q, by omega⟩, fun _ _ _ _ _ _ y => y⟩
theorem repAll_get {K : PySem.W.Frag} {H : Hp} {O : Addr → Prop} : ∀ {ds : List D} {xs : List V} {i : Nat} {d : D}, RepAll K H O ds xs → ds[i]? = some d → ∃ x, xs[i]? = some x ∧ Rep K H O d x
  | [], _, i, d, _, e => by simp at e
  | d0 :: ds, _, i, d, h, e => by
    simp only [RepAll] at h
    obtain ⟨x, s, rfl, a, b⟩ := h
    cases i with
    | zero => simp at e; subst e; exact ⟨x, by simp, a⟩
    | succ i => obtain ⟨y, z, w⟩ := repAll_get b (by simpa using e); exact ⟨y, by simpa using z, w⟩
theorem rd_sql {K : PySem.W.Frag} {H : Hp} {a : Addr} {xs : List V} (r : Rd H a (.lst xs)) : SqL K H a xs := .inl r
theorem di_seq {tg e : Expr} {f : Sl → Res Rv} (he : DE X C e f) (hK : X.K = C.K) : DI X C tg e (fSeq f) := by
  obtain ⟨K, mg, E, W⟩ := C
  dsimp only at hK
  subst hK
  refine ⟨_, (pi_list (tg := tg) he.pe).or ((pi_tup he.pe).or (pi_str he.pe)), fun σ H env ts vs R h q => ?_⟩
  have key : ∀ (Q : VK), PostD ⟨X.K, mg, E, W⟩ (evDs [f] env) ts σ vs (fun ws H' => match ws with | [v] => Q v H' | _ => False) → tE ⟨X.K, mg, E, W⟩ f σ H Q := fun Q q => tDs_of (fs := [f]) h q
  cases e1 : evDs [f] env with
  | stuck => simp only [fSeq, e1] at q; exact q.elim
  | exc x env1 =>
    simp only [fSeq, e1, Res.bind] at q
    exact .inl (key _ (by rw [e1]; exact q))
  | ok ds env1 =>
    simp only [fSeq, e1, Res.bind] at q
    rw [e1] at key
    rcases ds with _ | ⟨d, _ | ⟨d2, ds⟩⟩
    · (first | exact False.elim q | (cases d <;> first | exact False.elim q | (cases d2 <;> exact False.elim q)))
    · have go : ∀ Q : VK, (∀ v H', ts.length = vs.length → SRel X.K E env1 (ts ++ [.d d]) σ (vs ++ [v]) H' → Q v H') → tE ⟨X.K, mg, E, W⟩ f σ H Q := fun Q w => key Q fun ws H' lt l h' => by
        rcases ws with _ | ⟨v, _ | ⟨w2, ws⟩⟩
        · simp at l
        · exact w v H' lt h'
        · simp at l
      cases d with
      | list is =>
        dsimp only [itemsOf] at q
        refine .inl (go _ fun v H' lt h' => ?_)
        obtain ⟨F, hF, r⟩ := rep_at (tm := []) (vm := []) h' lt
        simp only [Rep] at r
        obtain ⟨a, xs, rfl, _, r1, r2⟩ := r
        refine ⟨a, rfl, ⟨xs, .inl r1⟩, q _ H' [.ref a] rfl h' ⟨_, _, walk_list' (K := X.K) (a := a), ?_, ?_⟩⟩
        · intro env2 σ2 H2 tm vm h2
          obtain ⟨F, hF, r⟩ := rep_at (tm := tm) (vm := vm) (d := .list is) (by simpa using h2) lt
          simp only [Rep] at r
          obtain ⟨a', xs, e, _, r1, r2⟩ := r
          cases e
          exact ⟨xs, .inl r1, (repAll_len r2).symm⟩
        · intro env2 σ2 H2 tm vm i x H3 d hd h2 hy
          obtain ⟨rfl, hy⟩ := hy
          obtain ⟨F, hF, r⟩ := rep_at (tm := tm) (vm := vm) (d := .list is) (by simpa using h2) lt
          simp only [Rep] at r
          obtain ⟨a', xs, e, _, r1, r2⟩ := r
          cases e
          obtain ⟨y, ey, ry⟩ := repAll_get r2 hd
          have := hy xs (.inl r1)
          rw [ey] at this
          cases this
          exact ⟨F, by simpa using hF.pushD ry⟩
      | tuple is =>
        dsimp only [itemsOf] at q
        refine .inr (.inl (go _ fun v H' lt h' => ?_))
        obtain ⟨F, hF, r⟩ := rep_at (tm := []) (vm := []) h' lt
        simp only [Rep] at r
        obtain ⟨a, xs, rfl, r1, r2⟩ := r
        refine ⟨a, rfl, ⟨xs, r1.sq⟩, q _ H' [.ref a] rfl h' ⟨_, _, walk_tup' (K := X.K) (a := a), ?_, ?_⟩⟩
        · intro env2 σ2 H2 tm vm h2
          obtain ⟨F, hF, r⟩ := rep_at (tm := tm) (vm := vm) (d := .tuple is) (by simpa using h2) lt
          simp only [Rep] at r
          obtain ⟨a', xs, e, r1, r2⟩ := r
          cases e
          exact ⟨xs, r1.sq, (repAll_len r2).symm⟩
        · intro env2 σ2 H2 tm vm i x H3 d hd h2 hy
          obtain ⟨rfl, hy⟩ := hy
          obtain ⟨F, hF, r⟩ := rep_at (tm := tm) (vm := vm) (d := .tuple is) (by simpa using h2) lt
          simp only [Rep] at r
          obtain ⟨a', xs, e, r1, r2⟩ := r
          cases e
          obtain ⟨y, ey, ry⟩ := repAll_get r2 hd
          have := hy xs r1.sq
          rw [ey] at this
          cases this
          exact ⟨F, by simpa using hF.pushD ry⟩
      | str z =>
        dsimp only [itemsOf] at q
        refine .inr (.inr (go _ fun v H' lt h' => ?_))
        obtain ⟨F, hF, r⟩ := rep_at (tm := []) (vm := []) h' lt
        simp only [Rep] at r
        subst r
        have hz : (signs z).length = z.cps.size := by simp [signs]
        refine ⟨z, rfl, q _ H' [.str z] rfl h' ⟨_, _, by rw [hz]; exact walk_str (z := z), fun _ _ _ _ _ _ => trivial, ?_⟩⟩
        intro env2 σ2 H2 tm vm i x H3 d hd h2 hy
        obtain ⟨rfl, c, hc, rfl⟩ := hy
        have : d = .str ⟨#[c]⟩ := by
          simp only [signs, List.getElem?_map, Array.getElem?_toList, hc, Option.map_some, Option.some.injEq] at hd
          exact hd.symm
        subst this
        obtain ⟨F, h2⟩ := h2
        exact ⟨F, h2.pushD (by simp only [Rep])⟩
      | none => (first | exact False.elim q | (cases d <;> first | exact False.elim q | (cases d2 <;> exact False.elim q)))
      | bool b => (first | exact False.elim q | (cases d <;> first | exact False.elim q | (cases d2 <;> exact False.elim q)))
      | int b => (first | exact False.elim q | (cases d <;> first | exact False.elim q | (cases d2 <;> exact False.elim q)))
      | dict b => (first | exact False.elim q | (cases d <;> first | exact False.elim q | (cases d2 <;> exact False.elim q)))
    · (first | exact False.elim q | (cases d <;> first | exact False.elim q | (cases d2 <;> exact False.elim q)))
/-! ### range -/
def rangeD (lo : Int) (n : Nat) : List D := (List.range n).map fun i => .int (lo + (i : Nat))
def smallI (i : Int) : Bool := decide (-(2 ^ 62) ≤ i) && decide (i < 2 ^ 62)
def fRange1 (f : Sl → Res Rv) : Sl → Res (List M × List D) := fun env => (evDs [f] env).bind fun ds env' =>
  match ds with
  | [.int j] => if smallI j then .ok ([], rangeD 0 j.toNat) env' else .stuck
  | _ => .stuck
def fRange2 (f g : Sl → Res Rv) : Sl → Res (List M × List D) := fun env => (evDs [f, g] env).bind fun ds env' =>
  match ds with
  | [.int i, .int j] => if smallI i && smallI j then .ok ([], rangeD i (j - i).toNat) env' else .stuck
  | _ => .stuck
theorem range_walks {lo : Int} {n : Nat} {ts : List M} {vs : List V} : Walks C (Itr lo n) ts vs [] [] (rangeD lo n) := by
  refine ⟨_, _, by rw [show (rangeD lo n).length = n by simp [rangeD]]; exact walk_range, fun _ _ _ _ _ _ => trivial, ?_⟩
  intro env σ H tm vm i x H' d hd h hy
  obtain ⟨rfl, rfl⟩ := hy
  have hi : i < n := by
    have := (List.getElem?_eq_some_iff.mp hd).1
    simpa [rangeD] using this
  have : d = .int (lo + (i : Nat)) := by
    simp only [rangeD, List.getElem?_map, List.getElem?_range hi, Option.map_some, Option.some.injEq] at hd
    exact hd.symm
  subst this
  obtain ⟨F, h⟩ := h
  exact ⟨F, h.pushD (by simp only [Rep])⟩
theorem ints_at1 {K : PySem.W.Frag} {E : Ent} {env : Sl} {ts : List M} {vs : List V} {i : Int} {v : V} (h : SRel K E env (ts ++ [.d (.int i)]) σ (vs ++ [v]) H) (lt : ts.length = vs.length) : v = .int i := by
  obtain ⟨F, _, r⟩ := rep_at (tm := []) (vm := []) h lt
  simpa only [Rep] using r
theorem di_range1 {tg e : Expr} {f : Sl → Res Rv} {p pos : Pos} (hg : Gl X "range") (hm : X.mg "range" = none) (ha : DA X C [e] [f]) (hs : starEach [e] X.env = [(false, eval e X.env)]) : DI X C tg (.Call (.Name "range" p) [e] [] pos) (fRange1 f) := by
  refine ⟨_, pi_range1 hg hm ha.pa hs, fun σ H env ts vs R h q => tDs_of (fs := [f]) h ?_⟩
  simp only [fRange1] at q
  cases e1 : evDs [f] env with
  | stuck => rw [e1] at q; exact q.elim
  | exc x env1 => rw [e1] at q; exact q
  | ok ds env1 =>
    rw [e1] at q
    simp only [Res.bind] at q
    intro ws H' lt l h'
    rcases ds with _ | ⟨d, _ | ⟨d2, ds⟩⟩
    · (first | exact False.elim q | (cases d <;> first | exact False.elim q | (cases d2 <;> exact False.elim q)))
    · cases d with
      | int j =>
        dsimp only at q
        cases c : smallI j with
        | false => rw [c] at q; (first | exact False.elim q | (cases d <;> first | exact False.elim q | (cases d2 <;> exact False.elim q)))
        | true =>
          rw [c] at q
          rcases ws with _ | ⟨v, _ | ⟨w2, ws⟩⟩
          · simp at l
          · have ev := ints_at1 h' lt
            subst ev
            simp only [smallI, Bool.and_eq_true, decide_eq_true_eq] at c
            exact ⟨j, rfl, c.1, c.2, q _ H' [] rfl (by simpa using h'.pops lt rfl) range_walks⟩
          · simp at l
      | _ => (first | exact False.elim q | (cases d <;> first | exact False.elim q | (cases d2 <;> exact False.elim q)))
    · (first | exact False.elim q | (cases d <;> first | exact False.elim q | (cases d2 <;> exact False.elim q)))
theorem di_range2 {tg e e2 : Expr} {f f2 : Sl → Res Rv} {p pos : Pos} (hg : Gl X "range") (hm : X.mg "range" = none) (ha : DA X C [e, e2] [f, f2]) (hs : starEach [e, e2] X.env = [(false, eval e X.env), (false, eval e2 X.env)]) (hs2 : starEach [e2] X.env = [(false, eval e2 X.env)]) :
    DI X C tg (.Call (.Name "range" p) [e, e2] [] pos) (fRange2 f f2) := by
  refine ⟨_, pi_range2 hg hm ha.pa hs hs2, fun σ H env ts vs R h q => tDs_of (fs := [f, f2]) h ?_⟩
  simp only [fRange2] at q
  cases e1 : evDs [f, f2] env with
  | stuck => rw [e1] at q; exact q.elim
  | exc x env1 => rw [e1] at q; exact q
  | ok ds env1 =>
    rw [e1] at q
    simp only [Res.bind] at q
    intro ws H' lt l h'
    rcases ds with _ | ⟨d, _ | ⟨d2, _ | ⟨d3, ds⟩⟩⟩
    · (first | exact False.elim q | (cases d <;> first | exact False.elim q | (cases d2 <;> exact False.elim q)))
    · (first | exact False.elim q | (cases d <;> first | exact False.elim q | (cases d2 <;> exact False.elim q)))
    · cases d with
      | int i =>
       cases d2 with
       | int j =>
        dsimp only at q
        cases c : (smallI i && smallI j) with
        | false => rw [c] at q; (first | exact False.elim q | (cases d <;> first | exact False.elim q | (cases d2 <;> exact False.elim q)))
        | true =>
          rw [c] at q
          rcases ws with _ | ⟨v, _ | ⟨w, _ | ⟨w3, ws⟩⟩⟩
          · simp at l
          · simp at l
          rotate_left
          · simp at l
          obtain ⟨F, _, r⟩ := rep_at (tm := [.d (.int j)]) (vm := [w]) (by simpa using h') lt
          obtain ⟨F2, _, r2⟩ := rep_at (ts := ts ++ [.d (.int i)]) (vs := vs ++ [v]) (d := .int j) (v := w) (tm := []) (vm := []) (by simpa using h') (by simp [lt])
          simp only [Rep] at r r2
          subst r r2
          simp only [smallI, Bool.and_eq_true, decide_eq_true_eq] at c
          exact ⟨i, j, rfl, ⟨c.1.1, c.1.2, c.2.1, c.2.2⟩, q _ H' [] rfl (by simpa using h'.pops lt rfl) range_walks⟩
       | _ => (first | exact False.elim q | (cases d <;> first | exact False.elim q | (cases d2 <;> exact False.elim q)))
      | _ => (first | exact False.elim q | (cases d <;> first | exact False.elim q | (cases d2 <;> exact False.elim q)))
    · (first | exact False.elim q | (cases d <;> first | exact False.elim q | (cases d2 <;> exact False.elim q)))
/-! ### zip, enumerate -/
def zipD (xs ys : List D) : List D := (xs.zip ys).map fun p => .tuple [p.1, p.2]
def enumD (xs : List D) : List D := xs.mapIdx fun i d => .tuple [.int i, d]
def fZip (f g : Sl → Res Rv) : Sl → Res (List M × List D) := fun env => (evDs [f, g] env).bind fun ds env' =>
  match ds with
  | [.list xs, .list ys] => .ok ([.d (.list xs), .d (.list ys)], zipD xs ys) env'
  | [.tuple xs, .tuple ys] => .ok ([.d (.tuple xs), .d (.tuple ys)], zipD xs ys) env'
  | _ => .stuck
def fEnum (f : Sl → Res Rv) : Sl → Res (List M × List D) := fun env => (evDs [f] env).bind fun ds env' =>
  match ds with
  | [.list xs] => .ok ([.d (.list xs)], enumD xs) env'
  | _ => .stuck
theorem walk_zip' {K : PySem.W.Frag} {a b : Addr} {n m : Nat} : Walk (Itz K a b) (min n m) (fun H => (∃ xs, SqL K H a xs ∧ xs.length = n) ∧ ∃ ys, SqL K H b ys ∧ ys.length = m)
    (fun i H v H' => ∃ T x y, v = .ref T ∧ H T = none ∧ H' = upd H T (.tup [x, y]) ∧ (∀ xs, SqL K H a xs → xs[i]? = some x) ∧ ∀ ys, SqL K H b ys → ys[i]? = some y) :=
  ⟨fun i H hi ⟨⟨xs, q, l⟩, ys, q2, l2⟩ => ⟨xs, ys, xs[i]'(by omega), ys[i]'(by omega), q, q2, by simp, by simp⟩, fun H ⟨⟨xs, q, l⟩, ys, q2, l2⟩ => ⟨xs, ys, q, q2, by omega⟩, fun _ _ _ _ _ _ y => y⟩
theorem walk_zipT' {K : PySem.W.Frag} {a b : Addr} {n m : Nat} : Walk (ItzT K a b) (min n m) (fun H => (∃ xs, SqT K H a xs ∧ xs.length = n) ∧ ∃ ys, SqT K H b ys ∧ ys.length = m)
    (fun i H v H' => ∃ T x y, v = .ref T ∧ H T = none ∧ H' = upd H T (.tup [x, y]) ∧ (∀ xs, SqT K H a xs → xs[i]? = some x) ∧ ∀ ys, SqT K H b ys → ys[i]? = some y) :=
  ⟨fun i H hi ⟨⟨xs, q, l⟩, ys, q2, l2⟩ => ⟨xs, ys, xs[i]'(by omega), ys[i]'(by omega), q, q2, by simp, by simp⟩, fun H ⟨⟨xs, q, l⟩, ys, q2, l2⟩ => ⟨xs, ys, q, q2, by omega⟩, fun _ _ _ _ _ _ y => y⟩
theorem walk_enum' {K : PySem.W.Frag} {a : Addr} {n : Nat} : Walk (Ite K a) n (fun H => ∃ xs, SqL K H a xs ∧ xs.length = n)
    (fun i H v H' => ∃ T x, v = .ref T ∧ H T = none ∧ H' = upd H T (.tup [.int (i : Nat), x]) ∧ ∀ xs, SqL K H a xs → xs[i]? = some x) :=
  ⟨fun i H hi ⟨xs, q, l⟩ => ⟨xs, xs[i]'(by omega), q, by simp⟩, fun H ⟨xs, q, l⟩ => ⟨xs, q, by omega⟩, fun _ _ _ _ _ _ y => y⟩
/-- a new pair -/
theorem push_pair {K : PySem.W.Frag} {E : Ent} {env : Sl} {ts : List M} {vs : List V} {F : Rt → List Addr} (h : SR K E env ts σ vs H F) {d d2 : D} {x y : V} (r : Rep K H (Av E F) d x) (r2 : Rep K H (Av E F) d2 y) {T : Addr} (nT : H T = none) :
    SRel K E env (ts ++ [.d (.tuple [d, d2])]) σ (vs ++ [.ref T]) (upd H T (.tup [x, y])) := by
  have h3 := h.ext (keep_upd (o := .tup [x, y]) nT)
  have st : Step H (Av E F) (upd H T (.tup [x, y])) (Av E F) := fun a o e n => ⟨keep_upd nT a o e, n⟩
  refine ⟨F, h3.pushD ?_⟩
  simp only [Rep]
  refine ⟨T, [x, y], rfl, .inl ⟨h.fresh_av nT, .inl upd_same⟩, ?_⟩
  simp only [RepAll]
  exact ⟨x, [y], rfl, r.step st, y, [], rfl, r2.step st, rfl⟩
theorem zipD_get {xs ys : List D} {i : Nat} {d : D} (h : (zipD xs ys)[i]? = some d) : ∃ x y, xs[i]? = some x ∧ ys[i]? = some y ∧ d = .tuple [x, y] := by
  simp only [zipD, List.getElem?_map] at h
  cases e : (xs.zip ys)[i]? with
  | none => rw [e] at h; cases h
  | some p =>
    rw [e] at h
    cases h
    rw [List.getElem?_zip_eq_some] at e
    exact ⟨p.1, p.2, e.1, e.2, rfl⟩
theorem di_zip {elts : List Expr} {kk : Nat} {tpos : Pos} {e e2 : Expr} {f f2 : Sl → Res Rv} {p pos : Pos} (hg : Gl X "zip") (hm : X.mg "zip" = none) (ha : DA X C [e, e2] [f, f2]) (hK : X.K = C.K) (hs : starEach [e, e2] X.env = (false, eval e X.env) :: starEach [e2] X.env)
    (hpl : (backTo pos (starEach [e2] X.env)).any (·.1) = false) : DI X C (.Tuple elts kk tpos) (.Call (.Name "zip" p) [e, e2] [] pos) (fZip f f2) := by
  obtain ⟨K, mg, E, W⟩ := C
  dsimp only at hK
  subst hK
  refine ⟨_, pi_zipA hg hm ha.pa hs hpl, fun σ H env ts vs R h q => tDs_of (fs := [f, f2]) h ?_⟩
  simp only [fZip] at q
  cases e1 : evDs [f, f2] env with
  | stuck => rw [e1] at q; exact q.elim
  | exc x env1 => rw [e1] at q; exact q
  | ok ds env1 =>
    rw [e1] at q
    simp only [Res.bind] at q
    intro ws H' lt l h'
    rcases ws with _ | ⟨v, _ | ⟨w, _ | ⟨w3, ws⟩⟩⟩
    · rcases ds with _ | ⟨d, ds⟩
      · (first | exact False.elim q | (cases d <;> first | exact False.elim q | (cases d2 <;> exact False.elim q)))
      · simp at l
    · rcases ds with _ | ⟨d, _ | ⟨d2, ds⟩⟩
      · (first | exact False.elim q | (cases d <;> first | exact False.elim q | (cases d2 <;> exact False.elim q)))
      · (first | exact False.elim q | (cases d <;> first | exact False.elim q | (cases d2 <;> exact False.elim q)))
      · simp at l
    rotate_left
    · rcases ds with _ | ⟨d, _ | ⟨d2, _ | ⟨d3, ds⟩⟩⟩
      · (first | exact False.elim q | (cases d <;> first | exact False.elim q | (cases d2 <;> exact False.elim q)))
      · (first | exact False.elim q | (cases d <;> first | exact False.elim q | (cases d2 <;> exact False.elim q)))
      · simp at l
      · (first | exact False.elim q | (cases d <;> first | exact False.elim q | (cases d2 <;> exact False.elim q)))
    rcases ds with _ | ⟨d, _ | ⟨d2, _ | ⟨d3, ds⟩⟩⟩
    · (first | exact False.elim q | (cases d <;> first | exact False.elim q | (cases d2 <;> exact False.elim q)))
    · (first | exact False.elim q | (cases d <;> first | exact False.elim q | (cases d2 <;> exact False.elim q)))
    rotate_left
    · (first | exact False.elim q | (cases d <;> first | exact False.elim q | (cases d2 <;> exact False.elim q)))
    cases d with
    | list xs =>
     cases d2 with
     | list ys =>
      · have pr : ∀ {env σ H tm vm}, SRel X.K E env (ts ++ [.d (.list xs), .d (.list ys)] ++ tm) σ (vs ++ [v, w] ++ vm) H → ∃ F a b us ws, SR X.K E env (ts ++ [.d (.list xs), .d (.list ys)] ++ tm) σ (vs ++ [v, w] ++ vm) H F ∧ v = .ref a ∧ w = .ref b ∧ SqL X.K H a us ∧ SqL X.K H b ws ∧ RepAll X.K H (Av E F) xs us ∧ RepAll X.K H (Av E F) ys ws := fun {env σ H tm vm} h => by
          obtain ⟨F, hF⟩ := h
          obtain ⟨v1, ev1, q1⟩ := hF.rep (.t ts.length) (.d (.list xs)) (by show (ts ++ [M.d (.list xs), .d (.list ys)] ++ tm)[ts.length]? = _; simp)
          obtain ⟨v2, ev2, q2⟩ := hF.rep (.t (ts.length + 1)) (.d (.list ys)) (by show (ts ++ [M.d (.list xs), .d (.list ys)] ++ tm)[ts.length + 1]? = _; simp)
          have ev1 : (vs ++ [v, w] ++ vm)[ts.length]? = some v1 := ev1
          have ev2 : (vs ++ [v, w] ++ vm)[ts.length + 1]? = some v2 := ev2
          rw [lt] at ev1 ev2
          simp at ev1 ev2
          subst ev1 ev2
          have q1 := q1.2
          have q2 := q2.2
          simp only [Rep] at q1 q2
          obtain ⟨a, us, e1, _, r1, z1⟩ := q1
          obtain ⟨b, ws, e2, _, r2, z2⟩ := q2
          exact ⟨F, a, b, us, ws, hF, e1, e2, .inl r1, .inl r2, z1, z2⟩
        obtain ⟨F, a, b, us, ws, hF, rfl, rfl, r1, r2, z1, z2⟩ := pr (tm := []) (vm := []) (by simpa using h')
        refine ⟨a, b, us, ws, rfl, .inl ⟨r1, r2, q _ H' [.ref a, .ref b] rfl (by simpa using h') ⟨_, _, by rw [show (zipD xs ys).length = min xs.length ys.length by simp [zipD]]; exact walk_zip', ?_, ?_⟩⟩⟩
        · intro env2 σ2 H2 tm vm h2
          obtain ⟨F, a', b', us, ws, hF, e1, e2, r1, r2, z1, z2⟩ := pr h2
          cases e1; cases e2
          exact ⟨⟨us, r1, (repAll_len z1).symm⟩, ws, r2, (repAll_len z2).symm⟩
        · intro env2 σ2 H2 tm vm i x H3 d hd h2 hy
          obtain ⟨F, a', b', us, ws, hF, e1, e2, r1, r2, z1, z2⟩ := pr h2
          cases e1; cases e2
          obtain ⟨T, y1, y2, rfl, nT, rfl, f1, f2⟩ := hy
          obtain ⟨x1, x2, g1, g2, rfl⟩ := zipD_get hd
          obtain ⟨u1, k1, p1⟩ := repAll_get z1 g1
          obtain ⟨u2, k2, p2⟩ := repAll_get z2 g2
          have c1 := f1 us r1
          have c2 := f2 ws r2
          rw [k1] at c1
          rw [k2] at c2
          cases c1; cases c2
          exact push_pair hF p1 p2 nT
     | _ => (first | exact False.elim q | (cases d <;> first | exact False.elim q | (cases d2 <;> exact False.elim q)))
    | tuple xs =>
     cases d2 with
     | tuple ys =>
      · have pr : ∀ {env σ H tm vm}, SRel X.K E env (ts ++ [.d (.tuple xs), .d (.tuple ys)] ++ tm) σ (vs ++ [v, w] ++ vm) H → ∃ F a b us ws, SR X.K E env (ts ++ [.d (.tuple xs), .d (.tuple ys)] ++ tm) σ (vs ++ [v, w] ++ vm) H F ∧ v = .ref a ∧ w = .ref b ∧ SqT X.K H a us ∧ SqT X.K H b ws ∧ RepAll X.K H (Av E F) xs us ∧ RepAll X.K H (Av E F) ys ws := fun {env σ H tm vm} h => by
          obtain ⟨F, hF⟩ := h
          obtain ⟨v1, ev1, q1⟩ := hF.rep (.t ts.length) (.d (.tuple xs)) (by show (ts ++ [M.d (.tuple xs), .d (.tuple ys)] ++ tm)[ts.length]? = _; simp)
          obtain ⟨v2, ev2, q2⟩ := hF.rep (.t (ts.length + 1)) (.d (.tuple ys)) (by show (ts ++ [M.d (.tuple xs), .d (.tuple ys)] ++ tm)[ts.length + 1]? = _; simp)
          have ev1 : (vs ++ [v, w] ++ vm)[ts.length]? = some v1 := ev1
          have ev2 : (vs ++ [v, w] ++ vm)[ts.length + 1]? = some v2 := ev2
          rw [lt] at ev1 ev2
          simp at ev1 ev2
          subst ev1 ev2
          have q1 := q1.2
          have q2 := q2.2
          simp only [Rep] at q1 q2
          obtain ⟨a, us, e1, r1, z1⟩ := q1
          obtain ⟨b, ws, e2, r2, z2⟩ := q2
          exact ⟨F, a, b, us, ws, hF, e1, e2, r1.sq, r2.sq, z1, z2⟩
        obtain ⟨F, a, b, us, ws, hF, rfl, rfl, r1, r2, z1, z2⟩ := pr (tm := []) (vm := []) (by simpa using h')
        refine ⟨a, b, us, ws, rfl, .inr ⟨r1, r2, q _ H' [.ref a, .ref b] rfl (by simpa using h') ⟨_, _, by rw [show (zipD xs ys).length = min xs.length ys.length by simp [zipD]]; exact walk_zipT', ?_, ?_⟩⟩⟩
        · intro env2 σ2 H2 tm vm h2
          obtain ⟨F, a', b', us, ws, hF, e1, e2, r1, r2, z1, z2⟩ := pr h2
          cases e1; cases e2
          exact ⟨⟨us, r1, (repAll_len z1).symm⟩, ws, r2, (repAll_len z2).symm⟩
        · intro env2 σ2 H2 tm vm i x H3 d hd h2 hy
          obtain ⟨F, a', b', us, ws, hF, e1, e2, r1, r2, z1, z2⟩ := pr h2
          cases e1; cases e2
          obtain ⟨T, y1, y2, rfl, nT, rfl, f1, f2⟩ := hy
          obtain ⟨x1, x2, g1, g2, rfl⟩ := zipD_get hd
          obtain ⟨u1, k1, p1⟩ := repAll_get z1 g1
          obtain ⟨u2, k2, p2⟩ := repAll_get z2 g2
          have c1 := f1 us r1
          have c2 := f2 ws r2
          rw [k1] at c1
          rw [k2] at c2
          cases c1; cases c2
          exact push_pair hF p1 p2 nT
     | _ => (first | exact False.elim q | (cases d <;> first | exact False.elim q | (cases d2 <;> exact False.elim q)))
    | _ => (first | exact False.elim q | (cases d <;> first | exact False.elim q | (cases d2 <;> exact False.elim q)))
theorem di_enum {elts : List Expr} {kk : Nat} {tpos : Pos} {e : Expr} {f : Sl → Res Rv} {p pos : Pos} (hg : Gl X "enumerate") (hm : X.mg "enumerate" = none) (ha : DA X C [e] [f]) (hK : X.K = C.K) (hs : starEach [e] X.env = [(false, eval e X.env)]) :
    DI X C (.Tuple elts kk tpos) (.Call (.Name "enumerate" p) [e] [] pos) (fEnum f) := by
  obtain ⟨K, mg, E, W⟩ := C
  dsimp only at hK
  subst hK
  refine ⟨_, pi_enum hg hm ha.pa hs, fun σ H env ts vs R h q => tDs_of (fs := [f]) h ?_⟩
  simp only [fEnum] at q
  cases e1 : evDs [f] env with
  | stuck => rw [e1] at q; exact q.elim
  | exc x env1 => rw [e1] at q; exact q
  | ok ds env1 =>
    rw [e1] at q
    simp only [Res.bind] at q
    intro ws H' lt l h'
    rcases ws with _ | ⟨v, _ | ⟨w, ws⟩⟩
    · rcases ds with _ | ⟨d, ds⟩
      · (first | exact False.elim q | (cases d <;> first | exact False.elim q | (cases d2 <;> exact False.elim q)))
      · simp at l
    rotate_left
    · rcases ds with _ | ⟨d, _ | ⟨d2, ds⟩⟩
      · (first | exact False.elim q | (cases d <;> first | exact False.elim q | (cases d2 <;> exact False.elim q)))
      · simp at l
      · (first | exact False.elim q | (cases d <;> first | exact False.elim q | (cases d2 <;> exact False.elim q)))
    rcases ds with _ | ⟨d, _ | ⟨d2, ds⟩⟩
    · (first | exact False.elim q | (cases d <;> first | exact False.elim q | (cases d2 <;> exact False.elim q)))
    rotate_left
    · (first | exact False.elim q | (cases d <;> first | exact False.elim q | (cases d2 <;> exact False.elim q)))
    cases d with
    | list xs =>
      · have pr : ∀ {env σ H tm vm}, SRel X.K E env (ts ++ [.d (.list xs)] ++ tm) σ (vs ++ [v] ++ vm) H → ∃ F a us, SR X.K E env (ts ++ [.d (.list xs)] ++ tm) σ (vs ++ [v] ++ vm) H F ∧ v = .ref a ∧ SqL X.K H a us ∧ RepAll X.K H (Av E F) xs us := fun {env σ H tm vm} h => by
          obtain ⟨F, hF, r⟩ := rep_at (tm := tm) (vm := vm) (d := .list xs) (by simpa using h) lt
          simp only [Rep] at r
          obtain ⟨a, us, e1, _, r1, z1⟩ := r
          exact ⟨F, a, us, by simpa using hF, e1, .inl r1, z1⟩
        obtain ⟨F, a, us, hF, rfl, r1, z1⟩ := pr (tm := []) (vm := []) (by simpa using h')
        refine ⟨a, us, rfl, r1, q _ H' [.ref a] rfl (by simpa using h') ⟨_, _, by rw [show (enumD xs).length = xs.length by simp [enumD]]; exact walk_enum', ?_, ?_⟩⟩
        · intro env2 σ2 H2 tm vm h2
          obtain ⟨F, a', us, hF, e1, r1, z1⟩ := pr h2
          cases e1
          exact ⟨us, r1, (repAll_len z1).symm⟩
        · intro env2 σ2 H2 tm vm i x H3 d hd h2 hy
          obtain ⟨F, a', us, hF, e1, r1, z1⟩ := pr h2
          cases e1
          obtain ⟨T, y1, rfl, nT, rfl, f1⟩ := hy
          simp only [enumD, List.getElem?_mapIdx] at hd
          cases g1 : xs[i]? with
          | none => rw [g1] at hd; cases hd
          | some x1 =>
            rw [g1] at hd
            cases hd
            obtain ⟨u1, k1, p1⟩ := repAll_get z1 g1
            have c1 := f1 us r1
            rw [k1] at c1
            cases c1
            exact push_pair hF (by simp only [Rep]) p1 nT
    | _ => (first | exact False.elim q | (cases d <;> first | exact False.elim q | (cases d2 <;> exact False.elim q)))
/-! ### a target of several names -/
def setAll : List Nat → List D → Sl → Option Sl
  | [], [], env => some env
  | i :: is, d :: ds, env => setAll is ds (env.set i (some (.d d)))
  | _, _, _ => none
def gTupN (is : List Nat) (d : D) (env : Sl) : Option Sl :=
  match d with
  | .tuple ds => setAll is ds env
  | _ => none
structure NameAt (X : Cx) (e : Expr) (i : Nat) : Prop where
  ex : ∃ x pos, e = .Name x pos ∧ X.N.Nodup ∧ X.N[i]? = some x ∧ Loc X.env.scope x ∧ (X.fn x = true ∨ X.env.scope.names.lookup x = some .local)
theorem nameAt {i : Nat} {x : Str} {pos : Pos} (hN : X.N.Nodup) (hi : X.N[i]? = some x) (hx : Loc X.env.scope x) (hf : X.fn x = true ∨ X.env.scope.names.lookup x = some .local) : NameAt X (.Name x pos) i :=
  ⟨x, pos, rfl, hN, hi, hx, hf⟩
inductive NamesAt (X : Cx) : List Expr → List Nat → Prop where
  | nil : NamesAt X [] []
  | cons {e : Expr} {es : List Expr} {i : Nat} {is : List Nat} (h : NameAt X e i) (t : NamesAt X es is) : NamesAt X (e :: es) (i :: is)
theorem NamesAt.len {es : List Expr} {is : List Nat} (h : NamesAt X es is) : es.length = is.length := by
  induction h with
  | nil => rfl
  | cons _ _ ih => simp [ih]
theorem assignEach_names {es : List Expr} {is : List Nat} (h : NamesAt X es is) : (assignEach es X.env).length = es.length ∧ (assignEach es X.env).findIdx? (·.1) = none ∧ ∀ e r, es = e :: r → (assignEach es X.env).map (·.2) = assign e X.env :: (assignEach r X.env).map (·.2) := by
  induction h with
  | nil => exact ⟨rfl, rfl, fun e r z => nomatch z⟩
  | @cons e es i is h t ih =>
    obtain ⟨x, pos, rfl, _⟩ := h.ex
    have e1 : assignEach (.Name x pos :: es) X.env = (false, assign (.Name x pos) X.env) :: assignEach es X.env := rfl
    rw [e1]
    refine ⟨by simp [ih.1], ?_, fun e r z => by cases z; rfl⟩
    rw [List.findIdx?_cons]
    simp [ih.2.1]
def gNs : List Nat → TGs
  | [] => gNil
  | i :: is => gCons (gName i) (gNs is)
theorem pgs_names {es : List Expr} {is : List Nat} (hn : NamesAt X es is) : PGs X es (gNs is) := by
  induction hn with
  | nil => exact pgs_nil
  | @cons e es i is hh t ih =>
    have as := (assignEach_names (.cons hh t)).2.2 e es rfl
    obtain ⟨x, pos, rfl, hN, hi, hx, hf⟩ := hh.ex
    exact pgs_cons (pg_name hN hi hx hf) ih as
theorem wipe_set {σ : St} {i : Nat} {v : Option V} : ∀ {own : List Nat}, i ∈ own → wipe (σ.set i v) own = wipe σ own
  | [], h => by simp at h
  | j :: own, h => by
    unfold wipe
    by_cases e : i ∈ own
    · rw [wipe_set e]
    · have e : i = j := by
        rcases List.mem_cons.mp h with z | z
        · exact z
        · exact absurd z e
      subst e
      apply List.ext_getElem?
      intro k
      by_cases q : i = k
      · subst q
        simp [List.getElem?_set, wipe_length]
      · rw [List.getElem?_set_ne q, List.getElem?_set_ne q]
        by_cases m : k ∈ own
        · clear h
          revert m
          induction own with
          | nil => intro m; simp at m
          | cons l own ih =>
            intro m
            unfold wipe
            by_cases z : l = k
            · subst z; simp [List.getElem?_set, wipe_length]
            · rw [List.getElem?_set_ne z, List.getElem?_set_ne z]
              by_cases m2 : k ∈ own
              · exact ih (fun y => e (List.mem_cons_of_mem _ y)) m2
              · rw [wipe_out m2, wipe_out m2, List.getElem?_set_ne q]
        · rw [wipe_out m, wipe_out m, List.getElem?_set_ne q]
/-- what a target's tree does, whatever the context -/
def GOk (C : Kx) (is : List Nat) (t : TG) (g : D → Sl → Option Sl) : Prop := ∀ env ts σ vs H d v env' (Q : St → Hp → Prop), SRel C.K C.E env (ts ++ [.d d]) σ (vs ++ [v]) H → g d env = some env' →
  (∀ σ' H', SRel C.K C.E env' ts σ' vs H' → (∀ own : List Nat, (∀ i ∈ is, i ∈ own) → wipe σ' own = wipe σ own) → Q σ' H') → t v σ H Q
def slotB (C : Kx) (i : Nat) : Prop := i < C.E.n ∧ ∀ p ∈ C.E.io, p.1 ≠ i
theorem gok_name {i : Nat} (hi : slotB C i) : GOk C [i] (gName i) (gName1 i) := by
  intro env ts σ vs H d v env' Q h e q
  cases e
  have lt : ts.length = vs.length := by have := h.lent; simpa using this
  refine q _ _ (put_of h lt ?_ hi.2) fun own ho => wipe_set (ho i (by simp))
  obtain ⟨F, h⟩ := h
  rw [h.ln]
  exact hi.1
theorem gns_ok : ∀ {is : List Nat}, (∀ i ∈ is, slotB C i) → ∀ ds ws env ts σ vs H env' (Q : St → Hp → Prop), SRel C.K C.E env (ts ++ ds.map .d) σ (vs ++ ws) H → ds.length = ws.length → setAll is ds env = some env' →
    (∀ σ' H', SRel C.K C.E env' ts σ' vs H' → (∀ own : List Nat, (∀ i ∈ is, i ∈ own) → wipe σ' own = wipe σ own) → Q σ' H') → gNs is ws σ H Q
  | [], _, ds, ws, env, ts, σ, vs, H, env', Q, h, l, e, q => by
    cases ds with
    | nil =>
      simp only [setAll, Option.some.injEq] at e
      subst e
      cases ws with
      | nil => exact ⟨rfl, q _ _ (by simpa using h) fun _ _ => rfl⟩
      | cons w ws => simp at l
    | cons d ds => simp [setAll] at e
  | i :: is, hB, ds, ws, env, ts, σ, vs, H, env', Q, h, l, e, q => by
    cases ds with
    | nil => simp [setAll] at e
    | cons d ds =>
      cases ws with
      | nil => simp at l
      | cons w ws =>
        simp only [setAll] at e
        refine ⟨w, ws, rfl, ?_⟩
        show gName i w σ H _
        have lt : ts.length = vs.length := by
          have := h.lent
          simp at this l
          omega
        have hb := hB i (by simp)
        have hi' : i < env.length := by
          obtain ⟨F, h⟩ := h
          rw [h.ln]
          exact hb.1
        have h2 : SRel C.K C.E (env.set i (some (.d d))) (ts ++ ds.map .d) (σ.set i (some w)) (vs ++ ws) H := by
          obtain ⟨F, h⟩ := h
          have h : SR C.K C.E env (ts ++ .d d :: ds.map .d) σ (vs ++ w :: ws) H F := by simpa using h
          obtain ⟨v', ev, r⟩ := h.rep (.t ts.length) (.d d) (by show (ts ++ M.d d :: ds.map .d)[ts.length]? = _; simp)
          have ev : (vs ++ w :: ws)[ts.length]? = some v' := ev
          rw [lt] at ev
          simp at ev
          subst ev
          obtain ⟨F2, h3, _⟩ := (h.pushD r.2 |> fun z => (show SR C.K C.E env (ts ++ .d d :: (ds.map .d ++ [.d d])) σ (vs ++ w :: (ws ++ [w])) H F by simpa using z)).dropT lt
          have h4 : SRel C.K C.E env ((ts ++ ds.map .d) ++ [.d d]) σ ((vs ++ ws) ++ [w]) H := ⟨F2, by simpa using h3⟩
          exact put_of h4 (by simp at l ⊢; omega) hi' hb.2
        exact gns_ok (fun j hj => hB j (by simp [hj])) ds ws _ ts _ vs H env' Q h2 (by simpa using l) e fun σ' H' hh hw => q σ' H' hh fun own ho => by
          rw [hw own fun j hj => ho j (by simp [hj]), wipe_set (ho i (by simp))]
theorem setAll_len : ∀ {is : List Nat} {ds : List D} {env env' : Sl}, setAll is ds env = some env' → is.length = ds.length
  | [], [], _, _, _ => rfl
  | i :: is, d :: ds, _, _, e => by
    simp only [setAll] at e
    simp [setAll_len e]
  | [], _ :: _, _, _, e => by simp [setAll] at e
  | _ :: _, [], _, _, e => by simp [setAll] at e
theorem gok_tup {is : List Nat} (hB : ∀ i ∈ is, slotB C i) : GOk C is (gTup C.K is.length (gNs is)) (gTupN is) := by
  intro env ts σ vs H d v env' Q h e q
  have lt : ts.length = vs.length := by have := h.lent; simpa using this
  simp only [gTupN] at e
  split at e
  · rename_i ds
    obtain ⟨F, hF, r⟩ := rep_at (tm := []) (vm := []) h lt
    simp only [Rep] at r
    obtain ⟨a, xs, rfl, r1, r2⟩ := r
    have hl : ds.length = xs.length := repAll_len r2
    have hl2 : is.length = ds.length := setAll_len e
    refine ⟨a, xs, rfl, r1.sq, by omega, ?_⟩
    have h2 := pushDs hF r2
    have h3 : SRel C.K C.E env (ts ++ ds.map .d) σ (vs ++ xs) H := SRel.squash (tm := [.d (.tuple ds)]) (vm := [.ref a]) ⟨F, by simpa using h2⟩ lt rfl
    exact gns_ok hB ds xs env ts σ vs H env' Q h3 hl e q
  · cases e
theorem pg_names {es : List Expr} {is : List Nat} {k : Nat} {pos : Pos} (hc : X.calm = true) (hn : NamesAt X es is) : PG X (.Tuple es k pos) (gTup X.K is.length (gNs is)) :=
  pg_tup (n := is.length) hc (pgs_names hn) (by rw [(assignEach_names hn).1]; exact hn.len) (assignEach_names hn).2.1
theorem DG.of {tg : Expr} {is : List Nat} {t : TG} {g : D → Sl → Option Sl} (h : PG X tg t) (k : GOk C is t g) : DG X C tg g := ⟨t, h, fun env ts σ vs H d v env' Q h e q => k env ts σ vs H d v env' Q h e fun σ' H' h' _ => q σ' H' h'⟩
theorem dg_tup {es : List Expr} {is : List Nat} {k : Nat} {pos : Pos} (hc : X.calm = true) (hK : X.K = C.K) (hn : NamesAt X es is) (hB : ∀ i ∈ is, slotB C i) : DG X C (.Tuple es k pos) (gTupN is) :=
  .of (pg_names hc hn) (by rw [hK]; exact gok_tup hB)
end
end Yf
namespace Yf
open PySem PySem.Spec L2
open PyProof.Rows hiding St
section
variable {K : PySem.W.Frag} {E : Ent} {env env' : Sl} {ts ts' : List M} {σ : St} {vs : List V} {H : Hp} {F : Rt → List Addr}
/-! ### a root that is a list -/
theorem repAll_step {K : PySem.W.Frag} {H H' : Hp} {O O' : Addr → Prop} (h : Step H O H' O') {ds : List D} {xs : List V} (r : RepAll K H O ds xs) : RepAll K H' O' ds xs := r.step h
theorem SR.setLst (h : SR K E env ts σ vs H F) {r : Rt} {ds : List D} {v : V} (e : getR env ts r = some (.lst ds)) (ev : valR σ vs r = some v) :
    ∃ l xs, v = .ref l ∧ F r = [l] ∧ H l = some (.lst xs) ∧ RepAll K H (Av E F) ds xs ∧ ∀ ds' xs' env' ts', RepAll K H (Av E F) ds' xs' → (∀ q, getR env' ts' q = if q = r then some (.lst ds') else getR env ts q) → env'.length = env.length → ts'.length = ts.length →
      SR K E env' ts' σ vs (upd H l (.lst xs')) F := by
  obtain ⟨v', ev', q⟩ := h.rep r _ e
  rw [ev] at ev'
  cases ev'
  simp only [RepM] at q
  obtain ⟨l, xs, rfl, ef, hl, ra⟩ := q
  refine ⟨l, xs, rfl, ef, hl, ra, fun ds' xs' env' ts' ra' hg h1 h2 => ?_⟩
  have ow : Own F l := ⟨r, by rw [ef]; simp⟩
  have ff : fset F r [l] = F := by
    funext q
    unfold fset
    split
    · rename_i c; subst c; exact ef.symm
    · rfl
  have := h.write (f := [l]) (H' := upd H l (.lst xs')) (m' := .lst ds') e ev hg h1 h2 (fun a o n ea => by
    rw [ef] at n
    rw [upd_ne (by simpa using n)]; exact ea) (fun a ha => .inl (by rw [ef]; exact ha)) ?_
  · rwa [ff] at this
  · rw [ff]
    simp only [RepM]
    refine ⟨l, xs', rfl, rfl, upd_same, ra'.step fun a o ea n => ⟨?_, n⟩⟩
    rw [upd_ne (fun z => n (.inl (by rw [z]; exact ow)))]; exact ea
theorem repAll_snoc {K : PySem.W.Frag} {H : Hp} {O : Addr → Prop} {d : D} {y : V} (r : Rep K H O d y) : ∀ {ds : List D} {xs : List V}, RepAll K H O ds xs → RepAll K H O (ds ++ [d]) (xs ++ [y])
  | [], _, h => by
    simp only [RepAll] at h
    subst h
    simp only [List.nil_append, RepAll]
    exact ⟨y, [], rfl, r, rfl⟩
  | d0 :: ds, _, h => by
    simp only [RepAll] at h
    obtain ⟨x, s, rfl, a, b⟩ := h
    simp only [List.cons_append, RepAll]
    exact ⟨x, s ++ [y], rfl, a, repAll_snoc r b⟩
/-- an item put behind the list under it -/
theorem append_top {acc : List D} {m : M} {D0 : Addr} {y : V} (h : SRel K E env (ts ++ [.lst acc] ++ [m]) σ (vs ++ [.ref D0] ++ [y]) H) (lt : ts.length = vs.length) :
    ∃ xs, H D0 = some (.lst xs) ∧ xs.length = acc.length ∧ SRel K E env (ts ++ [.lst (acc ++ [freeze m])]) σ (vs ++ [.ref D0]) (upd H D0 (.lst (xs ++ [y]))) := by
  obtain ⟨F, h⟩ := h
  obtain ⟨F', h2, r⟩ := h.popD (by simp [lt])
  have g1 : getR env (ts ++ [.lst acc]) (.t ts.length) = some (.lst acc) := by rw [getR_push, if_pos rfl]
  have v1 : valR σ (vs ++ [.ref D0]) (.t ts.length) = some (.ref D0) := by rw [valR_push, lt, if_pos rfl]
  obtain ⟨l, xs, e1, ef, hl, ra, k⟩ := h2.setLst g1 v1
  cases e1
  refine ⟨xs, hl, (repAll_len ra).symm, F', k _ _ env (ts ++ [.lst (acc ++ [freeze m])]) (repAll_snoc r ra) (fun q => ?_) rfl (by simp)⟩
  rw [getR_push, getR_push]
  split <;> rfl
/-! ### slots forgotten -/
theorem SR.unslot (h : SR K E env ts σ vs H F) {i : Nat} (hio : ∀ p ∈ E.io, p.1 ≠ i) : ∃ F', SR K E (env.set i none) ts (σ.set i none) vs H F' := by
  obtain ⟨F1, h1⟩ := h.drop i
  refine ⟨F1, h1.make (fun a o e n => ⟨e, n⟩) (by simp [h.len]) h1.lent (fun r m e => ?_) h1.emp h1.dis (fun p hp => ?_)⟩
  · obtain ⟨v, ev, _⟩ := h1.rep r m e
    refine .inl ⟨r, v, e, ev, ?_, rfl, fun _ _ => rfl⟩
    cases r with
    | t j => exact ev
    | s j =>
      have e : ((env.set i none)[j]?).join = some m := e
      by_cases c : i = j
      · subst c
        rw [List.getElem?_set] at e
        split at e
        · split at e <;> cases e
        · rename_i c; exact absurd rfl c
      · show ((σ.set i none)[j]?).join = some v
        rw [List.getElem?_set_ne c]; exact ev
  · rw [List.getElem?_set_ne (hio p hp).symm]; exact h1.io p hp
/-- one slot put back, as it was -/
theorem SR.reslot (h : SR K E env ts (σ.set i none) vs H F) {o : Option D} (ho : ∀ d, o = some d → ∃ v, (σ[i]?).join = some v ∧ Rep K H (Av E F) d v) : SR K E (env.set i (o.map .d)) ts σ vs H F := by
  have hl : env.length = σ.length := by rw [h.len]; simp
  have en : (env[i]?).join = none := by
    cases c : (env[i]?).join with
    | none => rfl
    | some m =>
      obtain ⟨v, ev, _⟩ := h.rep (.s i) m c
      have ev : ((σ.set i none)[i]?).join = some v := ev
      rw [List.getElem?_set] at ev
      simp at ev
      split at ev <;> simp at ev
  have fe : F (.s i) = [] := h.emp (.s i) en
  refine h.make (fun a o e n => ⟨e, n⟩) (by simp [hl]) h.lent (fun r m e => ?_) (fun r e => ?_) h.dis (fun p hp => ?_)
  · cases r with
    | t j =>
      obtain ⟨v, ev, _⟩ := h.rep (.t j) m e
      exact .inl ⟨.t j, v, e, ev, ev, rfl, fun _ _ => rfl⟩
    | s j =>
      have e : ((env.set i (o.map .d))[j]?).join = some m := e
      by_cases c : i = j
      · subst c
        rw [List.getElem?_set] at e
        simp at e
        split at e
        · cases o with
          | none => simp at e
          | some d =>
            simp at e
            subst e
            obtain ⟨v, ev, r⟩ := ho d rfl
            refine .inr ⟨v, ev, ?_⟩
            rw [fe]
            exact ⟨rfl, r⟩
        · simp at e
      · rw [List.getElem?_set_ne c] at e
        obtain ⟨v, ev, _⟩ := h.rep (.s j) m e
        refine .inl ⟨.s j, v, e, ev, ?_, rfl, fun _ _ => rfl⟩
        have ev : ((σ.set i none)[j]?).join = some v := ev
        rw [List.getElem?_set_ne c] at ev
        exact ev
  · cases r with
    | t j => exact h.emp (.t j) e
    | s j =>
      have e : ((env.set i (o.map .d))[j]?).join = none := e
      by_cases c : i = j
      · subst c; exact fe
      · rw [List.getElem?_set_ne c] at e
        exact h.emp (.s j) e
  · have z := h.io p hp
    by_cases c : i = p.1
    · rw [← c, List.getElem?_set] at z
      simp at z
    · rw [List.getElem?_set_ne c] at z; exact z
def wipeE (env : Sl) : List Nat → Sl
  | [] => env
  | i :: is => (wipeE env is).set i none
theorem SR.wipe (h : SR K E env ts σ vs H F) : ∀ {own : List Nat}, (∀ i ∈ own, ∀ p ∈ E.io, p.1 ≠ i) → ∃ F', SR K E (wipeE env own) ts (wipe σ own) vs H F'
  | [], _ => ⟨F, h⟩
  | i :: own, hio => by
    obtain ⟨F1, h1⟩ := h.wipe (own := own) fun j hj => hio j (by simp [hj])
    exact h1.unslot (hio i (by simp))
theorem SRel.wipe (h : SRel K E env ts σ vs H) {own : List Nat} (hio : ∀ i ∈ own, ∀ p ∈ E.io, p.1 ≠ i) : SRel K E (wipeE env own) ts (L2.wipe σ own) vs H := by
  obtain ⟨F, h⟩ := h
  exact h.wipe hio
/-- what the slots hold, when it is nothing or data -/
def saveE (env : Sl) : List Nat → Option (List (Option D))
  | [] => some []
  | i :: is =>
    match ((wipeE env is)[i]?).join, saveE env is with
    | none, some sv => some (none :: sv)
    | some (.d d), some sv => some (some d :: sv)
    | _, _ => none
def restE (env : Sl) : List Nat → List (Option D) → Sl
  | i :: is, o :: sv => restE (env.set i (o.map .d)) is sv
  | _, _ => env
def SvAt (σ : St) : List Nat → List (Option D) → List V → Prop
  | [], [], ws => ws = []
  | i :: is, none :: sv, ws => SvAt σ is sv ws
  | i :: is, some d :: sv, ws => ∃ w r, ws = w :: r ∧ ((wipe σ is)[i]?).join = some w ∧ SvAt σ is sv r
  | _, _, _ => False
def svD : List (Option D) → List D
  | [] => []
  | none :: sv => svD sv
  | some d :: sv => d :: svD sv
theorem SR.save (h : SR K E env ts σ vs H F) : ∀ {own : List Nat} {sv : List (Option D)}, (∀ i ∈ own, ∀ p ∈ E.io, p.1 ≠ i) → saveE env own = some sv → ∃ F' ws, SR K E (wipeE env own) ts (L2.wipe σ own) vs H F' ∧ SvAt σ own sv ws ∧ RepAll K H (Av E F') (svD sv) ws
  | [], sv, _, e => by
    simp only [saveE, Option.some.injEq] at e
    subst e
    exact ⟨F, [], h, rfl, by simp [svD, RepAll]⟩
  | i :: own, sv, hio, e => by
    simp only [saveE] at e
    cases e2 : saveE env own with
    | none =>
      rw [e2] at e
      cases e3 : ((wipeE env own)[i]?).join with
      | none => rw [e3] at e; cases e
      | some m => rw [e3] at e; cases m <;> cases e
    | some sv' =>
      obtain ⟨F1, ws, h1, a1, r1⟩ := h.save (fun j hj => hio j (by simp [hj])) e2
      rw [e2] at e
      cases e3 : ((wipeE env own)[i]?).join with
      | none =>
        rw [e3] at e
        simp only [Option.some.injEq] at e
        subst e
        obtain ⟨F2, h2⟩ := (h1.unslot (hio i (by simp)))
        have h2 : SR K E (wipeE env (i :: own)) ts (L2.wipe σ (i :: own)) vs H F2 := h2
        refine ⟨fset F1 (.s i) [], ws, ?_, a1, r1.step fun a o e n => ⟨e, fun z => n (z.imp_left fun z => (own_pop z).1)⟩⟩
        have fe : fset F1 (.s i) [] = F1 := fset_same (h1.emp (.s i) e3)
        rw [fe]
        exact unslot_same h1 (hio i (by simp)) (h1.emp (.s i) e3)
      | some m =>
        rw [e3] at e
        cases m with
        | d d =>
          simp only [Option.some.injEq] at e
          subst e
          obtain ⟨v, ev, q⟩ := h1.rep (.s i) (.d d) e3
          refine ⟨F1, v :: ws, unslot_same h1 (hio i (by simp)) q.1, ⟨v, ws, rfl, ev, a1⟩, ?_⟩
          simp only [svD, RepAll]
          exact ⟨v, ws, rfl, q.2, r1⟩
        | lst ds => cases e
        | dct ds => cases e
where
  unslot_same {env : Sl} {σ : St} {F : Rt → List Addr} {i : Nat} (h : SR K E env ts σ vs H F) (hio : ∀ p ∈ E.io, p.1 ≠ i) (fe : F (.s i) = []) : SR K E (env.set i none) ts (σ.set i none) vs H F := by
    refine h.make (fun a o e n => ⟨e, n⟩) (by simp [h.len]) h.lent (fun r m e => ?_) (fun r e => ?_) h.dis (fun p hp => ?_)
    · cases r with
      | t j =>
        obtain ⟨v, ev, _⟩ := h.rep (.t j) m e
        exact .inl ⟨.t j, v, e, ev, ev, rfl, fun _ _ => rfl⟩
      | s j =>
        have e : ((env.set i none)[j]?).join = some m := e
        by_cases c : i = j
        · subst c
          rw [List.getElem?_set] at e
          simp at e
          split at e <;> cases e
        · rw [List.getElem?_set_ne c] at e
          obtain ⟨v, ev, _⟩ := h.rep (.s j) m e
          refine .inl ⟨.s j, v, e, ev, ?_, rfl, fun _ _ => rfl⟩
          show ((σ.set i none)[j]?).join = some v
          rw [List.getElem?_set_ne c]; exact ev
    · cases r with
      | t j => exact h.emp (.t j) e
      | s j =>
        have e : ((env.set i none)[j]?).join = none := e
        by_cases c : i = j
        · subst c; exact fe
        · rw [List.getElem?_set_ne c] at e
          exact h.emp (.s j) e
    · rw [List.getElem?_set_ne (hio p hp).symm]; exact h.io p hp
theorem SR.rest : ∀ {own : List Nat} {sv : List (Option D)} {ws : List V} {env : Sl}, SR K E env ts (L2.wipe σ own) vs H F → SvAt σ own sv ws → RepAll K H (Av E F) (svD sv) ws → SR K E (restE env own sv) ts σ vs H F
  | [], [], _, _, h, _, _ => h
  | i :: own, none :: sv, ws, env, h, a, r => by
    have h1 := h.reslot (σ := L2.wipe σ own) (i := i) (o := none) fun d e => nomatch e
    exact h1.rest a r
  | i :: own, some d :: sv, ws, env, h, a, r => by
    obtain ⟨w, ws', rfl, ew, a'⟩ := a
    simp only [svD, RepAll] at r
    obtain ⟨x, s, e, r1, r2⟩ := r
    cases e
    have h1 := h.reslot (σ := L2.wipe σ own) (i := i) (o := some d) fun d' e => by cases e; exact ⟨w, ew, r1⟩
    exact h1.rest a' r2
  | [], _ :: _, _, _, _, a, _ => a.elim
  | _ :: _, [], _, _, _, a, _ => a.elim
/-- data on the stack -/
theorem repAll_at {ds : List D} {ws : List V} {tm : List M} {vm : List V} (h : SR K E env (ts ++ ds.map .d ++ tm) σ (vs ++ ws ++ vm) H F) (lt : ts.length = vs.length) (lw : ds.length = ws.length) : RepAll K H (Av E F) ds ws := by
  refine repAll_of lw fun j d x e e' => ?_
  have hj := (List.getElem?_eq_some_iff.mp e).1
  obtain ⟨v, ev, q⟩ := h.rep (.t (ts.length + j)) (.d d) (by
    show (ts ++ ds.map .d ++ tm)[ts.length + j]? = _
    rw [List.append_assoc, List.getElem?_append_right (by omega), Nat.add_sub_cancel_left, List.getElem?_append_left (by simpa using hj), List.getElem?_map, e]; rfl)
  have ev : (vs ++ ws ++ vm)[ts.length + j]? = some v := ev
  rw [List.append_assoc, List.getElem?_append_right (by omega), lt, Nat.add_sub_cancel_left, List.getElem?_append_left (by omega), e'] at ev
  cases ev
  exact q.2
end
/-! ### comprehensions -/
def lcGo (own : List Nat) (g : D → Sl → Option Sl) (t : Option (Sl → Res Rv)) (f : Sl → Res Rv) : List D → List D → Sl → Res (List D)
  | [], acc, env => .ok acc env
  | d :: ds, acc, env =>
    match g d env with
    | none => .stuck
    | some env1 =>
      match (match t with | none => Res.ok true env1 | some c => (c env1).bind fun p e => match boolOf e p with | some b => .ok b e | none => .stuck) with
      | .ok true env2 =>
        match evV f env2 with
        | .ok (.inr m) env3 => if acc.length < sizeLine then lcGo own g t f ds (acc ++ [freeze m]) (wipeE env3 own) else .stuck
        | _ => .stuck
      | .ok false env2 => lcGo own g t f ds acc (wipeE env2 own)
      | _ => .stuck
def evLc (own : List Nat) (fi : Sl → Res (List M × List D)) (g : D → Sl → Option Sl) (t : Option (Sl → Res Rv)) (f : Sl → Res Rv) : Sl → Res Rv := fun env =>
  match fi env with
  | .ok (_, ds) env1 =>
    match saveE env1 own with
    | none => .stuck
    | some sv =>
      match lcGo own g t f ds [] (wipeE env1 own) with
      | .ok acc env2 => .ok (.inr (.lst acc)) (restE env2 own sv)
      | _ => .stuck
  | .exc x env1 => .exc x env1
  | .stuck => .stuck
def tTst (C : Kx) : Option (Sl → Res Rv) → TT
  | none => tYes
  | some c => fun σ H Q => tE C c σ H fun v H' => ∃ k, v = .bl k ∧ Q k H'
/-- nothing is let out -/
abbrev Kx.shut (C : Kx) : Kx := ⟨C.K, C.mg, C.E, fun _ _ _ _ => False⟩
section
variable {C : Kx} {σ : St} {H : Hp}
theorem wipe_in {τ : St} {k : Nat} : ∀ {own : List Nat}, k ∈ own → (wipe τ own)[k]? = if k < τ.length then some none else none
  | [], m => by simp at m
  | l :: own, m => by
    unfold wipe
    by_cases z : l = k
    · subst z; simp [List.getElem?_set, wipe_length]
    · rw [List.getElem?_set_ne z]
      exact wipe_in (by rcases List.mem_cons.mp m with y | y; exact absurd y.symm z; exact y)
theorem wipe_wipe {own : List Nat} : wipe (wipe σ own) own = wipe σ own := by
  apply List.ext_getElem?
  intro k
  by_cases m : k ∈ own
  · rw [wipe_in m, wipe_in m, wipe_length]
  · rw [wipe_out m]
theorem tLc_of {wi : TI} {tg : TG} {is own : List Nat} {fi : Sl → Res (List M × List D)} {g : D → Sl → Option Sl} {t : Option (Sl → Res Rv)} {f : Sl → Res Rv} {Q : VK}
    (hwi : ∀ σ H env ts vs (R : It → Hp → Prop), SRel C.K C.E env ts σ vs H →
      (match fi env with
      | .ok (ms, ds) env' => ∀ J H' ws, ms.length = ws.length → SRel C.K C.E env' (ts ++ ms) σ (vs ++ ws) H' → Walks C J ts vs ms ws ds → R J H'
      | .exc x env' => ∀ cls dx H', SRelX C.K C.mg C.E env' ts σ vs H' x cls dx → C.W cls dx σ H'
      | .stuck => False) → wi σ H R)
    (gk : GOk C.shut is tg g) (his : ∀ i ∈ is, i ∈ own) (hio : ∀ i ∈ own, ∀ p ∈ C.E.io, p.1 ≠ i) (h : tE C (evLc own fi g t f) σ H Q) : tLc wi tg (tTst C.shut t) (tE C.shut f) own σ H Q := by
  obtain ⟨env, ts, vs, h, q⟩ := h
  have lt := h.lent
  refine hwi σ H env ts vs _ h ?_
  simp only [evLc] at q
  cases e : fi env with
  | stuck => rw [e] at q; exact q
  | exc x env1 => rw [e] at q; exact q
  | ok r env1 =>
    obtain ⟨ms, ds⟩ := r
    rw [e] at q
    simp only at q
    intro J H1 ws lm h1 wk D0 nD
    cases es : saveE env1 own with
    | none => rw [es] at q; exact q.elim
    | some sv =>
      rw [es] at q
      simp only at q
      obtain ⟨G, Y, W, hG, hY⟩ := wk
      obtain ⟨F1, h1⟩ := h1
      obtain ⟨F2, wsv, h2, sa, ra⟩ := h1.save hio es
      have h3 : SR C.K C.E (wipeE env1 own) (ts ++ ms ++ (svD sv).map .d) (wipe σ own) (vs ++ ws ++ wsv) H1 F2 := pushDs h2 ra
      have h4 : SRel C.K C.E (wipeE env1 own) (ts ++ ms ++ (svD sv).map .d ++ [.lst []]) (wipe σ own) (vs ++ ws ++ wsv ++ [.ref D0]) (upd H1 D0 (.lst [])) := push_lst h3 nD (by simp [RepAll])
      have lsv : (svD sv).length = wsv.length := repAll_len ra
      have wip : wipe (wipe σ own) own = wipe σ own := wipe_wipe
      refine lc_it W (fun i H => ∃ env acc, SRel C.K C.E env (ts ++ ms ++ (svD sv).map .d ++ [.lst acc]) (wipe σ own) (vs ++ ws ++ wsv ++ [.ref D0]) H ∧ Post C (match lcGo own g t f (ds.drop i) acc env with | .ok acc env2 => .ok (.inr (.lst acc)) (restE env2 own sv) | _ => .stuck) ts σ vs Q)
        ⟨wipeE env1 own, [], h4, q⟩ (fun i H hi ⟨env, acc, h, _⟩ => hG env _ H _ _ (by simpa [List.append_assoc] using h)) ?_ ?_
      · rintro i x H2 H3 hi ⟨env2, acc, hs, q⟩ hy
        have ei : ds[i]? = some ds[i] := List.getElem?_eq_getElem hi
        have hd : ds.drop i = ds[i] :: ds.drop (i + 1) := List.drop_eq_getElem_cons hi
        rw [hd] at q
        simp only [lcGo] at q
        have h5 : SRel C.K C.E env2 (ts ++ ms ++ (svD sv).map .d ++ [.lst acc] ++ [.d ds[i]]) (wipe σ own) (vs ++ ws ++ wsv ++ [.ref D0] ++ [x]) H3 := by
          have := hY env2 (wipe σ own) H2 ((svD sv).map M.d ++ [M.lst acc]) (wsv ++ [.ref D0]) i x H3 ds[i] ei (by simpa [List.append_assoc] using hs) hy
          simpa [List.append_assoc] using this
        cases eg : g ds[i] env2 with
        | none => rw [eg] at q; exact q.elim
        | some env3 =>
          rw [eg] at q
          simp only at q
          refine gk env2 _ _ _ H3 ds[i] x env3 _ h5 eg fun σ2 H4 h6 hw => ?_
          have hw2 : wipe σ2 own = wipe σ own := by rw [hw own his, wip]
          refine ⟨hw2, ?_⟩
          have lts : (ts ++ ms ++ (svD sv).map M.d).length = (vs ++ ws ++ wsv).length := by simp [lt, lm, lsv]
          -- the element
          have elt : ∀ env4 H5, SRel C.K C.E env4 (ts ++ ms ++ (svD sv).map .d ++ [.lst acc]) σ2 (vs ++ ws ++ wsv ++ [.ref D0]) H5 →
              Post C (match (match evV f env4 with | .ok (.inr m) env3 => if acc.length < sizeLine then lcGo own g t f (ds.drop (i + 1)) (acc ++ [freeze m]) (wipeE env3 own) else .stuck | _ => .stuck : Res (List D)) with | .ok acc env2 => .ok (.inr (.lst acc)) (restE env2 own sv) | _ => .stuck) ts σ vs Q →
              tE C.shut f σ2 H5 fun y H4 => ∃ acc', H4 D0 = some (.lst acc') ∧ acc'.length < sizeLine ∧ ∃ env acc, SRel C.K C.E env (ts ++ ms ++ (svD sv).map .d ++ [.lst acc]) (wipe σ own) (vs ++ ws ++ wsv ++ [.ref D0]) (upd H4 D0 (.lst (acc' ++ [y]))) ∧
                Post C (match lcGo own g t f (ds.drop (i + 1)) acc env with | .ok acc env2 => .ok (.inr (.lst acc)) (restE env2 own sv) | _ => .stuck) ts σ vs Q := fun env4 H5 h7 q => by
            refine tE_val (C := C.shut) ⟨env4, _, _, h7, ?_⟩
            cases ef : evV f env4 with
            | stuck => rw [ef] at q; exact q.elim
            | exc x env5 => rw [ef] at q; exact q.elim
            | ok p env5 =>
              rw [ef] at q
              cases p with
              | inl k => exact q.elim
              | inr m =>
                simp only at q
                by_cases hz : acc.length < sizeLine
                · rw [if_pos hz] at q
                  intro y H6 h8 ev
                  obtain ⟨xs, hx, lx, h9⟩ := append_top h8 lts
                  refine ⟨xs, hx, by omega, wipeE env5 own, acc ++ [freeze m], ?_, q⟩
                  have := h9.wipe (own := own) hio
                  rw [hw2] at this
                  exact this
                · rw [if_neg hz] at q
                  exact q.elim
          cases t with
          | none =>
            dsimp only [tTst, tYes]
            rw [if_pos rfl]
            exact elt env3 H4 h6 q
          | some c =>
            refine ⟨env3, _, _, h6, ?_⟩
            simp only at q
            cases ec : c env3 with
            | stuck => rw [ec] at q; exact q.elim
            | exc x env4 => rw [ec] at q; exact q.elim
            | ok p env4 =>
              rw [ec] at q
              simp only [Res.bind] at q
              intro v H5 h7 ev
              cases eb : boolOf env4 p with
              | none => rw [eb] at q; exact q.elim
              | some k =>
                rw [eb] at q
                obtain ⟨ek, h8⟩ := bool_is (C := C.shut) h7 ev eb
                refine ⟨k, ek, ?_⟩
                cases k with
                | true =>
                  rw [if_pos rfl]
                  exact elt env4 H5 h8 q
                | false =>
                  rw [if_neg (by decide)]
                  have := h8.wipe (own := own) hio
                  rw [hw2] at this
                  exact ⟨wipeE env4 own, acc, this, q⟩
      · rintro H2 ⟨env2, acc, h, q⟩
        rw [List.drop_length] at q
        simp only [lcGo] at q
        obtain ⟨F3, h⟩ := h
        have ra2 := repAll_at (ds := svD sv) (ws := wsv) (ts := ts ++ ms) (vs := vs ++ ws) (tm := [.lst acc]) (vm := [.ref D0]) h (by simp [lt, lm]) lsv
        have h9 := h.rest sa ra2
        refine q (.ref D0) H2 ?_ ?_
        · have := SRel.squash (tm := ms ++ (svD sv).map .d) (vm := ws ++ wsv) (tk := [.lst acc]) (vk := [.ref D0]) (ts := ts) (vs := vs) ⟨F3, by simpa [List.append_assoc] using h9⟩ lt (by simp [lm, lsv])
          exact this
        · show (vs ++ [V.ref D0])[ts.length]? = _
          rw [lt]; simp
variable {X : Cx} {elt tg iter : Expr} {scope : Scope} {own : List (Str × Nat)} {pos : Pos}
/-- the block's parts, in each context of it -/
abbrev Blk (X : Cx) (scope : Scope) (P : Cx → Prop) : Prop := ∀ (s : Shared) (H : Hp) (C : Addr) (cl : List (Str × Addr)) (fp : List Addr), P (X.blk s H scope (compEnvC scope cl C X.env) fp)
structure Tst (X : Cx) (C : Kx) (ifs : List Expr) (t : Option (Sl → Res Rv)) : Prop where
  pt : PTs X ifs (tTst C t)
theorem tst_none : Tst X C [] none := ⟨pts_nil⟩
theorem tst_some {c : Expr} {f : Sl → Res Rv} (h : DT X C c f) : Tst X C [c] (some f) := ⟨pts_one h.pt⟩
theorem de_lc {is oi : List Nat} {t0 : TG} {ifs : List Expr} {fi : Sl → Res (List M × List D)} {g : D → Sl → Option Sl} {t : Option (Sl → Res Rv)} {f : Sl → Res Rv}
    (hc : X.calm = true) (hN : X.N.Nodup) (hi : DI X C tg iter fi) (ok : BlkOk X.N X.env.scope scope own) (hg : Blk X scope fun Y => PG Y tg t0) (gk : GOk C.shut is t0 g) (ht : Blk X scope fun Y => Tst Y C.shut ifs t) (he : Blk X scope fun Y => DE Y C.shut elt f)
    (ho : own.map (·.2) = oi) (hs : ∀ x, foldedSetIterable iter X.env x = pure x) (his : ∀ i ∈ is, i ∈ oi) (hio : ∀ i ∈ oi, ∀ p ∈ C.E.io, p.1 ≠ i) :
    DE X C (.ListComp elt [⟨tg, iter, ifs, 0⟩] scope pos) (evLc oi fi g t f) := by
  subst ho
  obtain ⟨wi, pi, hwi⟩ := hi.pi
  exact ⟨(pe_lc hc hN pi ok hg (fun s H C cl fp => (ht s H C cl fp).pt) (fun s H C cl fp => (he s H C cl fp).pe) hs).weak fun σ H Q q => tLc_of hwi gk his hio q⟩
theorem ds_setLc {is oi : List Nat} {t0 : TG} {ifs : List Expr} {fi : Sl → Res (List M × List D)} {g : D → Sl → Option Sl} {t : Option (Sl → Res Rv)} {f : Sl → Res Rv} {i : Nat} {y : Str} {py spos : Pos}
    (hc : X.calm = true) (hN : X.N.Nodup) (hy : X.N[i]? = some y) (hyl : X.env.scope.names.lookup y = some .local) (hsw : swapsWith (.ListComp elt [⟨tg, iter, ifs, 0⟩] scope pos) (some (.Name y py)) spos.line X.env = pure true)
    (hi : DI X C tg iter fi) (ok : BlkOk X.N X.env.scope scope own) (hg : Blk X scope fun Y => PG Y tg t0) (gk : GOk C.shut is t0 g) (ht : Blk X scope fun Y => Tst Y C.shut ifs t) (he : Blk X scope fun Y => DE Y C.shut elt f)
    (ho : own.map (·.2) = oi) (hs : ∀ x, foldedSetIterable iter X.env x = pure x) (his : ∀ i ∈ is, i ∈ oi) (hio : ∀ i ∈ oi, ∀ p ∈ C.E.io, p.1 ≠ i) (hB : slotB C i) :
    DS X C (.Assign [.Name y py] (.ListComp elt [⟨tg, iter, ifs, 0⟩] scope pos) spos) (sSet i (evLc oi fi g t f)) := by
  subst ho
  obtain ⟨wi, pi, hwi⟩ := hi.pi
  refine ⟨(ps_setLc hc hN hy hyl hsw pi ok hg (fun s H C cl fp => (ht s H C cl fp).pt) (fun s H C cl fp => (he s H C cl fp).pe) hs).weak fun D σ H q => ?_⟩
  refine tLc_of hwi gk his hio (Q := fun x H1 => gName i x σ H1 D.nx) ?_
  refine sBind_of q fun p env ts vs v H1 h1 lt ev w => ?_
  cases e1 : valOf p env with
  | exc x env2 => rw [e1] at w; exact w.elim
  | stuck => rw [e1] at w; exact w.elim
  | ok r env2 =>
    rw [e1] at w
    cases r with
    | inl j => exact w.elim
    | inr m =>
      have h2 := valOf_of h1 lt ev e1
      refine w _ H1 (put_of h2 lt ?_ hB.2)
      obtain ⟨F, h2⟩ := h2
      rw [h2.ln]
      exact hB.1
end
end Yf
namespace Yf
open PySem PySem.Spec L2
open PyProof.Rows hiding St
/-! ### methods of a slot's own list -/
def evMeth (i : Nat) (fs : List (Sl → Res Rv)) (g : List D → List D → Option (D × List D)) : Sl → Res Rv := fun env =>
  match (env[i]?).join with
  | some (.lst _) =>
    (evDs fs env).bind fun as env1 =>
      match (env1[i]?).join with
      | some (.lst ds) =>
        match g ds as with
        | some (res, ds') => .ok (.inr (.d res)) (env1.set i (some (.lst ds')))
        | none => .stuck
      | _ => .stuck
  | _ => .stuck
def MG (r : V → List V → Hp → VK → Prop) (g : List D → List D → Option (D × List D)) : Prop := ∀ {K : PySem.W.Frag} {H : Hp} {O : Addr → Prop} {l : Addr} {xs : List V} {ds as : List D} {ws : List V} {res : D} {ds' : List D} {Q : VK},
  H l = some (.lst xs) → RepAll K H O ds xs → RepAll K H O as ws → g ds as = some (res, ds') → (∀ y xs', RepAll K H O ds' xs' → (∀ H', Step H O H' O → Rep K H' O res y) → Q y (upd H l (.lst xs'))) → r (.ref l) ws H Q
section
variable {C : Kx} {env : Sl} {ts : List M} {σ : St} {vs : List V} {H : Hp} {F : Rt → List Addr}
theorem own_step {K : PySem.W.Frag} {E : Ent} (h : SR K E env ts σ vs H F) {l : Addr} {o : HO} (ow : Own F l) : Step H (Av E F) (upd H l o) (Av E F) := fun a u e n => ⟨by rw [upd_ne (fun z => n (.inl (by rw [z]; exact ow)))]; exact e, n⟩
theorem slot_lst {K : PySem.W.Frag} {E : Ent} (h : SR K E env ts σ vs H F) {i : Nat} {ds : List D} (e : (env[i]?).join = some (.lst ds)) : ∃ l xs, σ[i]? = some (some (.ref l)) ∧ F (.s i) = [l] ∧ H l = some (.lst xs) ∧ RepAll K H (Av E F) ds xs := by
  obtain ⟨v, ev, q⟩ := getσ h e
  simp only [RepM] at q
  obtain ⟨l, xs, rfl, f, e1, r⟩ := q
  exact ⟨l, xs, ev, f, e1, r⟩
theorem tMeth_of {i : Nat} {fs : List (Sl → Res Rv)} {g : List D → List D → Option (D × List D)} {r : V → List V → Hp → VK → Prop} (m : MG r g) {Q : VK} (h : tE C (evMeth i fs g) σ H Q) :
    ∃ l, σ[i]? = some (some (.ref l)) ∧ (∃ xs, SqL C.K H l xs) ∧ tAs (fs.map (tE C)) σ H fun xs H2 => r (.ref l) xs H2 Q := by
  obtain ⟨env, ts, vs, h, q⟩ := h
  simp only [evMeth] at q
  cases e0 : (env[i]?).join with
  | none => rw [e0] at q; exact q.elim
  | some m0 =>
    rw [e0] at q
    cases m0 with
    | d _ => exact q.elim
    | dct _ => exact q.elim
    | lst ds0 =>
      simp only at q
      obtain ⟨F0, h0⟩ := id h
      obtain ⟨l, xs0, ev, _, hl0, _⟩ := slot_lst h0 e0
      refine ⟨l, ev, ⟨xs0, .inl (.inl hl0)⟩, tDs_of h ?_⟩
      cases e1 : evDs fs env with
      | stuck => rw [e1] at q; exact q
      | exc x env1 => rw [e1] at q; exact q
      | ok as env1 =>
        rw [e1] at q
        simp only [Res.bind] at q
        intro ws H2 lt lw h2
        cases e2 : (env1[i]?).join with
        | none => rw [e2] at q; exact q.elim
        | some m1 =>
          rw [e2] at q
          cases m1 with
          | d _ => exact q.elim
          | dct _ => exact q.elim
          | lst ds =>
            simp only at q
            cases e3 : g ds as with
            | none => rw [e3] at q; exact q.elim
            | some r0 =>
              obtain ⟨res, ds'⟩ := r0
              rw [e3] at q
              simp only at q
              obtain ⟨F, h2⟩ := h2
              have ra := repAll_at (tm := []) (vm := []) (by simpa using h2) lt lw.symm
              obtain ⟨l', xs', ev', fe, hl, rd, k⟩ := h2.setLst (r := .s i) (v := .ref l) e2 (by show (σ[i]?).join = _; rw [ev]; rfl)
              cases ev'
              refine m hl rd ra e3 fun y xs2 r2 ry => ?_
              have hi : i < env1.length := by
                apply Classical.byContradiction
                intro n
                rw [List.getElem?_eq_none (by omega)] at e2
                cases e2
              have h3 := k ds' xs2 (env1.set i (some (.lst ds'))) (ts ++ as.map .d) r2 (fun q => by rw [getR_set hi]) (by simp) rfl
              have h4 : SRel C.K C.E (env1.set i (some (.lst ds'))) ts σ vs (upd H2 l (.lst xs2)) := SRel.pops ⟨F, h3⟩ lt (by simp [lw])
              have h5 := h3.pushD (ry _ (own_step h2 ⟨.s i, by rw [fe]; simp⟩))
              refine q y _ (SRel.squash ⟨F, h5⟩ lt (by simp [lw])) ?_
              show (vs ++ [y])[ts.length]? = _
              rw [lt]; simp
variable {X : Cx} {i : Nat} {x : Str} {p apos cpos : Pos} {e : Expr} {es : List Expr} {fs : List (Sl → Res Rv)} {name : Str} {id : String} {r : V → List V → Hp → VK → Prop} {g : List D → List D → Option (D × List D)}
theorem de_meth (slot : Slot "list" name id) (hty : typeOf (.builtin id) = pure (.type "method_descriptor")) (hm : MtR X id r) (m : MG r g) (hK : X.K = C.K) (hN : X.N[i]? = some x) (hv : Vis X.env.scope x) (hd : (x == ("__debug__" : Str)) = false) (hcd : (x == ("__classdict__" : Str)) = false)
    (ha : DA X C (e :: es) fs) (hbase : attributeBase (.Name x p) name X.env (eval (.Name x p) X.env) = eval (.Name x p) X.env)
    (hfew : ((backTo cpos (starEach (e :: es) X.env)).all (fun x => !x.1) && (backToKw cpos (keywordEach [] X.env)).all (fun x => x.1.isSome)
      && decide ((e :: es).length + ([] : List Keyword).length + (if ([] : List Keyword).isEmpty then 0 else 1) < 30)) = true)
    (hline : (apos.endLine == cpos.line) = true) (hs : starEach (e :: es) X.env = (false, eval e X.env) :: starEach es X.env) (hplain : (backTo cpos (starEach es X.env)).any (·.1) = false) :
    DE X C (.Call (.Attribute (.Name x p) name apos) (e :: es) [] cpos) (evMeth i fs g) := by
  refine ⟨(pe_bm PySem.F.plainAttrs_list slot hty hm (pe_var hN hv hd hcd) ha.pa hbase hfew hline hs hplain).weak fun σ H Q q => ?_⟩
  obtain ⟨l, ev, sq, z⟩ := tMeth_of m q
  exact ⟨.ref l, ev, .inl ⟨rfl, by rw [hK]; exact sq⟩, z⟩
theorem de_meth0 (slot : Slot "list" name id) (hty : typeOf (.builtin id) = pure (.type "method_descriptor")) (hm : MtR X id r) (m : MG r g) (hK : X.K = C.K) (hN : X.N[i]? = some x) (hv : Vis X.env.scope x) (hd : (x == ("__debug__" : Str)) = false) (hcd : (x == ("__classdict__" : Str)) = false)
    (hbase : attributeBase (.Name x p) name X.env (eval (.Name x p) X.env) = eval (.Name x p) X.env) (hline : (apos.endLine == cpos.line) = true) :
    DE X C (.Call (.Attribute (.Name x p) name apos) [] [] cpos) (evMeth i [] g) := by
  refine ⟨(pe_bm0 PySem.F.plainAttrs_list slot hty hm (pe_var hN hv hd hcd) hbase hline).weak fun σ H Q q => ?_⟩
  obtain ⟨l, ev, sq, z⟩ := tMeth_of m q
  exact ⟨.ref l, ev, .inl ⟨rfl, by rw [hK]; exact sq⟩, z⟩
def mAppend (ds as : List D) : Option (D × List D) :=
  match as with
  | [d] => if ds.length < sizeLine then some (.none, ds ++ [d]) else none
  | _ => none
theorem mg_append : MG rAppend mAppend := by
  intro K H O l xs ds as ws res ds' Q hl rd ra e k
  unfold mAppend at e
  split at e
  · rename_i d
    split at e
    · rename_i c
      cases e
      simp only [RepAll] at ra
      obtain ⟨y, s, rfl, ry, rfl⟩ := ra
      exact ⟨l, xs, y, rfl, rfl, hl, by rw [← repAll_len rd]; exact c, k _ _ (repAll_snoc ry rd) fun H' _ => by simp only [Rep]⟩
    · cases e
  · cases e
theorem repAll_last {K : PySem.W.Frag} {O : Addr → Prop} : ∀ {ds : List D} {xs : List V} {d : D}, RepAll K H O ds xs → ds.getLast? = some d → ∃ y, xs[xs.length - 1]? = some y ∧ Rep K H O d y ∧ RepAll K H O ds.dropLast xs.dropLast := by
  intro ds xs d h e
  have l := repAll_len h
  obtain ⟨ys, rfl⟩ := List.getLast?_eq_some_iff.mp e
  obtain ⟨y, ey, ry⟩ := repAll_get (i := ys.length) (d := d) h (by simp)
  have hx : xs.length = ys.length + 1 := by simpa using l.symm
  refine ⟨y, by rw [hx]; simpa using ey, ry, ?_⟩
  rw [List.dropLast_concat]
  refine repAll_of (by simp [hx]) fun j d' x' e1 e2 => ?_
  have hj := (List.getElem?_eq_some_iff.mp e1).1
  obtain ⟨z, ez, rz⟩ := repAll_get (i := j) (d := d') h (by rw [List.getElem?_append_left hj]; exact e1)
  rw [List.getElem?_dropLast] at e2
  split at e2
  · rw [ez] at e2; cases e2; exact rz
  · cases e2
def mPop (ds as : List D) : Option (D × List D) :=
  match as with
  | [] => (match ds.getLast? with | some d => some (d, ds.dropLast) | none => none)
  | _ => none
theorem mg_pop : MG rPop mPop := by
  intro K H O l xs ds as ws res ds' Q hl rd ra e k
  unfold mPop at e
  split at e
  · split at e
    · rename_i d ed
      cases e
      simp only [RepAll] at ra
      obtain ⟨y, ey, ry, r2⟩ := repAll_last rd ed
      exact ⟨l, xs, y, rfl, ra, hl, ey, k _ _ r2 fun H' st => ry.step st⟩
    · cases e
  · cases e
def mPopAt (ds as : List D) : Option (D × List D) :=
  match as with
  | [.int i] => if -(2 ^ 63) ≤ i ∧ i < 2 ^ 63 then (match seqIndex? i ds.length with | some k => (match ds[k]? with | some d => some (d, ds.eraseIdx k) | none => none) | none => none) else none
  | _ => none
theorem repAll_erase {K : PySem.W.Frag} {O : Addr → Prop} : ∀ {ds : List D} {xs : List V} (k : Nat), RepAll K H O ds xs → RepAll K H O (ds.eraseIdx k) (xs.eraseIdx k)
  | [], _, k, h => by
    simp only [RepAll] at h
    subst h
    simp [RepAll]
  | d :: ds, _, k, h => by
    simp only [RepAll] at h
    obtain ⟨x, s, rfl, a, b⟩ := h
    cases k with
    | zero => simpa using b
    | succ k =>
      simp only [List.eraseIdx_cons_succ, RepAll]
      exact ⟨x, _, rfl, a, repAll_erase k b⟩
theorem mg_popAt : MG rPopAt mPopAt := by
  intro K H O l xs ds as ws res ds' Q hl rd ra e k
  unfold mPopAt at e
  split at e
  · rename_i i
    split at e
    · rename_i c
      split at e
      · rename_i j ej
        split at e
        · rename_i d ed
          cases e
          simp only [RepAll] at ra
          obtain ⟨w, s, rfl, rw1, rfl⟩ := ra
          simp only [Rep] at rw1
          subst rw1
          obtain ⟨y, ey, ry⟩ := repAll_get rd ed
          exact ⟨l, xs, i, j, y, rfl, rfl, hl, c.1, c.2, by rw [← repAll_len rd]; exact ej, ey, k _ _ (repAll_erase j rd) fun H' st => ry.step st⟩
        · cases e
      · cases e
    · cases e
  · cases e
end
/-! ### a list within a slot's own dict -/
def setM (kvs : List (Key × M)) (k : Key) (m : M) : List (Key × M) :=
  match kvs with
  | [] => []
  | (j, n) :: r => if j = k then (j, m) :: r else (j, n) :: setM r k m
section
variable {K : PySem.W.Frag} {H : Hp} {O : Addr → Prop}
theorem repMs_lst : ∀ {kvs : List (Key × M)} {ks : List (Key × V)} {g : List Addr} {k : Key} {ds : List D}, RepMs K H O kvs ks g → valM kvs k = some (.lst ds) → (∀ a ∈ g, O a) →
    ∃ l xs, valV ks k = some (.ref l) ∧ l ∈ g ∧ H l = some (.lst xs) ∧ RepAll K H O ds xs ∧ ∀ ds' xs', RepAll K H O ds' xs' → RepMs K (upd H l (.lst xs')) O (setM kvs k (.lst ds')) ks g
  | [], _, _, k, ds, h, e, _ => by simp [valM] at e
  | (j, m) :: kvs, _, _, k, ds, h, e, ho => by
    simp only [RepMs] at h
    obtain ⟨x, s, f, g', rfl, rfl, nd, q, h⟩ := h
    by_cases c : j = k
    · have e1 : m = .lst ds := by simpa [valM, c] using e
      subst e1
      simp only [RepM] at q
      obtain ⟨l, xs, rfl, rfl, hl, ra⟩ := q
      refine ⟨l, xs, valV_pos (p := (j, V.ref l)) c, by simp, hl, ra, fun ds' xs' ra' => ?_⟩
      have ow : O l := ho l (by simp)
      have st : Step H O (upd H l (.lst xs')) O := fun a o ea n => ⟨by rw [upd_ne (fun z => n (by rw [z]; exact ow))]; exact ea, n⟩
      simp only [setM, if_pos c, RepMs]
      refine ⟨.ref l, s, [l], g', rfl, rfl, nd, ?_, h.step st fun a ha => upd_ne fun z => nd l (by simp) (by rw [← z]; exact ha)⟩
      simp only [RepM]
      exact ⟨l, xs', rfl, rfl, upd_same, ra'.step st⟩
    · have e1 : valM kvs k = some (.lst ds) := by simpa [valM, c] using e
      obtain ⟨l, xs, e2, hg, hl, ra, kk⟩ := repMs_lst h e1 fun a ha => ho a (by simp [ha])
      refine ⟨l, xs, by rw [valV_neg (p := (j, x)) c]; exact e2, by simp [hg], hl, ra, fun ds' xs' ra' => ?_⟩
      have ow : O l := ho l (by simp [hg])
      have st : Step H O (upd H l (.lst xs')) O := fun a o ea n => ⟨by rw [upd_ne (fun z => n (by rw [z]; exact ow))]; exact ea, n⟩
      simp only [setM, if_neg c, RepMs]
      exact ⟨x, s, f, g', rfl, rfl, nd, q.step st fun a ha => upd_ne fun z => nd a ha (by rw [z]; exact hg), kk ds' xs' ra'⟩
def isDM : M → Bool
  | .d _ => true
  | _ => false
def setD (kvs : List (Key × M)) (k : Key) (d : D) : List (Key × M) := kvs.map fun kv => if kv.1 = k then (kv.1, .d d) else kv
theorem repMs_put : ∀ {kvs : List (Key × M)} {ks : List (Key × V)} {g : List Addr} {k : Key} {d : D} {v : V}, RepMs K H O kvs ks g → (kvs.all fun kv => !decide (kv.1 = k) || isDM kv.2) = true → Rep K H O d v →
    RepMs K H O (setD kvs k d) (ks.map fun kv => if kv.1 = k then (kv.1, v) else kv) g
  | [], _, _, _, _, _, h, _, _ => by
    simp only [RepMs] at h
    obtain ⟨rfl, rfl⟩ := h
    simp [setD, RepMs]
  | (j, m) :: kvs, _, _, k, d, v, h, al, r => by
    simp only [RepMs] at h
    obtain ⟨x, s, f, g', rfl, rfl, nd, q, h⟩ := h
    simp only [List.all_cons, Bool.and_eq_true] at al
    have ih := repMs_put h al.2 r
    by_cases c : j = k
    · have c2 : isDM m = true := by simpa [c] using al.1
      cases m with
      | d d0 =>
        simp only [RepM] at q
        simp only [setD, List.map_cons, if_pos c, RepMs]
        exact ⟨v, _, f, g', rfl, rfl, nd, ⟨q.1, r⟩, ih⟩
      | lst _ => cases c2
      | dct _ => cases c2
    · simp only [setD, List.map_cons, if_neg c, RepMs]
      exact ⟨x, _, f, g', rfl, rfl, nd, q, ih⟩
end
def lstAt (env : Sl) (i : Nat) (k : Str) : Option (List (Key × M) × List D) :=
  match (env[i]?).join with
  | some (.dct kvs) => (match valM kvs (.inr k) with | some (.lst ds) => some (kvs, ds) | _ => none)
  | _ => none
section
variable {C : Kx} {env : Sl} {ts : List M} {σ : St} {vs : List V} {H : Hp} {F : Rt → List Addr}
theorem lstAt_of {K : PySem.W.Frag} {E : Ent} (h : SR K E env ts σ vs H F) {i : Nat} {k : Str} {kvs : List (Key × M)} {ds : List D} (e : lstAt env i k = some (kvs, ds)) :
    ∃ a l xs, σ[i]? = some (some (.ref a)) ∧ DGet H a (.str k) (some (.ref l)) ∧ H l = some (.lst xs) ∧ RepAll K H (Av E F) ds xs ∧ Own F l ∧
      ∀ ds' xs', RepAll K H (Av E F) ds' xs' → SR K E (env.set i (some (.dct (setM kvs (.inr k) (.lst ds'))))) ts σ vs (upd H l (.lst xs')) F := by
  unfold lstAt at e
  cases e1 : (env[i]?).join with
  | none => rw [e1] at e; cases e
  | some m =>
    rw [e1] at e
    cases m with
    | d _ => cases e
    | lst _ => cases e
    | dct kvs0 =>
      simp only at e
      cases e2 : valM kvs0 (.inr k) with
      | none => rw [e2] at e; cases e
      | some m2 =>
        rw [e2] at e
        cases m2 with
        | d _ => cases e
        | dct _ => cases e
        | lst ds0 =>
          simp only [Option.some.injEq, Prod.mk.injEq] at e
          obtain ⟨rfl, rfl⟩ := e
          obtain ⟨v, ev, q⟩ := getσ h e1
          simp only [RepM] at q
          obtain ⟨a, ks, g, rfl, ef, na, hd, rm⟩ := q
          have ho : ∀ b ∈ g, Av E F b := fun b hb => .inl ⟨.s i, by rw [ef]; simp [hb]⟩
          obtain ⟨l, xs, e3, hg, hl, ra, kk⟩ := repMs_lst rm e2 ho
          have ow : Own F l := ⟨.s i, by rw [ef]; simp [hg]⟩
          have nal : a ≠ l := fun z => na (by rw [z]; exact hg)
          refine ⟨a, l, xs, ev, ?_, hl, ra, ow, fun ds' xs' ra' => ?_⟩
          · rw [← e3]; exact DGet.k (k := .inr k) hd
          · have hi : i < env.length := by
              apply Classical.byContradiction
              intro n
              rw [List.getElem?_eq_none (by omega)] at e1
              cases e1
            have ff : fset F (.s i) (a :: g) = F := by
              funext q
              unfold fset
              split
              · rename_i c; subst c; exact ef.symm
              · rfl
            have := h.write (r := .s i) (f := a :: g) (H' := upd H l (.lst xs')) (m' := .dct (setM kvs0 (.inr k) (.lst ds'))) (env' := env.set i (some (.dct (setM kvs0 (.inr k) (.lst ds'))))) (ts' := ts) e1 (by show (σ[i]?).join = _; rw [ev]; rfl) (fun q => by rw [getR_set hi]) (by simp) rfl
              (fun b o n eb => by rw [upd_ne (fun z => n (by rw [ef, z]; simp [hg]))]; exact eb) (fun b hb => .inl (by rw [ef]; exact hb)) ?_
            · rwa [ff] at this
            · rw [ff]
              simp only [RepM]
              exact ⟨a, ks, g, rfl, rfl, na, by rw [upd_ne nal]; exact hd, kk ds' xs' ra'⟩
/-- d['k'].pop() -/
def evPopK (i : Nat) (k : Str) : Sl → Res Rv := fun env =>
  match lstAt env i k with
  | some (kvs, ds) => (match ds.getLast? with | some d => .ok (.inr (.d d)) (env.set i (some (.dct (setM kvs (.inr k) (.lst ds.dropLast))))) | none => .stuck)
  | none => .stuck
/-- d['k'] != [], == [] -/
def evNeK (b : Bool) (i : Nat) (k : Str) : Sl → Res Rv := fun env =>
  match lstAt env i k with
  | some (_, ds) => .ok (.inr (.d (.bool (if ds.isEmpty then b else !b)))) env
  | none => .stuck
variable {X : Cx} {i : Nat} {x k : Str} {p p2 p3 pos apos cpos : Pos} {j : Nat}
theorem pe_recvK (hu : X.A.units + 1 < cLine) (hN : X.N[i]? = some x) (hv : Vis X.env.scope x) (hd : (x == ("__debug__" : Str)) = false) (hcd : (x == ("__classdict__" : Str)) = false) (hs : PlainIx (.Constant (.str k) j p2)) :
    PE X (.Subscript (.Name x p) (.Constant (.str k) j p2) p3) (fun σ H Q => ∃ a l, σ[i]? = some (some (.ref a)) ∧ DGet H a (.str k) (some (.ref l)) ∧ Q (.ref l) H) := by
  refine (pe_ix (ix_dict hu) (pe_var hN hv hd hcd) pe_str hs).weak fun σ H Q ⟨a, l, e1, e2, q⟩ => ⟨.ref a, e1, ?_⟩
  exact ⟨a, .ref l, rfl, e2, q⟩
theorem de_popK (hu : X.A.units + 1 < cLine) (hK : X.K = C.K) (hN : X.N[i]? = some x) (hv : Vis X.env.scope x) (hd : (x == ("__debug__" : Str)) = false) (hcd : (x == ("__classdict__" : Str)) = false) (hs : PlainIx (.Constant (.str k) j p2))
    (hbase : attributeBase (.Subscript (.Name x p) (.Constant (.str k) j p2) p3) "pop" X.env (eval (.Subscript (.Name x p) (.Constant (.str k) j p2) p3) X.env) = eval (.Subscript (.Name x p) (.Constant (.str k) j p2) p3) X.env) (hline : (apos.endLine == cpos.line) = true) :
    DE X C (.Call (.Attribute (.Subscript (.Name x p) (.Constant (.str k) j p2) p3) "pop" apos) [] [] cpos) (evPopK i k) := by
  refine ⟨(pe_bm0 PySem.F.plainAttrs_list PySem.F.slot_list_pop PySem.F.type_list_pop mt_pop (pe_recvK hu hN hv hd hcd hs) hbase hline).weak fun σ H Q q => ?_⟩
  obtain ⟨env, ts, vs, h, q⟩ := q
  have lt := h.lent
  obtain ⟨F, h⟩ := h
  simp only [evPopK] at q
  cases e : lstAt env i k with
  | none => rw [e] at q; exact q.elim
  | some r =>
    obtain ⟨kvs, ds⟩ := r
    rw [e] at q
    simp only at q
    cases e2 : ds.getLast? with
    | none => rw [e2] at q; exact q.elim
    | some d =>
      rw [e2] at q
      obtain ⟨a, l, xs, ev, g, hl, ra, ow, kk⟩ := lstAt_of h e
      obtain ⟨y, ey, ry, r2⟩ := repAll_last ra e2
      refine ⟨a, l, ev, g, .inl ⟨rfl, xs, by rw [hK]; exact .inl (.inl hl)⟩, l, xs, y, rfl, rfl, hl, ey, ?_⟩
      refine q y _ ⟨F, (kk _ _ r2).pushD (ry.step (own_step h ow))⟩ ?_
      show (vs ++ [y])[ts.length]? = _
      rw [lt]; simp
end
end Yf
namespace Yf
open PySem PySem.Spec L2
open PyProof.Rows hiding St
section
variable {C : Kx} {env : Sl} {ts : List M} {σ : St} {vs : List V} {H : Hp} {F : Rt → List Addr} {X : Cx}
/-! ### isinstance(e, T) -/
def evIsi (n : String) (f : Sl → Res Rv) : Sl → Res Rv := fun env => (f env).bind fun p env' =>
  match getO env' p with
  | some m => (match kitB (tyName m) n with | some b => .ok (.inr (.d (.bool b))) env' | none => .stuck)
  | none => .stuck
theorem de_isi {n : String} {f : Sl → Res Rv} {x : Str} {e : Expr} {p p2 pos : Pos} (hK : X.K = C.K) (hg : Gl X "isinstance") (hm : X.mg "isinstance" = none) (hv : bootBuiltins "isinstance" = some (.builtin "isinstance")) (hg2 : Gl X x) (hm2 : X.mg x = none) (hv2 : bootBuiltins x = some (.type n))
    (hn : x ≠ "__name__") (hd : (x == ("__debug__" : Str)) = false) (he : DE X C e f)
    (hs : starEach [e, .Name x p2] X.env = (false, eval e X.env) :: starEach [.Name x p2] X.env) (hs2 : starEach [.Name x p2] X.env = (false, eval (.Name x p2) X.env) :: starEach [] X.env) (hpl : (backTo pos (starEach [.Name x p2] X.env)).any (·.1) = false) :
    DE X C (.Call (.Name "isinstance" p) [e, .Name x p2] [] pos) (evIsi n f) := by
  refine ⟨(pe_callB call_isi hg hm hv (pa_cons he.pe (pa_cons (pe_bltn hg2 hm2 hv2 (show RelV (.ty n) (.type n) from rfl) hn hd) pa_nil hs2) hs) (by decide) (by decide) hs hpl).weak fun σ H Q q => ?_⟩
  obtain ⟨env, ts, vs, h, q⟩ := q
  refine ⟨env, ts, vs, h, ?_⟩
  simp only [evIsi] at q
  cases e1 : f env with
  | stuck => rw [e1] at q; exact q
  | exc x env1 => rw [e1] at q; exact q
  | ok r env1 =>
    rw [e1] at q
    simp only [Res.bind] at q
    intro v H1 h1 ev
    cases e2 : getO env1 r with
    | none => rw [e2] at q; exact q.elim
    | some m =>
      rw [e2] at q
      simp only at q
      cases e3 : kitB (tyName m) n with
      | none => rw [e3] at q; exact q.elim
      | some b =>
        rw [e3] at q
        obtain ⟨F, h1⟩ := h1
        have lt := h.lent
        have g : getR env1 (ts ++ ext r) (root r ts.length) = some m := by
          have := getR_root (p := r) (env := env1) (ts := ts) (more := [])
          rw [List.append_nil] at this
          rw [this, e2]
        obtain ⟨v', ev', qm⟩ := h1.rep _ _ g
        rw [ev] at ev'
        cases ev'
        show rIsi X.K [v, .ty n] H1 Q
        refine ⟨v, .ty n, .type (tyName m), .type n, b, rfl, .ty n, by rw [hK]; exact ty_rep qm, kit_ty e3, ?_⟩
        obtain ⟨F2, h2⟩ := h1.pops lt (ext_len r v)
        refine q (.bl b) H1 ⟨F2, h2.pushD (by simp only [Rep])⟩ ?_
        show (vs ++ [V.bl b])[ts.length]? = _
        rw [lt]; simp
/-! ### d[k] = e -/
def sPutK (i : Nat) (k : Str) (f : Sl → Res Rv) : Sl → SRes := fun env =>
  match evDs [f] env with
  | .ok [d] env1 =>
    (match (env1[i]?).join with
    | some (.dct kvs) => if (kvs.all fun kv => !decide (kv.1 = .inr k) || isDM kv.2) && (kvs.any fun kv => decide (kv.1 = .inr k)) && decide (kvs.length < sizeLine) then .nx (env1.set i (some (.dct (setD kvs (.inr k) d)))) else .stuck
    | _ => .stuck)
  | .exc x env1 => .exc x env1
  | _ => .stuck
theorem any_keys {K : PySem.W.Frag} {O : Addr → Prop} {kvs : List (Key × M)} {ks : List (Key × V)} {g : List Addr} {k : Key} (h : RepMs K H O kvs ks g) (e : (kvs.any fun kv => decide (kv.1 = k)) = true) : (ks.any fun kv => decide (kv.1 = k)) = true := by
  have z := (ms_keys h).1
  rw [List.any_eq_true] at e ⊢
  obtain ⟨p, hp, e⟩ := e
  have : p.1 ∈ ks.map (·.1) := by rw [← z]; exact List.mem_map.mpr ⟨p, hp, rfl⟩
  obtain ⟨q, hq, e2⟩ := List.mem_map.mp this
  exact ⟨q, hq, by rw [e2]; exact e⟩
theorem ds_putK {i j : Nat} {x k : Str} {f : Sl → Res Rv} {e : Expr} {p p2 p3 pos : Pos} (hu : X.A.units + 1 < cLine) (hN : X.N[i]? = some x) (hv : Vis X.env.scope x) (hd : (x == ("__debug__" : Str)) = false) (hcd : (x == ("__classdict__" : Str)) = false)
    (he : DE X C e f) (hs : swapsWith e (some (.Subscript (.Name x p) (.Constant (.str k) j p2) p3)) pos.line X.env = pure false) : DS X C (.Assign [.Subscript (.Name x p) (.Constant (.str k) j p2) p3] e pos) (sPutK i k f) := by
  refine ⟨(ps_dput hu (pe_var hN hv hd hcd) pe_str he.pe hs).weak fun D σ H q => ?_⟩
  obtain ⟨env, ts, vs, h, q⟩ := q
  have lt := h.lent
  simp only [sPutK] at q
  have key : ∀ (Q : VK), PostD C (evDs [f] env) ts σ vs (fun ws H' => match ws with | [v] => Q v H' | _ => False) → tE C f σ H Q := fun Q q => tDs_of (fs := [f]) h q
  refine key _ ?_
  cases e1 : evDs [f] env with
  | stuck => rw [e1] at q; exact q
  | exc x env1 => rw [e1] at q; exact fun cls dx H1 hx => q cls dx σ H1 hx
  | ok ds env1 =>
    rw [e1] at q
    intro ws H1 lt lw h1
    rcases ds with _ | ⟨d, _ | ⟨d2, ds⟩⟩
    · exact False.elim q
    rotate_left
    · exact False.elim q
    rcases ws with _ | ⟨v, _ | ⟨v2, ws⟩⟩
    · simp at lw
    rotate_left
    · simp at lw
    dsimp only at q
    cases e2 : (env1[i]?).join with
    | none => rw [e2] at q; exact q.elim
    | some m =>
      rw [e2] at q
      cases m with
      | d _ => exact q.elim
      | lst _ => exact q.elim
      | dct kvs =>
        simp only at q
        split at q
        · rename_i c
          simp only [Bool.and_eq_true, decide_eq_true_eq] at c
          obtain ⟨F, h1⟩ := h1
          have h1 : SR C.K C.E env1 (ts ++ [.d d]) σ (vs ++ [v]) H1 F := by simpa using h1
          obtain ⟨F2, h2, r⟩ := h1.popD lt
          obtain ⟨u, eu, qm⟩ := getσ h2 e2
          simp only [RepM] at qm
          obtain ⟨a, ks, g, rfl, ef, na, hd, rm⟩ := qm
          have hi : i < env1.length := by
            apply Classical.byContradiction
            intro n
            rw [List.getElem?_eq_none (by omega)] at e2
            cases e2
          have al : (kvs.all fun kv => !decide (kv.1 = .inr k) || isDM kv.2) = true := c.1.1
          have ow : Own F2 a := ⟨.s i, by rw [ef]; simp⟩
          have pk : putK ks (.inr k) v = ks.map (fun kv => if kv.1 = .inr k then (kv.1, v) else kv) := by
            unfold putK
            rw [if_pos (any_keys rm c.1.2)]
          have rp := repMs_put rm al (show Rep C.K H1 (Av C.E F2) d v from r)
          refine ⟨.ref a, eu, .inl ⟨ks, .inr k, hd, rfl, by rw [← (ms_keys rm).2]; exact c.2, rfl⟩ |> fun z => ⟨a, _, rfl, z, ?_⟩⟩
          have ff : fset F2 (.s i) (a :: g) = F2 := by
            funext q
            unfold fset
            split
            · rename_i c; subst c; exact ef.symm
            · rfl
          have := h2.write (r := .s i) (f := a :: g) (H' := upd H1 a (.dK (putK ks (.inr k) v))) (m' := .dct (setD kvs (.inr k) d)) (env' := env1.set i (some (.dct (setD kvs (.inr k) d)))) (ts' := ts) e2 (by show (σ[i]?).join = _; rw [eu]; rfl) (fun q => by rw [getR_set hi]) (by simp) rfl
            (fun b o n eb => by rw [upd_ne (fun z => n (by rw [ef, z]; simp))]; exact eb) (fun b hb => .inl (by rw [ef]; exact hb)) ?_
          · exact q σ _ ⟨_, this⟩
          · rw [ff]
            simp only [RepM]
            refine ⟨a, _, g, rfl, rfl, na, upd_same, ?_⟩
            rw [pk]
            exact rp.step (own_step h2 ow) fun b hb => upd_ne fun z => na (by rw [← z]; exact hb)
        · exact q.elim
/-! ### d['k'].append(y // max(2, z)) -/
def evAppK (i : Nat) (k : Str) (j l : Nat) : Sl → Res Rv := fun env =>
  match lstAt env i k, (env[j]?).join, (env[l]?).join with
  | some (kvs, ds), some (.d (.int y)), some (.d (.int z)) => if ds.length < sizeLine ∧ (if z > 2 then z else 2).natAbs.log2 < 9000 then .ok (.inr (.d .none)) (env.set i (some (.dct (setM kvs (.inr k) (.lst (ds ++ [.int (y / (if z > 2 then z else 2))])))))) else .stuck
  | _, _, _ => .stuck
theorem slot_int {K : PySem.W.Frag} {E : Ent} (h : SR K E env ts σ vs H F) {i : Nat} {y : Int} (e : (env[i]?).join = some (.d (.int y))) : σ[i]? = some (some (.int y)) := by
  obtain ⟨v, ev, q⟩ := getσ h e
  have q := q.2
  simp only [Rep] at q
  rw [← q]; exact ev
theorem de_appK {i j l n n2 : Nat} {x y z k : Str} {p p2 p3 p4 p5 p6 p7 p8 p9 apos cpos : Pos} (hu : X.A.units + 1 < cLine) (hc : X.calm = true) (hK : X.K = C.K) (hN : X.N[i]? = some x) (hv : Vis X.env.scope x) (hd : (x == ("__debug__" : Str)) = false) (hcd : (x == ("__classdict__" : Str)) = false)
    (hNj : X.N[j]? = some y) (hvj : Vis X.env.scope y) (hdj : (y == ("__debug__" : Str)) = false) (hcdj : (y == ("__classdict__" : Str)) = false) (hNl : X.N[l]? = some z) (hvl : Vis X.env.scope z) (hdl : (z == ("__debug__" : Str)) = false) (hcdl : (z == ("__classdict__" : Str)) = false)
    (hg : Gl X "max") (hm : X.mg "max" = none) (hbv : bootBuiltins "max" = some (.builtin "max")) (hs : PlainIx (.Constant (.str k) n p2))
    (hbase : attributeBase (.Subscript (.Name x p) (.Constant (.str k) n p2) p3) "append" X.env (eval (.Subscript (.Name x p) (.Constant (.str k) n p2) p3) X.env) = eval (.Subscript (.Name x p) (.Constant (.str k) n p2) p3) X.env) (hline : (apos.endLine == cpos.line) = true)
    (hfew : ((backTo cpos (starEach [Expr.BinOp (.Name y p4) .FloorDiv (.Call (.Name "max" p5) [.Constant (.int 2) n2 p6, .Name z p7] [] p8) p9] X.env)).all (fun x => !x.1) && (backToKw cpos (keywordEach [] X.env)).all (fun x => x.1.isSome)
      && decide (([Expr.BinOp (.Name y p4) .FloorDiv (.Call (.Name "max" p5) [.Constant (.int 2) n2 p6, .Name z p7] [] p8) p9]).length + ([] : List Keyword).length + (if ([] : List Keyword).isEmpty then 0 else 1) < 30)) = true) :
    DE X C (.Call (.Attribute (.Subscript (.Name x p) (.Constant (.str k) n p2) p3) "append" apos) [.BinOp (.Name y p4) .FloorDiv (.Call (.Name "max" p5) [.Constant (.int 2) n2 p6, .Name z p7] [] p8) p9] [] cpos) (evAppK i k j l) := by
  refine ⟨(pe_bm PySem.F.plainAttrs_list PySem.F.slot_list_append PySem.F.type_list_append mt_append (pe_recvK hu hN hv hd hcd hs) (pa_cons (pe_op op_fdivW (pe_var hNj hvj hdj hcdj) (pe_callB (cr_max2 hc) hg hm hbv (pa_cons pe_int (pa_cons (pe_var hNl hvl hdl hcdl) pa_nil rfl) rfl) (by decide) (by decide) rfl rfl)) pa_nil rfl) hbase hfew hline rfl rfl).weak fun σ H Q q => ?_⟩
  obtain ⟨env, ts, vs, h, q⟩ := q
  have lt := h.lent
  obtain ⟨F, h⟩ := h
  simp only [evAppK] at q
  split at q
  · rename_i kvs ds a b e ej el
    by_cases c : ds.length < sizeLine ∧ (if b > 2 then b else 2).natAbs.log2 < 9000
    · rw [if_pos c] at q
      obtain ⟨a1, l1, xs, ev, g, hl, ra, ow, kk⟩ := lstAt_of h e
      refine ⟨a1, l1, ev, g, .inl ⟨rfl, xs, by rw [hK]; exact .inl (.inl hl)⟩, ?_⟩
      refine ⟨.int a, slot_int h ej, .int b, slot_int h el, 2, b, rfl, ?_⟩
      refine ⟨a, _, rfl, rfl, ⟨by split <;> omega, c.2⟩, ?_⟩
      refine ⟨l1, xs, _, rfl, rfl, hl, by rw [← repAll_len ra]; exact c.1, ?_⟩
      refine q .non _ ⟨F, (kk _ _ (repAll_snoc (d := .int (a / (if b > 2 then b else 2))) (y := .int _) (by simp only [Rep]) ra)).pushD (by simp only [Rep])⟩ ?_
      show (vs ++ [V.non])[ts.length]? = _
      rw [lt]; simp
    · rw [if_neg c] at q
      exact q.elim
  · exact q.elim
end
end Yf
namespace Yf
open PySem PySem.Spec L2
open PyProof.Rows hiding St
section
variable {C : Kx} {env : Sl} {ts : List M} {σ : St} {vs : List V} {H : Hp} {F : Rt → List Addr} {X : Cx}
/-! ### d['k'] != [] -/
theorem tNeK {i : Nat} {k : Str} {Q : VK} (hK : X.K = C.K) (q : tE C (evNeK false i k) σ H Q) : ∃ a l, σ[i]? = some (some (.ref a)) ∧ DGet H a (.str k) (some (.ref l)) ∧ ([] : List V).length ≤ sizeLine ∧ ∀ o, H o = none → rNe2 X.K (.ref l) (.ref o) (upd H o (.lst [])) Q := by
  obtain ⟨env, ts, vs, h, q⟩ := q
  have lt := h.lent
  obtain ⟨F, h⟩ := h
  simp only [evNeK] at q
  cases e : lstAt env i k with
  | none => rw [e] at q; exact q.elim
  | some r =>
    obtain ⟨kvs, ds⟩ := r
    rw [e] at q
    obtain ⟨a, l, xs, ev, g, hl, ra, ow, kk⟩ := lstAt_of h e
    refine ⟨a, l, ev, g, Nat.zero_le _, fun o no => .inr ⟨l, o, xs, [], rfl, rfl, .inl ⟨.inl (keep_upd no _ _ hl), .inl upd_same⟩, by simp, ?_⟩⟩
    have eb : ((xs.isEmpty && ([] : List V).isEmpty) != true) = (if ds.isEmpty then false else !false) := by
      rw [isEmpty_eq (repAll_len ra)]
      cases xs <;> rfl
    rw [eb]
    refine q _ _ ⟨F, (h.ext (keep_upd (o := .lst []) no)).pushD (by simp only [Rep])⟩ ?_
    show (vs ++ [_])[ts.length]? = _
    rw [lt]; simp
theorem de_neK {i j k2 : Nat} {x k : Str} {p p2 p3 p4 pos : Pos} (hu : X.A.units + 64 < cLine) (hK : X.K = C.K) (hN : X.N[i]? = some x) (hv : Vis X.env.scope x) (hd : (x == ("__debug__" : Str)) = false) (hcd : (x == ("__classdict__" : Str)) = false) (hs : PlainIx (.Constant (.str k) j p2))
    (hm : behindInMarks .NotEq (.List [] p4) = false) : DE X C (.Compare (.Subscript (.Name x p) (.Constant (.str k) j p2) p3) [.NotEq] [.List [] p4] pos) (evNeK false i k) :=
  ⟨(pe_cmpR (or_ne hu) (pe_recvK (by omega) hN hv hd hcd hs) (pe_lst pa_nil) hm).weak fun σ H Q q => tNeK hK q⟩
theorem dt_neK {i j k2 : Nat} {x k : Str} {p p2 p3 p4 pos : Pos} (hu : X.A.units + 64 < cLine) (hK : X.K = C.K) (hN : X.N[i]? = some x) (hv : Vis X.env.scope x) (hd : (x == ("__debug__" : Str)) = false) (hcd : (x == ("__classdict__" : Str)) = false) (hs : PlainIx (.Constant (.str k) j p2))
    (hm : behindInMarks .NotEq (.List [] p4) = false) : DT X C (.Compare (.Subscript (.Name x p) (.Constant (.str k) j p2) p3) [.NotEq] [.List [] p4] pos) (evNeK false i k) :=
  ⟨(pt_cmpR (or_ne hu) (pe_recvK (by omega) hN hv hd hcd hs) (pe_lst pa_nil) hm).weak fun σ H Q q => tNeK hK q⟩
/-! ### a, b = e, f -/
def sPar (i j : Nat) (f g : Sl → Res Rv) : Sl → SRes := fun env =>
  match evs [evV f, evV g] env with
  | .ok [.inr m, .inr n] env1 => .nx ((env1.set j (some n)).set i (some m))
  | .exc x env1 => .exc x env1
  | _ => .stuck
theorem ds_par {i j : Nat} {x y : Str} {a b : Expr} {f g : Sl → Res Rv} {px py pt pt2 pos : Pos} {kt k2 : Nat} (hc : X.calm = true) (hN : X.N.Nodup) (hi : X.N[i]? = some x) (hj : X.N[j]? = some y) (hij : i ≠ j)
    (hx : X.env.scope.names.lookup x = some .local) (hy : X.env.scope.names.lookup y = some .local) (ha : DA X C [a, b] [f, g])
    (hw : swappedStores [.Tuple [.Name x px, .Name y py] kt pt] (.Tuple [a, b] k2 pt2) X.env = pure (some [x, y]))
    (hs : swapsWithSole [.Tuple [.Name x px, .Name y py] kt pt] (.Tuple [a, b] k2 pt2) pos.line X.env = pure false) (hB : slotB C i) (hB2 : slotB C j) :
    DS X C (.Assign [.Tuple [.Name x px, .Name y py] kt pt] (.Tuple [a, b] k2 pt2) pos) (sPar i j f g) := by
  refine ⟨(ps_par hc hN hi hj hij hx hy ha.pa hw hs).weak fun D σ H q => ?_⟩
  obtain ⟨env, ts, vs, h, q⟩ := q
  have lt := h.lent
  refine tAs_val (fs := [f, g]) (tA_of h ?_)
  show PostA C (evs [evV f, evV g] env) ts σ vs _
  simp only [sPar] at q
  cases e : evs [evV f, evV g] env with
  | stuck => rw [e] at q; exact q
  | exc x env1 => rw [e] at q; exact fun cls dx H1 hx => q cls dx σ H1 hx
  | ok ps env1 =>
    rw [e] at q
    rcases ps with _ | ⟨p1, _ | ⟨p2, _ | ⟨p3, ps⟩⟩⟩
    · exact False.elim q
    · cases p1 <;> exact False.elim q
    rotate_left
    · cases p1 <;> first | exact False.elim q | (cases p2 <;> exact False.elim q)
    cases p1 with
    | inl _ => exact False.elim q
    | inr m =>
      cases p2 with
      | inl _ => exact False.elim q
      | inr n =>
        intro ws H1 lw h1 va
        rcases ws with _ | ⟨v, _ | ⟨w, _ | ⟨w3, ws⟩⟩⟩
        · simp at lw
        · simp at lw
        rotate_left
        · simp at lw
        have h2 : SRel C.K C.E env1 (ts ++ [m] ++ [n]) σ (vs ++ [v] ++ [w]) H1 := by simpa [exts, ext, extVs, extV] using h1
        have ln : env1.length = C.E.n := by
          obtain ⟨F, h2⟩ := h2
          exact h2.ln
        have h3 := put_of h2 (by simp [lt]) (by rw [ln]; exact hB2.1) hB2.2
        have h4 := put_of h3 lt (by rw [List.length_set, ln]; exact hB.1) hB.2
        refine ⟨v, w, rfl, ?_⟩
        have := q _ H1 h4
        have e9 : (List.set σ j (some w)).set i (some v) = (List.set σ i (some v)).set j (some w) := List.set_comm _ _ (Ne.symm hij)
        rw [e9] at this
        exact this
/-! ### f(k = e, ..) -/
theorem pe_callK0 {CX : CXT} {k : Nat} {f : Addr} {fd : FuncData} {ps ks : List Str} {sp : Sp} {E : St → XK} {x : Str} {p pos : Pos} {kws : List Keyword} {tk : TA} {g : List Value → List Value → List Value} {gV : List V → List V → List V}
    (F : FnOk X.prog X.w X.K X.mg X.base CX k f fd ps sp) (hr : Room k X.A) (hg : Gl X x) (hm : X.mg x = some (.ref f)) (hk : PySem.W.keepIn X.K (.ref f) = true) (hb : KBinds X.K fd ps ks g gV) (hx : ∀ σ, PassesAt CX X σ (E σ))
    (hkw : PK X kws tk) (hall : (backToKw pos (keywordEach kws X.env)).all (·.1.isSome) = true) (hks : (backToKw pos (keywordEach kws X.env)).filterMap (·.1) = ks)
    (hdb : (x == ("__debug__" : Str)) = false) (hpl : ((backTo pos (starEach [] X.env)).any (·.1) || (backToKw pos (keywordEach kws X.env)).any (·.1.isNone)) = false) :
    PE X (.Call (.Name x p) [] kws pos) (fun σ H Q => tk σ H fun zs H2 => sp (gV [] zs) H2 Q (E σ)) := by
  refine ⟨fun pins s σ H Q I h => ?_⟩
  refine wpAny_Call_Name_kw (ld_glob I hg hm ?_ hdb)
  refine PySem.W.callWith_KW0 (h₀ := X.base) I.ok.mod.kin hk hall ?_ hpl
  refine thn (hkw.run pos pins s σ H _ I h) fun ws s2 ⟨zs, H2, I2, rz, q2⟩ => ⟨I2.kIn, ?_⟩
  rw [hks]
  have r2 := hb.rel .nil rz
  have hl : (g [] ws).length = ps.length := by rw [← r2.length]; exact F.len _ _ _ _ q2
  refine wpAny_call (codeAny_mono (F.run X.A X.stack s2 H2 ⟨[], ks.zip ws⟩ (g [] ws) (gV [] zs) Q (E σ) hr I2.env0 (hb.to s2 [] ws I2.kIn hl) r2 q2) fun r s' hq => ?_)
  cases r with
  | error e => exact hx σ pins H2 s2 e s' I2 hq
  | ok fl =>
    cases fl with
    | ret u => exact I2.after hq
    | next => exact False.elim hq
    | brk => exact False.elim hq
    | cont => exact False.elim hq
structure DK (X : Cx) (C : Kx) (kws : List Keyword) (fs : List (Sl → Res Rv)) : Prop where
  pk : PK X kws (tAs (fs.map (tE C)))
theorem dk_nil : DK X C [] [] := ⟨pk_nil⟩
theorem dk_cons {nm : Option Str} {e : Expr} {kpos : Pos} {kws : List Keyword} {f : Sl → Res Rv} {fs : List (Sl → Res Rv)} (h : DE X C e f) (t : DK X C kws fs) : DK X C (⟨nm, e, kpos⟩ :: kws) (f :: fs) := ⟨pk_cons h.pe t.pk⟩
/-- the places of the keywords' values, in the parameters' order -/
def pickAt {α : Type} (π : List Nat) (xs : List α) : List α := π.filterMap fun i => xs[i]?
theorem pickAt_vals {π : List Nat} {zs : List V} {ws : List Value} (r : Vals zs ws) : Vals (pickAt π zs) (pickAt π ws) := by
  induction π with
  | nil => exact .nil
  | cons i π ih =>
    unfold pickAt at ih ⊢
    simp only [List.filterMap_cons]
    have l := r.length
    cases e : zs[i]? with
    | none =>
      have e2 : ws[i]? = none := by
        rw [List.getElem?_eq_none_iff] at e ⊢
        omega
      rw [e2]; exact ih
    | some z =>
      obtain ⟨u, hu, ru⟩ := r.get e
      rw [hu]
      exact .cons ru ih
theorem pickAt_rep {K : PySem.W.Frag} {O : Addr → Prop} {π : List Nat} {ds : List D} {ws : List V} (r : RepAll K H O ds ws) : RepAll K H O (pickAt π ds) (pickAt π ws) := by
  induction π with
  | nil => simp [pickAt, RepAll]
  | cons i π ih =>
    unfold pickAt at ih ⊢
    simp only [List.filterMap_cons]
    cases e : ds[i]? with
    | none =>
      have e2 : ws[i]? = none := by
        rw [List.getElem?_eq_none_iff] at e ⊢
        rw [← repAll_len r]; omega
      rw [e2]; exact ih
    | some d =>
      obtain ⟨u, hu, ru⟩ := repAll_get r e
      rw [hu]
      simp only [RepAll]
      exact ⟨u, _, rfl, ru, ih⟩
def evCallK (fn : Fn) (π : List Nat) (fs : List (Sl → Res Rv)) : Sl → Res Rv := fun env => (evDs fs env).bind fun ds env1 =>
  if (pickAt π ds).length = fn.ar ∧ fn.io = [] then
    match fn.run ((pickAt π ds).map .d) with
    | some (.inr r, _) => .ok (.inr r) env1
    | some (.inl x, _) => .exc x env1
    | none => .stuck
  else .stuck
theorem iosOf_nil {α : Type} : ∀ (xs : List α) (j : Nat), iosOf [] j xs = []
  | [], _ => rfl
  | x :: xs, j => by simp only [iosOf]; rw [if_neg (by simp)]; exact iosOf_nil xs _
theorem de_callK {E : Ent} {W : WX} {k : Nat} {f : Addr} {fd : FuncData} {ps ks : List Str} {fn : Fn} {x : Str} {p pos : Pos} {kws : List Keyword} {fs : List (Sl → Res Rv)} {π : List Nat}
    (F : FnOk X.prog X.w X.K X.mg X.base (L2.CX X.prog X.w) k f fd ps (spF X.K X.mg E.T fn)) (hr : Room k X.A) (hg : Gl X x) (hm : X.mg x = some (.ref f)) (hk : PySem.W.keepIn X.K (.ref f) = true) (hb : KBinds X.K fd ps ks (fun us ws => us ++ pickAt π ws) (fun us ws => us ++ pickAt π ws)) (tk : Takes X W)
    (hkw : DK X (kx X E W) kws fs) (hall : (backToKw pos (keywordEach kws X.env)).all (·.1.isSome) = true) (hks : (backToKw pos (keywordEach kws X.env)).filterMap (·.1) = ks)
    (hdb : (x == ("__debug__" : Str)) = false) (hpl : ((backTo pos (starEach [] X.env)).any (·.1) || (backToKw pos (keywordEach kws X.env)).any (·.1.isNone)) = false) :
    DE X (kx X E W) (.Call (.Name x p) [] kws pos) (evCallK fn π fs) := by
  refine ⟨(pe_callK0 F hr hg hm hk hb (fun σ => passAt tk σ) hkw.pk hall hks hdb hpl).weak fun σ H Q q => ?_⟩
  obtain ⟨env, ts, vs, h, q⟩ := q
  refine tDs_of h ?_
  simp only [evCallK] at q
  cases e : evDs fs env with
  | stuck => rw [e] at q; exact q
  | exc x env1 => rw [e] at q; exact q
  | ok ds env1 =>
    rw [e] at q
    simp only [Res.bind] at q
    intro ws H1 lt lw h1
    by_cases c : (pickAt π ds).length = fn.ar ∧ fn.io = []
    · rw [if_pos c] at q
      obtain ⟨F, h1⟩ := h1
      have ra := repAll_at (tm := []) (vm := []) (by simpa using h1) lt lw.symm
      have rp := pickAt_rep (π := π) ra
      have lp := repAll_len rp
      obtain ⟨F1, h2⟩ := (pushDs h1 rp).squash lt (by simp [lw])
      refine ⟨by simp; omega, (pickAt π ds).map .d, _, _, by simpa using h2.args lt, fun j m ej hj => ?_, ?_⟩
      · rw [List.getElem?_map] at ej
        cases z : (pickAt π ds)[j]? with
        | none => rw [z] at ej; cases ej
        | some d => rw [z] at ej; cases ej; exact ⟨d, rfl⟩
      · cases e2 : fn.run ((pickAt π ds).map .d) with
        | none => rw [e2] at q; exact q.elim
        | some r =>
          obtain ⟨o, os⟩ := r
          rw [e2] at q
          cases o with
          | inr r =>
            simp only at q ⊢
            intro v H' F' h3
            rw [c.2, iosOf_nil] at h3
            have l3 := h3.lent
            simp only [List.length_append, List.length_cons, List.length_nil] at l3
            have e0 : os = [] := List.eq_nil_of_length_eq_zero (by omega)
            subst e0
            obtain ⟨F2, h4, _⟩ := h2.called lt h3
            refine q v H' (show SRel X.K E env1 (ts ++ [r]) σ (vs ++ [v]) H' from ⟨F2, by simpa using h4⟩) ?_
            show (vs ++ [v])[ts.length]? = some v
            rw [lt]; simp
          | inl x =>
            simp only at q ⊢
            intro cls dx H' F' h3 hx
            rw [c.2, iosOf_nil] at h3
            have l3 := h3.lent
            have e0 : os = [] := List.eq_nil_of_length_eq_zero (by simpa using l3)
            subst e0
            obtain ⟨F2, h4, s4⟩ := h2.called lt h3
            exact q cls dx H' ⟨F2, by simpa using h4, hx.step fun a o e n => ⟨e, fun z => n (s4 a z)⟩⟩
    · rw [if_neg c] at q; exact q.elim
end
end Yf
namespace Yf
open PySem PySem.Spec L2
open PyProof.Rows hiding St
section
variable {C : Kx} {env : Sl} {ts : List M} {σ : St} {vs : List V} {H : Hp} {F : Rt → List Addr} {X : Cx}
/-! ### {'k': e, ..} -/
def trsOf (C : Kx) : List Str → List (Sl → Res Rv) → List (TE × TE)
  | k :: ks, f :: fs => (tC (.str k), tE C f) :: trsOf C ks fs
  | _, _ => []
theorem tPairs_of : ∀ {ks : List Str} {fs : List (Sl → Res Rv)} {σ : St} {H : Hp} {Q : List V → Hp → Prop}, ks.length = fs.length → tAs (fs.map (tE C)) σ H Q → tPairs (trsOf C ks fs) σ H fun ps H' => ∃ ws, ps = (ks.zip ws).map (fun p => (V.str p.1, p.2)) ∧ ws.length = ks.length ∧ Q ws H'
  | [], [], σ, H, Q, _, h => ⟨[], rfl, rfl, h⟩
  | k :: ks, f :: fs, σ, H, Q, l, h => by
    have h : tE C f σ H (fun v H1 => tAs (fs.map (tE C)) σ H1 fun ws H2 => Q (v :: ws) H2) := h
    show tE C f σ H fun y H2 => tPairs (trsOf C ks fs) σ H2 fun ps H3 => _
    refine tE_mono h fun v H1 q => ?_
    have z := tPairs_of (ks := ks) (fs := fs) (by simpa using l) q
    refine tPairs_mono z fun ps H3 ⟨ws, e, lw, q⟩ => ⟨v :: ws, ?_, by simp [lw], q⟩
    rw [e]
    rfl
where
  tPairs_mono : ∀ {ks : List Str} {fs : List (Sl → Res Rv)} {σ : St} {H : Hp} {Q Q' : List (V × V) → Hp → Prop}, tPairs (trsOf C ks fs) σ H Q → (∀ ps H, Q ps H → Q' ps H) → tPairs (trsOf C ks fs) σ H Q'
    | [], _, _, _, _, _, h, w => w _ _ h
    | _ :: _, [], _, _, _, _, h, w => w _ _ h
    | k :: ks, f :: fs, σ, H, Q, Q', h, w => by
      have h : tE C f σ H fun y H2 => tPairs (trsOf C ks fs) σ H2 fun ps H3 => Q ((.str k, y) :: ps) H3 := h
      show tE C f σ H fun y H2 => tPairs (trsOf C ks fs) σ H2 fun ps H3 => Q' ((.str k, y) :: ps) H3
      exact tE_mono h fun v H1 q => tPairs_mono q fun ps H3 z => w _ _ z
def evDsp (ks : List Str) (fs : List (Sl → Res Rv)) : Sl → Res Rv := fun env => (evs (fs.map evV) env).bind fun ps env' =>
  match getOs env' ps with
  | some ms => if ps.all (fun p => p.isRight) then .ok (.inr (.dct ((ks.zip ms).map fun p => (.inr p.1, p.2)))) env' else .stuck
  | none => .stuck
theorem repMs_zip {K : PySem.W.Frag} {O : Addr → Prop} : ∀ {ks : List Str} {ms : List M} {ws : List V} {fp : Nat → List Addr}, ms.length = ks.length → ws.length = ks.length → (∀ j m w, ms[j]? = some m → ws[j]? = some w → RepM K H O m w (fp j)) → (∀ j j' a, a ∈ fp j → a ∈ fp j' → j = j') →
    RepMs K H O ((ks.zip ms).map fun p => (.inr p.1, p.2)) ((ks.zip ws).map fun p => (.inr p.1, p.2)) ((List.range ks.length).flatMap fp)
  | [], _, _, _, _, _, _, _ => by simp [RepMs]
  | k :: ks, [], _, _, l, _, _, _ => by simp at l
  | k :: ks, m :: ms, [], _, _, l, _, _ => by simp at l
  | k :: ks, m :: ms, w :: ws, fp, l1, l2, h, d => by
    have ih := repMs_zip (ks := ks) (ms := ms) (ws := ws) (fp := fun j => fp (j + 1)) (by simpa using l1) (by simpa using l2) (fun j m w e1 e2 => h (j + 1) m w (by simpa using e1) (by simpa using e2)) (fun j j' a h1 h2 => by have := d _ _ a h1 h2; omega)
    simp only [List.zip_cons_cons, List.map_cons, List.length_cons, List.range_succ_eq_map, List.flatMap_cons, RepMs]
    refine ⟨w, _, fp 0, _, rfl, rfl, fun a ha hb => ?_, h 0 m w rfl rfl, ?_⟩
    · obtain ⟨j, hj, hb⟩ := List.mem_flatMap.mp hb
      obtain ⟨i, _, rfl⟩ := List.mem_map.mp hj
      have := d _ _ a ha hb
      omega
    · rw [List.flatMap_map]
      exact ih
theorem putK_new {kvs : List (Key × V)} {k : Key} {v : V} (h : k ∉ kvs.map (·.1)) : putK kvs k v = kvs ++ [(k, v)] := by
  unfold putK
  rw [if_neg]
  intro e
  obtain ⟨p, hp, e⟩ := List.any_eq_true.mp e
  exact h (List.mem_map.mpr ⟨p, hp, of_decide_eq_true e⟩)
theorem mergeK_new : ∀ {more kvs : List (Key × V)}, (kvs.map (·.1) ++ more.map (·.1)).Nodup → mergeK kvs more = kvs ++ more
  | [], kvs, _ => by simp [mergeK]
  | p :: more, kvs, h => by
    have hn : p.1 ∉ kvs.map (·.1) := fun z => by
      rw [List.nodup_append] at h
      exact h.2.2 _ z _ (by simp) rfl
    show mergeK (putK kvs p.1 p.2) more = _
    rw [putK_new hn, mergeK_new (by simpa [List.append_assoc] using h)]
    simp
theorem zip_keys {ks : List Str} {ws : List V} (l : ws.length = ks.length) : ((ks.zip ws).map fun p => ((.inr p.1 : Key), p.2)).map (·.1) = ks.map Sum.inr := by
  rw [List.map_map]
  have : ((fun x : Key × V => x.1) ∘ fun p : Str × V => ((.inr p.1 : Key), p.2)) = Sum.inr ∘ Prod.fst := rfl
  rw [this, ← List.map_map, List.map_fst_zip (by omega)]
theorem de_disp {pos : Pos} {keys : List (Option Expr)} {values : List Expr} {ks : List Str} {fs : List (Sl → Res Rv)} (h : PPs X pos keys values (trsOf C ks fs)) (hl0 : ks.length = fs.length) (nd : ks.Nodup) (hall : keys.all (·.isSome) = true) (hl : keys.length = values.length) (h0 : keys ≠ []) (h15 : keys.length ≤ 15) (h16 : ks.length ≤ 15) :
    DE X C (.Dict keys values pos) (evDsp ks fs) := by
  refine ⟨(pe_disp h hall hl h0 h15).weak fun σ H Q q => ?_⟩
  obtain ⟨env, ts, vs, h, q⟩ := q
  have lt := h.lent
  intro p np
  obtain ⟨F, h⟩ := h
  -- the new dict, on the stack
  have h1 : SRel C.K C.E env (ts ++ [.dct []]) σ (vs ++ [.ref p]) (upd H p (.dK [])) := by
    refine ⟨_, h.push (m := .dct []) (f := [p]) (keep_upd (o := .dK []) np) (by simp [np]) ?_⟩
    simp only [RepM]
    exact ⟨p, [], [], rfl, rfl, by simp, upd_same, by simp [RepMs]⟩
  have key : ∀ Q' : List V → Hp → Prop, tAs (fs.map (tE C)) σ (upd H p (.dK [])) Q' → (∀ ws H', ws.length = ks.length → Q' ws H' → H' p = some (.dK []) ∧ Q (.ref p) (upd H' p (.dK ((ks.zip ws).map fun p => (.inr p.1, p.2))))) → tPairs (trsOf C ks fs) σ (upd H p (.dK [])) (fun ps H2 => H2 p = some (.dK []) ∧ ∃ kvs : List (Key × V), ps = kvs.map (fun kv => (kV kv.1, kv.2)) ∧ kvs.length ≤ 15 ∧ Q (.ref p) (upd H2 p (.dK (mergeK [] kvs)))) := fun Q' z w => by
    refine tPairs_of.tPairs_mono (tPairs_of hl0 z) fun ps H3 ⟨ws, e, lw, q⟩ => ?_
    obtain ⟨w1, w2⟩ := w ws H3 lw q
    refine ⟨w1, (ks.zip ws).map fun p => (.inr p.1, p.2), ?_, by simp; omega, ?_⟩
    · rw [e, List.map_map]; rfl
    · rw [mergeK_new (by rw [zip_keys lw]; simp only [List.map_nil, List.nil_append]; exact List.pairwise_map.mpr (nd.imp fun h e => h (Sum.inr.inj e)))]
      simpa using w2
  simp only [evDsp] at q
  refine key (fun ws H' => H' p = some (.dK []) ∧ (ws.length = ks.length → Q (.ref p) (upd H' p (.dK ((ks.zip ws).map fun p => (.inr p.1, p.2)))))) (tAs_val (tA_of h1 ?_)) fun ws H' l q => ⟨q.1, q.2 l⟩
  cases e : evs (fs.map evV) env with
  | stuck => rw [e] at q; exact q
  | exc x env1 =>
    rw [e] at q
    exact fun cls dx H2 hx => q cls dx H2 (hx.pops lt rfl)
  | ok ps env1 =>
    rw [e] at q
    simp only [Res.bind] at q
    intro ws H2 lw h2 va
    cases e1 : getOs env1 ps with
    | none => rw [e1] at q; exact q.elim
    | some ms =>
      rw [e1] at q
      simp only at q
      cases e2 : ps.all (fun p => p.isRight) with
      | false => rw [e2, if_neg (by decide)] at q; exact q.elim
      | true =>
        rw [e2, if_pos rfl] at q
        obtain ⟨x1, x2⟩ := exts_right lw e2 e1
        rw [x1, x2] at h2
        obtain ⟨F2, h2⟩ := h2
        have h2 : SR C.K C.E env1 (ts ++ .dct [] :: ms) σ (vs ++ .ref p :: ws) H2 F2 := by simpa using h2
        have l2 := h2.lent
        simp only [List.length_append, List.length_cons] at l2
        have g0 : getR env1 (ts ++ .dct [] :: ms) (.t ts.length) = some (.dct []) := by show (ts ++ M.dct [] :: ms)[ts.length]? = _; simp
        obtain ⟨v0, ev0, q0⟩ := h2.rep _ _ g0
        have ev0 : (vs ++ V.ref p :: ws)[ts.length]? = some v0 := ev0
        rw [lt] at ev0
        simp at ev0
        subst ev0
        simp only [RepM, RepMs] at q0
        obtain ⟨a, ks0, g, e3, ef, na, hd, rfl, rfl⟩ := q0
        cases e3
        refine ⟨hd, fun lk => ?_⟩
        have gj : ∀ (j : Nat), getR env1 (ts ++ .dct [] :: ms) (.t (ts.length + 1 + j)) = ms[j]? := fun j => by
          show (ts ++ M.dct [] :: ms)[ts.length + 1 + j]? = _
          rw [List.getElem?_append_right (by omega), show ts.length + 1 + j - ts.length = j + 1 by omega]
          rfl
        have vj : ∀ (j : Nat), valR σ (vs ++ .ref p :: ws) (.t (ts.length + 1 + j)) = ws[j]? := fun j => by
          show (vs ++ V.ref p :: ws)[ts.length + 1 + j]? = _
          rw [List.getElem?_append_right (by omega), show ts.length + 1 + j - vs.length = j + 1 by omega]
          rfl
        let fp : Nat → List Addr := fun j => F2 (.t (ts.length + 1 + j))
        have pf : ∀ j, p ∉ fp j := fun j hj => by
          have := h2.dis (.t ts.length) (.t (ts.length + 1 + j)) p (by rw [ef]; simp) hj
          injection this with this
          omega
        let F3 : Rt → List Addr := fun r => match r with
          | .s i => F2 (.s i)
          | .t j => if j < ts.length then F2 (.t j) else if j = ts.length then p :: (List.range ks.length).flatMap fp else []
        have sub : ∀ r a, a ∈ F3 r → ∃ r', a ∈ F2 r' := fun r a ha => by
          cases r with
          | s i => exact ⟨_, ha⟩
          | t j =>
            have ha : a ∈ (if j < ts.length then F2 (.t j) else if j = ts.length then p :: (List.range ks.length).flatMap fp else []) := ha
            split at ha
            · exact ⟨_, ha⟩
            · split at ha
              · rcases List.mem_cons.mp ha with z | z
                · exact ⟨.t ts.length, by rw [ef, z]; simp⟩
                · obtain ⟨j, _, hj⟩ := List.mem_flatMap.mp z
                  exact ⟨_, hj⟩
              · cases ha
        have own_p : Own F2 p := ⟨.t ts.length, by rw [ef]; simp⟩
        have lm : ms.length = ks.length := by omega
        have st : Step H2 (Av C.E F2) (upd H2 p (.dK ((ks.zip ws).map fun p => (.inr p.1, p.2)))) (Av C.E F3) := fun a o e n =>
          ⟨by rw [upd_ne (fun z => n (.inl (by rw [z]; exact own_p)))]; exact e, fun z => n (z.imp_left fun ⟨r, hr⟩ => sub r a hr)⟩
        have h3 : SR C.K C.E env1 (ts ++ [.dct ((ks.zip ms).map fun p => (.inr p.1, p.2))]) σ (vs ++ [.ref p]) (upd H2 p (.dK ((ks.zip ws).map fun p => (.inr p.1, p.2)))) F3 := by
          refine h2.make (io := h2.io) (ln := h2.ln) (fun a o e n => ⟨by rw [upd_ne (fun z => n (by rw [z]; exact own_p))]; exact e, fun z => n (let ⟨r, hr⟩ := z; sub r a hr)⟩) h2.len (by simp [lt]) (fun r m e => ?_) (fun r e => ?_) (fun r r' a h1 h2' => ?_)
          · cases r with
            | s i =>
              obtain ⟨v, ev, _⟩ := h2.rep (.s i) m e
              exact .inl ⟨.s i, v, e, ev, ev, rfl, fun a ha => upd_ne fun z => by
                have := h2.dis (.s i) (.t ts.length) a ha (by rw [ef, z]; simp)
                cases this⟩
            | t j =>
              have e : (ts ++ [_])[j]? = some m := e
              by_cases l : j < ts.length
              · rw [List.getElem?_append_left l] at e
                have e' : getR env1 (ts ++ .dct [] :: ms) (.t j) = some m := by show (ts ++ M.dct [] :: ms)[j]? = _; rw [List.getElem?_append_left l]; exact e
                obtain ⟨v, ev, _⟩ := h2.rep (.t j) m e'
                refine .inl ⟨.t j, v, e', ev, ?_, ?_, fun a ha => upd_ne fun z => ?_⟩
                · have ev : (vs ++ V.ref p :: ws)[j]? = some v := ev
                  rw [List.getElem?_append_left (by omega)] at ev
                  show (vs ++ [V.ref p])[j]? = some v
                  rw [List.getElem?_append_left (by omega)]; exact ev
                · show (if j < ts.length then _ else _) = _
                  rw [if_pos l]
                · have := h2.dis (.t j) (.t ts.length) a ha (by rw [ef, z]; simp)
                  injection this with this
                  omega
              · rw [List.getElem?_append_right (by omega)] at e
                have ej : j = ts.length := by
                  have := (List.getElem?_eq_some_iff.mp e).1
                  simp at this
                  omega
                subst ej
                simp at e
                subst e
                refine .inr ⟨.ref p, by show (vs ++ [V.ref p])[ts.length]? = _; rw [lt]; simp, ?_⟩
                have eF : F3 (.t ts.length) = p :: (List.range ks.length).flatMap fp := by show (if ts.length < ts.length then _ else _) = _; simp
                rw [eF]
                simp only [RepM]
                refine ⟨p, _, _, rfl, rfl, fun z => ?_, upd_same, repMs_zip lm lk (fun j m w e1 e2 => ?_) fun j j' a h1 h2' => ?_⟩
                · obtain ⟨j, _, hj⟩ := List.mem_flatMap.mp z
                  exact pf j hj
                · obtain ⟨v, ev, qm⟩ := h2.rep _ m ((gj j).trans e1)
                  rw [vj, e2] at ev
                  cases ev
                  exact qm.step st fun a ha => upd_ne fun z => pf j (by rw [← z]; exact ha)
                · have := h2.dis _ _ a h1 h2'
                  injection this with this
                  omega
          · cases r with
            | s i => exact h2.emp (.s i) e
            | t j =>
              have e : (ts ++ [_])[j]? = none := e
              have l := List.getElem?_eq_none_iff.mp e
              simp only [List.length_append, List.length_cons, List.length_nil] at l
              show (if j < ts.length then _ else if j = ts.length then _ else _) = _
              rw [if_neg (by omega), if_neg (by omega)]
          · have cl : ∀ r a, a ∈ F3 r → (r ≠ .t ts.length ∧ a ∈ F2 r ∧ ∀ j, r = .t j → j < ts.length) ∨ (r = .t ts.length ∧ ∃ r', a ∈ F2 r' ∧ ∃ j, r' = .t j ∧ ts.length ≤ j) := fun r a ha => by
              cases r with
              | s i => exact .inl ⟨(fun z => by cases z), ha, fun j z => by cases z⟩
              | t j =>
                have hb : a ∈ (if j < ts.length then F2 (.t j) else if j = ts.length then p :: (List.range ks.length).flatMap fp else []) := ha
                split at hb
                · rename_i c
                  exact .inl ⟨(fun z => by injection z with z; omega), hb, fun j' z => by injection z with z; omega⟩
                · split at hb
                  · rename_i c
                    subst c
                    rcases List.mem_cons.mp hb with z | z
                    · exact .inr ⟨rfl, .t ts.length, by rw [ef, z]; simp, _, rfl, Nat.le_refl _⟩
                    · obtain ⟨j, _, hj⟩ := List.mem_flatMap.mp z
                      exact .inr ⟨rfl, _, hj, _, rfl, by omega⟩
                  · cases hb
            rcases cl r a h1 with ⟨n1, a1, b1⟩ | ⟨rfl, q1, a1, j1, rfl, b1⟩ <;> rcases cl r' a h2' with ⟨n2, a2, b2⟩ | ⟨rfl, q2, a2, j2, rfl, b2⟩
            · exact h2.dis _ _ a a1 a2
            · have := h2.dis _ _ a a1 a2
              have := b1 _ this
              omega
            · have := h2.dis _ _ a a1 a2
              have := b2 _ this.symm
              omega
            · rfl
        refine q (.ref p) _ ⟨F3, h3⟩ ?_
        show (vs ++ [V.ref p])[ts.length]? = _
        rw [lt]; simp
end
end Yf
namespace Yf
open PySem PySem.Spec L2
open PyProof.Rows hiding St
section
variable {C : Kx} {env : Sl} {ts : List M} {σ : St} {vs : List V} {H : Hp} {F : Rt → List Addr} {X : Cx}
/-! ### sorted, ints -/
def intsD : List D → Option (List Int)
  | [] => some []
  | .int i :: r => (intsD r).map (i :: ·)
  | _ => none
theorem intsD_inv : ∀ {ds : List D} {ns : List Int}, intsD ds = some ns → ds = ns.map .int
  | [], ns, e => by simp only [intsD, Option.some.injEq] at e; subst e; rfl
  | .int i :: r, ns, e => by
    simp only [intsD] at e
    cases e2 : intsD r with
    | none => rw [e2] at e; cases e
    | some s => rw [e2] at e; cases e; rw [intsD_inv e2]; rfl
  | .none :: _, _, e => by simp [intsD] at e
  | .bool _ :: _, _, e => by simp [intsD] at e
  | .str _ :: _, _, e => by simp [intsD] at e
  | .list _ :: _, _, e => by simp [intsD] at e
  | .tuple _ :: _, _, e => by simp [intsD] at e
  | .dict _ :: _, _, e => by simp [intsD] at e
theorem ints_rep {K : PySem.W.Frag} {O : Addr → Prop} : ∀ {ns : List Int} {xs : List V}, RepAll K H O (ns.map .int) xs → xs = ns.map V.int
  | [], xs, h => by simpa [RepAll] using h
  | n :: ns, xs, h => by
    simp only [List.map_cons, RepAll, Rep] at h
    obtain ⟨x, s, rfl, rfl, h⟩ := h
    rw [ints_rep h]; rfl
theorem rep_ints {K : PySem.W.Frag} {O : Addr → Prop} : ∀ (ns : List Int), RepAll K H O (ns.map .int) (ns.map V.int)
  | [] => by simp [RepAll]
  | n :: ns => by
    simp only [List.map_cons, RepAll, Rep]
    exact ⟨_, _, rfl, rfl, rep_ints ns⟩
def sortI (ns : List Int) : List Int := ns.mergeSort fun a b => decide (a ≤ b)
theorem sortI_perm (ns : List Int) : (sortI ns).Perm ns := List.mergeSort_perm _ _
theorem sortI_le (ns : List Int) : (sortI ns).Pairwise (· ≤ ·) :=
  (List.pairwise_mergeSort (le := fun a b => decide (a ≤ b)) (fun a b c h1 h2 => by simp only [decide_eq_true_eq] at *; omega) (fun a b => by simp only [Bool.or_eq_true, decide_eq_true_eq]; omega) ns).imp (by simp)
theorem sorted_one {as bs : List Int} (p : as.Perm bs) (h1 : as.Pairwise (· ≤ ·)) (h2 : bs.Pairwise (· ≤ ·)) : as = bs :=
  List.Perm.eq_of_pairwise (le := (· ≤ ·)) (fun a b _ _ h1 h2 => Int.le_antisymm h1 h2) h1 h2 p
def gSorted : List M → Option M
  | [m] => (match listOf m with | some ds => (match intsD ds with | some ns => some (.lst ((sortI ns).map .int)) | none => none) | none => none)
  | _ => none
theorem sem_sorted : SemN C (rSortedI C.K) gSorted := by
  intro env ts σ vs H F rs ms xs k Q hs hr e q
  unfold gSorted at e
  split at e
  · rename_i m
    obtain ⟨x, f, rfl, q1⟩ := one_of hs hr
    split at e
    · rename_i ds e1
      split at e
      · rename_i ns e2
        cases e
        obtain ⟨p, ys, rfl, r, z⟩ := listOf_rep q1 e1
        rw [intsD_inv e2] at z
        rw [ints_rep z] at r
        refine ⟨p, ns, rfl, .inl r, fun ns' a pm pw na => ?_⟩
        rw [sorted_one (pm.trans (sortI_perm ns).symm) pw (sortI_le ns)]
        exact q _ _ (push_lst hs na (rep_ints _))
      · cases e
    · cases e
  · cases e
/-! ### sorted(set(t)), t a tuple of ints -/
def insU (x : Int) : List Int → List Int
  | [] => [x]
  | y :: r => if x < y then x :: y :: r else if x = y then y :: r else y :: insU x r
def sortU (ns : List Int) : List Int := ns.foldr insU []
theorem insU_mem {x z : Int} : ∀ {l : List Int}, z ∈ insU x l ↔ z = x ∨ z ∈ l
  | [] => by simp [insU]
  | y :: r => by
    unfold insU
    split
    · simp
    · split
      · rename_i e; subst e; simp
      · simp only [List.mem_cons, insU_mem (l := r)]
        constructor
        · rintro (h | h | h)
          · exact .inr (.inl h)
          · exact .inl h
          · exact .inr (.inr h)
        · rintro (h | h | h)
          · exact .inr (.inl h)
          · exact .inl h
          · exact .inr (.inr h)
theorem insU_lt {x : Int} : ∀ {l : List Int}, l.Pairwise (· < ·) → (insU x l).Pairwise (· < ·)
  | [], _ => by simp [insU]
  | y :: r, h => by
    unfold insU
    rw [List.pairwise_cons] at h
    split
    · rename_i c
      rw [List.pairwise_cons, List.pairwise_cons]
      refine ⟨fun z hz => ?_, h.1, h.2⟩
      rcases List.mem_cons.mp hz with e | e
      · rw [e]; exact c
      · have := h.1 z e; omega
    · split
      · rw [List.pairwise_cons]; exact h
      · rename_i c1 c2
        rw [List.pairwise_cons]
        refine ⟨fun z hz => ?_, insU_lt h.2⟩
        rcases insU_mem.mp hz with e | e
        · rw [e]; omega
        · exact h.1 z e
theorem sortU_mem {z : Int} : ∀ {ns : List Int}, z ∈ sortU ns ↔ z ∈ ns
  | [] => by simp [sortU]
  | n :: ns => by
    show z ∈ insU n (sortU ns) ↔ _
    rw [insU_mem, sortU_mem, List.mem_cons]
theorem sortU_lt : ∀ (ns : List Int), (sortU ns).Pairwise (· < ·)
  | [] => by simp [sortU]
  | n :: ns => insU_lt (sortU_lt ns)
theorem strict_one {as bs : List Int} (h1 : as.Pairwise (· < ·)) (h2 : bs.Pairwise (· < ·)) (h : ∀ z, z ∈ as ↔ z ∈ bs) : as = bs := by
  refine sorted_one ?_ (h1.imp Int.le_of_lt) (h2.imp Int.le_of_lt)
  exact (List.perm_ext_iff_of_nodup (h1.imp fun h => Int.ne_of_lt h) (h2.imp fun h => Int.ne_of_lt h)).mpr h
def rSetTI (K : PySem.W.Frag) (w : World) : List V → Hp → VK → Prop := fun xs H Q => ∃ (p : Addr) (ns : List Int), xs = [.ref p] ∧ SqT K H p (ns.map V.int) ∧ ns.length < 64 ∧
  ∀ a c, c ≤ ns.length → H a = none → Q (.ref a) (upd H a (SetO w a (fun j => decide (j ∈ ns)) c))
theorem cr_setTI (hc : X.calm = true) : CallR X (.type "set") (rSetTI X.K X.w) := by
  intro pins s σ H xs us Q I r h
  obtain ⟨p, ns, rfl, hq, hl, q⟩ := h
  rw [Vals.ref1 r]
  obtain ⟨its, rv, pt, hz⟩ := I.tuple hq
  have hi := rv.ints
  refine call_set_tupI ns (I.ok.hd hc) (show s.heap.IsTuple p its.toArray from pt) hi (by unfold scanBound; omega) fun h' tk c R1 hcn k => ?_
  exact ⟨.ref s.heap.objs.size, _, I.laid (t' := tk) k (Nat.le_refl _) (setO_new R1), rfl, q _ c hcn (I.hok.fresh (Nat.le_refl _))⟩
def evSS (f : Sl → Res Rv) : Sl → Res Rv := fun env => (evDs [f] env).bind fun ds env1 =>
  match ds with
  | [.tuple ds] => (match intsD ds with | some ns => if ns.length < 64 then .ok (.inr (.lst ((sortU ns).map .int))) env1 else .stuck | none => .stuck)
  | _ => .stuck
theorem de_ss {e : Expr} {f : Sl → Res Rv} {p p2 pos pos2 : Pos} (hc : X.calm = true) (hK : X.K = C.K) (hg : Gl X "sorted") (hm : X.mg "sorted" = none) (hv : bootBuiltins "sorted" = some (.builtin "sorted")) (hg2 : Gl X "set") (hm2 : X.mg "set" = none) (hv2 : bootBuiltins "set" = some (.type "set"))
    (ha : DA X C [e] [f]) (hs : starEach [e] X.env = [(false, eval e X.env)]) :
    DE X C (.Call (.Name "sorted" p) [.Call (.Name "set" p2) [e] [] pos2] [] pos) (evSS f) := by
  refine ⟨(pe_callB (cr_sortedSet hc) hg hm hv (pa_cons (pe_callTy (cr_setTI hc) hg2 hm2 hv2 ha.pa (by decide) (by decide) hs rfl) pa_nil rfl) (by decide) (by decide) rfl rfl).weak fun σ H Q q => ?_⟩
  obtain ⟨env, ts, vs, h, q⟩ := q
  show tAs ([f].map (tE C)) σ H (fun xs H1 => rSetTI X.K X.w xs H1 fun x H2 => rSortedSet X.w [x] H2 Q)
  refine tDs_of (fs := [f]) h ?_
  simp only [evSS] at q
  cases e1 : evDs [f] env with
  | stuck => rw [e1] at q; exact q
  | exc x env1 => rw [e1] at q; exact q
  | ok ds env1 =>
    rw [e1] at q
    simp only [Res.bind] at q
    intro ws H' lt l h'
    rcases ds with _ | ⟨d, _ | ⟨d2, ds⟩⟩
    · exact False.elim q
    rotate_left
    · cases d <;> exact False.elim q
    rcases ws with _ | ⟨v, _ | ⟨w2, ws⟩⟩
    · simp at l
    rotate_left
    · simp at l
    cases d with
    | tuple ds =>
      dsimp only at q
      cases e2 : intsD ds with
      | none => rw [e2] at q; exact q.elim
      | some ns =>
        rw [e2] at q
        dsimp only at q
        by_cases c : ns.length < 64
        · rw [if_pos c] at q
          obtain ⟨F, hF, r⟩ := rep_at (tm := []) (vm := []) (by simpa using h') lt
          simp only [Rep] at r
          obtain ⟨a, xs, rfl, r1, r2⟩ := r
          rw [intsD_inv e2] at r2
          rw [ints_rep r2] at r1
          rw [← hK] at r1
          refine ⟨a, ns, rfl, r1.sq, c, fun a1 n hn na => ?_⟩
          refine ⟨a1, _, n, rfl, upd_same, by omega, fun ns' b pw hm hlen nb => ?_⟩
          have e3 : ns' = sortU ns := strict_one pw (sortU_lt ns) fun z => by rw [hm, sortU_mem]; simp
          subst e3
          obtain ⟨F1, h1⟩ := hF.pops (ts := ts) (vs := vs) lt rfl
          have h2 := h1.ext (keep_upd (o := SetO X.w a1 (fun j => decide (j ∈ ns)) n) na)
          refine q _ _ (push_lst h2 nb (rep_ints _)) ?_
          show (vs ++ [V.ref b])[ts.length]? = _
          rw [lt]; simp
        · rw [if_neg c] at q; exact q.elim
    | _ => exact False.elim q
end
end Yf
namespace Yf
open PySem PySem.Spec L2
open PyProof.Rows hiding St
/-! ### key=lambda x: x[1] -/
section
variable {prog : Program} {w : World} {A : Around} {s : Shared}
theorem lam_turn {f c' t : Addr} {q x : Str} {params : Arguments} {scope : Scope} {pm ctv : Value} {p1 p2 p3 : Pos} {j : Nat} {its : Array Value} {k : Int} {tk : Tok}
    (hroom : A.depth < recursionLimit) (ho : s.heap.get? f = some (PySem.W.kla_obj "<lambda>" q params (.Subscript (.Name x p1) (.Constant (.int 1) j p2) p3) scope [] pm c' ctv)) (hcd : s.heap.CodeRec (.ref c') q) (nl : s.heap.NoLimit)
    (hbind : ∀ v, bindArgs (PySem.W.kla_fn "<lambda>" q params (.Subscript (.Name x p1) (.Constant (.int 1) j p2) p3) scope [] pm (.ref c') ctv) ⟨[v], []⟩ = pure [(x, v)])
    (hco : scope.isCoroutine = false) (hgen : scope.isGenerator = false) (hk : scope.kind = .function) (hx : scope.names.lookup x = some .local) (hcell : ∀ y ∈ scope.names, y.2 ≠ .cell) (hd : (x == ("__debug__" : Str)) = false)
    (ht : IsTup s.heap t its) (hi : its[1]? = some (.int k tk)) : wpAny (model prog w) A (call (.ref f) [.ref t]) (PySem.W.KeyPure (.int k) s) (fun _ _ => False) s := by
  have rc : codeAny (model prog w) A (.call (.ref f) ⟨[.ref t], []⟩) (fun r s' => match r with | .ok (.ret u) => PySem.W.KeyPure (.int k) s u s' | _ => False) s := by
    refine PySem.W.kla_callFunE hroom ho rfl hco hgen rfl hcd ?_
    rw [hbind]
    refine wpAny_pure (wpAny_newFunctionEnv hcell (fun y hy => ?_) (fun h₁ hns hsb => ⟨nl.fresh _ hsb, ?_⟩) hk)
    · have : y = (x, Value.ref t) := by simpa using hy
      rw [this]; exact hx
    · have kp : ∀ b o, s.heap.get? b = some o → h₁.get? b = some o := fun b o e => hsb.extBut b o (Nat.ne_of_lt (Heap.lt_size e)) (Heap.get?_push_of_some _ e)
      refine PySem.W.kla_codeExpr ?_
      refine Subscript_ (wpAny_Name (wpAny_loadName_local (v := .ref t) hk hx hns (by show List.lookup x [(x, Value.ref t)] = some (Value.ref t); simp [List.lookup]) ?_) hd)
      refine wpAny_Constant_int ?_
      obtain ⟨o, e1, e2, n, e3⟩ := id ht
      have ht2 : IsTup h₁ t its := ⟨o, kp _ _ e1, e2, n, e3⟩
      refine subscriptTail_builtinR (x := .int k tk) ht2.typeIs slot_tuple_getitem.lookup ?_ rfl
      refine getItem_tuple (j := 1) ht2 (by decide) (by decide) ?_ hi ⟨rfl, ?_⟩
      · have : 1 < its.size := (Array.getElem?_eq_some_iff.mp hi).1
        unfold seqIndex?
        simp
        omega
      · exact ⟨h₁, _, rfl, kp, .int _ _⟩
  refine wpAny_call (codeAny_mono rc fun r s' hq => ?_)
  cases r with
  | error e => exact hq.elim
  | ok fl =>
    cases fl with
    | ret u => exact hq
    | next => exact hq.elim
    | brk => exact hq.elim
    | cont => exact hq.elim
theorem collect_at {E : Value → Shared → Prop} {Q : List Value → Shared → Prop} (it : Addr) {T : String} {o : Obj} {items : Array Value} {n : Nat} (hT : T = "list" ∨ T = "tuple")
    (ho : s.heap.get? it = some o) (hc : o.cls = .type T) (hd : o.data = .seq items n)
    (hQ : Q items.toList { s with heap := (s.heap.push { cls := .type "list", data := .seq ([] : List Value).toArray }).update s.heap.objs.size (Obj.mapSeq (· ++ items)) }) (hsz : items.size ≤ sizeLine ) :
    wpAny (model prog w) A (PySem.collect (.ref it)) Q E s := by
  unfold PySem.collect
  refine wpAny_bind (wpAny_runValue (codeAny_builtin F.entry_proto_collect ?_))
  rw [Around.under_plainId F.plain_proto_collect _]
  show wpAny _ A.in1 (newList [] >>= fun l => again (.builtin "list.__iadd__" ⟨[l, .ref it], []⟩)) _ _ s
  refine wpAny_bind (wpAny_newObj_type ?_)
  refine wpAny_pure ⟨plainId_quiet F.plain_list_iadd _, codeAny_builtin F.entry_list_iadd ?_⟩
  rw [Around.under_plainId F.plain_list_iadd _]
  show wpAny _ A.in1 (Builtin.List.listExtendWith (.ref s.heap.objs.size) (.ref it) (.ref s.heap.objs.size)) _ _ _
  have hS : (s.heap.push { cls := .type "list", data := .seq ([] : List Value).toArray }).get? s.heap.objs.size = some { cls := .type "list", data := .seq #[] 0 } := Heap.get?_push_size _ rfl
  have hS₂ := Heap.get?_update_self (Obj.mapSeq (· ++ items)) hS rfl
  have fin' : wpAny (model prog w) A (match Value.ref s.heap.objs.size with
      | Value.ref a => do
        match (← load a).data with
          | Data.seq xs _ => pure xs.toList
          | _ => unsupported "internal:collect"
      | _ => unsupported "internal:collect") Q E { s with heap := (s.heap.push { cls := .type "list", data := .seq ([] : List Value).toArray }).update s.heap.objs.size (Obj.mapSeq (· ++ items)) } := by
    show wpAny _ A (load s.heap.objs.size >>= _) _ _ _
    refine wpAny_bind (wpAny_load hS₂ ?_)
    refine wpAny_pure ?_
    have e : ((#[] : Array Value) ++ items).toList = items.toList := by simp
    show Q ((#[] : Array Value) ++ items).toList _
    rw [e]
    exact hQ
  refine wpAny_mono (wpAny_extend_seq (hsz := hsz) (A := A) (R := fun r s' => r = .ok (.ret (.ref s.heap.objs.size)) ∧ s' = { s with heap := (s.heap.push { cls := .type "list", data := .seq ([] : List Value).toArray }).update s.heap.objs.size (Obj.mapSeq (· ++ items)) })
    (s := { s with heap := s.heap.push { cls := .type "list", data := .seq ([] : List Value).toArray } }) _ it _ 0 hT hS (Heap.get?_push_of_some _ ho) hc hd ⟨rfl, rfl⟩) (fun fin s' h => ?_) (fun e s' h => ?_)
  · cases fin with
    | done f =>
      obtain ⟨e, rfl⟩ := h
      cases e
      exact fin'
    | again c' => exact ⟨h.1, codeAny_mono h.2 fun r s'' hr => by obtain ⟨rfl, rfl⟩ := hr; exact fin'⟩
  · exact absurd h.1 (by simp)
/-- sorted(xs, key=f) of a list or a tuple -/
theorem sorted_key_seq {β : Type} {vs : List Value} {bs : List β} {R : Value → β → Prop} {E : Value → Shared → Prop} {l f : Addr} {T : String} {o : Obj} {n0 : Nat} {Q : Value → Shared → Prop} (k : β → PyData) (hT : T = "list" ∨ T = "tuple") (hl : s.heap.get? l = some o) (hcl : o.cls = .type T) (hdt : o.data = .seq vs.toArray n0)
    (e : PySem.W.EachIs R vs bs) (hal : PySem.W.AllAlike (bs.map k)) (hk : PySem.W.Sortable (bs.map k)) (hL : bs.length ≤ sizeLine) (hu : ∀ x, x ∈ bs → A.units + 2 + (k x).depth < cLine)
    (turn : ∀ (v : Value) (x : β), R v x → x ∈ bs → ∀ (h : Heap) (tk : Nat), (∀ b o, s.heap.get? b = some o → h.get? b = some o) →
      wpAny (model prog w) A.in1.in1 (call (.ref f) [v]) (PySem.W.KeyPure (k x) { s with heap := h, toks := tk }) (fun _ _ => False) { s with heap := h, toks := tk })
    (h : ∀ out p c h' tk, (∀ b o, s.heap.get? b = some o → h'.get? b = some o) → s.heap.objs.size ≤ p → h'.get? p = some (seqObj "list" (List.toArray out) c) → out.length = bs.length → PySem.W.EachIs R out (bs.mergeSort (PySem.W.dataLe false k)) →
      Q (.ref p) { s with heap := h', toks := tk }) :
    wpAny (model prog w) A (call (.builtin "sorted") [.ref l] [(Str.ofString "key", .ref f)]) Q E s := by
  have hLv : vs.length ≤ sizeLine := by rw [e.length]; exact hL
  refine call_function_entry_kw kind_sorted plain_sorted entry_sorted (ksk_s1 _ _) ?_
  unfold Builtin.«sorted»
  refine wpAny_bind (m := checkCount "sorted" 1 1 _) (wpAny_pure ?_)
  have hL0 : (s.heap.push { cls := .type "list", data := .seq ([] : List Value).toArray }).get? s.heap.objs.size = some { cls := .type "list", data := .seq #[] 0 } := Heap.get?_push_size _ rfl
  refine wpAny_bind (collect_at l hT hl hcl hdt ?_ (by simpa using hLv))
  generalize eh1 : (s.heap.push { cls := .type "list", data := .seq ([] : List Value).toArray }).update s.heap.objs.size (Obj.mapSeq (· ++ vs.toArray)) = h1
  have kp1 : ∀ b o, s.heap.get? b = some o → h1.get? b = some o := fun b o' hb => by
    rw [← eh1]
    exact (Heap.get?_update_other _ _ (Nat.ne_of_gt (Heap.lt_size hb))).trans (Heap.get?_push_of_some _ hb)
  refine wpAny_bind (wpAny_newList ?_ (by simpa using hLv))
  have ev : vs.toArray.toList = vs := by simp
  rw [ev]
  have hp0 : (h1.push (seqObj "list" vs.toArray 0)).get? h1.objs.size = some (seqObj "list" vs.toArray 0) := Heap.get?_push_size _ rfl
  have kp2 : ∀ b o, s.heap.get? b = some o → (h1.push (seqObj "list" vs.toArray 0)).get? b = some o := fun b o q => Heap.get?_push_of_some _ (kp1 b o q)
  have hsz : s.heap.objs.size ≤ h1.objs.size := by
    rw [← eh1, Heap.size_update, Heap.size_push]
    omega
  have up : ∀ {g : Heap}, PySem.W.KeepsBut h1.objs.size (h1.push (seqObj "list" vs.toArray 0)) g → ∀ b o, s.heap.get? b = some o → g.get? b = some o := fun {g} kp b o q =>
    kp b o (fun z => absurd (Heap.lt_size (kp1 b o q)) (by rw [z]; exact Nat.lt_irrefl _)) (kp2 b o q)
  refine wpAny_bind (wpAny_holding (wpAny_call_entry_kw slot_list_sort ⟨_, hp0, rfl⟩ entry_list_sort ?body (ksk_l1 _ _)))
  case body =>
    show wpAny (model prog w) A.in1.in1 (Builtin.«list.sort» ⟨[.ref h1.objs.size], [(Str.ofString "key", .ref f)]⟩) _ _ _
    rw [ksk_t1]
    refine PySem.W.keyH_tree (kz := bs.map k) (s := { s with heap := h1.push (seqObj "list" vs.toArray 0) }) hp0 (by rw [List.length_map]; exact e.length.symm) hLv hal hk (PySem.W.bound_map (A := A.in1.in1) hu)
      (PySem.W.keyH_turns (s := { s with heap := h1.push (seqObj "list" vs.toArray 0) }) e fun v x hR hx h tk kp => turn v x hR hx h tk (up kp)) fun h' tk out c kp hD ko => ⟨_, rfl, wpAny_pure ⟨_, rfl, ?_⟩⟩
    exact h out _ c h' tk (up kp) hsz hD ((ko.length (by rw [List.length_map]; exact e.length.symm)).trans e.length) (PySem.W.keyedOut_each k ko e)
end
end Yf
namespace Yf
open PySem PySem.Spec L2 LamX
open PyProof.Rows hiding St
section
variable {X : Cx} {pins : List (Addr × Obj)} {σ : L2.St} {H : Hp} {s : Shared}
/-- a lambda made: all but the table's own object stays -/
theorem lam_made {T : List (Addr × Str)} {c P : Addr} {params : Arguments} {body : Expr} {scope : Scope} {pos : Pos} {E : Value → Shared → Prop} {Q : Value → Shared → Prop} (I : Inv X pins σ H s) (TB : TabB X.base X.mg c P) (hcode : X.env.code = .ref c)
    (hm : (P, X.env.qual ++ "<lambda>") ∈ T) (hu : ∀ p ∈ T, p.1 = P → p.2 = X.env.qual ++ "<lambda>") (hT : Tabs T H) (hdef : defaultsOf params X.env = ([], [])) (hfree : ∀ y ∈ scope.names, y.2 = .free → ∃ c, X.env.cells.lookup y.1 = some c)
    (h : ∀ (f c' : Addr) (pm ctv : Value) (H1 : Hp) (s' : Shared), Inv X pins σ H1 s' → (∀ b o, H b = some o → b ≠ P → H1 b = some o) → Tabs T H1 →
      s'.heap.get? f = some (PySem.W.kla_obj "<lambda>" (X.env.qual ++ "<lambda>") params body scope (cloFrom X.env.cells scope.names []) pm c' ctv) → H1 c' = some (CodeO c' (X.env.qual ++ "<lambda>")) → Q (.ref f) s') :
    wpAny (model X.prog X.w) X.A (eval (.Lambda params body scope pos) X.env) Q E s := by
  obtain ⟨ps, hP, ht, ha⟩ := hT _ hm
  have oP : s.heap.get? P = some { cls := .none, data := .fields ps } := I.hok P _ hP
  refine PySem.W.kla_eval hdef ?_
  cases hc : codeAmong pos ps.toList with
  | some cv =>
    obtain ⟨c', e, hco⟩ := ha pos cv hc
    subst e
    exact PySem.W.kla_makeFunctionHit (mg := X.mg) (c := c) (P := P) (ps := ps) (closure_ok hfree) I.ok.glob (I.mod.glob.keeps I.bk) hcode (TB.code.keeps I.bk) oP ht hc (TB.bm.keeps I.bk) fun ctv h' tk hx hsz =>
      h h'.objs.size c' ((X.mg "__name__").getD .none) ctv H _ (I.kept fun b o e => Heap.get?_push_of_some _ (hx b o e)) (fun _ _ e _ => e) hT (Heap.get?_push_size _ rfl) hco
  | none =>
    refine PySem.W.kla_makeFunction (mg := X.mg) (c := c) (P := P) (ps := ps) (closure_ok hfree) I.ok.glob (I.mod.glob.keeps I.bk) hcode (TB.code.keeps I.bk) oP ht hc TB.gP (TB.bm.keeps I.bk) fun c' ctv h' tk hx hge hlt hrec htb => ?_
    obtain ⟨c2, oc, vs, t, e2, hoc, hd, hv⟩ := hrec
    cases e2
    have nC : H c' = none := I.hok.fresh hge
    have keep : ∀ b o, H b = some o → b ≠ P → upd (upd H P (.tbl (ps ++ #[rawInt pos.line, rawInt pos.col, .ref c']))) c' (CodeO c' (X.env.qual ++ "<lambda>")) b = some o := fun b o e n => by
      rw [upd_ne (ne_of_none e nC), upd_ne n]; exact e
    have keepC : ∀ b q, H b = some (CodeO b q) → upd (upd H P (.tbl (ps ++ #[rawInt pos.line, rawInt pos.col, .ref c']))) c' (CodeO c' (X.env.qual ++ "<lambda>")) b = some (CodeO b q) := fun b q e => keep b _ e fun z => by
      rw [z, hP] at e
      exact codeO_ne ps (Option.some.inj e).symm
    have eL : (ps ++ #[rawInt pos.line, rawInt pos.col, .ref c']).toList = ps.toList ++ [rawInt pos.line, rawInt pos.col, .ref c'] := by simp
    refine h h'.objs.size c' ((X.mg "__name__").getD .none) ctv _ _
      (inv_table (t' := tk) (more := #[rawInt pos.line, rawInt pos.col, .ref c']) (h' := h'.push (PySem.W.kla_obj "<lambda>" (X.env.qual ++ "<lambda>") params body scope (cloFrom X.env.cells scope.names []) ((X.mg "__name__").getD .none) c' ctv)) I hP
        (fun b o hb e => Heap.get?_push_of_some _ (hx b o hb e)) (Heap.get?_push_of_some _ htb) hge ⟨oc, vs, t, Heap.get?_push_of_some _ hoc, hd, hv⟩)
      keep (fun p hp => ?_) (Heap.get?_push_size _ rfl) upd_same
    by_cases hb : p.1 = P
    · rw [hu p hp hb, hb]
      refine ⟨_, by rw [upd_ne (ne_of_none hP nC), upd_same], by rw [eL]; exact PySem.TriplesOk_snoc _ _ _ _ ht, fun p' cv hcv => ?_⟩
      rw [eL] at hcv
      rcases among_app _ ht hcv with z | z
      · obtain ⟨c0, e1, e2⟩ := ha p' cv z
        exact ⟨c0, e1, keepC _ _ e2⟩
      · exact ⟨c', z, upd_same⟩
    · obtain ⟨ps', a1, a2, a3⟩ := hT p hp
      refine ⟨ps', keep _ _ a1 hb, a2, fun p' cv hcv => ?_⟩
      obtain ⟨c0, e1, e2⟩ := a3 p' cv hcv
      exact ⟨c0, e1, keepC _ _ e2⟩
end
/-! ### sorted(e, key=lambda x: x[1]) -/
def key1 : D → Int
  | .tuple (_ :: .int k :: _) => k
  | _ => 0
def hasKey : D → Bool
  | .tuple (_ :: .int _ :: _) => true
  | _ => false
def sortK (ds : List D) : List D := ds.mergeSort fun a b => decide (key1 a ≤ key1 b)
def seqD : D → Option (List D)
  | .list ds => some ds
  | .tuple ds => some ds
  | _ => none
def evSK (f : Sl → Res Rv) : Sl → Res Rv := fun env => (evDs [f] env).bind fun ds env1 =>
  match ds with
  | [d] => (match seqD d with | some is => if is.all hasKey then .ok (.inr (.lst (sortK is))) env1 else .stuck | none => .stuck)
  | _ => .stuck
/-- the names that the lambda at hand needs -/
structure LamK (x : Str) (params : Arguments) (body : Expr) (scope : Scope) : Prop where
  bd : ∃ p1 p2 p3 j, body = .Subscript (.Name x p1) (.Constant (.int 1) j p2) p3
  bind : ∀ q pm c ctv v, bindArgs (PySem.W.kla_fn "<lambda>" q params body scope [] pm (.ref c) ctv) ⟨[v], []⟩ = pure [(x, v)]
  co : scope.isCoroutine = false
  gen : scope.isGenerator = false
  kind : scope.kind = .function
  loc : scope.names.lookup x = some .local
  cell : ∀ y ∈ scope.names, y.2 ≠ .cell
  free : ∀ y ∈ scope.names, y.2 ≠ .free
  dbg : (x == ("__debug__" : Str)) = false
theorem cloFrom_none {cells : List (Str × Addr)} : ∀ {names : List (Str × NameKind)}, (∀ y ∈ names, y.2 ≠ .free) → cloFrom cells names [] = []
  | [], _ => rfl
  | (n, k) :: r, h => by
    unfold cloFrom
    rw [if_neg]
    · exact cloFrom_none fun y hy => h y (List.mem_cons_of_mem _ hy)
    · have := h (n, k) (by simp)
      simpa using this
section
variable {C : Kx} {X : Cx}
theorem each_rep {K : PySem.W.Frag} {H : Hp} {O : Addr → Prop} {R : V → D → Prop} (hR : ∀ x d, Rep K H O d x → R x d) : ∀ {ds : List D} {xs : List V} {us : List Value}, RepAll K H O ds xs → Vals xs us → PySem.W.EachIs (fun u (b : D × V) => RelV b.2 u ∧ Rep K H O b.1 b.2) us (ds.zip xs)
  | [], xs, us, h, v => by
    simp only [RepAll] at h
    subst h
    cases v
    exact .nil
  | d :: ds, _, us, h, v => by
    simp only [RepAll] at h
    obtain ⟨x, s, rfl, a, b⟩ := h
    cases v with
    | cons r t => exact .cons ⟨r, a⟩ (each_rep hR b t)
theorem each_back {K : PySem.W.Frag} {H : Hp} {O : Addr → Prop} : ∀ {bs : List (D × V)} {us : List Value}, PySem.W.EachIs (fun u (b : D × V) => RelV b.2 u ∧ Rep K H O b.1 b.2) us bs → Vals (bs.map (·.2)) us ∧ RepAll K H O (bs.map (·.1)) (bs.map (·.2))
  | _, _, .nil => ⟨.nil, by simp [RepAll]⟩
  | b :: bs, _, .cons h t => by
    obtain ⟨v, r⟩ := each_back t
    refine ⟨.cons h.1 v, ?_⟩
    simp only [List.map_cons, RepAll]
    exact ⟨_, _, rfl, h.2, r⟩
theorem de_sk {x : Str} {c P : Addr} {e : Expr} {f : Sl → Res Rv} {params : Arguments} {body : Expr} {scope : Scope} {p pos lpos kpos : Pos} (hK : X.K = C.K) (hu2 : X.A.units + 100 < cLine) (hdp : X.A.depth < recursionLimit)
    (L : LamK x params body scope) (TB : TabB X.base X.mg c P) (hcode : X.env.code = .ref c) (hmT : (P, X.env.qual ++ "<lambda>") ∈ C.E.T) (huT : ∀ p ∈ C.E.T, p.1 = P → p.2 = X.env.qual ++ "<lambda>") (hdef : defaultsOf params X.env = ([], []))
    (hg : Gl X "sorted") (hm : X.mg "sorted" = none) (hv : bootBuiltins "sorted" = some (.builtin "sorted")) (ha : DA X C [e] [f]) (he : backTo pos (starEach [e] X.env) = (false, eval e X.env) :: backTo pos (starEach [] X.env)) (hpl : (backTo pos (starEach [e] X.env)).any (·.1) = false)
    (hkw : keywordEach [⟨some (Str.ofString "key"), .Lambda params body scope lpos, kpos⟩] X.env = [(some (Str.ofString "key"), eval (.Lambda params body scope lpos) X.env)]) :
    DE X C (.Call (.Name "sorted" p) [e] [⟨some (Str.ofString "key"), .Lambda params body scope lpos, kpos⟩] pos) (evSK f) := by
  refine ⟨⟨fun pins s σ H Q I q => ?_⟩⟩
  obtain ⟨env, ts, vs, h, q⟩ := q
  refine wpAny_Call_Name_kw (ld_blt I hg hm hv ?_ (by decide) (by decide))
  refine PyProof.Rows.callWith_kw (thn (ha.pa.run pos pins s σ H (fun ws H1 => ∃ v d is env1 , ws = [v] ∧ evDs [f] env = .ok [d] env1 ∧ seqD d = some is ∧ is.all hasKey = true ∧ ts.length = vs.length ∧ SRel C.K C.E env1 (ts ++ [.d d]) σ (vs ++ [v]) H1) I ?_) fun us s1 ⟨ws, H1, I1, r1, q1⟩ => ?_) he hpl rfl rfl
  · refine tDs_of (fs := [f]) h ?_
    simp only [evSK] at q
    cases e1 : evDs [f] env with
    | stuck => rw [e1] at q; exact q
    | exc x env1 => rw [e1] at q; exact q
    | ok ds env1 =>
      rw [e1] at q
      simp only [Res.bind] at q
      intro ws H' lt l h'
      rcases ds with _ | ⟨d, _ | ⟨d2, ds⟩⟩
      · exact False.elim q
      rotate_left
      · exact False.elim q
      rcases ws with _ | ⟨v, _ | ⟨w2, ws⟩⟩
      · simp at l
      rotate_left
      · simp at l
      dsimp only at q
      cases e2 : seqD d with
      | none => rw [e2] at q; exact q.elim
      | some is =>
        rw [e2] at q
        dsimp only at q
        cases e3 : is.all hasKey with
        | false => rw [e3] at q; exact q.elim
        | true => exact ⟨v, d, is, env1, rfl, rfl, e2, e3, lt, by simpa using h'⟩
  · obtain ⟨v, d, is, env1, rfl, e1, e2, e3, lt, h1⟩ := q1
    simp only [evSK, e1, Res.bind, e2, e3, if_true] at q
    obtain ⟨u, rfl, ru⟩ := vals1 r1
    obtain ⟨F, hF⟩ := h1
    show wpAny _ _ (evalAll [(do let v ← eval (.Lambda params body scope lpos) X.env; standAt pos; pure v)]) _ _ s1
    refine wpAny_evalAll_cons (wpAny_bind (lam_made I1 TB hcode hmT huT hF.tab hdef (fun y hy e => absurd e (L.free y hy)) fun f0 c' pm ctv H2 s2 I2 kp hT2 hf hc' => wpAny_bind (wpAny_standAt (wpAny_pure (wpAny_evalAll_nil ?_)))))
    show wpAny _ _ (call (.builtin "sorted") [u] [(Str.ofString "key", .ref f0)]) _ _ s2
    rw [cloFrom_none L.free] at hf
    have h2 : SR C.K C.E env1 (ts ++ [.d d]) σ (vs ++ [v]) H2 F := by
      refine hF.makeT (fun a o e n => ⟨kp a o e fun z => n (.inr ⟨_, hmT, z.symm⟩), n⟩) hT2 hF.len hF.lent (fun r m e => ?_) hF.emp hF.dis hF.io hF.ln
      obtain ⟨w, ew, qw⟩ := hF.rep r m e
      refine .inl ⟨r, w, e, ew, ew, rfl, fun a ha => ?_⟩
      obtain ⟨o, eo, _⟩ := qw.there a ha
      rw [eo]
      exact kp a o eo fun z => hF.notTab ⟨r, ha⟩ ⟨_, hmT, z.symm⟩
    obtain ⟨F2, hF2, rd⟩ := rep_at (tm := []) (vm := []) ⟨F, h2⟩ lt
    have main : ∀ (a : Addr) (xs : List V) (T : String) (o : Obj) (its : List Value) (n0 : Nat), v = .ref a → RepAll C.K H2 (Av C.E F2) is xs → (T = "list" ∨ T = "tuple") → s2.heap.get? a = some o → o.cls = .type T → o.data = .seq its.toArray n0 → Vals xs its → xs.length ≤ sizeLine →
        wpAny (model X.prog X.w) X.A (call (.builtin "sorted") [u] [(Str.ofString "key", .ref f0)]) (EP X pins σ Q) X.xe s2 := fun a xs T o its n0 ev ra hT ho hcl hdt rv hz => by
      subst ev
      obtain rfl : u = Value.ref a := ru
      have e9 := each_rep (R := fun _ _ => True) (fun _ _ _ => trivial) ra rv
      refine sorted_key_seq (bs := is.zip xs) (k := fun b : D × V => .int (key1 b.1)) hT ho hcl hdt e9 (PySem.W.AllAlike.of fun _ _ => by simp [PySem.W.alike]) (PySem.W.Sortable.others fun _ => ⟨(fun z => by cases z), fun _ z => by cases z⟩) (by rw [List.length_zip]; omega) (fun b _ => ?_) (fun w b hR hb h tk kph => ?_) fun out p0 c1 h' tk kph hsz hp hlen hE => ?_
      · show X.A.units + 2 + 0 < cLine
        omega
      · obtain ⟨rw1, rb⟩ := hR
        have hk : hasKey b.1 = true := (List.all_eq_true.mp e3) _ (List.of_mem_zip hb).1
        obtain ⟨b1, b2⟩ := b
        simp only at rw1 rb hk
        cases b1 with
        | tuple es =>
          match es, hk, rb with
          | e0 :: .int k1 :: er, _, rb =>
            simp only [Rep] at rb
            obtain ⟨t, ys, rfl, t1, t2⟩ := rb
            obtain rfl : w = Value.ref t := rw1
            simp only [RepAll] at t2
            obtain ⟨y0, s0, rfl, _, y1, s1', rfl, hy1, _⟩ := t2
            simp only [Rep] at hy1
            subst hy1
            obtain ⟨its2, rv2, tt, _⟩ := I2.tuple (by rw [hK]; exact t1.sq)
            obtain ⟨u1, hu1, ru1⟩ := rv2.get (i := 1) rfl
            obtain ⟨tk1, rfl⟩ := ru1
            obtain ⟨⟨oc, vs1, tq, ho1, ho2, ho3⟩, _, _⟩ := I2.hok c' _ hc'
            obtain ⟨p1, p2, p3, j, eb⟩ := L.bd
            subst eb
            obtain ⟨ot, g1, g2, n3, g3⟩ := tt
            exact lam_turn (A := X.A.in1.in1) (s := { s2 with heap := h, toks := tk }) (its := its2.toArray) (tk := tk1) hdp (kph _ _ hf) ⟨c', oc, vs1, tq, rfl, kph _ _ ho1, ho2, ho3⟩ (I2.nolimit.keeps kph) (fun v => L.bind _ _ _ _ v) L.co L.gen L.kind L.loc L.cell L.dbg ⟨ot, kph _ _ g1, g2, n3, g3⟩ (by show its2.toArray[1]? = some (.int k1 tk1); simpa using hu1)
          | [], hk, _ => cases hk
          | [_], hk, _ => cases hk
          | _ :: .none :: _, hk, _ => cases hk
          | _ :: .bool _ :: _, hk, _ => cases hk
          | _ :: .str _ :: _, hk, _ => cases hk
          | _ :: .list _ :: _, hk, _ => cases hk
          | _ :: .tuple _ :: _, hk, _ => cases hk
          | _ :: .dict _ :: _, hk, _ => cases hk
        | _ => cases hk
      · obtain ⟨vo, ro⟩ := each_back hE
        have np : H2 p0 = none := I2.hok.fresh hsz
        have lz : (((is.zip xs).mergeSort (PySem.W.dataLe false fun b : D × V => .int (key1 b.1))).map (·.2)).length ≤ sizeLine := by
          rw [List.length_map, List.length_mergeSort, List.length_zip]
          omega
        have es : ((is.zip xs).mergeSort (PySem.W.dataLe false fun b : D × V => .int (key1 b.1))).map (·.1) = sortK is := by
          rw [PySem.W.dataLe_int (β := D × V) (fun b => key1 b.1), List.map_mergeSort (s := fun a b => decide (key1 a ≤ key1 b)) (fun a _ b _ => rfl), List.map_fst_zip (by rw [repAll_len ra]; exact Nat.le_refl _)]
          rfl
        rw [es] at ro
        refine ⟨.ref p0, upd H2 p0 (.lst (((is.zip xs).mergeSort (PySem.W.dataLe false fun b : D × V => .int (key1 b.1))).map (·.2))), I2.laid (t' := tk) kph hsz ⟨lz, out, c1, vo, hp⟩, rfl, q _ _ (SRel.squash (tm := [.d d]) (vm := [.ref a]) (push_lst hF2 np ro) lt rfl) ?_⟩
        show (vs ++ [V.ref p0])[ts.length]? = _
        rw [lt]; simp
    cases d with
    | list ds =>
      simp only [seqD, Option.some.injEq] at e2
      subst e2
      simp only [Rep] at rd
      obtain ⟨a, xs, ev, _, r1, r2⟩ := rd
      obtain ⟨its, rv, pl, hz⟩ := I2.list (.inl r1)
      obtain ⟨o, g1, g2, n3, g3⟩ := pl.isList
      exact main a xs "list" o its n3 ev r2 (.inl rfl) g1 g2 g3 rv hz
    | tuple ds =>
      simp only [seqD, Option.some.injEq] at e2
      subst e2
      simp only [Rep] at rd
      obtain ⟨a, xs, ev, r1, r2⟩ := rd
      obtain ⟨its, rv, tt, hz⟩ := I2.tuple (by rw [hK]; exact r1.sq)
      obtain ⟨ot, g1, g2, n3, g3⟩ := tt
      exact main a xs "tuple" ot its n3 ev r2 (.inr rfl) g1 g2 g3 rv hz
    | _ => cases e2
end
end Yf
namespace Yf
open PySem PySem.Spec L2
open PyProof.Rows hiding St
section
variable {C : Kx} {X : Cx} {σ : St} {H : Hp}
/-! ### -e -/
def gNeg : List M → Option M
  | [.d (.int i)] => some (.d (.int (-i)))
  | _ => none
theorem sem_neg : SemN C (R1l (rU fun i => .int (-i))) gNeg := by
  intro env ts σ vs H F rs ms xs k Q hs hr e q
  unfold gNeg at e
  split at e
  · cases e
    obtain ⟨x, f, rfl, q1⟩ := one_of hs hr
    rw [int_rep q1]
    exact ⟨_, rfl, q _ H (push_sc hs (by simp only [Rep]))⟩
  · cases e
theorem de_neg {a : Expr} {pos : Pos} {fa : Sl → Res Rv} (ha : DE X C a fa) : DE X C (.UnaryOp .USub a pos) (evOp gNeg [fa]) := de_un un_neg sem_neg ha
/-! ### list(range(..)) -/
def rgOk (a b : Int) : Bool := decide (-(2 ^ 62) ≤ a) && decide (a < 2 ^ 62) && decide (-(2 ^ 62) ≤ b) && decide (b < 2 ^ 62) && decide ((b - a).toNat ≤ 2 ^ 24)
theorem rgOk_of {a b : Int} (h : rgOk a b = true) : RgOk a b := by
  simp only [rgOk, Bool.and_eq_true, decide_eq_true_eq] at h
  exact ⟨h.1.1.1.1, h.1.1.1.2, h.1.1.2, h.1.2, h.2⟩
theorem rangeD_rep {K : PySem.W.Frag} {O : Addr → Prop} {a b : Int} : RepAll K H O (rangeD a (b - a).toNat) (rgV a b) := by
  have : ∀ l : List Nat, RepAll K H O (l.map fun i => .int (a + (i : Nat))) (l.map fun i => V.int (a + (i : Nat))) := fun l => by
    induction l with
    | nil => simp [RepAll]
    | cons n l ih =>
      simp only [List.map_cons, RepAll, Rep]
      exact ⟨_, _, rfl, rfl, ih⟩
  exact this _
def evLR1 (f : Sl → Res Rv) : Sl → Res Rv := fun env => (evDs [f] env).bind fun ds env1 =>
  match ds with
  | [.int j] => if rgOk 0 j then .ok (.inr (.lst (rangeD 0 (j - 0).toNat))) env1 else .stuck
  | _ => .stuck
def evLR2 (f g : Sl → Res Rv) : Sl → Res Rv := fun env => (evDs [f, g] env).bind fun ds env1 =>
  match ds with
  | [.int i, .int j] => if rgOk i j then .ok (.inr (.lst (rangeD i (j - i).toNat))) env1 else .stuck
  | _ => .stuck
theorem de_lr1 {e : Expr} {f : Sl → Res Rv} {p p2 pos pos2 : Pos} (hc : X.calm = true) (hg : Gl X "list") (hm : X.mg "list" = none) (hg2 : Gl X "range") (hm2 : X.mg "range" = none) (he : DE X C e f)
    (na : starEach [e] X.env = (false, eval e X.env) :: starEach [] X.env) : DE X C (.Call (.Name "list" p) [.Call (.Name "range" p2) [e] [] pos2] [] pos) (evLR1 f) := by
  refine ⟨(pe_listRg hc hg hm (prg_1 hg2 hm2 he.pe na) rfl).weak fun σ H Q q => ?_⟩
  obtain ⟨env, ts, vs, h, q⟩ := q
  show tAs ([f].map (tE C)) σ H (fun ws H1 => match ws with | [x] => ∃ n, x = .int n ∧ (RgOk 0 n ∧ ∀ q, H1 q = none → Q (.ref q) (upd H1 q (.lst (rgV 0 n)))) | _ => False)
  refine tDs_of (fs := [f]) h ?_
  simp only [evLR1] at q
  cases e1 : evDs [f] env with
  | stuck => rw [e1] at q; exact q
  | exc x env1 => rw [e1] at q; exact q
  | ok ds env1 =>
    rw [e1] at q
    simp only [Res.bind] at q
    intro ws H' lt l h'
    rcases ds with _ | ⟨d, _ | ⟨d2, ds⟩⟩
    · exact False.elim q
    rotate_left
    · cases d <;> exact False.elim q
    rcases ws with _ | ⟨v, _ | ⟨w2, ws⟩⟩
    · simp at l
    rotate_left
    · simp at l
    cases d with
    | int j =>
      dsimp only at q
      cases c : rgOk 0 j with
      | false => rw [c] at q; exact False.elim q
      | true =>
        rw [c, if_pos rfl] at q
        have ev := ints_at1 (by simpa using h') lt
        subst ev
        refine ⟨j, rfl, rgOk_of c, fun p np => ?_⟩
        obtain ⟨F, hF⟩ := SRel.pops (ts := ts) (vs := vs) h' lt rfl
        refine q _ _ (push_lst hF np rangeD_rep) ?_
        show (vs ++ [V.ref p])[ts.length]? = _
        rw [lt]; simp
    | _ => exact False.elim q
theorem de_lr2 {e e2 : Expr} {f f2 : Sl → Res Rv} {p p2 pos pos2 : Pos} (hc : X.calm = true) (hg : Gl X "list") (hm : X.mg "list" = none) (hg2 : Gl X "range") (hm2 : X.mg "range" = none) (he : DE X C e f) (he2 : DE X C e2 f2)
    (na : starEach [e, e2] X.env = (false, eval e X.env) :: starEach [e2] X.env) (nb : starEach [e2] X.env = (false, eval e2 X.env) :: starEach [] X.env) (hp : (backTo pos2 (starEach [e2] X.env)).any (·.1) = false) : DE X C (.Call (.Name "list" p) [.Call (.Name "range" p2) [e, e2] [] pos2] [] pos) (evLR2 f f2) := by
  refine ⟨(pe_listRg hc hg hm (prg_2 hg2 hm2 he.pe he2.pe na nb hp) rfl).weak fun σ H Q q => ?_⟩
  obtain ⟨env, ts, vs, h, q⟩ := q
  show tAs ([f, f2].map (tE C)) σ H (fun ws H1 => match ws with | [x, y] => ∃ i j, x = .int i ∧ y = .int j ∧ (RgOk i j ∧ ∀ q, H1 q = none → Q (.ref q) (upd H1 q (.lst (rgV i j)))) | _ => False)
  refine tDs_of (fs := [f, f2]) h ?_
  simp only [evLR2] at q
  cases e1 : evDs [f, f2] env with
  | stuck => rw [e1] at q; exact q
  | exc x env1 => rw [e1] at q; exact q
  | ok ds env1 =>
    rw [e1] at q
    simp only [Res.bind] at q
    intro ws H' lt l h'
    rcases ds with _ | ⟨d, _ | ⟨d2, _ | ⟨d3, ds⟩⟩⟩
    · exact False.elim q
    · cases d <;> exact False.elim q
    rotate_left
    · cases d <;> first | exact False.elim q | (cases d2 <;> exact False.elim q)
    rcases ws with _ | ⟨v, _ | ⟨w, _ | ⟨w3, ws⟩⟩⟩
    · simp at l
    · simp at l
    rotate_left
    · simp at l
    cases d with
    | int i =>
      cases d2 with
      | int j =>
        dsimp only at q
        cases c : rgOk i j with
        | false => rw [c] at q; exact False.elim q
        | true =>
          rw [c, if_pos rfl] at q
          obtain ⟨F1, _, r⟩ := rep_at (tm := [.d (.int j)]) (vm := [w]) (by simpa using h') lt
          obtain ⟨F2, _, r2⟩ := rep_at (ts := ts ++ [.d (.int i)]) (vs := vs ++ [v]) (d := .int j) (v := w) (tm := []) (vm := []) (by simpa using h') (by simp [lt])
          simp only [Rep] at r r2
          subst r r2
          refine ⟨i, j, rfl, rfl, rgOk_of c, fun p np => ?_⟩
          obtain ⟨F, hF⟩ := SRel.pops (ts := ts) (vs := vs) h' lt rfl
          refine q _ _ (push_lst hF np rangeD_rep) ?_
          show (vs ++ [V.ref p])[ts.length]? = _
          rw [lt]; simp
      | _ => exact False.elim q
    | _ => exact False.elim q
end
end Yf
namespace Yf
open PySem PySem.Spec L2
open PyProof.Rows hiding St
/-! ### repr of a truth value -/
def gReprB : List M → Option M
  | [.d (.bool b)] => some (.d (.str (if b then "True" else "False")))
  | _ => none
def rReprB : List V → Hp → VK → Prop := fun xs H Q => ∃ b, xs = [.bl b] ∧ Q (.str (if b then "True" else "False")) H
theorem cr_reprB {X : Cx} : CallR X (.builtin "repr") rReprB := by
  intro pins s σ H xs us Q I r h
  obtain ⟨b, rfl, q⟩ := h
  obtain ⟨u, rfl, e⟩ := vals1 r
  obtain rfl : u = Value.bool b := e
  exact PySem.P.repr_of_bool ⟨.str _, H, I.tok _, ⟨_, rfl⟩, q⟩
theorem sem_reprB {C : Kx} : SemN C rReprB gReprB := by
  intro env ts σ vs H F rs ms xs k Q hs hr e q
  unfold gReprB at e
  split at e
  · cases e
    obtain ⟨x, f, rfl, q1⟩ := one_of hs hr
    rw [bool_rep q1]
    exact ⟨_, rfl, q _ H (push_sc hs (by simp only [Rep]))⟩
  · cases e
/-! ### a def whose code object is known -/
section
variable {P : Program} {w : World} {K : PySem.W.Frag} {mg : Str → Option Value} {base : Heap}
/-- a def, by the evaluation of its body -/
theorem fn_okC {x qual : Str} {st : Stmt} {f : Addr} {fd : FuncData} {N ps : List Str} {k : Nat} {io : List Nat} {s : Sl → SRes} (Fn0 : Fun K x qual st f fd) (S : FnScope N ps (defScope st)) (hl : ps.length ≤ N.length)
    (hbody : ∀ (cdv : Value), fd.code = cdv → ∀ (A : Around) (outer : List Env) (s0 : Shared) (H : Hp) (vs : List V) (E : XK) (F : Rt → List Addr) (AA : Addr → Prop), Room k (A.deeper (envOfC qual (defScope st) s0.heap.objs.size f cdv)) →
      Takes (cxOf (L2.CX P w) P w K mg base N qual (defScope st) f cdv A outer s0 H E) (fun cls d _ H => E cls d H) → vs.length = ps.length →
      DSs (cxOf (L2.CX P w) P w K mg base N qual (defScope st) f cdv A outer s0 H E) ⟨K, mg, ⟨H, Own F, ioVals io vs, N.length, AA, T⟩, fun cls d _ H => E cls d H⟩ (defBody st) s) :
    FnOk P w K mg base (L2.CX P w) (k + 1) f fd ps (spF K mg T (mkFn io ps.length N.length s)) := by
  obtain ⟨oc, od, kV, doc, pm, an, cdv, ct, osl, rfl, lk, hcd⟩ := Fn0.ex
  refine fn_of lk hcd S (fun vs H Q E h => h.1) fun A outer s0 H vs Q E hr hsp => ?_
  obtain ⟨lv, ms, F, AA, h, hio, q⟩ := hsp
  have lv : vs.length = ps.length := lv
  have B := hbody cdv rfl A outer s0 H vs E F AA hr (takes_of rfl rfl rfl rfl) lv
  refine ⟨_, B.pss, ?_⟩
  obtain ⟨F1, h1⟩ := h.enter (N := N) (io := io) (by omega)
  refine ⟨bodyEnv N.length ms, [], [], ⟨F1, h1⟩, ?_⟩
  have q : (match mkRun io ps.length N.length s ms with
  | some (.inr r, os) => ∀ v H' F', SR K (Alone T H F AA) [] (os ++ [r]) [] (iosOf io 0 vs ++ [v]) H' F' → Q v H'
  | some (.inl x, os) => ∀ cls dx H' F', SR K (Alone T H F AA) [] os [] (iosOf io 0 vs) H' F' → XRel K mg H' (Av (Alone T H F AA) F') x cls dx → E cls dx H'
  | none => False) := q
  unfold mkRun at q
  rw [← lv] at q
  cases e : s (bodyEnv N.length ms) with
  | stuck => rw [e] at q; exact q
  | bk env => rw [e] at q; exact q.elim
  | ct env => rw [e] at q; exact q.elim
  | rt m env =>
    rw [e] at q
    simp only at q
    intro σ v H' ⟨F', h2⟩
    cases e2 : collect io vs.length env with
    | none => rw [e2] at q; exact q.elim
    | some os =>
      rw [e2] at q
      obtain ⟨F2, h3, _⟩ := h2.leave e2 rfl
      exact q v H' F2 (by simpa using h3)
  | nx env =>
    rw [e] at q
    simp only at q
    intro σ H' ⟨F', h2⟩
    cases e2 : collect io vs.length env with
    | none => rw [e2] at q; exact q.elim
    | some os =>
      rw [e2] at q
      obtain ⟨F2, h3, _⟩ := (h2.pushD (d := .none) (v := .non) (by simp only [Rep])).leave e2 rfl
      exact q .non H' F2 (by simpa using h3)
  | exc x env =>
    rw [e] at q
    simp only at q
    intro cls dx σ H' ⟨F', h2, hx⟩
    cases e2 : collect io vs.length env with
    | none => rw [e2] at q; exact q.elim
    | some os =>
      rw [e2] at q
      obtain ⟨F2, h3, sub⟩ := h2.leave e2 rfl
      exact q cls dx H' F2 (by simpa using h3) (hx.step fun a o e n => ⟨e, fun z => n (sub a z)⟩)
end
/-! ### the law's own end, with the tables of all defs -/
open LamX in
theorem walk_ofTop {l : PySem.W.OpenLaw} {n k : Nat} {q : Program} {loose : List Str} {XP : (Str → Option Value) → Heap → Prop} {YP : World → Heap → Prop} {d : DefRec} {K : Params → PySem.W.Frag} {CX : World → CXT} {x : Str}
    (hn : l.most = some n) (hn2 : n ≤ sizeLine) (hdf : d.params.defaults = []) (hr : Room k callerA) (hY : ∀ (w : World) (h : Heap), YP w h → (K w.params).In h)
    (F : ∀ (w : World) (mg : Str → Option Value) (fa : Addr) (h : Heap), YP w h → (K w.params).In h → h.Ns mainGlobals mg → mg d.name = some (.ref fa) →
      (∀ (x : Str) (d' : DefRec) (c P : Addr), (recsOf q).find? (fun e => e.name == x) = some d' → PySem.W.tabIn (K w.params) x = some (c, P) → PySem.W.CodeHd h c P ∧ h.get? P = some { cls := .none, data := .fields #[] }) → LawAtS l w (K w.params) (CX w) k n x mg fa h)
    (hCX : ∀ (w : World) (H : Hp) (s : Shared) (e : Value) (s' : Shared), CX w [] H s (fun _ _ _ => False) e s' → False) :
    PySem.W.WalkO q loose XP YP l.row.toRowW d [] (fun f vs => PySem.call f vs) := by
  refine Att.attach_callB hn hdf fun w s₀ s₁ mg mb fa o pm cd doc a vs ns G Y ho hd hcd hmg hobj hints hlen hbits hg => ?_
  have KX := hY w _ Y
  obtain ⟨fd, cs, sp, hT, nT, C, hb, hsp, hF⟩ := F w mg fa _ Y KX G.T.g hmg fun x d' c P h1 h2 => PySem.W.tab_of G.T KX h1 h2
  exact law_callTs KX G.T.g G.T.b G.T.builtins G.T.nolimit hg hT nT C G.T.bmain hobj hints (Nat.le_trans hlen hn2) hr hF hb (fun H hH hS => hsp H a ns hlen hbits hH hS) fun H e s' => hCX w H s₁ e s'
end Yf
namespace Yf
open PySem PySem.Spec L2
open PyProof.Rows hiding St
theorem _root_.L2.Room.u {k n : Nat} {A : Around} (hr : Room k A) (h : n ≤ 200) : A.units + n < cLine := by
  have := hr.un
  omega
section
variable {C : Kx} {X : Cx} {io : List Nat} {vs : List V}
theorem io_ne {i : Nat} (h : io.contains i = false) : ∀ p ∈ ioVals io vs, p.1 ≠ i := fun p hp e => by
  have z : p.1 ∈ iosOf io 0 (List.range vs.length) := (List.of_mem_zip hp).1
  obtain ⟨k, hk⟩ := List.mem_iff_getElem?.mp z
  obtain ⟨j, h1, h2⟩ := mem_iosOf hk
  have hj := (List.getElem?_eq_some_iff.mp h2).1
  simp at hj
  rw [List.getElem?_range hj] at h2
  have h2 : j = p.1 := by simpa using h2
  rw [Nat.zero_add, h2, e, h] at h1
  cases h1
theorem io_nes {own : List Nat} (h : (own.all fun i => !io.contains i) = true) : ∀ i ∈ own, ∀ p ∈ ioVals io vs, p.1 ≠ i := fun i hi => io_ne (by simpa using List.all_eq_true.mp h i hi)
theorem slots_of {is : List Nat} {n : Nat} (hn : n = C.E.n) (h1 : (is.all fun i => decide (i < n)) = true) (h2 : ∀ i ∈ is, ∀ p ∈ C.E.io, p.1 ≠ i) : ∀ i ∈ is, slotB C i := fun i hi =>
  ⟨by rw [← hn]; simpa using List.all_eq_true.mp h1 i hi, h2 i hi⟩
/-- a text of the module's own -/
theorem de_globS {x : Str} {z : Str} {t : Tok} {pos : Pos} (hg : Gl X x) (hm : X.mg x = some (.str z t)) (hd : (x == ("__debug__" : Str)) = false) : DE X C (.Name x pos) (evC (.str z)) :=
  ⟨(pe_glob (v := .str z) hg hm ⟨t, rfl⟩ hd).weak fun _ _ _ h => tE_const (fun _ _ _ => by simp only [Rep]) h⟩
/-- {} -/
def evD0 : Sl → Res Rv := fun env => .ok (.inr (.dct [])) env
theorem de_dict0 {pos : Pos} : DE X C (.Dict [] [] pos) evD0 := by
  refine ⟨pe_dnewK.weak fun σ H Q q => ?_⟩
  obtain ⟨env, ts, vs, h, q⟩ := q
  have lt := h.lent
  obtain ⟨F, h⟩ := h
  intro p np
  refine q (.ref p) _ ⟨_, h.push (m := .dct []) (f := [p]) (keep_upd (o := .dK []) np) (by simp [np]) ?_⟩ ?_
  · simp only [RepM]
    exact ⟨p, [], [], rfl, rfl, by simp, upd_same, by simp [RepMs]⟩
  · show (vs ++ [V.ref p])[ts.length]? = _
    rw [lt]; simp
/-- one parameter, by its name -/
theorem kb_one {K : PySem.W.Frag} {x qual p : Str} {st : Stmt} {f : Addr} {fd : FuncData} (F : Fun K x qual st f fd)
    (h1 : ∀ (kV doc pm : Value) (an : Option Addr) (cdv ct u : Value), bindArgs (PySem.W.fnOf x qual (defArgs st) (defBody st) (defScope st) .none kV doc pm an cdv ct) ⟨[u], []⟩ = pure [(p, u)])
    (h2 : ∀ (kV doc pm : Value) (an : Option Addr) (cdv ct u : Value), bindArgs (PySem.W.fnOf x qual (defArgs st) (defBody st) (defScope st) .none kV doc pm an cdv ct) ⟨[], [(p, u)]⟩ = pure [(p, u)]) :
    KBinds K fd [p] [p] (fun us ws => us ++ pickAt [0] ws) (fun us ws => us ++ pickAt [0] ws) := by
  obtain ⟨oc, od, kV, doc, pm, an, cdv, ct, osl, rfl, lk, hcd⟩ := F.ex
  refine ⟨fun s us ws _ hl => ?_, fun r rz => ?_⟩
  · match us, ws, hl with
    | [], w :: ws, _ => exact .of_eq (h2 kV doc pm an cdv ct w)
    | [u], [], _ => exact .of_eq (h1 kV doc pm an cdv ct u)
    | [], [], hl => simp [pickAt] at hl
    | [u], w :: ws, hl => simp [pickAt] at hl
    | u :: u2 :: us, ws, hl => simp at hl
  · have := pickAt_vals (π := [0]) rz
    induction r with
    | nil => exact this
    | cons a t ih => exact .cons a ih
end
end Yf
namespace Yf
open PySem PySem.Spec L2
open PyProof.Rows hiding St
theorem cx_none {P : Program} {w : World} {H : Hp} {s : Shared} {u : Value} {s' : Shared} (h : L2.CX P w [] H s (fun _ _ _ => False) u s') : False := by
  unfold L2.CX at h
  obtain ⟨_, _, _, _, h⟩ := h
  simp at h
theorem lookup_mem {β : Type} {a : Addr} {b : β} : ∀ {l : List (Addr × β)}, List.lookup a l = some b → (a, b) ∈ l
  | [], h => by simp at h
  | (k, v) :: r, h => by
    simp only [List.lookup] at h
    split at h
    · rename_i e
      cases h
      have : a = k := by simpa using e
      simp [this]
    · exact List.mem_cons_of_mem _ (lookup_mem h)
theorem noLst_of {K : PySem.W.Frag} {H : Hp} {a : Addr} {xs : List V} (nl : (K.all fun p => !(p.2.cls == .type "list")) = true) (h : SqL K H a xs) : Rd H a (.lst xs) := by
  rcases h with h | ⟨o, its, n, e, ec, _⟩
  · exact h
  · have m := lookup_mem e
    have z := List.all_eq_true.mp nl _ m
    rw [ec] at z
    exact absurd z (by decide)
theorem law_promise {K : PySem.W.Frag} {mg : Str → Option Value} {T : List (Addr × Str)} {fn : Fn} {H : Hp} {a : Addr} {ns : List Int} (har : fn.ar = 1) (hio : fn.io = [])
    (ht : fn.run [.d (.list (ns.map .int))] = some (.inr (.d (.bool true)), [])) (hS : Rd H a (.lst (ns.map V.int))) (hT : LamX.Tabs T H) : spF K mg T fn [.ref a] H (fun v _ => v = .bl true) fun _ _ _ => False := by
  refine ⟨by rw [har]; rfl, [.d (.list (ns.map .int))], fun _ => [], fun _ => False, ?_, fun j m e _ => ?_, ?_⟩
  · have no : ¬ tAt T a := fun ⟨p, hp, e⟩ => by
      obtain ⟨ps, e1, _⟩ := hT p hp
      rw [e] at e1
      rcases hS with z | ⟨o, z⟩ <;> rw [e1] at z <;> cases z
    refine ⟨rfl, rfl, fun r m e => ?_, fun _ _ => rfl, (fun _ _ _ h _ => nomatch h), fun a o e n => ⟨e, fun z => n (z.imp_left fun ⟨_, h⟩ => nomatch h)⟩, (fun _ h => nomatch h), rfl, (fun _ h => h.elim), hT⟩
    cases r with
    | s i => simp [getR] at e
    | t j =>
      cases j with
      | succ j => simp [getR] at e
      | zero =>
        simp [getR] at e
        subst e
        refine ⟨.ref a, rfl, rfl, ?_⟩
        simp only [Rep]
        refine ⟨a, ns.map V.int, rfl, fun z => ?_, hS, rep_ints ns⟩
        rcases z with ⟨_, h⟩ | h | h
        · cases h
        · exact h
        · exact no h
  · cases j with
    | zero => simp at e; exact ⟨_, e.symm⟩
    | succ j => simp at e
  · rw [ht]
    intro v H' F' h
    rw [hio] at h
    have h : SR K _ [] [.d (.bool true)] [] [v] H' F' := h
    obtain ⟨w, ew, q⟩ := h.rep (.t 0) (.d (.bool true)) rfl
    have ew : [v][0]? = some w := ew
    simp at ew
    subst ew
    have q := q.2
    simpa only [Rep] using q
end Yf
namespace Yf
namespace k02
open PySem PySem.Spec L2
open PyProof.Rows hiding St
section
def topS (i : Nat) : Stmt := PySem.Challenge.pw_yesifs_k02_facts_among_any_values.main.body.getD i (.Pass ⟨0, 0, 0, 0⟩)
abbrev st_l_deck : Stmt := topS 15
abbrev st_l_in_order : Stmt := topS 21
abbrev st_l_draw : Stmt := topS 16
abbrev st_l_pick : Stmt := topS 17
abbrev st_l_shuffled : Stmt := topS 18
abbrev st_l_drawn_facts : Stmt := topS 20
abbrev st_l_names : Stmt := topS 19
abbrev st_l_odd : Stmt := topS 25
abbrev st_l_bent : Stmt := topS 26
abbrev st_is_rising : Stmt := topS 4
abbrev st_is_paper : Stmt := topS 3
abbrev st_is_integer : Stmt := topS 1
abbrev st_is_count : Stmt := topS 2
abbrev st_are_transactions : Stmt := topS 8
abbrev st_is_fact_value : Stmt := topS 9
abbrev st_are_facts_value : Stmt := topS 10
abbrev st_are_facts : Stmt := topS 13
abbrev st_is_fact : Stmt := topS 12
abbrev st_l_is_number : Stmt := topS 22
abbrev st_l_is_fact : Stmt := topS 23
abbrev st_l_are_facts : Stmt := topS 24
abbrev st_law : Stmt := topS 27
structure Gl0 (K : PySem.W.Frag) (mg : Str → Option Value) where
  a_l_deck : Addr
  d_l_deck : FuncData
  F_l_deck : Fun K "_law_deck" "_law_deck" st_l_deck a_l_deck d_l_deck
  g_l_deck : mg "_law_deck" = some (.ref a_l_deck)
  a_l_in_order : Addr
  d_l_in_order : FuncData
  F_l_in_order : Fun K "_law_in_order" "_law_in_order" st_l_in_order a_l_in_order d_l_in_order
  g_l_in_order : mg "_law_in_order" = some (.ref a_l_in_order)
  a_l_draw : Addr
  d_l_draw : FuncData
  F_l_draw : Fun K "_law_draw" "_law_draw" st_l_draw a_l_draw d_l_draw
  g_l_draw : mg "_law_draw" = some (.ref a_l_draw)
  a_l_pick : Addr
  d_l_pick : FuncData
  F_l_pick : Fun K "_law_pick" "_law_pick" st_l_pick a_l_pick d_l_pick
  g_l_pick : mg "_law_pick" = some (.ref a_l_pick)
  a_l_shuffled : Addr
  d_l_shuffled : FuncData
  F_l_shuffled : Fun K "_law_shuffled" "_law_shuffled" st_l_shuffled a_l_shuffled d_l_shuffled
  g_l_shuffled : mg "_law_shuffled" = some (.ref a_l_shuffled)
  a_l_drawn_facts : Addr
  d_l_drawn_facts : FuncData
  F_l_drawn_facts : Fun K "_law_drawn_facts" "_law_drawn_facts" st_l_drawn_facts a_l_drawn_facts d_l_drawn_facts
  g_l_drawn_facts : mg "_law_drawn_facts" = some (.ref a_l_drawn_facts)
  a_l_names : Addr
  d_l_names : FuncData
  F_l_names : Fun K "_law_names" "_law_names" st_l_names a_l_names d_l_names
  g_l_names : mg "_law_names" = some (.ref a_l_names)
  a_l_odd : Addr
  d_l_odd : FuncData
  F_l_odd : Fun K "_law_odd" "_law_odd" st_l_odd a_l_odd d_l_odd
  g_l_odd : mg "_law_odd" = some (.ref a_l_odd)
  a_l_bent : Addr
  d_l_bent : FuncData
  F_l_bent : Fun K "_law_bent" "_law_bent" st_l_bent a_l_bent d_l_bent
  g_l_bent : mg "_law_bent" = some (.ref a_l_bent)
  a_is_rising : Addr
  d_is_rising : FuncData
  F_is_rising : Fun K "is_rising" "is_rising" st_is_rising a_is_rising d_is_rising
  g_is_rising : mg "is_rising" = some (.ref a_is_rising)
  a_is_paper : Addr
  d_is_paper : FuncData
  F_is_paper : Fun K "is_paper" "is_paper" st_is_paper a_is_paper d_is_paper
  g_is_paper : mg "is_paper" = some (.ref a_is_paper)
  a_is_integer : Addr
  d_is_integer : FuncData
  F_is_integer : Fun K "is_integer" "is_integer" st_is_integer a_is_integer d_is_integer
  g_is_integer : mg "is_integer" = some (.ref a_is_integer)
  a_is_count : Addr
  d_is_count : FuncData
  F_is_count : Fun K "is_count" "is_count" st_is_count a_is_count d_is_count
  g_is_count : mg "is_count" = some (.ref a_is_count)
  a_are_transactions : Addr
  d_are_transactions : FuncData
  F_are_transactions : Fun K "are_transactions" "are_transactions" st_are_transactions a_are_transactions d_are_transactions
  g_are_transactions : mg "are_transactions" = some (.ref a_are_transactions)
  a_is_fact_value : Addr
  d_is_fact_value : FuncData
  F_is_fact_value : Fun K "is_fact_value" "is_fact_value" st_is_fact_value a_is_fact_value d_is_fact_value
  g_is_fact_value : mg "is_fact_value" = some (.ref a_is_fact_value)
  a_are_facts_value : Addr
  d_are_facts_value : FuncData
  F_are_facts_value : Fun K "are_facts_value" "are_facts_value" st_are_facts_value a_are_facts_value d_are_facts_value
  g_are_facts_value : mg "are_facts_value" = some (.ref a_are_facts_value)
  a_are_facts : Addr
  d_are_facts : FuncData
  F_are_facts : Fun K "are_facts" "are_facts" st_are_facts a_are_facts d_are_facts
  g_are_facts : mg "are_facts" = some (.ref a_are_facts)
  a_is_fact : Addr
  d_is_fact : FuncData
  F_is_fact : Fun K "is_fact" "is_fact" st_is_fact a_is_fact d_is_fact
  g_is_fact : mg "is_fact" = some (.ref a_is_fact)
  a_l_is_number : Addr
  d_l_is_number : FuncData
  F_l_is_number : Fun K "_law_is_number" "_law_is_number" st_l_is_number a_l_is_number d_l_is_number
  g_l_is_number : mg "_law_is_number" = some (.ref a_l_is_number)
  a_l_is_fact : Addr
  d_l_is_fact : FuncData
  F_l_is_fact : Fun K "_law_is_fact" "_law_is_fact" st_l_is_fact a_l_is_fact d_l_is_fact
  g_l_is_fact : mg "_law_is_fact" = some (.ref a_l_is_fact)
  a_l_are_facts : Addr
  d_l_are_facts : FuncData
  F_l_are_facts : Fun K "_law_are_facts" "_law_are_facts" st_l_are_facts a_l_are_facts d_l_are_facts
  g_l_are_facts : mg "_law_are_facts" = some (.ref a_l_are_facts)
  a_law : Addr
  d_law : FuncData
  F_law : Fun K "law" "law" st_law a_law d_law
  g_law : mg "law" = some (.ref a_law)
  c_l_in_order : Addr
  P_l_in_order : Addr
  h_l_in_order : d_l_in_order.code = .ref c_l_in_order
  c_law : Addr
  P_law : Addr
  h_law : d_law.code = .ref c_law
  pne : P_l_in_order ≠ P_law
  z_all : mg "all" = none
  z_bool : mg "bool" = none
  z_enumerate : mg "enumerate" = none
  z_int : mg "int" = none
  z_isinstance : mg "isinstance" = none
  z_len : mg "len" = none
  z_list : mg "list" = none
  z_max : mg "max" = none
  z_range : mg "range" = none
  z_repr : mg "repr" = none
  z_set : mg "set" = none
  z_sorted : mg "sorted" = none
  z_str : mg "str" = none
  z_tuple : mg "tuple" = none
  z_zip : mg "zip" = none
  c_DROPPED : ∃ t, mg "DROPPED" = some (.str "dropped" t)
  c_FIRM : ∃ t, mg "FIRM" = some (.str "firm" t)
variable {K : PySem.W.Frag} {mg : Str → Option Value}
abbrev Gl0.T (Gm : Gl0 K mg) : List (Addr × Str) := [(Gm.P_l_in_order, Str.ofString "_law_in_order.<locals>." ++ "<lambda>"), (Gm.P_law, Str.ofString "law.<locals>." ++ "<lambda>")]
variable {P : Program} {w : World} {base : Heap}
structure Tb0 (base : Heap) (Gm : Gl0 K mg) : Prop where
  t_l_in_order : LamX.TabB base mg Gm.c_l_in_order Gm.P_l_in_order
  t_law : LamX.TabB base mg Gm.c_law Gm.P_law
def den_l_deck : Sl → SRes :=
   (sSeq (sSet 1 (evC (.int 15362074)))
   (sSeq (sForI (fSeq (evOp gSl01 [(evN 0), evI (evC (.int 63))])) (gName1 2) (sSet 1 (evOp gMod [(evOp gInt [(evOp gAdd [(evOp gAdd [(evOp gMul [(evN 1), (evC (.int 48271))]), (evOp gMod [(evOp gInt [(evN 2)]), (evC (.int 2305843009213693921))])]), (evC (.int 37))])]), (evC (.int 2305843009213693951))])))
   (sRet [] (evDsp ["cells", "mixed", "turn"] [(evOp gRev [(evLc [2] (fSeq (evOp gSl01 [(evN 0), evI (evC (.int 63))])) (gName1 2) none (evOp gInt [(evN 2)]))]), (evN 1), (evC (.int 0))]))))
def fn_l_deck : Fn := mkFn [] 1 3 den_l_deck
theorem sc_l_deck : FnScope ["script", "mixed", "cell"] ["script"] (defScope st_l_deck) := ⟨rfl, rfl, rfl, by decide +kernel, rfl, by decide +kernel, by decide +kernel⟩
theorem b_l_deck (Gm : Gl0 K mg) : Binds K Gm.d_l_deck ["script"] [] := Gm.F_l_deck.binds fun _ _ _ _ _ _ us hl => match us, hl with | [_], _ => rfl
def den_l_in_order : Sl → SRes :=
   (sRet [] (evOp gTuple [(evSK (evN 0))]))
def fn_l_in_order : Fn := mkFn [] 1 1 den_l_in_order
theorem sc_l_in_order : FnScope ["facts"] ["facts"] (defScope st_l_in_order) := ⟨rfl, rfl, rfl, by decide +kernel, rfl, by decide +kernel, by decide +kernel⟩
theorem b_l_in_order (Gm : Gl0 K mg) : Binds K Gm.d_l_in_order ["facts"] [] := Gm.F_l_in_order.binds fun _ _ _ _ _ _ us hl => match us, hl with | [_], _ => rfl
def den_l_draw : Sl → SRes :=
   (sSeq (sPutK 0 "turn" (evOp gAdd [(evOp gIx [(evN 0), (evC (.str "turn"))]), (evC (.int 1))]))
   (sSeq (sSet 2 (evOp gAdd [(evOp gIx [(evN 0), (evC (.str "mixed"))]), (evOp gMul [(evC (.int 1099511627791)), (evOp gIx [(evN 0), (evC (.str "turn"))])])]))
   (sSeq (sIf (evNeK false 0 "cells") (sSeq (sSet 3 (evPopK 0 "cells"))
   (sSeq (sIf (evOp gGe [(evN 3), (evOp gPow [(evC (.int 10)), (evC (.int 18))])]) (sSeq (sEx (evAppK 0 "cells" 3 1))
   (sRet [0] (evOp gMod [(evOp gInt [(evN 3)]), (evN 1)]))) sNil)
   (sSet 2 (evOp gAdd [(evN 2), (evOp gMod [(evOp gInt [(evN 3)]), (evC (.int 2305843009213693921))])])))) sNil)
   (sSeq (sSet 2 (evOp gMod [(evOp gInt [(evOp gAdd [(evOp gMul [(evN 2), (evC (.int 6364136223846793005))]), (evC (.int 1442695040888963407))])]), (evC (.int 2305843009213693951))]))
   (sSeq (sSet 2 (evOp gMod [(evOp gInt [(evOp gAdd [(evOp gAdd [(evOp gMul [(evN 2), (evN 2)]), (evOp gMul [(evC (.int 2862933555777941757)), (evOp gIx [(evN 0), (evC (.str "turn"))])])]), (evC (.int 41))])]), (evC (.int 2305843009213693951))]))
   (sRet [0] (evOp gMod [(evOp gInt [(evOp gFdiv [(evN 2), (evC (.int 4096))])]), (evN 1)])))))))
def fn_l_draw : Fn := mkFn [0] 2 4 den_l_draw
theorem sc_l_draw : FnScope ["deck", "below", "number", "cell"] ["deck", "below"] (defScope st_l_draw) := ⟨rfl, rfl, rfl, by decide +kernel, rfl, by decide +kernel, by decide +kernel⟩
theorem b_l_draw (Gm : Gl0 K mg) : Binds K Gm.d_l_draw ["deck", "below"] [] := Gm.F_l_draw.binds fun _ _ _ _ _ _ us hl => match us, hl with | [_, _], _ => rfl
def den_l_pick : Sl → SRes :=
   (sRet [0] (evOp gIx [(evN 1), (evCall fn_l_draw [(evN 0), (evOp gLen [(evN 1)])])]))
def fn_l_pick : Fn := mkFn [0] 2 2 den_l_pick
theorem sc_l_pick : FnScope ["deck", "some"] ["deck", "some"] (defScope st_l_pick) := ⟨rfl, rfl, rfl, by decide +kernel, rfl, by decide +kernel, by decide +kernel⟩
theorem b_l_pick (Gm : Gl0 K mg) : Binds K Gm.d_l_pick ["deck", "some"] [] := Gm.F_l_pick.binds fun _ _ _ _ _ _ us hl => match us, hl with | [_, _], _ => rfl
def den_l_shuffled : Sl → SRes :=
   (sSeq (sPar 2 3 (evOp gList [(evN 1)]) (evLst []))
   (sSeq (sWhile (evOp gNe [(evN 2), (evLst [])]) (sEx (evMeth 3 [(evMeth 2 [(evCall fn_l_draw [(evN 0), (evOp gLen [(evN 2)])])] mPopAt)] mAppend)) 100)
   (sRet [0] (evN 3))))
def fn_l_shuffled : Fn := mkFn [0] 2 4 den_l_shuffled
theorem sc_l_shuffled : FnScope ["deck", "some", "left", "result"] ["deck", "some"] (defScope st_l_shuffled) := ⟨rfl, rfl, rfl, by decide +kernel, rfl, by decide +kernel, by decide +kernel⟩
theorem b_l_shuffled (Gm : Gl0 K mg) : Binds K Gm.d_l_shuffled ["deck", "some"] [] := Gm.F_l_shuffled.binds fun _ _ _ _ _ _ us hl => match us, hl with | [_, _], _ => rfl
def den_l_drawn_facts : Sl → SRes :=
   (sSeq (sPar 2 3 (evLst []) (evCall fn_l_pick [(evN 0), (evTup [(evV (evC (.int 6))), (evV (evC (.int 3))), (evV (evC (.int 12)))])]))
   (sSeq (sForI (fEnum (evN 1)) (gTupN [4, 5]) (sSeq (sSet 6 (evIf (evOp gGt [(evCall fn_l_draw [(evN 0), (evN 3)]), (evC (.int 0))]) (evOp gSl01 [(evN 1), evI (evN 4)]) (evLc [8] (fSeq (evN 1)) (gName1 8) (some (evOp gNe [(evN 8), (evN 5)])) (evN 8))))
   (sSeq (sSet 7 (evCall fn_l_draw [(evN 0), (evC (.int 9))]))
   (sIf (evOp gEq [(evN 7), (evC (.int 0))]) (sEx (evMeth 2 [(evTup [(evV (evC (.str "dropped"))), (evV (evN 5))])] mAppend)) (sIf (evOr (evOp gLt [(evN 7), (evC (.int 8))]) (evOp gEq [(evN 4), (evC (.int 0))])) (sEx (evMeth 2 [(evTup [(evV (evC (.str "firm"))), (evV (evN 5)), (evV (evOp gTuple [(evOp gSorted [(evOp gSl01 [(evCall fn_l_shuffled [(evN 0), (evN 6)]), evI (evCall fn_l_pick [(evN 0), (evTup [(evV (evC (.int 1))), (evV (evC (.int 2))), (evV (evC (.int 0))), (evV (evC (.int 1))), (evV (evC (.int 3)))])])])])]))])] mAppend)) sNil)))))
   (sRet [0] (evCall fn_l_in_order [(evN 2)]))))
def fn_l_drawn_facts : Fn := mkFn [0] 2 9 den_l_drawn_facts
theorem sc_l_drawn_facts : FnScope ["deck", "names", "result", "way", "at", "t", "some", "kind", "u"] ["deck", "names"] (defScope st_l_drawn_facts) := ⟨rfl, rfl, rfl, by decide +kernel, rfl, by decide +kernel, by decide +kernel⟩
theorem b_l_drawn_facts (Gm : Gl0 K mg) : Binds K Gm.d_l_drawn_facts ["deck", "names"] [] := Gm.F_l_drawn_facts.binds fun _ _ _ _ _ _ us hl => match us, hl with | [_, _], _ => rfl
def den_l_names : Sl → SRes :=
   (sSeq (sSet 2 (evIf (evOp gGt [(evCall fn_l_draw [(evN 0), (evC (.int 3))]), (evC (.int 0))]) (evLR1 (evC (.int 30))) (evOp gAdd [(evLst [(evV (evC (.int 3))), (evV (evC (.int 0))), (evV (evOp gPow [(evC (.int 10)), (evC (.int 9))])), (evV (evC (.int 12))), (evV (evC (.int 7))), (evV (evOp gPow [(evC (.int 10)), (evC (.int 30))])), (evV (evC (.int 25))), (evV (evC (.int 1)))]), (evLR2 (evC (.int 40)) (evC (.int 62)))])))
   (sRet [0] (evOp gSl01 [(evCall fn_l_shuffled [(evN 0), (evN 2)]), evI (evN 1)])))
def fn_l_names : Fn := mkFn [0] 2 3 den_l_names
theorem sc_l_names : FnScope ["deck", "many", "some"] ["deck", "many"] (defScope st_l_names) := ⟨rfl, rfl, rfl, by decide +kernel, rfl, by decide +kernel, by decide +kernel⟩
theorem b_l_names (Gm : Gl0 K mg) : Binds K Gm.d_l_names ["deck", "many"] [] := Gm.F_l_names.binds fun _ _ _ _ _ _ us hl => match us, hl with | [_, _], _ => rfl
def den_l_odd : Sl → SRes :=
   (sSeq (sSet 2 (evLst [(evV (evC .none)), (evV (evC (.bool true))), (evV (evC (.bool false))), (evV (evC (.int 0))), (evV (evC (.int 1))), (evV (evOp gNeg [(evC (.int 1))])), (evV (evC (.int 2))), (evV (evC (.int 7))), (evV (evC (.str ""))), (evV (evC (.str "firm"))), (evV (evC (.str "dropped"))), (evV (evC (.str "kept"))), (evV (evC (.str "open"))), (evV (evTup [])), (evV (evTup [(evV (evTup []))])), (evV (evLst [])), (evV evD0), (evV (evTup [(evV (evC (.int 0)))])), (evV (evTup [(evV (evC (.str "dropped"))), (evV (evC (.int 0)))])), (evV (evTup [(evV (evC (.str "firm"))), (evV (evC (.int 1))), (evV (evTup [(evV (evC (.int 0)))]))])), (evV (evOp gPow [(evC (.int 10)), (evC (.int 30))]))]))
   (sSeq (sIf (evIsi "tuple" (evN 1)) (sSet 2 (evOp gAdd [(evN 2), (evOp gMul [(evLst [(evV (evOp gList [(evN 1)])), (evV (evOp gAdd [(evN 1), (evTup [(evV (evC (.int 0)))])])), (evV (evOp gSl10 [(evN 1), evI (evC (.int 1))])), (evV (evOp gSl01 [(evN 1), evI (evOp gNeg [(evC (.int 1))])])), (evV (evOp gRev [(evN 1)])), (evV (evOp gAdd [(evN 1), (evOp gSl01 [(evN 1), evI (evC (.int 1))])])), (evV (evTup [(evV (evN 1))])), (evV (evOp gAdd [(evOp gSl01 [(evN 1), evI (evC (.int 1))]), (evN 1)])), (evV (evOp gAdd [(evOp gSl01 [(evN 1), evI (evC (.int 1))]), (evOp gSl10 [(evN 1), evI (evC (.int 2))])]))]), (evC (.int 3))])])) (sIf (evIsi "int" (evN 1)) (sSet 2 (evOp gAdd [(evN 2), (evOp gMul [(evLst [(evV (evOp gAdd [(evN 1), (evC (.int 1))])), (evV (evOp gSub [(evN 1), (evC (.int 1))])), (evV (evOp gNeg [(evN 1)])), (evV (evOp gEq [(evN 1), (evC (.int 1))])), (evV (evLst [(evV (evN 1))])), (evV (evTup [(evV (evN 1))])), (evV (evOp gStr [(evOp gMod [(evOp gInt [(evN 1)]), (evC (.int 1000))])]))]), (evC (.int 3))])])) (sIf (evIsi "str" (evN 1)) (sSet 2 (evOp gAdd [(evN 2), (evOp gMul [(evLst [(evV (evOp gAdd [(evN 1), (evC (.str "s"))])), (evV (evOp gAdd [(evN 1), (evC (.str " "))])), (evV (evOp gAdd [(evN 1), (evC (.str "\n"))])), (evV (evOp gSl10 [(evN 1), evI (evC (.int 1))])), (evV (evLst [(evV (evN 1))])), (evV (evTup [(evV (evN 1))])), (evV (evOp gAdd [(evN 1), (evN 1)]))]), (evC (.int 3))])])) sNil)))
   (sRet [0] (evCall fn_l_pick [(evN 0), (evN 2)]))))
def fn_l_odd : Fn := mkFn [0] 2 3 den_l_odd
theorem sc_l_odd : FnScope ["deck", "it", "some"] ["deck", "it"] (defScope st_l_odd) := ⟨rfl, rfl, rfl, by decide +kernel, rfl, by decide +kernel, by decide +kernel⟩
theorem b_l_odd (Gm : Gl0 K mg) : Binds K Gm.d_l_odd ["deck", "it"] [] := Gm.F_l_odd.binds fun _ _ _ _ _ _ us hl => match us, hl with | [_, _], _ => rfl
def den_l_bent : Sl → SRes :=
   (sSeq (sPar 2 3 (evLst []) (evN 1))
   (sSeq (sForI (fRange1 (evC (.int 8))) (gName1 4) (sSeq (sIf (evOr (evNot (evIsi "tuple" (evN 3))) (evOr (evOp gEq [(evN 3), (evTup [])]) (evOp gEq [(evCall fn_l_draw [(evN 0), (evC (.int 6))]), (evC (.int 0))]))) (fun env => .bk env) sNil)
   (sSeq (sSet 5 (evCall fn_l_draw [(evN 0), (evOp gLen [(evN 3)])]))
   (sSeq (sEx (evMeth 2 [(evTup [(evV (evN 3)), (evV (evN 5))])] mAppend))
   (sSet 3 (evOp gIx [(evN 3), (evN 5)]))))))
   (sSeq (sSet 3 (evCall fn_l_odd [(evN 0), (evN 3)]))
   (sSeq (sForI (fSeq (evOp gRev [(evN 2)])) (gTupN [6, 5]) (sSet 3 (evOp gAdd [(evOp gAdd [(evOp gSl01 [(evN 6), evI (evN 5)]), (evTup [(evV (evN 3))])]), (evOp gSl10 [(evN 6), evI (evOp gAdd [(evN 5), (evC (.int 1))])])])))
   (sRet [0] (evN 3))))))
def fn_l_bent : Fn := mkFn [0] 2 7 den_l_bent
theorem sc_l_bent : FnScope ["deck", "it", "path", "here", "turn", "at", "near"] ["deck", "it"] (defScope st_l_bent) := ⟨rfl, rfl, rfl, by decide +kernel, rfl, by decide +kernel, by decide +kernel⟩
theorem b_l_bent (Gm : Gl0 K mg) : Binds K Gm.d_l_bent ["deck", "it"] [] := Gm.F_l_bent.binds fun _ _ _ _ _ _ us hl => match us, hl with | [_, _], _ => rfl
def den_is_rising : Sl → SRes :=
   (sRet [] (evOp gAll [(evLc [1, 2] (fZip (evN 0) (evOp gSl10 [(evN 0), evI (evC (.int 1))])) (gTupN [1, 2]) none (evOp gLt [(evN 1), (evN 2)]))]))
def fn_is_rising : Fn := mkFn [] 1 3 den_is_rising
theorem sc_is_rising : FnScope ["some", "one", "other"] ["some"] (defScope st_is_rising) := ⟨rfl, rfl, rfl, by decide +kernel, rfl, by decide +kernel, by decide +kernel⟩
theorem b_is_rising (Gm : Gl0 K mg) : Binds K Gm.d_is_rising ["some"] [] := Gm.F_is_rising.binds fun _ _ _ _ _ _ us hl => match us, hl with | [_], _ => rfl
def den_is_paper : Sl → SRes :=
   (sRet [] (evAnd (evIsi "tuple" (evN 0)) (evAnd (evOp gEq [(evOp gLen [(evN 0)]), (evN 2)]) (evAnd (evIsi "str" (evOp gIx [(evN 0), (evC (.int 0))])) (evOp gEq [(evOp gIx [(evN 0), (evC (.int 0))]), (evN 1)])))))
def fn_is_paper : Fn := mkFn [] 3 3 den_is_paper
theorem sc_is_paper : FnScope ["thing", "word", "many"] ["thing", "word", "many"] (defScope st_is_paper) := ⟨rfl, rfl, rfl, by decide +kernel, rfl, by decide +kernel, by decide +kernel⟩
theorem b_is_paper (Gm : Gl0 K mg) : Binds K Gm.d_is_paper ["thing", "word", "many"] [] := Gm.F_is_paper.binds fun _ _ _ _ _ _ us hl => match us, hl with | [_, _, _], _ => rfl
def den_is_integer : Sl → SRes :=
   (sRet [] (evAnd (evIsi "int" (evN 0)) (evNot (evIsi "bool" (evN 0)))))
def fn_is_integer : Fn := mkFn [] 1 1 den_is_integer
theorem sc_is_integer : FnScope ["thing"] ["thing"] (defScope st_is_integer) := ⟨rfl, rfl, rfl, by decide +kernel, rfl, by decide +kernel, by decide +kernel⟩
theorem b_is_integer (Gm : Gl0 K mg) : Binds K Gm.d_is_integer ["thing"] [] := Gm.F_is_integer.binds fun _ _ _ _ _ _ us hl => match us, hl with | [_], _ => rfl
def den_is_count : Sl → SRes :=
   (sRet [] (evAnd (evCall fn_is_integer [(evN 0)]) (evOp gGe [(evN 0), (evC (.int 0))])))
def fn_is_count : Fn := mkFn [] 1 1 den_is_count
theorem sc_is_count : FnScope ["thing"] ["thing"] (defScope st_is_count) := ⟨rfl, rfl, rfl, by decide +kernel, rfl, by decide +kernel, by decide +kernel⟩
theorem b_is_count (Gm : Gl0 K mg) : Binds K Gm.d_is_count ["thing"] [] := Gm.F_is_count.binds fun _ _ _ _ _ _ us hl => match us, hl with | [_], _ => rfl
def den_are_transactions : Sl → SRes :=
   (sRet [] (evAnd (evIsi "tuple" (evN 0)) (evAnd (evOp gAll [(evLc [1] (fSeq (evN 0)) (gName1 1) none (evCall fn_is_count [(evN 1)]))]) (evCall fn_is_rising [(evN 0)]))))
def fn_are_transactions : Fn := mkFn [] 1 2 den_are_transactions
theorem sc_are_transactions : FnScope ["thing", "t"] ["thing"] (defScope st_are_transactions) := ⟨rfl, rfl, rfl, by decide +kernel, rfl, by decide +kernel, by decide +kernel⟩
theorem b_are_transactions (Gm : Gl0 K mg) : Binds K Gm.d_are_transactions ["thing"] [] := Gm.F_are_transactions.binds fun _ _ _ _ _ _ us hl => match us, hl with | [_], _ => rfl
def den_is_fact_value : Sl → SRes :=
   (sSeq (sIf (evCall fn_is_paper [(evN 0), (evC (.str "dropped")), (evC (.int 2))]) (sRet [] (evCall fn_is_count [(evOp gIx [(evN 0), (evC (.int 1))])])) sNil)
   (sSeq (sIf (evOr (evNot (evCall fn_is_paper [(evN 0), (evC (.str "firm")), (evC (.int 3))])) (evNot (evCall fn_is_count [(evOp gIx [(evN 0), (evC (.int 1))])]))) (sRet [] (evC (.bool false))) sNil)
   (sRet [] (evAnd (evCall fn_are_transactions [(evOp gIx [(evN 0), (evC (.int 2))])]) (evOp gNin [(evOp gIx [(evN 0), (evC (.int 1))]), (evOp gIx [(evN 0), (evC (.int 2))])])))))
def fn_is_fact_value : Fn := mkFn [] 1 1 den_is_fact_value
theorem sc_is_fact_value : FnScope ["thing"] ["thing"] (defScope st_is_fact_value) := ⟨rfl, rfl, rfl, by decide +kernel, rfl, by decide +kernel, by decide +kernel⟩
theorem b_is_fact_value (Gm : Gl0 K mg) : Binds K Gm.d_is_fact_value ["thing"] [] := Gm.F_is_fact_value.binds fun _ _ _ _ _ _ us hl => match us, hl with | [_], _ => rfl
def den_are_facts_value : Sl → SRes :=
   (sSeq (sIf (evOr (evNot (evIsi "tuple" (evN 0))) (evNot (evOp gAll [(evLc [1] (fSeq (evN 0)) (gName1 1) none (evCall fn_is_fact_value [(evN 1)]))]))) (sRet [] (evC (.bool false))) sNil)
   (sRet [] (evCall fn_is_rising [(evLc [1] (fSeq (evN 0)) (gName1 1) none (evOp gIx [(evN 1), (evC (.int 1))]))])))
def fn_are_facts_value : Fn := mkFn [] 1 2 den_are_facts_value
theorem sc_are_facts_value : FnScope ["thing", "fact"] ["thing"] (defScope st_are_facts_value) := ⟨rfl, rfl, rfl, by decide +kernel, rfl, by decide +kernel, by decide +kernel⟩
theorem b_are_facts_value (Gm : Gl0 K mg) : Binds K Gm.d_are_facts_value ["thing"] [] := Gm.F_are_facts_value.binds fun _ _ _ _ _ _ us hl => match us, hl with | [_], _ => rfl
def den_are_facts : Sl → SRes :=
   (sRet [] (evCall fn_are_facts_value [(evN 0)]))
def fn_are_facts : Fn := mkFn [] 1 1 den_are_facts
theorem sc_are_facts : FnScope ["thing"] ["thing"] (defScope st_are_facts) := ⟨rfl, rfl, rfl, by decide +kernel, rfl, by decide +kernel, by decide +kernel⟩
theorem b_are_facts (Gm : Gl0 K mg) : Binds K Gm.d_are_facts ["thing"] [] := Gm.F_are_facts.binds fun _ _ _ _ _ _ us hl => match us, hl with | [_], _ => rfl
def den_is_fact : Sl → SRes :=
   (sRet [] (evCall fn_is_fact_value [(evN 0)]))
def fn_is_fact : Fn := mkFn [] 1 1 den_is_fact
theorem sc_is_fact : FnScope ["thing"] ["thing"] (defScope st_is_fact) := ⟨rfl, rfl, rfl, by decide +kernel, rfl, by decide +kernel, by decide +kernel⟩
theorem b_is_fact (Gm : Gl0 K mg) : Binds K Gm.d_is_fact ["thing"] [] := Gm.F_is_fact.binds fun _ _ _ _ _ _ us hl => match us, hl with | [_], _ => rfl
def den_l_is_number : Sl → SRes :=
   (sRet [] (evAnd (evIsi "int" (evN 0)) (evAnd (evNot (evIsi "bool" (evN 0))) (evOp gGe [(evN 0), (evC (.int 0))]))))
def fn_l_is_number : Fn := mkFn [] 1 1 den_l_is_number
theorem sc_l_is_number : FnScope ["thing"] ["thing"] (defScope st_l_is_number) := ⟨rfl, rfl, rfl, by decide +kernel, rfl, by decide +kernel, by decide +kernel⟩
theorem b_l_is_number (Gm : Gl0 K mg) : Binds K Gm.d_l_is_number ["thing"] [] := Gm.F_l_is_number.binds fun _ _ _ _ _ _ us hl => match us, hl with | [_], _ => rfl
def den_l_is_fact : Sl → SRes :=
   (sSeq (sIf (evOr (evNot (evIsi "tuple" (evN 0))) (evOr (evOp gNin [(evOp gLen [(evN 0)]), (evTup [(evV (evC (.int 2))), (evV (evC (.int 3)))])]) (evOr (evNot (evIsi "str" (evOp gIx [(evN 0), (evC (.int 0))]))) (evNot (evCall fn_l_is_number [(evOp gIx [(evN 0), (evC (.int 1))])]))))) (sRet [] (evC (.bool false))) sNil)
   (sSeq (sIf (evOp gEq [(evOp gLen [(evN 0)]), (evC (.int 2))]) (sRet [] (evOp gEq [(evOp gIx [(evN 0), (evC (.int 0))]), (evC (.str "dropped"))])) sNil)
   (sSeq (sIf (evOr (evOp gNe [(evOp gIx [(evN 0), (evC (.int 0))]), (evC (.str "firm"))]) (evOr (evNot (evIsi "tuple" (evOp gIx [(evN 0), (evC (.int 2))]))) (evOp gNe [(evLc [1] (fSeq (evOp gIx [(evN 0), (evC (.int 2))])) (gName1 1) (some (evNot (evCall fn_l_is_number [(evN 1)]))) (evN 1)), (evLst [])]))) (sRet [] (evC (.bool false))) sNil)
   (sRet [] (evAnd (evOp gEq [(evOp gList [(evOp gIx [(evN 0), (evC (.int 2))])]), (evSS (evOp gIx [(evN 0), (evC (.int 2))]))]) (evOp gNin [(evOp gIx [(evN 0), (evC (.int 1))]), (evOp gIx [(evN 0), (evC (.int 2))])]))))))
def fn_l_is_fact : Fn := mkFn [] 1 2 den_l_is_fact
theorem sc_l_is_fact : FnScope ["thing", "u"] ["thing"] (defScope st_l_is_fact) := ⟨rfl, rfl, rfl, by decide +kernel, rfl, by decide +kernel, by decide +kernel⟩
theorem b_l_is_fact (Gm : Gl0 K mg) : Binds K Gm.d_l_is_fact ["thing"] [] := Gm.F_l_is_fact.binds fun _ _ _ _ _ _ us hl => match us, hl with | [_], _ => rfl
def den_l_are_facts : Sl → SRes :=
   (sSeq (sIf (evOr (evNot (evIsi "tuple" (evN 0))) (evOp gNe [(evLc [3] (fSeq (evN 0)) (gName1 3) (some (evNot (evCall fn_l_is_fact [(evN 3)]))) (evN 3)), (evLst [])])) (sRet [] (evC (.bool false))) sNil)
   (sRet [] (evOp gEq [(evLc [1, 2] (fZip (evN 0) (evOp gSl10 [(evN 0), evI (evC (.int 1))])) (gTupN [1, 2]) (some (evOp gGe [(evOp gIx [(evN 1), (evC (.int 1))]), (evOp gIx [(evN 2), (evC (.int 1))])])) (evC (.int 1))), (evLst [])])))
def fn_l_are_facts : Fn := mkFn [] 1 4 den_l_are_facts
theorem sc_l_are_facts : FnScope ["thing", "near", "far", "fact"] ["thing"] (defScope st_l_are_facts) := ⟨rfl, rfl, rfl, by decide +kernel, rfl, by decide +kernel, by decide +kernel⟩
theorem b_l_are_facts (Gm : Gl0 K mg) : Binds K Gm.d_l_are_facts ["thing"] [] := Gm.F_l_are_facts.binds fun _ _ _ _ _ _ us hl => match us, hl with | [_], _ => rfl
def den_law : Sl → SRes :=
   (sSeq (sSet 1 (evCall fn_l_deck [(evN 0)]))
   (sSeq (sForI (fRange1 (evC (.int 5))) (gName1 2) (sSeq (sSet 3 (evCall fn_l_drawn_facts [(evN 1), (evCall fn_l_names [(evN 1), (evCall fn_l_draw [(evN 1), (evC (.int 15))])])]))
   (sForI (fRange1 (evC (.int 5))) (gName1 4) (sSeq (sSet 5 (evIf (evOp gGt [(evN 4), (evC (.int 0))]) (evCall fn_l_bent [(evN 1), (evN 3)]) (evN 3)))
   (sSeq (sIf (evAnd (evOp gEq [(evN 4), (evC (.int 4))]) (evOp gNe [(evN 3), (evTup [])])) (sSet 5 (evOp gTuple [(evSK (evOp gAdd [(evN 3), (evTup [(evV (evCall fn_l_pick [(evN 1), (evLst [(evV (evTup [(evV (evC (.str "dropped"))), (evV (evOp gIx [(evOp gIx [(evN 3), (evC (.int 0))]), (evC (.int 1))]))])), (evV (evOp gIx [(evN 3), (evC (.int 0))])), (evV (evTup [(evV (evC (.str "firm"))), (evV (evOp gIx [(evOp gIx [(evN 3), (evOp gNeg [(evC (.int 1))])]), (evC (.int 1))])), (evV (evTup []))]))])]))])]))])) sNil)
   (sSeq (sSet 6 (evIf (evOp gEq [(evOp gMod [(evOp gInt [(evN 4)]), (evC (.int 2))]), (evC (.int 0))]) (evCall fn_are_facts [(evN 5)]) (evCallK fn_are_facts [0] [(evN 5)])))
   (sSeq (sIf (evOp gNe [(evOp gReprB [(evN 6)]), (evOp gReprB [(evCall fn_l_are_facts [(evN 5)])])]) (sRet [] (evC (.bool false))) sNil)
   (sSeq (sSet 7 (evCall fn_l_pick [(evN 1), (evOp gAdd [(evN 3), (evTup [(evV (evTup [(evV (evC (.str "dropped"))), (evV (evC (.int 0)))])), (evV (evTup [(evV (evC (.str "firm"))), (evV (evC (.int 3))), (evV (evTup [(evV (evC (.int 1))), (evV (evC (.int 2)))]))]))])])]))
   (sSeq (sSet 7 (evIf (evOp gGt [(evN 4), (evC (.int 0))]) (evCall fn_l_bent [(evN 1), (evN 7)]) (evN 7)))
   (sSeq (sSet 6 (evIf (evOp gEq [(evOp gMod [(evOp gInt [(evN 4)]), (evC (.int 2))]), (evC (.int 0))]) (evCall fn_is_fact [(evN 7)]) (evCallK fn_is_fact [0] [(evN 7)])))
   (sIf (evOp gNe [(evOp gReprB [(evN 6)]), (evOp gReprB [(evCall fn_l_is_fact [(evN 7)])])]) (sRet [] (evC (.bool false))) sNil)))))))))))
   (sRet [] (evC (.bool true)))))
def fn_law : Fn := mkFn [] 1 8 den_law
theorem sc_law : FnScope ["script", "deck", "turn", "facts", "go", "thing", "got", "fact"] ["script"] (defScope st_law) := ⟨rfl, rfl, rfl, by decide +kernel, rfl, by decide +kernel, by decide +kernel⟩
theorem b_law (Gm : Gl0 K mg) : Binds K Gm.d_law ["script"] [] := Gm.F_law.binds fun _ _ _ _ _ _ us hl => match us, hl with | [_], _ => rfl
theorem kb_are_facts (Gm : Gl0 K mg) : KBinds K Gm.d_are_facts ["thing"] ["thing"] (fun us ws => us ++ pickAt [0] ws) (fun us ws => us ++ pickAt [0] ws) :=
  kb_one Gm.F_are_facts (fun _ _ _ _ _ _ _ => rfl) (fun _ _ _ _ _ _ _ => rfl)
theorem kb_is_fact (Gm : Gl0 K mg) : KBinds K Gm.d_is_fact ["thing"] ["thing"] (fun us ws => us ++ pickAt [0] ws) (fun us ws => us ++ pickAt [0] ws) :=
  kb_one Gm.F_is_fact (fun _ _ _ _ _ _ _ => rfl) (fun _ _ _ _ _ _ _ => rfl)
set_option maxHeartbeats 0 in
theorem ok_l_deck (Gm : Gl0 K mg) (Tb : Tb0 base Gm) : FnOk P w K mg base (L2.CX P w) 1 Gm.a_l_deck Gm.d_l_deck ["script"] (spF K mg Gm.T fn_l_deck) := by
  refine fn_okC Gm.F_l_deck sc_l_deck (by decide) fun cdv hcd A outer s0 H vs E F AA hr tk lv => ?_
  have sc := sc_l_deck
  exact (dss_cons (ds_set (i := 1) sc.nd (by rfl) (by first | exact .inl (by rfl) | exact .inr (by rfl)) de_int (by rfl) (by first | exact .inl (by rfl) | exact .inr (by rfl)) (io_ne (by decide)) (by rfl))
   (dss_cons (ds_for (passes_of (by rfl)) (by rfl) (di_seq (de_sl01 (by rfl) (de_name (i := 0) (by rfl) (by first | exact .inl (by rfl) | exact .inr (.inl (by rfl)) | exact .inr (.inr (by rfl))) (by rfl) (by rfl)) de_int) (by rfl)) (dg_name (i := 2) sc.nd (by rfl) (by first | exact .inl (by rfl) | exact .inr (by rfl)) (by first | exact .inl (by rfl) | exact .inr (by rfl)) (io_ne (by decide)) (by rfl)) (dss_one (ds_set (i := 1) sc.nd (by rfl) (by first | exact .inl (by rfl) | exact .inr (by rfl)) (de_bin op_mod sem_mod (de_callTy cr_int sem_int (by rfl) Gm.z_int (by rfl) (da_cons (de_bin or_add sem_add (de_bin or_add sem_add (de_bin (or_mul) sem_mul (de_name (i := 1) (by rfl) (by first | exact .inl (by rfl) | exact .inr (.inl (by rfl)) | exact .inr (.inr (by rfl))) (by rfl) (by rfl)) de_int) (de_bin op_mod sem_mod (de_callTy cr_int sem_int (by rfl) Gm.z_int (by rfl) (da_cons (de_name (i := 2) (by rfl) (by first | exact .inl (by rfl) | exact .inr (.inl (by rfl)) | exact .inr (.inr (by rfl))) (by rfl) (by rfl)) da_nil (by rfl)) (by decide) (by rfl) (by rfl) (by rfl)) de_int)) de_int) da_nil (by rfl)) (by decide) (by rfl) (by rfl) (by rfl)) de_int) (by rfl) (by first | exact .inl (by rfl) | exact .inr (by rfl)) (io_ne (by decide)) (by rfl))) (fun _ => (by rfl)))
   (dss_one (ds_ret (de_disp (pps_cons pe_str (de_rev (by rfl) (de_lc (by rfl) sc.nd (di_seq (de_sl01 (by rfl) (de_name (i := 0) (by rfl) (by first | exact .inl (by rfl) | exact .inr (.inl (by rfl)) | exact .inr (.inr (by rfl))) (by rfl) (by rfl)) de_int) (by rfl)) (blkOk_by (N := [Str.ofString "script", Str.ofString "mixed", Str.ofString "cell"]) (sc := defScope st_l_deck) (own := [("cell", 2)]) (by decide +kernel)) (fun _ _ _ _ _ => pg_name (i := 2) sc.nd (by rfl) (by first | exact .inl (by rfl) | exact .inr (by rfl)) (by first | exact .inl (by rfl) | exact .inr (by rfl))) (gok_name ⟨(by decide : 2 < 3), io_ne (by decide)⟩) (fun _ _ _ _ _ => tst_none) (fun _ _ _ _ _ => (de_callTy cr_int sem_int (by rfl) Gm.z_int (by rfl) (da_cons (de_name (i := 2) (by rfl) (by first | exact .inl (by rfl) | exact .inr (.inl (by rfl)) | exact .inr (.inr (by rfl))) (by rfl) (by rfl)) da_nil (by rfl)) (by decide) (by rfl) (by rfl) (by rfl))) (by rfl) (fun _ => (by rfl)) (by decide) (io_nes (by decide)))).pe (pps_cons pe_str (de_name (i := 1) (by rfl) (by first | exact .inl (by rfl) | exact .inr (.inl (by rfl)) | exact .inr (.inr (by rfl))) (by rfl) (by rfl)).pe (pps_cons pe_str de_int.pe pps_nil))) (by rfl) (by decide) (by rfl) (by rfl) (fun z => nomatch z) (by decide) (by decide))))))
set_option maxHeartbeats 0 in
theorem ok_l_in_order (Gm : Gl0 K mg) (Tb : Tb0 base Gm) : FnOk P w K mg base (L2.CX P w) 1 Gm.a_l_in_order Gm.d_l_in_order ["facts"] (spF K mg Gm.T fn_l_in_order) := by
  refine fn_okC Gm.F_l_in_order sc_l_in_order (by decide) fun cdv hcd A outer s0 H vs E F AA hr tk lv => ?_
  have sc := sc_l_in_order
  have hcode : cdv = .ref Gm.c_l_in_order := hcd.symm.trans Gm.h_l_in_order
  subst hcode
  have hcode := (rfl : Value.ref Gm.c_l_in_order = Value.ref Gm.c_l_in_order)
  have TB := Tb.t_l_in_order
  have hmT : (Gm.P_l_in_order, Str.ofString "_law_in_order.<locals>." ++ "<lambda>") ∈ Gm.T := by simp
  have huT : ∀ p ∈ Gm.T, p.1 = Gm.P_l_in_order → p.2 = Str.ofString "_law_in_order.<locals>." ++ "<lambda>" := by
    have z := Gm.pne
    intro p hp e
    simp only [Gl0.T, List.mem_cons, List.mem_singleton, List.not_mem_nil, or_false] at hp
    rcases hp with rfl | rfl <;> first | rfl | (exact absurd e (by first | exact z | exact Ne.symm z))
  exact (dss_one (ds_ret (de_callTy cr_tuple sem_tuple (by rfl) Gm.z_tuple (by rfl) (da_cons (de_sk (x := "fact") (by rfl) (hr.u (by decide)) hr.depth ⟨⟨_, _, _, _, (by rfl)⟩, fun _ _ _ _ _ => (by rfl), (by rfl), (by rfl), (by rfl), (by rfl), by decide, by decide, (by rfl)⟩ TB hcode hmT huT (by rfl) (by rfl) Gm.z_sorted (by rfl) (da_cons (de_name (i := 0) (by rfl) (by first | exact .inl (by rfl) | exact .inr (.inl (by rfl)) | exact .inr (.inr (by rfl))) (by rfl) (by rfl)) da_nil (by rfl)) (by rfl) (by rfl) (by rfl)) da_nil (by rfl)) (by decide) (by rfl) (by rfl) (by rfl))))
set_option maxHeartbeats 0 in
theorem ok_l_draw (Gm : Gl0 K mg) (Tb : Tb0 base Gm) : FnOk P w K mg base (L2.CX P w) 1 Gm.a_l_draw Gm.d_l_draw ["deck", "below"] (spF K mg Gm.T fn_l_draw) := by
  refine fn_okC Gm.F_l_draw sc_l_draw (by decide) fun cdv hcd A outer s0 H vs E F AA hr tk lv => ?_
  have sc := sc_l_draw
  exact (dss_cons (ds_putK (i := 0) (hr.u (by decide)) (by rfl) (by first | exact .inl (by rfl) | exact .inr (.inl (by rfl)) | exact .inr (.inr (by rfl))) (by rfl) (by rfl) (de_bin or_add sem_add (de_ix (or_ix (hr.u (by decide))) sem_ix (de_name (i := 0) (by rfl) (by first | exact .inl (by rfl) | exact .inr (.inl (by rfl)) | exact .inr (.inr (by rfl))) (by rfl) (by rfl)) de_str (fun _ _ => (by rfl))) de_int) (by rfl))
   (dss_cons (ds_set (i := 2) sc.nd (by rfl) (by first | exact .inl (by rfl) | exact .inr (by rfl)) (de_bin or_add sem_add (de_ix (or_ix (hr.u (by decide))) sem_ix (de_name (i := 0) (by rfl) (by first | exact .inl (by rfl) | exact .inr (.inl (by rfl)) | exact .inr (.inr (by rfl))) (by rfl) (by rfl)) de_str (fun _ _ => (by rfl))) (de_bin (or_mul) sem_mul de_int (de_ix (or_ix (hr.u (by decide))) sem_ix (de_name (i := 0) (by rfl) (by first | exact .inl (by rfl) | exact .inr (.inl (by rfl)) | exact .inr (.inr (by rfl))) (by rfl) (by rfl)) de_str (fun _ _ => (by rfl))))) (by rfl) (by first | exact .inl (by rfl) | exact .inr (by rfl)) (io_ne (by decide)) (by rfl))
   (dss_cons (ds_if (dt_neK (k2 := 0) (i := 0) (hr.u (by decide)) (by rfl) (by rfl) (by first | exact .inl (by rfl) | exact .inr (.inl (by rfl)) | exact .inr (.inr (by rfl))) (by rfl) (by rfl) (fun _ _ => (by rfl)) (by rfl)) (dss_cons (ds_set (i := 3) sc.nd (by rfl) (by first | exact .inl (by rfl) | exact .inr (by rfl)) (de_popK (i := 0) (hr.u (by decide)) (by rfl) (by rfl) (by first | exact .inl (by rfl) | exact .inr (.inl (by rfl)) | exact .inr (.inr (by rfl))) (by rfl) (by rfl) (fun _ _ => (by rfl)) (by rfl) (by rfl)) (by rfl) (by first | exact .inl (by rfl) | exact .inr (by rfl)) (io_ne (by decide)) (by rfl))
   (dss_cons (ds_if (dt_cmp or_ge sem_ge (de_name (i := 3) (by rfl) (by first | exact .inl (by rfl) | exact .inr (.inl (by rfl)) | exact .inr (.inr (by rfl))) (by rfl) (by rfl)) (de_bin op_pow sem_pow de_int de_int) (by rfl)) (dss_cons (ds_expr (de_appK (i := 0) (j := 3) (l := 1) (hr.u (by decide)) (by rfl) (by rfl) (by rfl) (by first | exact .inl (by rfl) | exact .inr (.inl (by rfl)) | exact .inr (.inr (by rfl))) (by rfl) (by rfl) (by rfl) (by first | exact .inl (by rfl) | exact .inr (.inl (by rfl)) | exact .inr (.inr (by rfl))) (by rfl) (by rfl) (by rfl) (by first | exact .inl (by rfl) | exact .inr (.inl (by rfl)) | exact .inr (.inr (by rfl))) (by rfl) (by rfl) (by rfl) Gm.z_max (by rfl) (fun _ _ => (by rfl)) (by rfl) (by rfl) (by rfl)) (by rfl))
   (dss_one (ds_ret (de_bin op_mod sem_mod (de_callTy cr_int sem_int (by rfl) Gm.z_int (by rfl) (da_cons (de_name (i := 3) (by rfl) (by first | exact .inl (by rfl) | exact .inr (.inl (by rfl)) | exact .inr (.inr (by rfl))) (by rfl) (by rfl)) da_nil (by rfl)) (by decide) (by rfl) (by rfl) (by rfl)) (de_name (i := 1) (by rfl) (by first | exact .inl (by rfl) | exact .inr (.inl (by rfl)) | exact .inr (.inr (by rfl))) (by rfl) (by rfl)))))) dss_nil)
   (dss_one (ds_set (i := 2) sc.nd (by rfl) (by first | exact .inl (by rfl) | exact .inr (by rfl)) (de_bin or_add sem_add (de_name (i := 2) (by rfl) (by first | exact .inl (by rfl) | exact .inr (.inl (by rfl)) | exact .inr (.inr (by rfl))) (by rfl) (by rfl)) (de_bin op_mod sem_mod (de_callTy cr_int sem_int (by rfl) Gm.z_int (by rfl) (da_cons (de_name (i := 3) (by rfl) (by first | exact .inl (by rfl) | exact .inr (.inl (by rfl)) | exact .inr (.inr (by rfl))) (by rfl) (by rfl)) da_nil (by rfl)) (by decide) (by rfl) (by rfl) (by rfl)) de_int)) (by rfl) (by first | exact .inl (by rfl) | exact .inr (by rfl)) (io_ne (by decide)) (by rfl))))) dss_nil)
   (dss_cons (ds_set (i := 2) sc.nd (by rfl) (by first | exact .inl (by rfl) | exact .inr (by rfl)) (de_bin op_mod sem_mod (de_callTy cr_int sem_int (by rfl) Gm.z_int (by rfl) (da_cons (de_bin or_add sem_add (de_bin (or_mul) sem_mul (de_name (i := 2) (by rfl) (by first | exact .inl (by rfl) | exact .inr (.inl (by rfl)) | exact .inr (.inr (by rfl))) (by rfl) (by rfl)) de_int) de_int) da_nil (by rfl)) (by decide) (by rfl) (by rfl) (by rfl)) de_int) (by rfl) (by first | exact .inl (by rfl) | exact .inr (by rfl)) (io_ne (by decide)) (by rfl))
   (dss_cons (ds_set (i := 2) sc.nd (by rfl) (by first | exact .inl (by rfl) | exact .inr (by rfl)) (de_bin op_mod sem_mod (de_callTy cr_int sem_int (by rfl) Gm.z_int (by rfl) (da_cons (de_bin or_add sem_add (de_bin or_add sem_add (de_bin (or_mul) sem_mul (de_name (i := 2) (by rfl) (by first | exact .inl (by rfl) | exact .inr (.inl (by rfl)) | exact .inr (.inr (by rfl))) (by rfl) (by rfl)) (de_name (i := 2) (by rfl) (by first | exact .inl (by rfl) | exact .inr (.inl (by rfl)) | exact .inr (.inr (by rfl))) (by rfl) (by rfl))) (de_bin (or_mul) sem_mul de_int (de_ix (or_ix (hr.u (by decide))) sem_ix (de_name (i := 0) (by rfl) (by first | exact .inl (by rfl) | exact .inr (.inl (by rfl)) | exact .inr (.inr (by rfl))) (by rfl) (by rfl)) de_str (fun _ _ => (by rfl))))) de_int) da_nil (by rfl)) (by decide) (by rfl) (by rfl) (by rfl)) de_int) (by rfl) (by first | exact .inl (by rfl) | exact .inr (by rfl)) (io_ne (by decide)) (by rfl))
   (dss_one (ds_ret (de_bin op_mod sem_mod (de_callTy cr_int sem_int (by rfl) Gm.z_int (by rfl) (da_cons (de_bin op_fdivW sem_fdiv (de_name (i := 2) (by rfl) (by first | exact .inl (by rfl) | exact .inr (.inl (by rfl)) | exact .inr (.inr (by rfl))) (by rfl) (by rfl)) de_int) da_nil (by rfl)) (by decide) (by rfl) (by rfl) (by rfl)) (de_name (i := 1) (by rfl) (by first | exact .inl (by rfl) | exact .inr (.inl (by rfl)) | exact .inr (.inr (by rfl))) (by rfl) (by rfl))))))))))
set_option maxHeartbeats 0 in
theorem ok_l_pick (Gm : Gl0 K mg) (Tb : Tb0 base Gm) : FnOk P w K mg base (L2.CX P w) 2 Gm.a_l_pick Gm.d_l_pick ["deck", "some"] (spF K mg Gm.T fn_l_pick) := by
  refine fn_okC Gm.F_l_pick sc_l_pick (by decide) fun cdv hcd A outer s0 H vs E F AA hr tk lv => ?_
  have sc := sc_l_pick
  exact (dss_one (ds_ret (de_ix (or_ix (hr.u (by decide))) sem_ix (de_name (i := 1) (by rfl) (by first | exact .inl (by rfl) | exact .inr (.inl (by rfl)) | exact .inr (.inr (by rfl))) (by rfl) (by rfl)) (de_call (ok_l_draw Gm Tb) (hr.mono (by decide)) (by rfl) Gm.g_l_draw Gm.F_l_draw.kp (b_l_draw Gm) tk (da_cons (de_name (i := 0) (by rfl) (by first | exact .inl (by rfl) | exact .inr (.inl (by rfl)) | exact .inr (.inr (by rfl))) (by rfl) (by rfl)) (da_cons (de_callB or_len sem_len (by rfl) Gm.z_len (by rfl) (da_cons (de_name (i := 1) (by rfl) (by first | exact .inl (by rfl) | exact .inr (.inl (by rfl)) | exact .inr (.inr (by rfl))) (by rfl) (by rfl)) da_nil (by rfl)) (by decide) (by rfl) (by rfl) (by rfl)) da_nil (by rfl)) (by rfl)) (by rfl) (by rfl) (by rfl)) (fun _ _ => (by rfl)))))
set_option maxHeartbeats 0 in
theorem ok_l_shuffled (Gm : Gl0 K mg) (Tb : Tb0 base Gm) : FnOk P w K mg base (L2.CX P w) 2 Gm.a_l_shuffled Gm.d_l_shuffled ["deck", "some"] (spF K mg Gm.T fn_l_shuffled) := by
  refine fn_okC Gm.F_l_shuffled sc_l_shuffled (by decide) fun cdv hcd A outer s0 H vs E F AA hr tk lv => ?_
  have sc := sc_l_shuffled
  exact (dss_cons (ds_par (i := 2) (j := 3) (by rfl) sc.nd (by rfl) (by rfl) (by decide) (by rfl) (by rfl) (da_cons (de_callTy cr_list sem_list (by rfl) Gm.z_list (by rfl) (da_cons (de_name (i := 1) (by rfl) (by first | exact .inl (by rfl) | exact .inr (.inl (by rfl)) | exact .inr (.inr (by rfl))) (by rfl) (by rfl)) da_nil (by rfl)) (by decide) (by rfl) (by rfl) (by rfl)) (da_cons (de_lst da_nil) da_nil (by rfl)) (by rfl)) (by rfl) (by rfl) ⟨(by decide : 2 < 4), io_ne (by decide)⟩ ⟨(by decide : 3 < 4), io_ne (by decide)⟩)
   (dss_cons (ds_while (passes_of (by rfl)) (dt_cmp (or_ne (hr.u (by decide))) sem_ne (de_name (i := 2) (by rfl) (by first | exact .inl (by rfl) | exact .inr (.inl (by rfl)) | exact .inr (.inr (by rfl))) (by rfl) (by rfl)) (de_lst da_nil) (by rfl)) (dss_one (ds_expr (de_meth (i := 3) PySem.F.slot_list_append PySem.F.type_list_append mt_append mg_append (by rfl) (by rfl) (by first | exact .inl (by rfl) | exact .inr (.inl (by rfl)) | exact .inr (.inr (by rfl))) (by rfl) (by rfl) (da_cons (de_meth (i := 2) PySem.F.slot_list_pop PySem.F.type_list_pop mt_popAt mg_popAt (by rfl) (by rfl) (by first | exact .inl (by rfl) | exact .inr (.inl (by rfl)) | exact .inr (.inr (by rfl))) (by rfl) (by rfl) (da_cons (de_call (ok_l_draw Gm Tb) (hr.mono (by decide)) (by rfl) Gm.g_l_draw Gm.F_l_draw.kp (b_l_draw Gm) tk (da_cons (de_name (i := 0) (by rfl) (by first | exact .inl (by rfl) | exact .inr (.inl (by rfl)) | exact .inr (.inr (by rfl))) (by rfl) (by rfl)) (da_cons (de_callB or_len sem_len (by rfl) Gm.z_len (by rfl) (da_cons (de_name (i := 2) (by rfl) (by first | exact .inl (by rfl) | exact .inr (.inl (by rfl)) | exact .inr (.inr (by rfl))) (by rfl) (by rfl)) da_nil (by rfl)) (by decide) (by rfl) (by rfl) (by rfl)) da_nil (by rfl)) (by rfl)) (by rfl) (by rfl) (by rfl)) da_nil (by rfl)) (by rfl) (by rfl) (by rfl) (by rfl) (by rfl)) da_nil (by rfl)) (by rfl) (by rfl) (by rfl) (by rfl) (by rfl)) (by rfl))))
   (dss_one (ds_ret (de_name (i := 3) (by rfl) (by first | exact .inl (by rfl) | exact .inr (.inl (by rfl)) | exact .inr (.inr (by rfl))) (by rfl) (by rfl))))))
set_option maxHeartbeats 0 in
theorem ok_l_drawn_facts (Gm : Gl0 K mg) (Tb : Tb0 base Gm) : FnOk P w K mg base (L2.CX P w) 3 Gm.a_l_drawn_facts Gm.d_l_drawn_facts ["deck", "names"] (spF K mg Gm.T fn_l_drawn_facts) := by
  refine fn_okC Gm.F_l_drawn_facts sc_l_drawn_facts (by decide) fun cdv hcd A outer s0 H vs E F AA hr tk lv => ?_
  have sc := sc_l_drawn_facts
  exact (dss_cons (ds_par (i := 2) (j := 3) (by rfl) sc.nd (by rfl) (by rfl) (by decide) (by rfl) (by rfl) (da_cons (de_lst da_nil) (da_cons (de_call (ok_l_pick Gm Tb) (hr.mono (by decide)) (by rfl) Gm.g_l_pick Gm.F_l_pick.kp (b_l_pick Gm) tk (da_cons (de_name (i := 0) (by rfl) (by first | exact .inl (by rfl) | exact .inr (.inl (by rfl)) | exact .inr (.inr (by rfl))) (by rfl) (by rfl)) (da_cons (de_tup (da_cons (de_val de_int) (da_cons (de_val de_int) (da_cons (de_val de_int) da_nil (by rfl)) (by rfl)) (by rfl))) da_nil (by rfl)) (by rfl)) (by rfl) (by rfl) (by rfl)) da_nil (by rfl)) (by rfl)) (by rfl) (by rfl) ⟨(by decide : 2 < 9), io_ne (by decide)⟩ ⟨(by decide : 3 < 9), io_ne (by decide)⟩)
   (dss_cons (ds_for (passes_of (by rfl)) (by rfl) (di_enum (by rfl) Gm.z_enumerate (da_cons (de_name (i := 1) (by rfl) (by first | exact .inl (by rfl) | exact .inr (.inl (by rfl)) | exact .inr (.inr (by rfl))) (by rfl) (by rfl)) da_nil (by rfl)) (by rfl) (by rfl)) (dg_tup (by rfl) (by rfl) (.cons (nameAt (i := 4) sc.nd (by rfl) (by first | exact .inl (by rfl) | exact .inr (by rfl)) (by first | exact .inl (by rfl) | exact .inr (by rfl))) (.cons (nameAt (i := 5) sc.nd (by rfl) (by first | exact .inl (by rfl) | exact .inr (by rfl)) (by first | exact .inl (by rfl) | exact .inr (by rfl))) NamesAt.nil)) (slots_of (n := 9) (by rfl) (by decide) (io_nes (by decide)))) (dss_cons (ds_set (i := 6) sc.nd (by rfl) (by first | exact .inl (by rfl) | exact .inr (by rfl)) (de_ifExp (dt_cmp or_gt sem_gt (de_call (ok_l_draw Gm Tb) (hr.mono (by decide)) (by rfl) Gm.g_l_draw Gm.F_l_draw.kp (b_l_draw Gm) tk (da_cons (de_name (i := 0) (by rfl) (by first | exact .inl (by rfl) | exact .inr (.inl (by rfl)) | exact .inr (.inr (by rfl))) (by rfl) (by rfl)) (da_cons (de_name (i := 3) (by rfl) (by first | exact .inl (by rfl) | exact .inr (.inl (by rfl)) | exact .inr (.inr (by rfl))) (by rfl) (by rfl)) da_nil (by rfl)) (by rfl)) (by rfl) (by rfl) (by rfl)) de_int (by rfl)) (de_sl01 (by rfl) (de_name (i := 1) (by rfl) (by first | exact .inl (by rfl) | exact .inr (.inl (by rfl)) | exact .inr (.inr (by rfl))) (by rfl) (by rfl)) (de_name (i := 4) (by rfl) (by first | exact .inl (by rfl) | exact .inr (.inl (by rfl)) | exact .inr (.inr (by rfl))) (by rfl) (by rfl))) (de_lc (by rfl) sc.nd (di_seq (de_name (i := 1) (by rfl) (by first | exact .inl (by rfl) | exact .inr (.inl (by rfl)) | exact .inr (.inr (by rfl))) (by rfl) (by rfl)) (by rfl)) (blkOk_by (N := [Str.ofString "deck", Str.ofString "names", Str.ofString "result", Str.ofString "way", Str.ofString "at", Str.ofString "t", Str.ofString "some", Str.ofString "kind", Str.ofString "u"]) (sc := defScope st_l_drawn_facts) (own := [("u", 8)]) (by decide +kernel)) (fun _ _ _ _ _ => pg_name (i := 8) sc.nd (by rfl) (by first | exact .inl (by rfl) | exact .inr (by rfl)) (by first | exact .inl (by rfl) | exact .inr (by rfl))) (gok_name ⟨(by decide : 8 < 9), io_ne (by decide)⟩) (fun _ _ _ _ _ => tst_some (dt_cmp (or_ne (hr.u (by decide))) sem_ne (de_name (i := 8) (by rfl) (by first | exact .inl (by rfl) | exact .inr (.inl (by rfl)) | exact .inr (.inr (by rfl))) (by rfl) (by rfl)) (de_name (i := 5) (by rfl) (by first | exact .inl (by rfl) | exact .inr (.inl (by rfl)) | exact .inr (.inr (by rfl))) (by rfl) (by rfl)) (by rfl))) (fun _ _ _ _ _ => (de_name (i := 8) (by rfl) (by first | exact .inl (by rfl) | exact .inr (.inl (by rfl)) | exact .inr (.inr (by rfl))) (by rfl) (by rfl))) (by rfl) (fun _ => (by rfl)) (by decide) (io_nes (by decide)))) (by rfl) (by first | exact .inl (by rfl) | exact .inr (by rfl)) (io_ne (by decide)) (by rfl))
   (dss_cons (ds_set (i := 7) sc.nd (by rfl) (by first | exact .inl (by rfl) | exact .inr (by rfl)) (de_call (ok_l_draw Gm Tb) (hr.mono (by decide)) (by rfl) Gm.g_l_draw Gm.F_l_draw.kp (b_l_draw Gm) tk (da_cons (de_name (i := 0) (by rfl) (by first | exact .inl (by rfl) | exact .inr (.inl (by rfl)) | exact .inr (.inr (by rfl))) (by rfl) (by rfl)) (da_cons de_int da_nil (by rfl)) (by rfl)) (by rfl) (by rfl) (by rfl)) (by rfl) (by first | exact .inl (by rfl) | exact .inr (by rfl)) (io_ne (by decide)) (by rfl))
   (dss_one (ds_if (dt_cmp (or_eq (hr.u (by decide))) sem_eq (de_name (i := 7) (by rfl) (by first | exact .inl (by rfl) | exact .inr (.inl (by rfl)) | exact .inr (.inr (by rfl))) (by rfl) (by rfl)) de_int (by rfl)) (dss_one (ds_expr (de_meth (i := 2) PySem.F.slot_list_append PySem.F.type_list_append mt_append mg_append (by rfl) (by rfl) (by first | exact .inl (by rfl) | exact .inr (.inl (by rfl)) | exact .inr (.inr (by rfl))) (by rfl) (by rfl) (da_cons (de_tup (da_cons (de_val de_str) (da_cons (de_val (de_name (i := 5) (by rfl) (by first | exact .inl (by rfl) | exact .inr (.inl (by rfl)) | exact .inr (.inr (by rfl))) (by rfl) (by rfl))) da_nil (by rfl)) (by rfl))) da_nil (by rfl)) (by rfl) (by rfl) (by rfl) (by rfl) (by rfl)) (by rfl))) (dss_one (ds_if (dw_or (dt_cmp or_lt sem_lt (de_name (i := 7) (by rfl) (by first | exact .inl (by rfl) | exact .inr (.inl (by rfl)) | exact .inr (.inr (by rfl))) (by rfl) (by rfl)) de_int (by rfl)) (dw_or1 (dt_cmp (or_eq (hr.u (by decide))) sem_eq (de_name (i := 4) (by rfl) (by first | exact .inl (by rfl) | exact .inr (.inl (by rfl)) | exact .inr (.inr (by rfl))) (by rfl) (by rfl)) de_int (by rfl)))).dt (dss_one (ds_expr (de_meth (i := 2) PySem.F.slot_list_append PySem.F.type_list_append mt_append mg_append (by rfl) (by rfl) (by first | exact .inl (by rfl) | exact .inr (.inl (by rfl)) | exact .inr (.inr (by rfl))) (by rfl) (by rfl) (da_cons (de_tup (da_cons (de_val de_str) (da_cons (de_val (de_name (i := 5) (by rfl) (by first | exact .inl (by rfl) | exact .inr (.inl (by rfl)) | exact .inr (.inr (by rfl))) (by rfl) (by rfl))) (da_cons (de_val (de_callTy cr_tuple sem_tuple (by rfl) Gm.z_tuple (by rfl) (da_cons (de_callB cr_sortedI sem_sorted (by rfl) Gm.z_sorted (by rfl) (da_cons (de_sl01 (by rfl) (de_call (ok_l_shuffled Gm Tb) (hr.mono (by decide)) (by rfl) Gm.g_l_shuffled Gm.F_l_shuffled.kp (b_l_shuffled Gm) tk (da_cons (de_name (i := 0) (by rfl) (by first | exact .inl (by rfl) | exact .inr (.inl (by rfl)) | exact .inr (.inr (by rfl))) (by rfl) (by rfl)) (da_cons (de_name (i := 6) (by rfl) (by first | exact .inl (by rfl) | exact .inr (.inl (by rfl)) | exact .inr (.inr (by rfl))) (by rfl) (by rfl)) da_nil (by rfl)) (by rfl)) (by rfl) (by rfl) (by rfl)) (de_call (ok_l_pick Gm Tb) (hr.mono (by decide)) (by rfl) Gm.g_l_pick Gm.F_l_pick.kp (b_l_pick Gm) tk (da_cons (de_name (i := 0) (by rfl) (by first | exact .inl (by rfl) | exact .inr (.inl (by rfl)) | exact .inr (.inr (by rfl))) (by rfl) (by rfl)) (da_cons (de_tup (da_cons (de_val de_int) (da_cons (de_val de_int) (da_cons (de_val de_int) (da_cons (de_val de_int) (da_cons (de_val de_int) da_nil (by rfl)) (by rfl)) (by rfl)) (by rfl)) (by rfl))) da_nil (by rfl)) (by rfl)) (by rfl) (by rfl) (by rfl))) da_nil (by rfl)) (by decide) (by rfl) (by rfl) (by rfl)) da_nil (by rfl)) (by decide) (by rfl) (by rfl) (by rfl))) da_nil (by rfl)) (by rfl)) (by rfl))) da_nil (by rfl)) (by rfl) (by rfl) (by rfl) (by rfl) (by rfl)) (by rfl))) dss_nil)))))) (fun _ => (by rfl)))
   (dss_one (ds_ret (de_call (ok_l_in_order Gm Tb) (hr.mono (by decide)) (by rfl) Gm.g_l_in_order Gm.F_l_in_order.kp (b_l_in_order Gm) tk (da_cons (de_name (i := 2) (by rfl) (by first | exact .inl (by rfl) | exact .inr (.inl (by rfl)) | exact .inr (.inr (by rfl))) (by rfl) (by rfl)) da_nil (by rfl)) (by rfl) (by rfl) (by rfl))))))
set_option maxHeartbeats 0 in
theorem ok_l_names (Gm : Gl0 K mg) (Tb : Tb0 base Gm) : FnOk P w K mg base (L2.CX P w) 3 Gm.a_l_names Gm.d_l_names ["deck", "many"] (spF K mg Gm.T fn_l_names) := by
  refine fn_okC Gm.F_l_names sc_l_names (by decide) fun cdv hcd A outer s0 H vs E F AA hr tk lv => ?_
  have sc := sc_l_names
  exact (dss_cons (ds_set (i := 2) sc.nd (by rfl) (by first | exact .inl (by rfl) | exact .inr (by rfl)) (de_ifExp (dt_cmp or_gt sem_gt (de_call (ok_l_draw Gm Tb) (hr.mono (by decide)) (by rfl) Gm.g_l_draw Gm.F_l_draw.kp (b_l_draw Gm) tk (da_cons (de_name (i := 0) (by rfl) (by first | exact .inl (by rfl) | exact .inr (.inl (by rfl)) | exact .inr (.inr (by rfl))) (by rfl) (by rfl)) (da_cons de_int da_nil (by rfl)) (by rfl)) (by rfl) (by rfl) (by rfl)) de_int (by rfl)) (de_lr1 (by rfl) (by rfl) Gm.z_list (by rfl) Gm.z_range de_int (by rfl)) (de_bin or_add sem_add (de_lst (da_cons (de_val de_int) (da_cons (de_val de_int) (da_cons (de_val (de_bin op_pow sem_pow de_int de_int)) (da_cons (de_val de_int) (da_cons (de_val de_int) (da_cons (de_val (de_bin op_pow sem_pow de_int de_int)) (da_cons (de_val de_int) (da_cons (de_val de_int) da_nil (by rfl)) (by rfl)) (by rfl)) (by rfl)) (by rfl)) (by rfl)) (by rfl)) (by rfl))) (de_lr2 (by rfl) (by rfl) Gm.z_list (by rfl) Gm.z_range de_int de_int (by rfl) (by rfl) (by rfl)))) (by rfl) (by first | exact .inl (by rfl) | exact .inr (by rfl)) (io_ne (by decide)) (by rfl))
   (dss_one (ds_ret (de_sl01 (by rfl) (de_call (ok_l_shuffled Gm Tb) (hr.mono (by decide)) (by rfl) Gm.g_l_shuffled Gm.F_l_shuffled.kp (b_l_shuffled Gm) tk (da_cons (de_name (i := 0) (by rfl) (by first | exact .inl (by rfl) | exact .inr (.inl (by rfl)) | exact .inr (.inr (by rfl))) (by rfl) (by rfl)) (da_cons (de_name (i := 2) (by rfl) (by first | exact .inl (by rfl) | exact .inr (.inl (by rfl)) | exact .inr (.inr (by rfl))) (by rfl) (by rfl)) da_nil (by rfl)) (by rfl)) (by rfl) (by rfl) (by rfl)) (de_name (i := 1) (by rfl) (by first | exact .inl (by rfl) | exact .inr (.inl (by rfl)) | exact .inr (.inr (by rfl))) (by rfl) (by rfl))))))
set_option maxHeartbeats 0 in
theorem ok_l_odd (Gm : Gl0 K mg) (Tb : Tb0 base Gm) : FnOk P w K mg base (L2.CX P w) 3 Gm.a_l_odd Gm.d_l_odd ["deck", "it"] (spF K mg Gm.T fn_l_odd) := by
  refine fn_okC Gm.F_l_odd sc_l_odd (by decide) fun cdv hcd A outer s0 H vs E F AA hr tk lv => ?_
  have sc := sc_l_odd
  exact (dss_cons (ds_set (i := 2) sc.nd (by rfl) (by first | exact .inl (by rfl) | exact .inr (by rfl)) (de_lst (da_cons (de_val de_non) (da_cons (de_val de_bl) (da_cons (de_val de_bl) (da_cons (de_val de_int) (da_cons (de_val de_int) (da_cons (de_val (de_neg de_int)) (da_cons (de_val de_int) (da_cons (de_val de_int) (da_cons (de_val de_str) (da_cons (de_val de_str) (da_cons (de_val de_str) (da_cons (de_val de_str) (da_cons (de_val de_str) (da_cons (de_val (de_tup da_nil)) (da_cons (de_val (de_tup (da_cons (de_val (de_tup da_nil)) da_nil (by rfl)))) (da_cons (de_val (de_lst da_nil)) (da_cons (de_val de_dict0) (da_cons (de_val (de_tup (da_cons (de_val de_int) da_nil (by rfl)))) (da_cons (de_val (de_tup (da_cons (de_val de_str) (da_cons (de_val de_int) da_nil (by rfl)) (by rfl)))) (da_cons (de_val (de_tup (da_cons (de_val de_str) (da_cons (de_val de_int) (da_cons (de_val (de_tup (da_cons (de_val de_int) da_nil (by rfl)))) da_nil (by rfl)) (by rfl)) (by rfl)))) (da_cons (de_val (de_bin op_pow sem_pow de_int de_int)) da_nil (by rfl)) (by rfl)) (by rfl)) (by rfl)) (by rfl)) (by rfl)) (by rfl)) (by rfl)) (by rfl)) (by rfl)) (by rfl)) (by rfl)) (by rfl)) (by rfl)) (by rfl)) (by rfl)) (by rfl)) (by rfl)) (by rfl)) (by rfl)) (by rfl))) (by rfl) (by first | exact .inl (by rfl) | exact .inr (by rfl)) (io_ne (by decide)) (by rfl))
   (dss_cons (ds_if (dt_val (de_isi (by rfl) (by rfl) Gm.z_isinstance (by rfl) (by rfl) Gm.z_tuple (by rfl) (by decide) (by rfl) (de_name (i := 1) (by rfl) (by first | exact .inl (by rfl) | exact .inr (.inl (by rfl)) | exact .inr (.inr (by rfl))) (by rfl) (by rfl)) (by rfl) (by rfl) (by rfl)) (fun _ => (by rfl))) (dss_one (ds_set (i := 2) sc.nd (by rfl) (by first | exact .inl (by rfl) | exact .inr (by rfl)) (de_bin or_add sem_add (de_name (i := 2) (by rfl) (by first | exact .inl (by rfl) | exact .inr (.inl (by rfl)) | exact .inr (.inr (by rfl))) (by rfl) (by rfl)) (de_bin (or_mul) sem_mul (de_lst (da_cons (de_val (de_callTy cr_list sem_list (by rfl) Gm.z_list (by rfl) (da_cons (de_name (i := 1) (by rfl) (by first | exact .inl (by rfl) | exact .inr (.inl (by rfl)) | exact .inr (.inr (by rfl))) (by rfl) (by rfl)) da_nil (by rfl)) (by decide) (by rfl) (by rfl) (by rfl))) (da_cons (de_val (de_bin or_add sem_add (de_name (i := 1) (by rfl) (by first | exact .inl (by rfl) | exact .inr (.inl (by rfl)) | exact .inr (.inr (by rfl))) (by rfl) (by rfl)) (de_tup (da_cons (de_val de_int) da_nil (by rfl))))) (da_cons (de_val (de_sl10 (by rfl) (de_name (i := 1) (by rfl) (by first | exact .inl (by rfl) | exact .inr (.inl (by rfl)) | exact .inr (.inr (by rfl))) (by rfl) (by rfl)) de_int)) (da_cons (de_val (de_sl01 (by rfl) (de_name (i := 1) (by rfl) (by first | exact .inl (by rfl) | exact .inr (.inl (by rfl)) | exact .inr (.inr (by rfl))) (by rfl) (by rfl)) (de_neg de_int))) (da_cons (de_val (de_rev (by rfl) (de_name (i := 1) (by rfl) (by first | exact .inl (by rfl) | exact .inr (.inl (by rfl)) | exact .inr (.inr (by rfl))) (by rfl) (by rfl)))) (da_cons (de_val (de_bin or_add sem_add (de_name (i := 1) (by rfl) (by first | exact .inl (by rfl) | exact .inr (.inl (by rfl)) | exact .inr (.inr (by rfl))) (by rfl) (by rfl)) (de_sl01 (by rfl) (de_name (i := 1) (by rfl) (by first | exact .inl (by rfl) | exact .inr (.inl (by rfl)) | exact .inr (.inr (by rfl))) (by rfl) (by rfl)) de_int))) (da_cons (de_val (de_tup (da_cons (de_val (de_name (i := 1) (by rfl) (by first | exact .inl (by rfl) | exact .inr (.inl (by rfl)) | exact .inr (.inr (by rfl))) (by rfl) (by rfl))) da_nil (by rfl)))) (da_cons (de_val (de_bin or_add sem_add (de_sl01 (by rfl) (de_name (i := 1) (by rfl) (by first | exact .inl (by rfl) | exact .inr (.inl (by rfl)) | exact .inr (.inr (by rfl))) (by rfl) (by rfl)) de_int) (de_name (i := 1) (by rfl) (by first | exact .inl (by rfl) | exact .inr (.inl (by rfl)) | exact .inr (.inr (by rfl))) (by rfl) (by rfl)))) (da_cons (de_val (de_bin or_add sem_add (de_sl01 (by rfl) (de_name (i := 1) (by rfl) (by first | exact .inl (by rfl) | exact .inr (.inl (by rfl)) | exact .inr (.inr (by rfl))) (by rfl) (by rfl)) de_int) (de_sl10 (by rfl) (de_name (i := 1) (by rfl) (by first | exact .inl (by rfl) | exact .inr (.inl (by rfl)) | exact .inr (.inr (by rfl))) (by rfl) (by rfl)) de_int))) da_nil (by rfl)) (by rfl)) (by rfl)) (by rfl)) (by rfl)) (by rfl)) (by rfl)) (by rfl)) (by rfl))) de_int)) (by rfl) (by first | exact .inl (by rfl) | exact .inr (by rfl)) (io_ne (by decide)) (by rfl))) (dss_one (ds_if (dt_val (de_isi (by rfl) (by rfl) Gm.z_isinstance (by rfl) (by rfl) Gm.z_int (by rfl) (by decide) (by rfl) (de_name (i := 1) (by rfl) (by first | exact .inl (by rfl) | exact .inr (.inl (by rfl)) | exact .inr (.inr (by rfl))) (by rfl) (by rfl)) (by rfl) (by rfl) (by rfl)) (fun _ => (by rfl))) (dss_one (ds_set (i := 2) sc.nd (by rfl) (by first | exact .inl (by rfl) | exact .inr (by rfl)) (de_bin or_add sem_add (de_name (i := 2) (by rfl) (by first | exact .inl (by rfl) | exact .inr (.inl (by rfl)) | exact .inr (.inr (by rfl))) (by rfl) (by rfl)) (de_bin (or_mul) sem_mul (de_lst (da_cons (de_val (de_bin or_add sem_add (de_name (i := 1) (by rfl) (by first | exact .inl (by rfl) | exact .inr (.inl (by rfl)) | exact .inr (.inr (by rfl))) (by rfl) (by rfl)) de_int)) (da_cons (de_val (de_bin op_sub sem_sub (de_name (i := 1) (by rfl) (by first | exact .inl (by rfl) | exact .inr (.inl (by rfl)) | exact .inr (.inr (by rfl))) (by rfl) (by rfl)) de_int)) (da_cons (de_val (de_neg (de_name (i := 1) (by rfl) (by first | exact .inl (by rfl) | exact .inr (.inl (by rfl)) | exact .inr (.inr (by rfl))) (by rfl) (by rfl)))) (da_cons (de_val (de_cmp (or_eq (hr.u (by decide))) sem_eq (de_name (i := 1) (by rfl) (by first | exact .inl (by rfl) | exact .inr (.inl (by rfl)) | exact .inr (.inr (by rfl))) (by rfl) (by rfl)) de_int (by rfl))) (da_cons (de_val (de_lst (da_cons (de_val (de_name (i := 1) (by rfl) (by first | exact .inl (by rfl) | exact .inr (.inl (by rfl)) | exact .inr (.inr (by rfl))) (by rfl) (by rfl))) da_nil (by rfl)))) (da_cons (de_val (de_tup (da_cons (de_val (de_name (i := 1) (by rfl) (by first | exact .inl (by rfl) | exact .inr (.inl (by rfl)) | exact .inr (.inr (by rfl))) (by rfl) (by rfl))) da_nil (by rfl)))) (da_cons (de_val (de_callTy cr_str sem_str (by rfl) Gm.z_str (by rfl) (da_cons (de_bin op_mod sem_mod (de_callTy cr_int sem_int (by rfl) Gm.z_int (by rfl) (da_cons (de_name (i := 1) (by rfl) (by first | exact .inl (by rfl) | exact .inr (.inl (by rfl)) | exact .inr (.inr (by rfl))) (by rfl) (by rfl)) da_nil (by rfl)) (by decide) (by rfl) (by rfl) (by rfl)) de_int) da_nil (by rfl)) (by decide) (by rfl) (by rfl) (by rfl))) da_nil (by rfl)) (by rfl)) (by rfl)) (by rfl)) (by rfl)) (by rfl)) (by rfl))) de_int)) (by rfl) (by first | exact .inl (by rfl) | exact .inr (by rfl)) (io_ne (by decide)) (by rfl))) (dss_one (ds_if (dt_val (de_isi (by rfl) (by rfl) Gm.z_isinstance (by rfl) (by rfl) Gm.z_str (by rfl) (by decide) (by rfl) (de_name (i := 1) (by rfl) (by first | exact .inl (by rfl) | exact .inr (.inl (by rfl)) | exact .inr (.inr (by rfl))) (by rfl) (by rfl)) (by rfl) (by rfl) (by rfl)) (fun _ => (by rfl))) (dss_one (ds_set (i := 2) sc.nd (by rfl) (by first | exact .inl (by rfl) | exact .inr (by rfl)) (de_bin or_add sem_add (de_name (i := 2) (by rfl) (by first | exact .inl (by rfl) | exact .inr (.inl (by rfl)) | exact .inr (.inr (by rfl))) (by rfl) (by rfl)) (de_bin (or_mul) sem_mul (de_lst (da_cons (de_val (de_bin or_add sem_add (de_name (i := 1) (by rfl) (by first | exact .inl (by rfl) | exact .inr (.inl (by rfl)) | exact .inr (.inr (by rfl))) (by rfl) (by rfl)) de_str)) (da_cons (de_val (de_bin or_add sem_add (de_name (i := 1) (by rfl) (by first | exact .inl (by rfl) | exact .inr (.inl (by rfl)) | exact .inr (.inr (by rfl))) (by rfl) (by rfl)) de_str)) (da_cons (de_val (de_bin or_add sem_add (de_name (i := 1) (by rfl) (by first | exact .inl (by rfl) | exact .inr (.inl (by rfl)) | exact .inr (.inr (by rfl))) (by rfl) (by rfl)) de_str)) (da_cons (de_val (de_sl10 (by rfl) (de_name (i := 1) (by rfl) (by first | exact .inl (by rfl) | exact .inr (.inl (by rfl)) | exact .inr (.inr (by rfl))) (by rfl) (by rfl)) de_int)) (da_cons (de_val (de_lst (da_cons (de_val (de_name (i := 1) (by rfl) (by first | exact .inl (by rfl) | exact .inr (.inl (by rfl)) | exact .inr (.inr (by rfl))) (by rfl) (by rfl))) da_nil (by rfl)))) (da_cons (de_val (de_tup (da_cons (de_val (de_name (i := 1) (by rfl) (by first | exact .inl (by rfl) | exact .inr (.inl (by rfl)) | exact .inr (.inr (by rfl))) (by rfl) (by rfl))) da_nil (by rfl)))) (da_cons (de_val (de_bin or_add sem_add (de_name (i := 1) (by rfl) (by first | exact .inl (by rfl) | exact .inr (.inl (by rfl)) | exact .inr (.inr (by rfl))) (by rfl) (by rfl)) (de_name (i := 1) (by rfl) (by first | exact .inl (by rfl) | exact .inr (.inl (by rfl)) | exact .inr (.inr (by rfl))) (by rfl) (by rfl)))) da_nil (by rfl)) (by rfl)) (by rfl)) (by rfl)) (by rfl)) (by rfl)) (by rfl))) de_int)) (by rfl) (by first | exact .inl (by rfl) | exact .inr (by rfl)) (io_ne (by decide)) (by rfl))) dss_nil)))))
   (dss_one (ds_ret (de_call (ok_l_pick Gm Tb) (hr.mono (by decide)) (by rfl) Gm.g_l_pick Gm.F_l_pick.kp (b_l_pick Gm) tk (da_cons (de_name (i := 0) (by rfl) (by first | exact .inl (by rfl) | exact .inr (.inl (by rfl)) | exact .inr (.inr (by rfl))) (by rfl) (by rfl)) (da_cons (de_name (i := 2) (by rfl) (by first | exact .inl (by rfl) | exact .inr (.inl (by rfl)) | exact .inr (.inr (by rfl))) (by rfl) (by rfl)) da_nil (by rfl)) (by rfl)) (by rfl) (by rfl) (by rfl))))))
set_option maxHeartbeats 0 in
theorem ok_l_bent (Gm : Gl0 K mg) (Tb : Tb0 base Gm) : FnOk P w K mg base (L2.CX P w) 4 Gm.a_l_bent Gm.d_l_bent ["deck", "it"] (spF K mg Gm.T fn_l_bent) := by
  refine fn_okC Gm.F_l_bent sc_l_bent (by decide) fun cdv hcd A outer s0 H vs E F AA hr tk lv => ?_
  have sc := sc_l_bent
  exact (dss_cons (ds_par (i := 2) (j := 3) (by rfl) sc.nd (by rfl) (by rfl) (by decide) (by rfl) (by rfl) (da_cons (de_lst da_nil) (da_cons (de_name (i := 1) (by rfl) (by first | exact .inl (by rfl) | exact .inr (.inl (by rfl)) | exact .inr (.inr (by rfl))) (by rfl) (by rfl)) da_nil (by rfl)) (by rfl)) (by rfl) (by rfl) ⟨(by decide : 2 < 7), io_ne (by decide)⟩ ⟨(by decide : 3 < 7), io_ne (by decide)⟩)
   (dss_cons (ds_for (passes_of (by rfl)) (by rfl) (di_range1 (by rfl) Gm.z_range (da_cons de_int da_nil (by rfl)) (by rfl)) (dg_name (i := 4) sc.nd (by rfl) (by first | exact .inl (by rfl) | exact .inr (by rfl)) (by first | exact .inl (by rfl) | exact .inr (by rfl)) (io_ne (by decide)) (by rfl)) (dss_cons (ds_if (dw_or (dt_not (dt_val (de_isi (by rfl) (by rfl) Gm.z_isinstance (by rfl) (by rfl) Gm.z_tuple (by rfl) (by decide) (by rfl) (de_name (i := 3) (by rfl) (by first | exact .inl (by rfl) | exact .inr (.inl (by rfl)) | exact .inr (.inr (by rfl))) (by rfl) (by rfl)) (by rfl) (by rfl) (by rfl)) (fun _ => (by rfl)))) (dw_or (dt_cmp (or_eq (hr.u (by decide))) sem_eq (de_name (i := 3) (by rfl) (by first | exact .inl (by rfl) | exact .inr (.inl (by rfl)) | exact .inr (.inr (by rfl))) (by rfl) (by rfl)) (de_tup da_nil) (by rfl)) (dw_or1 (dt_cmp (or_eq (hr.u (by decide))) sem_eq (de_call (ok_l_draw Gm Tb) (hr.mono (by decide)) (by rfl) Gm.g_l_draw Gm.F_l_draw.kp (b_l_draw Gm) tk (da_cons (de_name (i := 0) (by rfl) (by first | exact .inl (by rfl) | exact .inr (.inl (by rfl)) | exact .inr (.inr (by rfl))) (by rfl) (by rfl)) (da_cons de_int da_nil (by rfl)) (by rfl)) (by rfl) (by rfl) (by rfl)) de_int (by rfl))))).dt (dss_one ds_break) dss_nil)
   (dss_cons (ds_set (i := 5) sc.nd (by rfl) (by first | exact .inl (by rfl) | exact .inr (by rfl)) (de_call (ok_l_draw Gm Tb) (hr.mono (by decide)) (by rfl) Gm.g_l_draw Gm.F_l_draw.kp (b_l_draw Gm) tk (da_cons (de_name (i := 0) (by rfl) (by first | exact .inl (by rfl) | exact .inr (.inl (by rfl)) | exact .inr (.inr (by rfl))) (by rfl) (by rfl)) (da_cons (de_callB or_len sem_len (by rfl) Gm.z_len (by rfl) (da_cons (de_name (i := 3) (by rfl) (by first | exact .inl (by rfl) | exact .inr (.inl (by rfl)) | exact .inr (.inr (by rfl))) (by rfl) (by rfl)) da_nil (by rfl)) (by decide) (by rfl) (by rfl) (by rfl)) da_nil (by rfl)) (by rfl)) (by rfl) (by rfl) (by rfl)) (by rfl) (by first | exact .inl (by rfl) | exact .inr (by rfl)) (io_ne (by decide)) (by rfl))
   (dss_cons (ds_expr (de_meth (i := 2) PySem.F.slot_list_append PySem.F.type_list_append mt_append mg_append (by rfl) (by rfl) (by first | exact .inl (by rfl) | exact .inr (.inl (by rfl)) | exact .inr (.inr (by rfl))) (by rfl) (by rfl) (da_cons (de_tup (da_cons (de_val (de_name (i := 3) (by rfl) (by first | exact .inl (by rfl) | exact .inr (.inl (by rfl)) | exact .inr (.inr (by rfl))) (by rfl) (by rfl))) (da_cons (de_val (de_name (i := 5) (by rfl) (by first | exact .inl (by rfl) | exact .inr (.inl (by rfl)) | exact .inr (.inr (by rfl))) (by rfl) (by rfl))) da_nil (by rfl)) (by rfl))) da_nil (by rfl)) (by rfl) (by rfl) (by rfl) (by rfl) (by rfl)) (by rfl))
   (dss_one (ds_set (i := 3) sc.nd (by rfl) (by first | exact .inl (by rfl) | exact .inr (by rfl)) (de_ix (or_ix (hr.u (by decide))) sem_ix (de_name (i := 3) (by rfl) (by first | exact .inl (by rfl) | exact .inr (.inl (by rfl)) | exact .inr (.inr (by rfl))) (by rfl) (by rfl)) (de_name (i := 5) (by rfl) (by first | exact .inl (by rfl) | exact .inr (.inl (by rfl)) | exact .inr (.inr (by rfl))) (by rfl) (by rfl)) (fun _ _ => (by rfl))) (by rfl) (by first | exact .inl (by rfl) | exact .inr (by rfl)) (io_ne (by decide)) (by rfl)))))) (fun _ => (by rfl)))
   (dss_cons (ds_set (i := 3) sc.nd (by rfl) (by first | exact .inl (by rfl) | exact .inr (by rfl)) (de_call (ok_l_odd Gm Tb) (hr.mono (by decide)) (by rfl) Gm.g_l_odd Gm.F_l_odd.kp (b_l_odd Gm) tk (da_cons (de_name (i := 0) (by rfl) (by first | exact .inl (by rfl) | exact .inr (.inl (by rfl)) | exact .inr (.inr (by rfl))) (by rfl) (by rfl)) (da_cons (de_name (i := 3) (by rfl) (by first | exact .inl (by rfl) | exact .inr (.inl (by rfl)) | exact .inr (.inr (by rfl))) (by rfl) (by rfl)) da_nil (by rfl)) (by rfl)) (by rfl) (by rfl) (by rfl)) (by rfl) (by first | exact .inl (by rfl) | exact .inr (by rfl)) (io_ne (by decide)) (by rfl))
   (dss_cons (ds_for (passes_of (by rfl)) (by rfl) (di_seq (de_rev (by rfl) (de_name (i := 2) (by rfl) (by first | exact .inl (by rfl) | exact .inr (.inl (by rfl)) | exact .inr (.inr (by rfl))) (by rfl) (by rfl))) (by rfl)) (dg_tup (by rfl) (by rfl) (.cons (nameAt (i := 6) sc.nd (by rfl) (by first | exact .inl (by rfl) | exact .inr (by rfl)) (by first | exact .inl (by rfl) | exact .inr (by rfl))) (.cons (nameAt (i := 5) sc.nd (by rfl) (by first | exact .inl (by rfl) | exact .inr (by rfl)) (by first | exact .inl (by rfl) | exact .inr (by rfl))) NamesAt.nil)) (slots_of (n := 7) (by rfl) (by decide) (io_nes (by decide)))) (dss_one (ds_set (i := 3) sc.nd (by rfl) (by first | exact .inl (by rfl) | exact .inr (by rfl)) (de_bin or_add sem_add (de_bin or_add sem_add (de_sl01 (by rfl) (de_name (i := 6) (by rfl) (by first | exact .inl (by rfl) | exact .inr (.inl (by rfl)) | exact .inr (.inr (by rfl))) (by rfl) (by rfl)) (de_name (i := 5) (by rfl) (by first | exact .inl (by rfl) | exact .inr (.inl (by rfl)) | exact .inr (.inr (by rfl))) (by rfl) (by rfl))) (de_tup (da_cons (de_val (de_name (i := 3) (by rfl) (by first | exact .inl (by rfl) | exact .inr (.inl (by rfl)) | exact .inr (.inr (by rfl))) (by rfl) (by rfl))) da_nil (by rfl)))) (de_sl10 (by rfl) (de_name (i := 6) (by rfl) (by first | exact .inl (by rfl) | exact .inr (.inl (by rfl)) | exact .inr (.inr (by rfl))) (by rfl) (by rfl)) (de_bin or_add sem_add (de_name (i := 5) (by rfl) (by first | exact .inl (by rfl) | exact .inr (.inl (by rfl)) | exact .inr (.inr (by rfl))) (by rfl) (by rfl)) de_int))) (by rfl) (by first | exact .inl (by rfl) | exact .inr (by rfl)) (io_ne (by decide)) (by rfl))) (fun _ => (by rfl)))
   (dss_one (ds_ret (de_name (i := 3) (by rfl) (by first | exact .inl (by rfl) | exact .inr (.inl (by rfl)) | exact .inr (.inr (by rfl))) (by rfl) (by rfl))))))))
set_option maxHeartbeats 0 in
theorem ok_is_rising (Gm : Gl0 K mg) (Tb : Tb0 base Gm) : FnOk P w K mg base (L2.CX P w) 1 Gm.a_is_rising Gm.d_is_rising ["some"] (spF K mg Gm.T fn_is_rising) := by
  refine fn_okC Gm.F_is_rising sc_is_rising (by decide) fun cdv hcd A outer s0 H vs E F AA hr tk lv => ?_
  have sc := sc_is_rising
  exact (dss_one (ds_ret (de_callB (cr_all (by rfl)) sem_all (by rfl) Gm.z_all (by rfl) (da_cons (de_lc (by rfl) sc.nd (di_zip (by rfl) Gm.z_zip (da_cons (de_name (i := 0) (by rfl) (by first | exact .inl (by rfl) | exact .inr (.inl (by rfl)) | exact .inr (.inr (by rfl))) (by rfl) (by rfl)) (da_cons (de_sl10 (by rfl) (de_name (i := 0) (by rfl) (by first | exact .inl (by rfl) | exact .inr (.inl (by rfl)) | exact .inr (.inr (by rfl))) (by rfl) (by rfl)) de_int) da_nil (by rfl)) (by rfl)) (by rfl) (by rfl) (by rfl)) (blkOk_by (N := [Str.ofString "some", Str.ofString "one", Str.ofString "other"]) (sc := defScope st_is_rising) (own := [("one", 1), ("other", 2)]) (by decide +kernel)) (fun _ _ _ _ _ => pg_names (by rfl) (.cons (nameAt (i := 1) sc.nd (by rfl) (by first | exact .inl (by rfl) | exact .inr (by rfl)) (by first | exact .inl (by rfl) | exact .inr (by rfl))) (.cons (nameAt (i := 2) sc.nd (by rfl) (by first | exact .inl (by rfl) | exact .inr (by rfl)) (by first | exact .inl (by rfl) | exact .inr (by rfl))) NamesAt.nil))) (gok_tup (slots_of (n := 3) (by rfl) (by decide) (io_nes (by decide)))) (fun _ _ _ _ _ => tst_none) (fun _ _ _ _ _ => (de_cmp or_lt sem_lt (de_name (i := 1) (by rfl) (by first | exact .inl (by rfl) | exact .inr (.inl (by rfl)) | exact .inr (.inr (by rfl))) (by rfl) (by rfl)) (de_name (i := 2) (by rfl) (by first | exact .inl (by rfl) | exact .inr (.inl (by rfl)) | exact .inr (.inr (by rfl))) (by rfl) (by rfl)) (by rfl))) (by rfl) (fun _ => (by rfl)) (by decide) (io_nes (by decide))) da_nil (by rfl)) (by decide) (by rfl) (by rfl) (by rfl))))
set_option maxHeartbeats 0 in
theorem ok_is_paper (Gm : Gl0 K mg) (Tb : Tb0 base Gm) : FnOk P w K mg base (L2.CX P w) 1 Gm.a_is_paper Gm.d_is_paper ["thing", "word", "many"] (spF K mg Gm.T fn_is_paper) := by
  refine fn_okC Gm.F_is_paper sc_is_paper (by decide) fun cdv hcd A outer s0 H vs E F AA hr tk lv => ?_
  have sc := sc_is_paper
  exact (dss_one (ds_ret (de_and (de_isi (by rfl) (by rfl) Gm.z_isinstance (by rfl) (by rfl) Gm.z_tuple (by rfl) (by decide) (by rfl) (de_name (i := 0) (by rfl) (by first | exact .inl (by rfl) | exact .inr (.inl (by rfl)) | exact .inr (.inr (by rfl))) (by rfl) (by rfl)) (by rfl) (by rfl) (by rfl)) (de_and (de_cmp (or_eq (hr.u (by decide))) sem_eq (de_callB or_len sem_len (by rfl) Gm.z_len (by rfl) (da_cons (de_name (i := 0) (by rfl) (by first | exact .inl (by rfl) | exact .inr (.inl (by rfl)) | exact .inr (.inr (by rfl))) (by rfl) (by rfl)) da_nil (by rfl)) (by decide) (by rfl) (by rfl) (by rfl)) (de_name (i := 2) (by rfl) (by first | exact .inl (by rfl) | exact .inr (.inl (by rfl)) | exact .inr (.inr (by rfl))) (by rfl) (by rfl)) (by rfl)) (de_and (de_isi (by rfl) (by rfl) Gm.z_isinstance (by rfl) (by rfl) Gm.z_str (by rfl) (by decide) (by rfl) (de_ix (or_ix (hr.u (by decide))) sem_ix (de_name (i := 0) (by rfl) (by first | exact .inl (by rfl) | exact .inr (.inl (by rfl)) | exact .inr (.inr (by rfl))) (by rfl) (by rfl)) de_int (fun _ _ => (by rfl))) (by rfl) (by rfl) (by rfl)) (de_one (de_cmp (or_eq (hr.u (by decide))) sem_eq (de_ix (or_ix (hr.u (by decide))) sem_ix (de_name (i := 0) (by rfl) (by first | exact .inl (by rfl) | exact .inr (.inl (by rfl)) | exact .inr (.inr (by rfl))) (by rfl) (by rfl)) de_int (fun _ _ => (by rfl))) (de_name (i := 1) (by rfl) (by first | exact .inl (by rfl) | exact .inr (.inl (by rfl)) | exact .inr (.inr (by rfl))) (by rfl) (by rfl)) (by rfl))))))))
set_option maxHeartbeats 0 in
theorem ok_is_integer (Gm : Gl0 K mg) (Tb : Tb0 base Gm) : FnOk P w K mg base (L2.CX P w) 1 Gm.a_is_integer Gm.d_is_integer ["thing"] (spF K mg Gm.T fn_is_integer) := by
  refine fn_okC Gm.F_is_integer sc_is_integer (by decide) fun cdv hcd A outer s0 H vs E F AA hr tk lv => ?_
  have sc := sc_is_integer
  exact (dss_one (ds_ret (de_and (de_isi (by rfl) (by rfl) Gm.z_isinstance (by rfl) (by rfl) Gm.z_int (by rfl) (by decide) (by rfl) (de_name (i := 0) (by rfl) (by first | exact .inl (by rfl) | exact .inr (.inl (by rfl)) | exact .inr (.inr (by rfl))) (by rfl) (by rfl)) (by rfl) (by rfl) (by rfl)) (de_one (de_not (de_isi (by rfl) (by rfl) Gm.z_isinstance (by rfl) (by rfl) Gm.z_bool (by rfl) (by decide) (by rfl) (de_name (i := 0) (by rfl) (by first | exact .inl (by rfl) | exact .inr (.inl (by rfl)) | exact .inr (.inr (by rfl))) (by rfl) (by rfl)) (by rfl) (by rfl) (by rfl)))))))
set_option maxHeartbeats 0 in
theorem ok_is_count (Gm : Gl0 K mg) (Tb : Tb0 base Gm) : FnOk P w K mg base (L2.CX P w) 2 Gm.a_is_count Gm.d_is_count ["thing"] (spF K mg Gm.T fn_is_count) := by
  refine fn_okC Gm.F_is_count sc_is_count (by decide) fun cdv hcd A outer s0 H vs E F AA hr tk lv => ?_
  have sc := sc_is_count
  exact (dss_one (ds_ret (de_and (de_call (ok_is_integer Gm Tb) (hr.mono (by decide)) (by rfl) Gm.g_is_integer Gm.F_is_integer.kp (b_is_integer Gm) tk (da_cons (de_name (i := 0) (by rfl) (by first | exact .inl (by rfl) | exact .inr (.inl (by rfl)) | exact .inr (.inr (by rfl))) (by rfl) (by rfl)) da_nil (by rfl)) (by rfl) (by rfl) (by rfl)) (de_one (de_cmp or_ge sem_ge (de_name (i := 0) (by rfl) (by first | exact .inl (by rfl) | exact .inr (.inl (by rfl)) | exact .inr (.inr (by rfl))) (by rfl) (by rfl)) de_int (by rfl))))))
set_option maxHeartbeats 0 in
theorem ok_are_transactions (Gm : Gl0 K mg) (Tb : Tb0 base Gm) : FnOk P w K mg base (L2.CX P w) 3 Gm.a_are_transactions Gm.d_are_transactions ["thing"] (spF K mg Gm.T fn_are_transactions) := by
  refine fn_okC Gm.F_are_transactions sc_are_transactions (by decide) fun cdv hcd A outer s0 H vs E F AA hr tk lv => ?_
  have sc := sc_are_transactions
  exact (dss_one (ds_ret (de_and (de_isi (by rfl) (by rfl) Gm.z_isinstance (by rfl) (by rfl) Gm.z_tuple (by rfl) (by decide) (by rfl) (de_name (i := 0) (by rfl) (by first | exact .inl (by rfl) | exact .inr (.inl (by rfl)) | exact .inr (.inr (by rfl))) (by rfl) (by rfl)) (by rfl) (by rfl) (by rfl)) (de_and (de_callB (cr_all (by rfl)) sem_all (by rfl) Gm.z_all (by rfl) (da_cons (de_lc (by rfl) sc.nd (di_seq (de_name (i := 0) (by rfl) (by first | exact .inl (by rfl) | exact .inr (.inl (by rfl)) | exact .inr (.inr (by rfl))) (by rfl) (by rfl)) (by rfl)) (blkOk_by (N := [Str.ofString "thing", Str.ofString "t"]) (sc := defScope st_are_transactions) (own := [("t", 1)]) (by decide +kernel)) (fun _ _ _ _ _ => pg_name (i := 1) sc.nd (by rfl) (by first | exact .inl (by rfl) | exact .inr (by rfl)) (by first | exact .inl (by rfl) | exact .inr (by rfl))) (gok_name ⟨(by decide : 1 < 2), io_ne (by decide)⟩) (fun _ _ _ _ _ => tst_none) (fun _ _ _ _ _ => (de_call (ok_is_count Gm Tb) (hr.mono (by decide)) (by rfl) Gm.g_is_count Gm.F_is_count.kp (b_is_count Gm) takes0 (da_cons (de_name (i := 1) (by rfl) (by first | exact .inl (by rfl) | exact .inr (.inl (by rfl)) | exact .inr (.inr (by rfl))) (by rfl) (by rfl)) da_nil (by rfl)) (by rfl) (by rfl) (by rfl))) (by rfl) (fun _ => (by rfl)) (by decide) (io_nes (by decide))) da_nil (by rfl)) (by decide) (by rfl) (by rfl) (by rfl)) (de_one (de_call (ok_is_rising Gm Tb) (hr.mono (by decide)) (by rfl) Gm.g_is_rising Gm.F_is_rising.kp (b_is_rising Gm) tk (da_cons (de_name (i := 0) (by rfl) (by first | exact .inl (by rfl) | exact .inr (.inl (by rfl)) | exact .inr (.inr (by rfl))) (by rfl) (by rfl)) da_nil (by rfl)) (by rfl) (by rfl) (by rfl)))))))
set_option maxHeartbeats 0 in
theorem ok_is_fact_value (Gm : Gl0 K mg) (Tb : Tb0 base Gm) : FnOk P w K mg base (L2.CX P w) 4 Gm.a_is_fact_value Gm.d_is_fact_value ["thing"] (spF K mg Gm.T fn_is_fact_value) := by
  refine fn_okC Gm.F_is_fact_value sc_is_fact_value (by decide) fun cdv hcd A outer s0 H vs E F AA hr tk lv => ?_
  have sc := sc_is_fact_value
  exact (dss_cons (ds_if (dt_val (de_call (ok_is_paper Gm Tb) (hr.mono (by decide)) (by rfl) Gm.g_is_paper Gm.F_is_paper.kp (b_is_paper Gm) tk (da_cons (de_name (i := 0) (by rfl) (by first | exact .inl (by rfl) | exact .inr (.inl (by rfl)) | exact .inr (.inr (by rfl))) (by rfl) (by rfl)) (da_cons (de_globS (by rfl) Gm.c_DROPPED.choose_spec (by rfl)) (da_cons de_int da_nil (by rfl)) (by rfl)) (by rfl)) (by rfl) (by rfl) (by rfl)) (fun _ => (by rfl))) (dss_one (ds_ret (de_call (ok_is_count Gm Tb) (hr.mono (by decide)) (by rfl) Gm.g_is_count Gm.F_is_count.kp (b_is_count Gm) tk (da_cons (de_ix (or_ix (hr.u (by decide))) sem_ix (de_name (i := 0) (by rfl) (by first | exact .inl (by rfl) | exact .inr (.inl (by rfl)) | exact .inr (.inr (by rfl))) (by rfl) (by rfl)) de_int (fun _ _ => (by rfl))) da_nil (by rfl)) (by rfl) (by rfl) (by rfl)))) dss_nil)
   (dss_cons (ds_if (dw_or (dt_not (dt_val (de_call (ok_is_paper Gm Tb) (hr.mono (by decide)) (by rfl) Gm.g_is_paper Gm.F_is_paper.kp (b_is_paper Gm) tk (da_cons (de_name (i := 0) (by rfl) (by first | exact .inl (by rfl) | exact .inr (.inl (by rfl)) | exact .inr (.inr (by rfl))) (by rfl) (by rfl)) (da_cons (de_globS (by rfl) Gm.c_FIRM.choose_spec (by rfl)) (da_cons de_int da_nil (by rfl)) (by rfl)) (by rfl)) (by rfl) (by rfl) (by rfl)) (fun _ => (by rfl)))) (dw_or1 (dt_not (dt_val (de_call (ok_is_count Gm Tb) (hr.mono (by decide)) (by rfl) Gm.g_is_count Gm.F_is_count.kp (b_is_count Gm) tk (da_cons (de_ix (or_ix (hr.u (by decide))) sem_ix (de_name (i := 0) (by rfl) (by first | exact .inl (by rfl) | exact .inr (.inl (by rfl)) | exact .inr (.inr (by rfl))) (by rfl) (by rfl)) de_int (fun _ _ => (by rfl))) da_nil (by rfl)) (by rfl) (by rfl) (by rfl)) (fun _ => (by rfl)))))).dt (dss_one (ds_ret de_bl)) dss_nil)
   (dss_one (ds_ret (de_and (de_call (ok_are_transactions Gm Tb) (hr.mono (by decide)) (by rfl) Gm.g_are_transactions Gm.F_are_transactions.kp (b_are_transactions Gm) tk (da_cons (de_ix (or_ix (hr.u (by decide))) sem_ix (de_name (i := 0) (by rfl) (by first | exact .inl (by rfl) | exact .inr (.inl (by rfl)) | exact .inr (.inr (by rfl))) (by rfl) (by rfl)) de_int (fun _ _ => (by rfl))) da_nil (by rfl)) (by rfl) (by rfl) (by rfl)) (de_one (de_cmp (or_nin (hr.u (by decide))) sem_nin (de_ix (or_ix (hr.u (by decide))) sem_ix (de_name (i := 0) (by rfl) (by first | exact .inl (by rfl) | exact .inr (.inl (by rfl)) | exact .inr (.inr (by rfl))) (by rfl) (by rfl)) de_int (fun _ _ => (by rfl))) (de_ix (or_ix (hr.u (by decide))) sem_ix (de_name (i := 0) (by rfl) (by first | exact .inl (by rfl) | exact .inr (.inl (by rfl)) | exact .inr (.inr (by rfl))) (by rfl) (by rfl)) de_int (fun _ _ => (by rfl))) (by rfl))))))))
set_option maxHeartbeats 0 in
theorem ok_are_facts_value (Gm : Gl0 K mg) (Tb : Tb0 base Gm) : FnOk P w K mg base (L2.CX P w) 5 Gm.a_are_facts_value Gm.d_are_facts_value ["thing"] (spF K mg Gm.T fn_are_facts_value) := by
  refine fn_okC Gm.F_are_facts_value sc_are_facts_value (by decide) fun cdv hcd A outer s0 H vs E F AA hr tk lv => ?_
  have sc := sc_are_facts_value
  exact (dss_cons (ds_if (dw_or (dt_not (dt_val (de_isi (by rfl) (by rfl) Gm.z_isinstance (by rfl) (by rfl) Gm.z_tuple (by rfl) (by decide) (by rfl) (de_name (i := 0) (by rfl) (by first | exact .inl (by rfl) | exact .inr (.inl (by rfl)) | exact .inr (.inr (by rfl))) (by rfl) (by rfl)) (by rfl) (by rfl) (by rfl)) (fun _ => (by rfl)))) (dw_or1 (dt_not (dt_val (de_callB (cr_all (by rfl)) sem_all (by rfl) Gm.z_all (by rfl) (da_cons (de_lc (by rfl) sc.nd (di_seq (de_name (i := 0) (by rfl) (by first | exact .inl (by rfl) | exact .inr (.inl (by rfl)) | exact .inr (.inr (by rfl))) (by rfl) (by rfl)) (by rfl)) (blkOk_by (N := [Str.ofString "thing", Str.ofString "fact"]) (sc := defScope st_are_facts_value) (own := [("fact", 1)]) (by decide +kernel)) (fun _ _ _ _ _ => pg_name (i := 1) sc.nd (by rfl) (by first | exact .inl (by rfl) | exact .inr (by rfl)) (by first | exact .inl (by rfl) | exact .inr (by rfl))) (gok_name ⟨(by decide : 1 < 2), io_ne (by decide)⟩) (fun _ _ _ _ _ => tst_none) (fun _ _ _ _ _ => (de_call (ok_is_fact_value Gm Tb) (hr.mono (by decide)) (by rfl) Gm.g_is_fact_value Gm.F_is_fact_value.kp (b_is_fact_value Gm) takes0 (da_cons (de_name (i := 1) (by rfl) (by first | exact .inl (by rfl) | exact .inr (.inl (by rfl)) | exact .inr (.inr (by rfl))) (by rfl) (by rfl)) da_nil (by rfl)) (by rfl) (by rfl) (by rfl))) (by rfl) (fun _ => (by rfl)) (by decide) (io_nes (by decide))) da_nil (by rfl)) (by decide) (by rfl) (by rfl) (by rfl)) (fun _ => (by rfl)))))).dt (dss_one (ds_ret de_bl)) dss_nil)
   (dss_one (ds_ret (de_call (ok_is_rising Gm Tb) (hr.mono (by decide)) (by rfl) Gm.g_is_rising Gm.F_is_rising.kp (b_is_rising Gm) tk (da_cons (de_lc (by rfl) sc.nd (di_seq (de_name (i := 0) (by rfl) (by first | exact .inl (by rfl) | exact .inr (.inl (by rfl)) | exact .inr (.inr (by rfl))) (by rfl) (by rfl)) (by rfl)) (blkOk_by (N := [Str.ofString "thing", Str.ofString "fact"]) (sc := defScope st_are_facts_value) (own := [("fact", 1)]) (by decide +kernel)) (fun _ _ _ _ _ => pg_name (i := 1) sc.nd (by rfl) (by first | exact .inl (by rfl) | exact .inr (by rfl)) (by first | exact .inl (by rfl) | exact .inr (by rfl))) (gok_name ⟨(by decide : 1 < 2), io_ne (by decide)⟩) (fun _ _ _ _ _ => tst_none) (fun _ _ _ _ _ => (de_ix (or_ix (hr.u (by decide))) sem_ix (de_name (i := 1) (by rfl) (by first | exact .inl (by rfl) | exact .inr (.inl (by rfl)) | exact .inr (.inr (by rfl))) (by rfl) (by rfl)) de_int (fun _ _ => (by rfl)))) (by rfl) (fun _ => (by rfl)) (by decide) (io_nes (by decide))) da_nil (by rfl)) (by rfl) (by rfl) (by rfl)))))
set_option maxHeartbeats 0 in
theorem ok_are_facts (Gm : Gl0 K mg) (Tb : Tb0 base Gm) : FnOk P w K mg base (L2.CX P w) 6 Gm.a_are_facts Gm.d_are_facts ["thing"] (spF K mg Gm.T fn_are_facts) := by
  refine fn_okC Gm.F_are_facts sc_are_facts (by decide) fun cdv hcd A outer s0 H vs E F AA hr tk lv => ?_
  have sc := sc_are_facts
  exact (dss_one (ds_ret (de_call (ok_are_facts_value Gm Tb) (hr.mono (by decide)) (by rfl) Gm.g_are_facts_value Gm.F_are_facts_value.kp (b_are_facts_value Gm) tk (da_cons (de_name (i := 0) (by rfl) (by first | exact .inl (by rfl) | exact .inr (.inl (by rfl)) | exact .inr (.inr (by rfl))) (by rfl) (by rfl)) da_nil (by rfl)) (by rfl) (by rfl) (by rfl))))
set_option maxHeartbeats 0 in
theorem ok_is_fact (Gm : Gl0 K mg) (Tb : Tb0 base Gm) : FnOk P w K mg base (L2.CX P w) 5 Gm.a_is_fact Gm.d_is_fact ["thing"] (spF K mg Gm.T fn_is_fact) := by
  refine fn_okC Gm.F_is_fact sc_is_fact (by decide) fun cdv hcd A outer s0 H vs E F AA hr tk lv => ?_
  have sc := sc_is_fact
  exact (dss_one (ds_ret (de_call (ok_is_fact_value Gm Tb) (hr.mono (by decide)) (by rfl) Gm.g_is_fact_value Gm.F_is_fact_value.kp (b_is_fact_value Gm) tk (da_cons (de_name (i := 0) (by rfl) (by first | exact .inl (by rfl) | exact .inr (.inl (by rfl)) | exact .inr (.inr (by rfl))) (by rfl) (by rfl)) da_nil (by rfl)) (by rfl) (by rfl) (by rfl))))
set_option maxHeartbeats 0 in
theorem ok_l_is_number (Gm : Gl0 K mg) (Tb : Tb0 base Gm) : FnOk P w K mg base (L2.CX P w) 1 Gm.a_l_is_number Gm.d_l_is_number ["thing"] (spF K mg Gm.T fn_l_is_number) := by
  refine fn_okC Gm.F_l_is_number sc_l_is_number (by decide) fun cdv hcd A outer s0 H vs E F AA hr tk lv => ?_
  have sc := sc_l_is_number
  exact (dss_one (ds_ret (de_and (de_isi (by rfl) (by rfl) Gm.z_isinstance (by rfl) (by rfl) Gm.z_int (by rfl) (by decide) (by rfl) (de_name (i := 0) (by rfl) (by first | exact .inl (by rfl) | exact .inr (.inl (by rfl)) | exact .inr (.inr (by rfl))) (by rfl) (by rfl)) (by rfl) (by rfl) (by rfl)) (de_and (de_not (de_isi (by rfl) (by rfl) Gm.z_isinstance (by rfl) (by rfl) Gm.z_bool (by rfl) (by decide) (by rfl) (de_name (i := 0) (by rfl) (by first | exact .inl (by rfl) | exact .inr (.inl (by rfl)) | exact .inr (.inr (by rfl))) (by rfl) (by rfl)) (by rfl) (by rfl) (by rfl))) (de_one (de_cmp or_ge sem_ge (de_name (i := 0) (by rfl) (by first | exact .inl (by rfl) | exact .inr (.inl (by rfl)) | exact .inr (.inr (by rfl))) (by rfl) (by rfl)) de_int (by rfl)))))))
set_option maxHeartbeats 0 in
theorem ok_l_is_fact (Gm : Gl0 K mg) (Tb : Tb0 base Gm) : FnOk P w K mg base (L2.CX P w) 2 Gm.a_l_is_fact Gm.d_l_is_fact ["thing"] (spF K mg Gm.T fn_l_is_fact) := by
  refine fn_okC Gm.F_l_is_fact sc_l_is_fact (by decide) fun cdv hcd A outer s0 H vs E F AA hr tk lv => ?_
  have sc := sc_l_is_fact
  exact (dss_cons (ds_if (dw_or (dt_not (dt_val (de_isi (by rfl) (by rfl) Gm.z_isinstance (by rfl) (by rfl) Gm.z_tuple (by rfl) (by decide) (by rfl) (de_name (i := 0) (by rfl) (by first | exact .inl (by rfl) | exact .inr (.inl (by rfl)) | exact .inr (.inr (by rfl))) (by rfl) (by rfl)) (by rfl) (by rfl) (by rfl)) (fun _ => (by rfl)))) (dw_or (dt_cmp (or_nin (hr.u (by decide))) sem_nin (de_callB or_len sem_len (by rfl) Gm.z_len (by rfl) (da_cons (de_name (i := 0) (by rfl) (by first | exact .inl (by rfl) | exact .inr (.inl (by rfl)) | exact .inr (.inr (by rfl))) (by rfl) (by rfl)) da_nil (by rfl)) (by decide) (by rfl) (by rfl) (by rfl)) (de_tup (da_cons (de_val de_int) (da_cons (de_val de_int) da_nil (by rfl)) (by rfl))) (by rfl)) (dw_or (dt_not (dt_val (de_isi (by rfl) (by rfl) Gm.z_isinstance (by rfl) (by rfl) Gm.z_str (by rfl) (by decide) (by rfl) (de_ix (or_ix (hr.u (by decide))) sem_ix (de_name (i := 0) (by rfl) (by first | exact .inl (by rfl) | exact .inr (.inl (by rfl)) | exact .inr (.inr (by rfl))) (by rfl) (by rfl)) de_int (fun _ _ => (by rfl))) (by rfl) (by rfl) (by rfl)) (fun _ => (by rfl)))) (dw_or1 (dt_not (dt_val (de_call (ok_l_is_number Gm Tb) (hr.mono (by decide)) (by rfl) Gm.g_l_is_number Gm.F_l_is_number.kp (b_l_is_number Gm) tk (da_cons (de_ix (or_ix (hr.u (by decide))) sem_ix (de_name (i := 0) (by rfl) (by first | exact .inl (by rfl) | exact .inr (.inl (by rfl)) | exact .inr (.inr (by rfl))) (by rfl) (by rfl)) de_int (fun _ _ => (by rfl))) da_nil (by rfl)) (by rfl) (by rfl) (by rfl)) (fun _ => (by rfl)))))))).dt (dss_one (ds_ret de_bl)) dss_nil)
   (dss_cons (ds_if (dt_cmp (or_eq (hr.u (by decide))) sem_eq (de_callB or_len sem_len (by rfl) Gm.z_len (by rfl) (da_cons (de_name (i := 0) (by rfl) (by first | exact .inl (by rfl) | exact .inr (.inl (by rfl)) | exact .inr (.inr (by rfl))) (by rfl) (by rfl)) da_nil (by rfl)) (by decide) (by rfl) (by rfl) (by rfl)) de_int (by rfl)) (dss_one (ds_ret (de_cmp (or_eq (hr.u (by decide))) sem_eq (de_ix (or_ix (hr.u (by decide))) sem_ix (de_name (i := 0) (by rfl) (by first | exact .inl (by rfl) | exact .inr (.inl (by rfl)) | exact .inr (.inr (by rfl))) (by rfl) (by rfl)) de_int (fun _ _ => (by rfl))) de_str (by rfl)))) dss_nil)
   (dss_cons (ds_if (dw_or (dt_cmp (or_ne (hr.u (by decide))) sem_ne (de_ix (or_ix (hr.u (by decide))) sem_ix (de_name (i := 0) (by rfl) (by first | exact .inl (by rfl) | exact .inr (.inl (by rfl)) | exact .inr (.inr (by rfl))) (by rfl) (by rfl)) de_int (fun _ _ => (by rfl))) de_str (by rfl)) (dw_or (dt_not (dt_val (de_isi (by rfl) (by rfl) Gm.z_isinstance (by rfl) (by rfl) Gm.z_tuple (by rfl) (by decide) (by rfl) (de_ix (or_ix (hr.u (by decide))) sem_ix (de_name (i := 0) (by rfl) (by first | exact .inl (by rfl) | exact .inr (.inl (by rfl)) | exact .inr (.inr (by rfl))) (by rfl) (by rfl)) de_int (fun _ _ => (by rfl))) (by rfl) (by rfl) (by rfl)) (fun _ => (by rfl)))) (dw_or1 (dt_cmp (or_ne (hr.u (by decide))) sem_ne (de_lc (by rfl) sc.nd (di_seq (de_ix (or_ix (hr.u (by decide))) sem_ix (de_name (i := 0) (by rfl) (by first | exact .inl (by rfl) | exact .inr (.inl (by rfl)) | exact .inr (.inr (by rfl))) (by rfl) (by rfl)) de_int (fun _ _ => (by rfl))) (by rfl)) (blkOk_by (N := [Str.ofString "thing", Str.ofString "u"]) (sc := defScope st_l_is_fact) (own := [("u", 1)]) (by decide +kernel)) (fun _ _ _ _ _ => pg_name (i := 1) sc.nd (by rfl) (by first | exact .inl (by rfl) | exact .inr (by rfl)) (by first | exact .inl (by rfl) | exact .inr (by rfl))) (gok_name ⟨(by decide : 1 < 2), io_ne (by decide)⟩) (fun _ _ _ _ _ => tst_some (dt_not (dt_val (de_call (ok_l_is_number Gm Tb) (hr.mono (by decide)) (by rfl) Gm.g_l_is_number Gm.F_l_is_number.kp (b_l_is_number Gm) takes0 (da_cons (de_name (i := 1) (by rfl) (by first | exact .inl (by rfl) | exact .inr (.inl (by rfl)) | exact .inr (.inr (by rfl))) (by rfl) (by rfl)) da_nil (by rfl)) (by rfl) (by rfl) (by rfl)) (fun _ => (by rfl))))) (fun _ _ _ _ _ => (de_name (i := 1) (by rfl) (by first | exact .inl (by rfl) | exact .inr (.inl (by rfl)) | exact .inr (.inr (by rfl))) (by rfl) (by rfl))) (by rfl) (fun _ => (by rfl)) (by decide) (io_nes (by decide))) (de_lst da_nil) (by rfl))))).dt (dss_one (ds_ret de_bl)) dss_nil)
   (dss_one (ds_ret (de_and (de_cmp (or_eq (hr.u (by decide))) sem_eq (de_callTy cr_list sem_list (by rfl) Gm.z_list (by rfl) (da_cons (de_ix (or_ix (hr.u (by decide))) sem_ix (de_name (i := 0) (by rfl) (by first | exact .inl (by rfl) | exact .inr (.inl (by rfl)) | exact .inr (.inr (by rfl))) (by rfl) (by rfl)) de_int (fun _ _ => (by rfl))) da_nil (by rfl)) (by decide) (by rfl) (by rfl) (by rfl)) (de_ss (by rfl) (by rfl) (by rfl) Gm.z_sorted (by rfl) (by rfl) Gm.z_set (by rfl) (da_cons (de_ix (or_ix (hr.u (by decide))) sem_ix (de_name (i := 0) (by rfl) (by first | exact .inl (by rfl) | exact .inr (.inl (by rfl)) | exact .inr (.inr (by rfl))) (by rfl) (by rfl)) de_int (fun _ _ => (by rfl))) da_nil (by rfl)) (by rfl)) (by rfl)) (de_one (de_cmp (or_nin (hr.u (by decide))) sem_nin (de_ix (or_ix (hr.u (by decide))) sem_ix (de_name (i := 0) (by rfl) (by first | exact .inl (by rfl) | exact .inr (.inl (by rfl)) | exact .inr (.inr (by rfl))) (by rfl) (by rfl)) de_int (fun _ _ => (by rfl))) (de_ix (or_ix (hr.u (by decide))) sem_ix (de_name (i := 0) (by rfl) (by first | exact .inl (by rfl) | exact .inr (.inl (by rfl)) | exact .inr (.inr (by rfl))) (by rfl) (by rfl)) de_int (fun _ _ => (by rfl))) (by rfl)))))))))
set_option maxHeartbeats 0 in
theorem ok_l_are_facts (Gm : Gl0 K mg) (Tb : Tb0 base Gm) : FnOk P w K mg base (L2.CX P w) 3 Gm.a_l_are_facts Gm.d_l_are_facts ["thing"] (spF K mg Gm.T fn_l_are_facts) := by
  refine fn_okC Gm.F_l_are_facts sc_l_are_facts (by decide) fun cdv hcd A outer s0 H vs E F AA hr tk lv => ?_
  have sc := sc_l_are_facts
  exact (dss_cons (ds_if (dw_or (dt_not (dt_val (de_isi (by rfl) (by rfl) Gm.z_isinstance (by rfl) (by rfl) Gm.z_tuple (by rfl) (by decide) (by rfl) (de_name (i := 0) (by rfl) (by first | exact .inl (by rfl) | exact .inr (.inl (by rfl)) | exact .inr (.inr (by rfl))) (by rfl) (by rfl)) (by rfl) (by rfl) (by rfl)) (fun _ => (by rfl)))) (dw_or1 (dt_cmp (or_ne (hr.u (by decide))) sem_ne (de_lc (by rfl) sc.nd (di_seq (de_name (i := 0) (by rfl) (by first | exact .inl (by rfl) | exact .inr (.inl (by rfl)) | exact .inr (.inr (by rfl))) (by rfl) (by rfl)) (by rfl)) (blkOk_by (N := [Str.ofString "thing", Str.ofString "near", Str.ofString "far", Str.ofString "fact"]) (sc := defScope st_l_are_facts) (own := [("fact", 3)]) (by decide +kernel)) (fun _ _ _ _ _ => pg_name (i := 3) sc.nd (by rfl) (by first | exact .inl (by rfl) | exact .inr (by rfl)) (by first | exact .inl (by rfl) | exact .inr (by rfl))) (gok_name ⟨(by decide : 3 < 4), io_ne (by decide)⟩) (fun _ _ _ _ _ => tst_some (dt_not (dt_val (de_call (ok_l_is_fact Gm Tb) (hr.mono (by decide)) (by rfl) Gm.g_l_is_fact Gm.F_l_is_fact.kp (b_l_is_fact Gm) takes0 (da_cons (de_name (i := 3) (by rfl) (by first | exact .inl (by rfl) | exact .inr (.inl (by rfl)) | exact .inr (.inr (by rfl))) (by rfl) (by rfl)) da_nil (by rfl)) (by rfl) (by rfl) (by rfl)) (fun _ => (by rfl))))) (fun _ _ _ _ _ => (de_name (i := 3) (by rfl) (by first | exact .inl (by rfl) | exact .inr (.inl (by rfl)) | exact .inr (.inr (by rfl))) (by rfl) (by rfl))) (by rfl) (fun _ => (by rfl)) (by decide) (io_nes (by decide))) (de_lst da_nil) (by rfl)))).dt (dss_one (ds_ret de_bl)) dss_nil)
   (dss_one (ds_ret (de_cmp (or_eq (hr.u (by decide))) sem_eq (de_lc (by rfl) sc.nd (di_zip (by rfl) Gm.z_zip (da_cons (de_name (i := 0) (by rfl) (by first | exact .inl (by rfl) | exact .inr (.inl (by rfl)) | exact .inr (.inr (by rfl))) (by rfl) (by rfl)) (da_cons (de_sl10 (by rfl) (de_name (i := 0) (by rfl) (by first | exact .inl (by rfl) | exact .inr (.inl (by rfl)) | exact .inr (.inr (by rfl))) (by rfl) (by rfl)) de_int) da_nil (by rfl)) (by rfl)) (by rfl) (by rfl) (by rfl)) (blkOk_by (N := [Str.ofString "thing", Str.ofString "near", Str.ofString "far", Str.ofString "fact"]) (sc := defScope st_l_are_facts) (own := [("near", 1), ("far", 2)]) (by decide +kernel)) (fun _ _ _ _ _ => pg_names (by rfl) (.cons (nameAt (i := 1) sc.nd (by rfl) (by first | exact .inl (by rfl) | exact .inr (by rfl)) (by first | exact .inl (by rfl) | exact .inr (by rfl))) (.cons (nameAt (i := 2) sc.nd (by rfl) (by first | exact .inl (by rfl) | exact .inr (by rfl)) (by first | exact .inl (by rfl) | exact .inr (by rfl))) NamesAt.nil))) (gok_tup (slots_of (n := 4) (by rfl) (by decide) (io_nes (by decide)))) (fun _ _ _ _ _ => tst_some (dt_cmp or_ge sem_ge (de_ix (or_ix (hr.u (by decide))) sem_ix (de_name (i := 1) (by rfl) (by first | exact .inl (by rfl) | exact .inr (.inl (by rfl)) | exact .inr (.inr (by rfl))) (by rfl) (by rfl)) de_int (fun _ _ => (by rfl))) (de_ix (or_ix (hr.u (by decide))) sem_ix (de_name (i := 2) (by rfl) (by first | exact .inl (by rfl) | exact .inr (.inl (by rfl)) | exact .inr (.inr (by rfl))) (by rfl) (by rfl)) de_int (fun _ _ => (by rfl))) (by rfl))) (fun _ _ _ _ _ => de_int) (by rfl) (fun _ => (by rfl)) (by decide) (io_nes (by decide))) (de_lst da_nil) (by rfl)))))
set_option maxHeartbeats 0 in
theorem ok_law (Gm : Gl0 K mg) (Tb : Tb0 base Gm) : FnOk P w K mg base (L2.CX P w) 7 Gm.a_law Gm.d_law ["script"] (spF K mg Gm.T fn_law) := by
  refine fn_okC Gm.F_law sc_law (by decide) fun cdv hcd A outer s0 H vs E F AA hr tk lv => ?_
  have sc := sc_law
  have hcode : cdv = .ref Gm.c_law := hcd.symm.trans Gm.h_law
  subst hcode
  have hcode := (rfl : Value.ref Gm.c_law = Value.ref Gm.c_law)
  have TB := Tb.t_law
  have hmT : (Gm.P_law, Str.ofString "law.<locals>." ++ "<lambda>") ∈ Gm.T := by simp
  have huT : ∀ p ∈ Gm.T, p.1 = Gm.P_law → p.2 = Str.ofString "law.<locals>." ++ "<lambda>" := by
    have z := Gm.pne
    intro p hp e
    simp only [Gl0.T, List.mem_cons, List.mem_singleton, List.not_mem_nil, or_false] at hp
    rcases hp with rfl | rfl <;> first | rfl | (exact absurd e (by first | exact z | exact Ne.symm z))
  exact (dss_cons (ds_set (i := 1) sc.nd (by rfl) (by first | exact .inl (by rfl) | exact .inr (by rfl)) (de_call (ok_l_deck Gm Tb) (hr.mono (by decide)) (by rfl) Gm.g_l_deck Gm.F_l_deck.kp (b_l_deck Gm) tk (da_cons (de_name (i := 0) (by rfl) (by first | exact .inl (by rfl) | exact .inr (.inl (by rfl)) | exact .inr (.inr (by rfl))) (by rfl) (by rfl)) da_nil (by rfl)) (by rfl) (by rfl) (by rfl)) (by rfl) (by first | exact .inl (by rfl) | exact .inr (by rfl)) (io_ne (by decide)) (by rfl))
   (dss_cons (ds_for (passes_of (by rfl)) (by rfl) (di_range1 (by rfl) Gm.z_range (da_cons de_int da_nil (by rfl)) (by rfl)) (dg_name (i := 2) sc.nd (by rfl) (by first | exact .inl (by rfl) | exact .inr (by rfl)) (by first | exact .inl (by rfl) | exact .inr (by rfl)) (io_ne (by decide)) (by rfl)) (dss_cons (ds_set (i := 3) sc.nd (by rfl) (by first | exact .inl (by rfl) | exact .inr (by rfl)) (de_call (ok_l_drawn_facts Gm Tb) (hr.mono (by decide)) (by rfl) Gm.g_l_drawn_facts Gm.F_l_drawn_facts.kp (b_l_drawn_facts Gm) tk (da_cons (de_name (i := 1) (by rfl) (by first | exact .inl (by rfl) | exact .inr (.inl (by rfl)) | exact .inr (.inr (by rfl))) (by rfl) (by rfl)) (da_cons (de_call (ok_l_names Gm Tb) (hr.mono (by decide)) (by rfl) Gm.g_l_names Gm.F_l_names.kp (b_l_names Gm) tk (da_cons (de_name (i := 1) (by rfl) (by first | exact .inl (by rfl) | exact .inr (.inl (by rfl)) | exact .inr (.inr (by rfl))) (by rfl) (by rfl)) (da_cons (de_call (ok_l_draw Gm Tb) (hr.mono (by decide)) (by rfl) Gm.g_l_draw Gm.F_l_draw.kp (b_l_draw Gm) tk (da_cons (de_name (i := 1) (by rfl) (by first | exact .inl (by rfl) | exact .inr (.inl (by rfl)) | exact .inr (.inr (by rfl))) (by rfl) (by rfl)) (da_cons de_int da_nil (by rfl)) (by rfl)) (by rfl) (by rfl) (by rfl)) da_nil (by rfl)) (by rfl)) (by rfl) (by rfl) (by rfl)) da_nil (by rfl)) (by rfl)) (by rfl) (by rfl) (by rfl)) (by rfl) (by first | exact .inl (by rfl) | exact .inr (by rfl)) (io_ne (by decide)) (by rfl))
   (dss_one (ds_for (passes_of (by rfl)) (by rfl) (di_range1 (by rfl) Gm.z_range (da_cons de_int da_nil (by rfl)) (by rfl)) (dg_name (i := 4) sc.nd (by rfl) (by first | exact .inl (by rfl) | exact .inr (by rfl)) (by first | exact .inl (by rfl) | exact .inr (by rfl)) (io_ne (by decide)) (by rfl)) (dss_cons (ds_set (i := 5) sc.nd (by rfl) (by first | exact .inl (by rfl) | exact .inr (by rfl)) (de_ifExp (dt_cmp or_gt sem_gt (de_name (i := 4) (by rfl) (by first | exact .inl (by rfl) | exact .inr (.inl (by rfl)) | exact .inr (.inr (by rfl))) (by rfl) (by rfl)) de_int (by rfl)) (de_call (ok_l_bent Gm Tb) (hr.mono (by decide)) (by rfl) Gm.g_l_bent Gm.F_l_bent.kp (b_l_bent Gm) tk (da_cons (de_name (i := 1) (by rfl) (by first | exact .inl (by rfl) | exact .inr (.inl (by rfl)) | exact .inr (.inr (by rfl))) (by rfl) (by rfl)) (da_cons (de_name (i := 3) (by rfl) (by first | exact .inl (by rfl) | exact .inr (.inl (by rfl)) | exact .inr (.inr (by rfl))) (by rfl) (by rfl)) da_nil (by rfl)) (by rfl)) (by rfl) (by rfl) (by rfl)) (de_name (i := 3) (by rfl) (by first | exact .inl (by rfl) | exact .inr (.inl (by rfl)) | exact .inr (.inr (by rfl))) (by rfl) (by rfl))) (by rfl) (by first | exact .inl (by rfl) | exact .inr (by rfl)) (io_ne (by decide)) (by rfl))
   (dss_cons (ds_if (dw_and (dt_cmp (or_eq (hr.u (by decide))) sem_eq (de_name (i := 4) (by rfl) (by first | exact .inl (by rfl) | exact .inr (.inl (by rfl)) | exact .inr (.inr (by rfl))) (by rfl) (by rfl)) de_int (by rfl)) (dw_and1 (dt_cmp (or_ne (hr.u (by decide))) sem_ne (de_name (i := 3) (by rfl) (by first | exact .inl (by rfl) | exact .inr (.inl (by rfl)) | exact .inr (.inr (by rfl))) (by rfl) (by rfl)) (de_tup da_nil) (by rfl)))).dt (dss_one (ds_set (i := 5) sc.nd (by rfl) (by first | exact .inl (by rfl) | exact .inr (by rfl)) (de_callTy cr_tuple sem_tuple (by rfl) Gm.z_tuple (by rfl) (da_cons (de_sk (x := "fact") (by rfl) (hr.u (by decide)) hr.depth ⟨⟨_, _, _, _, (by rfl)⟩, fun _ _ _ _ _ => (by rfl), (by rfl), (by rfl), (by rfl), (by rfl), by decide, by decide, (by rfl)⟩ TB hcode hmT huT (by rfl) (by rfl) Gm.z_sorted (by rfl) (da_cons (de_bin or_add sem_add (de_name (i := 3) (by rfl) (by first | exact .inl (by rfl) | exact .inr (.inl (by rfl)) | exact .inr (.inr (by rfl))) (by rfl) (by rfl)) (de_tup (da_cons (de_val (de_call (ok_l_pick Gm Tb) (hr.mono (by decide)) (by rfl) Gm.g_l_pick Gm.F_l_pick.kp (b_l_pick Gm) tk (da_cons (de_name (i := 1) (by rfl) (by first | exact .inl (by rfl) | exact .inr (.inl (by rfl)) | exact .inr (.inr (by rfl))) (by rfl) (by rfl)) (da_cons (de_lst (da_cons (de_val (de_tup (da_cons (de_val de_str) (da_cons (de_val (de_ix (or_ix (hr.u (by decide))) sem_ix (de_ix (or_ix (hr.u (by decide))) sem_ix (de_name (i := 3) (by rfl) (by first | exact .inl (by rfl) | exact .inr (.inl (by rfl)) | exact .inr (.inr (by rfl))) (by rfl) (by rfl)) de_int (fun _ _ => (by rfl))) de_int (fun _ _ => (by rfl)))) da_nil (by rfl)) (by rfl)))) (da_cons (de_val (de_ix (or_ix (hr.u (by decide))) sem_ix (de_name (i := 3) (by rfl) (by first | exact .inl (by rfl) | exact .inr (.inl (by rfl)) | exact .inr (.inr (by rfl))) (by rfl) (by rfl)) de_int (fun _ _ => (by rfl)))) (da_cons (de_val (de_tup (da_cons (de_val de_str) (da_cons (de_val (de_ix (or_ix (hr.u (by decide))) sem_ix (de_ix (or_ix (hr.u (by decide))) sem_ix (de_name (i := 3) (by rfl) (by first | exact .inl (by rfl) | exact .inr (.inl (by rfl)) | exact .inr (.inr (by rfl))) (by rfl) (by rfl)) (de_neg de_int) (fun _ _ => (by rfl))) de_int (fun _ _ => (by rfl)))) (da_cons (de_val (de_tup da_nil)) da_nil (by rfl)) (by rfl)) (by rfl)))) da_nil (by rfl)) (by rfl)) (by rfl))) da_nil (by rfl)) (by rfl)) (by rfl) (by rfl) (by rfl))) da_nil (by rfl)))) da_nil (by rfl)) (by rfl) (by rfl) (by rfl)) da_nil (by rfl)) (by decide) (by rfl) (by rfl) (by rfl)) (by rfl) (by first | exact .inl (by rfl) | exact .inr (by rfl)) (io_ne (by decide)) (by rfl))) dss_nil)
   (dss_cons (ds_set (i := 6) sc.nd (by rfl) (by first | exact .inl (by rfl) | exact .inr (by rfl)) (de_ifExp (dt_cmp (or_eq (hr.u (by decide))) sem_eq (de_bin op_mod sem_mod (de_callTy cr_int sem_int (by rfl) Gm.z_int (by rfl) (da_cons (de_name (i := 4) (by rfl) (by first | exact .inl (by rfl) | exact .inr (.inl (by rfl)) | exact .inr (.inr (by rfl))) (by rfl) (by rfl)) da_nil (by rfl)) (by decide) (by rfl) (by rfl) (by rfl)) de_int) de_int (by rfl)) (de_call (ok_are_facts Gm Tb) (hr.mono (by decide)) (by rfl) Gm.g_are_facts Gm.F_are_facts.kp (b_are_facts Gm) tk (da_cons (de_name (i := 5) (by rfl) (by first | exact .inl (by rfl) | exact .inr (.inl (by rfl)) | exact .inr (.inr (by rfl))) (by rfl) (by rfl)) da_nil (by rfl)) (by rfl) (by rfl) (by rfl)) (de_callK (ok_are_facts Gm Tb) (hr.mono (by decide)) (by rfl) Gm.g_are_facts Gm.F_are_facts.kp (kb_are_facts Gm) tk (dk_cons (de_name (i := 5) (by rfl) (by first | exact .inl (by rfl) | exact .inr (.inl (by rfl)) | exact .inr (.inr (by rfl))) (by rfl) (by rfl)) dk_nil) (by rfl) (by rfl) (by rfl) (by rfl))) (by rfl) (by first | exact .inl (by rfl) | exact .inr (by rfl)) (io_ne (by decide)) (by rfl))
   (dss_cons (ds_if (dt_cmp (or_ne (hr.u (by decide))) sem_ne (de_callB cr_reprB sem_reprB (by rfl) Gm.z_repr (by rfl) (da_cons (de_name (i := 6) (by rfl) (by first | exact .inl (by rfl) | exact .inr (.inl (by rfl)) | exact .inr (.inr (by rfl))) (by rfl) (by rfl)) da_nil (by rfl)) (by decide) (by rfl) (by rfl) (by rfl)) (de_callB cr_reprB sem_reprB (by rfl) Gm.z_repr (by rfl) (da_cons (de_call (ok_l_are_facts Gm Tb) (hr.mono (by decide)) (by rfl) Gm.g_l_are_facts Gm.F_l_are_facts.kp (b_l_are_facts Gm) tk (da_cons (de_name (i := 5) (by rfl) (by first | exact .inl (by rfl) | exact .inr (.inl (by rfl)) | exact .inr (.inr (by rfl))) (by rfl) (by rfl)) da_nil (by rfl)) (by rfl) (by rfl) (by rfl)) da_nil (by rfl)) (by decide) (by rfl) (by rfl) (by rfl)) (by rfl)) (dss_one (ds_ret de_bl)) dss_nil)
   (dss_cons (ds_set (i := 7) sc.nd (by rfl) (by first | exact .inl (by rfl) | exact .inr (by rfl)) (de_call (ok_l_pick Gm Tb) (hr.mono (by decide)) (by rfl) Gm.g_l_pick Gm.F_l_pick.kp (b_l_pick Gm) tk (da_cons (de_name (i := 1) (by rfl) (by first | exact .inl (by rfl) | exact .inr (.inl (by rfl)) | exact .inr (.inr (by rfl))) (by rfl) (by rfl)) (da_cons (de_bin or_add sem_add (de_name (i := 3) (by rfl) (by first | exact .inl (by rfl) | exact .inr (.inl (by rfl)) | exact .inr (.inr (by rfl))) (by rfl) (by rfl)) (de_tup (da_cons (de_val (de_tup (da_cons (de_val de_str) (da_cons (de_val de_int) da_nil (by rfl)) (by rfl)))) (da_cons (de_val (de_tup (da_cons (de_val de_str) (da_cons (de_val de_int) (da_cons (de_val (de_tup (da_cons (de_val de_int) (da_cons (de_val de_int) da_nil (by rfl)) (by rfl)))) da_nil (by rfl)) (by rfl)) (by rfl)))) da_nil (by rfl)) (by rfl)))) da_nil (by rfl)) (by rfl)) (by rfl) (by rfl) (by rfl)) (by rfl) (by first | exact .inl (by rfl) | exact .inr (by rfl)) (io_ne (by decide)) (by rfl))
   (dss_cons (ds_set (i := 7) sc.nd (by rfl) (by first | exact .inl (by rfl) | exact .inr (by rfl)) (de_ifExp (dt_cmp or_gt sem_gt (de_name (i := 4) (by rfl) (by first | exact .inl (by rfl) | exact .inr (.inl (by rfl)) | exact .inr (.inr (by rfl))) (by rfl) (by rfl)) de_int (by rfl)) (de_call (ok_l_bent Gm Tb) (hr.mono (by decide)) (by rfl) Gm.g_l_bent Gm.F_l_bent.kp (b_l_bent Gm) tk (da_cons (de_name (i := 1) (by rfl) (by first | exact .inl (by rfl) | exact .inr (.inl (by rfl)) | exact .inr (.inr (by rfl))) (by rfl) (by rfl)) (da_cons (de_name (i := 7) (by rfl) (by first | exact .inl (by rfl) | exact .inr (.inl (by rfl)) | exact .inr (.inr (by rfl))) (by rfl) (by rfl)) da_nil (by rfl)) (by rfl)) (by rfl) (by rfl) (by rfl)) (de_name (i := 7) (by rfl) (by first | exact .inl (by rfl) | exact .inr (.inl (by rfl)) | exact .inr (.inr (by rfl))) (by rfl) (by rfl))) (by rfl) (by first | exact .inl (by rfl) | exact .inr (by rfl)) (io_ne (by decide)) (by rfl))
   (dss_cons (ds_set (i := 6) sc.nd (by rfl) (by first | exact .inl (by rfl) | exact .inr (by rfl)) (de_ifExp (dt_cmp (or_eq (hr.u (by decide))) sem_eq (de_bin op_mod sem_mod (de_callTy cr_int sem_int (by rfl) Gm.z_int (by rfl) (da_cons (de_name (i := 4) (by rfl) (by first | exact .inl (by rfl) | exact .inr (.inl (by rfl)) | exact .inr (.inr (by rfl))) (by rfl) (by rfl)) da_nil (by rfl)) (by decide) (by rfl) (by rfl) (by rfl)) de_int) de_int (by rfl)) (de_call (ok_is_fact Gm Tb) (hr.mono (by decide)) (by rfl) Gm.g_is_fact Gm.F_is_fact.kp (b_is_fact Gm) tk (da_cons (de_name (i := 7) (by rfl) (by first | exact .inl (by rfl) | exact .inr (.inl (by rfl)) | exact .inr (.inr (by rfl))) (by rfl) (by rfl)) da_nil (by rfl)) (by rfl) (by rfl) (by rfl)) (de_callK (ok_is_fact Gm Tb) (hr.mono (by decide)) (by rfl) Gm.g_is_fact Gm.F_is_fact.kp (kb_is_fact Gm) tk (dk_cons (de_name (i := 7) (by rfl) (by first | exact .inl (by rfl) | exact .inr (.inl (by rfl)) | exact .inr (.inr (by rfl))) (by rfl) (by rfl)) dk_nil) (by rfl) (by rfl) (by rfl) (by rfl))) (by rfl) (by first | exact .inl (by rfl) | exact .inr (by rfl)) (io_ne (by decide)) (by rfl))
   (dss_one (ds_if (dt_cmp (or_ne (hr.u (by decide))) sem_ne (de_callB cr_reprB sem_reprB (by rfl) Gm.z_repr (by rfl) (da_cons (de_name (i := 6) (by rfl) (by first | exact .inl (by rfl) | exact .inr (.inl (by rfl)) | exact .inr (.inr (by rfl))) (by rfl) (by rfl)) da_nil (by rfl)) (by decide) (by rfl) (by rfl) (by rfl)) (de_callB cr_reprB sem_reprB (by rfl) Gm.z_repr (by rfl) (da_cons (de_call (ok_l_is_fact Gm Tb) (hr.mono (by decide)) (by rfl) Gm.g_l_is_fact Gm.F_l_is_fact.kp (b_l_is_fact Gm) tk (da_cons (de_name (i := 7) (by rfl) (by first | exact .inl (by rfl) | exact .inr (.inl (by rfl)) | exact .inr (.inr (by rfl))) (by rfl) (by rfl)) da_nil (by rfl)) (by rfl) (by rfl) (by rfl)) da_nil (by rfl)) (by decide) (by rfl) (by rfl) (by rfl)) (by rfl)) (dss_one (ds_ret de_bl)) dss_nil))))))))) (fun _ => (by rfl))))) (fun _ => (by rfl)))
   (dss_one (ds_ret de_bl))))
end
end k02
end Yf
namespace Yf
namespace k02
open PySem PySem.Spec L2
def dk (cells : List Int) (mixed turn : Int) : M := .dct [(.inr "cells", .lst (cells.map .int)), (.inr "mixed", .d (.int mixed)), (.inr "turn", .d (.int turn))]
def Dk (n : Nat) (m : M) : Prop := ∃ cells mixed turn, m = dk cells mixed turn ∧ cells.length ≤ 63 ∧ 0 ≤ mixed ∧ mixed < 2305843009213693951 ∧ 0 ≤ turn ∧ turn ≤ n
theorem s1 : (Str.ofString "cells" = Str.ofString "turn") = False := eq_false (by decide)
theorem s2 : (Str.ofString "mixed" = Str.ofString "turn") = False := eq_false (by decide)
theorem s3 : (Str.ofString "cells" = Str.ofString "mixed") = False := eq_false (by decide)
theorem s4 : (Str.ofString "turn" = Str.ofString "mixed") = False := eq_false (by decide)
theorem s5 : (Str.ofString "turn" = Str.ofString "cells") = False := eq_false (by decide)
theorem s6 : (Str.ofString "mixed" = Str.ofString "cells") = False := eq_false (by decide)
theorem sz3 : (3 < sizeLine) = True := eq_true (by rw [sizeLine_eq]; omega)
theorem log_le {i : Int} (h : i.natAbs < 2 ^ 250) : i.natAbs.log2 < 250 := by
  by_cases z : i.natAbs = 0
  · rw [z]; decide
  · exact (Nat.log2_lt z).mpr h
theorem mulI {i j : Int} (h1 : i.natAbs < 2 ^ 250) (h2 : j.natAbs < 2 ^ 250) : gMul [.d (.int i), .d (.int j)] = some (.d (.int (i * j))) := by
  have a := log_le h1
  have b := log_le h2
  simp only [gMul]
  rw [if_pos (by omega)]
theorem pow18 : gPow [.d (.int 10), .d (.int 18)] = some (.d (.int 1000000000000000000)) := rfl
theorem div4096 (i : Int) : gFdiv [.d (.int i), .d (.int 4096)] = some (.d (.int (i / 4096))) := by
  simp only [gFdiv, gI2]
  rw [if_pos (by decide +kernel)]
  rfl
theorem draw_ok {n : Nat} {m : M} {b : Int} (h : Dk n m) (hn : n < 1000000000) (h0 : 0 < b) (h1 : b < 1000000) : ∃ r m', fn_l_draw.run [m, .d (.int b)] = some (.inr (.d (.int r)), [m']) ∧ 0 ≤ r ∧ r < b ∧ Dk (n + 1) m' := by
  obtain ⟨cells, mixed, turn, rfl, hc, m0, m1, t0, t1⟩ := h
  have g1 : gMul [.d (.int 1099511627791), .d (.int (turn + 1))] = some (.d (.int (1099511627791 * (turn + 1)))) := mulI (by decide) (by omega)
  have g4 : gMul [.d (.int 2862933555777941757), .d (.int (turn + 1))] = some (.d (.int (2862933555777941757 * (turn + 1)))) := mulI (by decide) (by omega)
  have g2 : ∀ x : Int, x.natAbs < 2 ^ 200 → gMul [.d (.int x), .d (.int 6364136223846793005)] = some (.d (.int (x * 6364136223846793005))) := fun x hx => mulI (by omega) (by decide)
  have g3 : ∀ x : Int, gMul [.d (.int (x % 2305843009213693951)), .d (.int (x % 2305843009213693951))] = some (.d (.int ((x % 2305843009213693951) * (x % 2305843009213693951)))) := fun x => mulI (by omega) (by omega)
  have bd : ∀ x : Int, 0 ≤ x % b ∧ x % b < b := fun x => ⟨Int.emod_nonneg _ (by omega), Int.emod_lt_of_pos _ h0⟩
  have DT : ∀ cs : List Int, cs.length ≤ 63 → Dk (n + 1) (dk cs mixed (turn + 1)) := fun cs h => ⟨cs, mixed, turn + 1, rfl, h, m0, m1, by omega, by omega⟩
  let R : Int → Int := fun x => ((((x * 6364136223846793005 + 1442695040888963407) % 2305843009213693951) * ((x * 6364136223846793005 + 1442695040888963407) % 2305843009213693951) + 2862933555777941757 * (turn + 1) + 41) % 2305843009213693951 / 4096) % b
  rcases List.eq_nil_or_concat cells with rfl | ⟨cs, c, rfl⟩
  · have g2' := g2 (mixed + 1099511627791 * (turn + 1)) (by omega)
    have e : fn_l_draw.run [dk [] mixed turn, .d (.int b)] = some (.inr (.d (.int (R (mixed + 1099511627791 * (turn + 1))))), [dk [] mixed (turn + 1)]) := by
      unfold fn_l_draw mkFn mkRun den_l_draw dk
      simp [sNil, bodyEnv, sRet, sSeq, sSet, sIf, sEx, sBind, evOp, evs, evN, evC, evV, evCall, evIf, evAnd, evOr, evNot, Res.bind, getOs, getO, valOf, evDs, sPutK, evNeK, evPopK, evAppK, lstAt, isDM, setD, setM, valM, freeze, boolOf, takeOf, gLen, listOf, tupOf, dctOf, argsOf, argOf, collect, iosOf, putBack, gIx, gAdd, gSub, gMod, gInt, gGe, gGt, gLt, gLe, gOrd, gI2, evI, s1, s2, s3, s4, s5, s6, sz3, g1, g2', g3, g4, div4096, pow18, h0, R, List.range, List.range.loop]
    exact ⟨_, _, e, (bd _).1, (bd _).2, DT [] (by simp)⟩
  · by_cases big : 1000000000000000000 ≤ c
    · have mx : (if b > 2 then b else 2).natAbs.log2 < 9000 := Nat.lt_trans (log_le (i := if b > 2 then b else 2) (by split <;> omega)) (by decide)
      have e : fn_l_draw.run [dk (cs.concat c) mixed turn, .d (.int b)] = some (.inr (.d (.int (c % b))), [dk (cs ++ [c / (if b > 2 then b else 2)]) mixed (turn + 1)]) := by
        have hl : cs.length < sizeLine := by rw [sizeLine_eq]; simp at hc; omega
        unfold fn_l_draw mkFn mkRun den_l_draw dk
        simp [sNil, bodyEnv, sRet, sSeq, sSet, sIf, sEx, sBind, evOp, evs, evN, evC, evV, evCall, evIf, evAnd, evOr, evNot, Res.bind, getOs, getO, valOf, evDs, sPutK, evNeK, evPopK, evAppK, lstAt, isDM, setD, setM, valM, freeze, boolOf, takeOf, gLen, listOf, tupOf, dctOf, argsOf, argOf, collect, iosOf, putBack, gIx, gAdd, gSub, gMod, gInt, gGe, gGt, gLt, gLe, gOrd, gI2, evI, s1, s2, s3, s4, s5, s6, sz3, g1, pow18, h0, big, mx, hl, List.range, List.range.loop]
      exact ⟨_, _, e, (bd _).1, (bd _).2, DT _ (by simp at hc ⊢; omega)⟩
    · have g2' := g2 (mixed + 1099511627791 * (turn + 1) + c % 2305843009213693921) (by omega)
      have e : fn_l_draw.run [dk (cs.concat c) mixed turn, .d (.int b)] = some (.inr (.d (.int (R (mixed + 1099511627791 * (turn + 1) + c % 2305843009213693921)))), [dk cs mixed (turn + 1)]) := by
        unfold fn_l_draw mkFn mkRun den_l_draw dk
        simp [sNil, bodyEnv, sRet, sSeq, sSet, sIf, sEx, sBind, evOp, evs, evN, evC, evV, evCall, evIf, evAnd, evOr, evNot, Res.bind, getOs, getO, valOf, evDs, sPutK, evNeK, evPopK, evAppK, lstAt, isDM, setD, setM, valM, freeze, boolOf, takeOf, gLen, listOf, tupOf, dctOf, argsOf, argOf, collect, iosOf, putBack, gIx, gAdd, gSub, gMod, gInt, gGe, gGt, gLt, gLe, gOrd, gI2, evI, s1, s2, s3, s4, s5, s6, sz3, g1, g2', g3, g4, div4096, pow18, h0, big, R, List.range, List.range.loop]
      exact ⟨_, _, e, (bd _).1, (bd _).2, DT _ (by simp at hc ⊢; omega)⟩
theorem Dk.dct {n : Nat} {m : M} (h : Dk n m) : ∃ kvs, m = .dct kvs := by
  obtain ⟨c, x, t, rfl, _⟩ := h
  exact ⟨_, rfl⟩
theorem Dk.mono {n k : Nat} {m : M} (h : Dk n m) (l : n ≤ k) : Dk k m := by
  obtain ⟨c, x, t, e, a, b, d, f, g⟩ := h
  exact ⟨c, x, t, e, a, b, d, f, by omega⟩
/-- a call whose first argument is the deck -/
theorem call2 {fn : Fn} (hio : fn.io = [0]) (har : fn.ar = 2) {env env1 : Sl} {m m' r md : M} {f : Sl → Res Rv} {kvs : List (Key × M)} (h00 : (env[0]?).join.isSome = true) (h0 : (env1[0]?).join = some m) (hm : m = .dct kvs) (hf : f env = .ok (.inr md) env1) (hrun : fn.run [m, .d (freeze md)] = some (.inr r, [m'])) :
    evCall fn [evN 0, f] env = .ok (.inr r) (env1.set 0 (some m')) := by
  subst hm
  obtain ⟨m0, e0⟩ := Option.isSome_iff_exists.mp h00
  have el : 0 < env1.length := by
    apply Classical.byContradiction
    intro n
    rw [List.getElem?_eq_none (by omega)] at h0
    cases h0
  simp only [evCall, evs, evN, e0, Res.bind, hf, argsOf, argOf, hio, h0]
  simp [sNil, bodyEnv, sRet, sSeq, sSet, sIf, sEx, sBind, evOp, evs, evN, evC, evV, evCall, evIf, evAnd, evOr, evNot, Res.bind, getOs, getO, valOf, evDs, sPutK, evNeK, evPopK, evAppK, lstAt, isDM, setD, setM, valM, freeze, boolOf, takeOf, gLen, listOf, tupOf, dctOf, argsOf, argOf, collect, iosOf, putBack, gIx, gAdd, gSub, gMod, gInt, gGe, gGt, gLt, gLe, gOrd, gI2, evI, s1, s2, s3, s4, s5, s6, sz3, hrun, har, List.set_set]
/-- the same, the second argument a slot's data -/
theorem call2s {fn : Fn} (hio : fn.io = [0]) (har : fn.ar = 2) {env : Sl} {m m' r : M} {d : D} {j : Nat} {kvs : List (Key × M)} (h0 : (env[0]?).join = some m) (hm : m = .dct kvs) (hj : (env[j]?).join = some (.d d)) (hj0 : j ≠ 0) (hrun : fn.run [m, .d d] = some (.inr r, [m'])) :
    evCall fn [evN 0, evN j] env = .ok (.inr r) (env.set 0 (some m')) := by
  subst hm
  simp only [evCall, evs, evN, h0, hj, Res.bind, argsOf, argOf, hio]
  have : ((env.set 0 none)[j]?).join = some (M.d d) := by rw [List.getElem?_set_ne (Ne.symm hj0)]; exact hj
  simp [sNil, bodyEnv, sRet, sSeq, sSet, sIf, sEx, sBind, evOp, evs, evN, evC, evV, evCall, evIf, evAnd, evOr, evNot, Res.bind, getOs, getO, valOf, evDs, sPutK, evNeK, evPopK, evAppK, lstAt, isDM, setD, setM, valM, freeze, boolOf, takeOf, gLen, listOf, tupOf, dctOf, argsOf, argOf, collect, iosOf, putBack, gIx, gAdd, gSub, gMod, gInt, gGe, gGt, gLt, gLe, gOrd, gI2, evI, s1, s2, s3, s4, s5, s6, sz3, this, hrun, har, List.set_set]
theorem gIx_of {is : List D} {r : Int} {m : M} (hm : listOf m = some is ∨ (listOf m = none ∧ tupOf m = some is)) (h0 : 0 ≤ r) (h1 : r < is.length) : ∃ d, d ∈ is ∧ gIx [m, .d (.int r)] = some (.d d) := by
  obtain ⟨k, rfl⟩ := Int.eq_ofNat_of_zero_le h0
  have hk : k < is.length := by simpa using h1
  refine ⟨is[k], List.getElem_mem hk, ?_⟩
  have e := atI_nat (xs := is) (j := k) (v := is[k]) (List.getElem?_eq_getElem hk)
  rcases hm with e1 | ⟨e1, e2⟩
  · simp only [gIx, e1]
    show (atI is (k : Int)).map M.d = _
    rw [e]; rfl
  · simp only [gIx, e1, e2]
    show (atI is (k : Int)).map M.d = _
    rw [e]; rfl
/-- a list's or a tuple's items -/
def Sq (d : D) (is : List D) : Prop := d = .list is ∨ d = .tuple is
theorem op1 {gg : List M → Option M} {f : Sl → Res Rv} {env env1 : Sl} {p : Rv} {a k : M} (h1 : f env = .ok p env1) (e1 : getO env1 p = some a) (h : gg [a] = some k) : evOp gg [f] env = .ok (.inr k) env1 := by
  simp only [evOp, evs, h1, Res.bind, getOs, e1, Option.bind_some, Option.map_some, h]
theorem op2 {gg : List M → Option M} {f g : Sl → Res Rv} {env env1 env2 : Sl} {p q : Rv} {a b k : M} (h1 : f env = .ok p env1) (h2 : g env1 = .ok q env2) (e1 : getO env2 p = some a) (e2 : getO env2 q = some b) (h : gg [a, b] = some k) : evOp gg [f, g] env = .ok (.inr k) env2 := by
  simp only [evOp, evs, h1, h2, Res.bind, getOs, e1, e2, Option.bind_some, Option.map_some, h]
theorem ret_of {io : List Nat} {f : Sl → Res Rv} {env env1 : Sl} {m : M} (h : f env = .ok (.inr m) env1) : sRet io f env = .rt m env1 := by
  simp only [sRet, sBind, h, takeOf]
theorem run2 {n : Nat} {s : Sl → SRes} {m d r m' : M} {env : Sl} (h : s (bodyEnv n [m, d]) = .rt r env) (h0 : (env[0]?).join = some m') : (mkFn [0] 2 n s).run [m, d] = some (.inr r, [m']) := by
  simp only [mkFn, mkRun, h, collect, List.range, List.range.loop, iosOf]
  simp [sNil, bodyEnv, sRet, sSeq, sSet, sIf, sEx, sBind, evOp, evs, evN, evC, evV, evCall, evIf, evAnd, evOr, evNot, Res.bind, getOs, getO, valOf, evDs, sPutK, evNeK, evPopK, evAppK, lstAt, isDM, setD, setM, valM, freeze, boolOf, takeOf, gLen, listOf, tupOf, dctOf, argsOf, argOf, collect, iosOf, putBack, gIx, gAdd, gSub, gMod, gInt, gGe, gGt, gLt, gLe, gOrd, gI2, evI, s1, s2, s3, s4, s5, s6, sz3, h0]
theorem nOf {i : Nat} {env : Sl} {m : M} (h : (env[i]?).join = some m) : evN i env = .ok (.inl i) env := by
  simp only [evN, h]
theorem pick_ok {n : Nat} {m : M} {d : D} {is : List D} (h : Dk n m) (hn : n < 1000000000) (hs : Sq d is) (h0 : is ≠ []) (h1 : is.length < 1000000) : ∃ x m', fn_l_pick.run [m, .d d] = some (.inr (.d x), [m']) ∧ x ∈ is ∧ Dk (n + 1) m' := by
  have hl : 0 < is.length := List.length_pos_iff.mpr h0
  obtain ⟨r, m', e, r0, r1, h'⟩ := draw_ok (b := is.length) h hn (by omega) (by omega)
  obtain ⟨kvs, hk⟩ := h.dct
  have hsq : listOf (.d d) = some is ∨ (listOf (.d d) = none ∧ tupOf (.d d) = some is) := by
    rcases hs with rfl | rfl
    · exact .inl rfl
    · exact .inr ⟨rfl, rfl⟩
  obtain ⟨x, hx, ex⟩ := gIx_of (m := .d d) hsq r0 r1
  have el : gLen [.d d] = some (.d (.int is.length)) := by rcases hs with rfl | rfl <;> rfl
  have c := call2 (fn := fn_l_draw) rfl rfl (env := [some m, some (.d d)]) (env1 := [some m, some (.d d)]) (m := m) (m' := m') (r := .d (.int r)) (md := .d (.int is.length)) (f := evOp gLen [evN 1]) rfl rfl hk (op1 (nOf rfl) rfl el) e
  exact ⟨x, m', run2 (ret_of (op2 (nOf rfl) c rfl rfl ex)) rfl, hx, h'⟩
theorem seq_of {s u : Sl → SRes} {env env1 : Sl} {R : SRes} (h : s env = .nx env1) (k : u env1 = R) : sSeq s u env = R := by simp only [sSeq, h, k]
theorem set_of {i : Nat} {f : Sl → Res Rv} {env env1 : Sl} {m : M} (h : f env = .ok (.inr m) env1) : sSet i f env = .nx (env1.set i (some m)) := by simp only [sSet, sBind, h, valOf]
theorem if_of {f : Sl → Res Rv} {s u : Sl → SRes} {env env1 : Sl} {p : Rv} {b : Bool} {R : SRes} (h : f env = .ok p env1) (e : getO env1 p = some (.d (.bool b))) (k : (if b then s env1 else u env1) = R) : sIf f s u env = R := by
  simp only [sIf, sBind, h, boolOf, e]
  cases b <;> simpa using k
theorem ex_of {f : Sl → Res Rv} {env env1 : Sl} {p : Rv} (h : f env = .ok p env1) : sEx f env = .nx env1 := by simp only [sEx, sBind, h]
theorem ds1 {f : Sl → Res Rv} {env env1 : Sl} {m : M} (h : f env = .ok (.inr m) env1) : evDs [f] env = .ok [freeze m] env1 := by
  simp [sNil, bodyEnv, sRet, sSeq, sSet, sIf, sEx, sBind, evOp, evs, evN, evC, evV, evCall, evIf, evAnd, evOr, evNot, Res.bind, getOs, getO, valOf, evDs, sPutK, evNeK, evPopK, evAppK, lstAt, isDM, setD, setM, valM, freeze, boolOf, takeOf, gLen, listOf, tupOf, dctOf, argsOf, argOf, collect, iosOf, putBack, gIx, gAdd, gSub, gMod, gInt, gGe, gGt, gLt, gLe, gOrd, gI2, evI, s1, s2, s3, s4, s5, s6, sz3, evDs, evs, evV, h, Res.bind, valOf, getOs, getO]
theorem meth1 {i : Nat} {f : Sl → Res Rv} {g : List D → List D → Option (D × List D)} {env env1 : Sl} {m : M} {ds0 ds ds' : List D} {x : D} (h0 : (env[i]?).join = some (.lst ds0)) (hf : f env = .ok (.inr m) env1) (h1 : (env1[i]?).join = some (.lst ds)) (hg : g ds [freeze m] = some (x, ds')) :
    evMeth i [f] g env = .ok (.inr (.d x)) (env1.set i (some (.lst ds'))) := by
  simp only [evMeth, h0, ds1 hf, Res.bind, h1, hg]
theorem gNe_nil (l : List D) : gNe [.lst l, .lst []] = some (.d (.bool (!l.isEmpty))) := by
  have e : eqD (.lst l) (.lst []) = some l.isEmpty := by
    unfold eqD
    split
    · cases l <;> simp [sNil, bodyEnv, sRet, sSeq, sSet, sIf, sEx, sBind, evOp, evs, evN, evC, evV, evCall, evIf, evAnd, evOr, evNot, Res.bind, getOs, getO, valOf, evDs, sPutK, evNeK, evPopK, evAppK, lstAt, isDM, setD, setM, valM, freeze, boolOf, takeOf, gLen, listOf, tupOf, dctOf, argsOf, argOf, collect, iosOf, putBack, gIx, gAdd, gSub, gMod, gInt, gGe, gGt, gLt, gLe, gOrd, gI2, evI, s1, s2, s3, s4, s5, s6, sz3, PyData.eqv, PyData.eqvAll, freeze]
    · simp [sNil, bodyEnv, sRet, sSeq, sSet, sIf, sEx, sBind, evOp, evs, evN, evC, evV, evCall, evIf, evAnd, evOr, evNot, Res.bind, getOs, getO, valOf, evDs, sPutK, evNeK, evPopK, evAppK, lstAt, isDM, setD, setM, valM, freeze, boolOf, takeOf, gLen, listOf, tupOf, dctOf, argsOf, argOf, collect, iosOf, putBack, gIx, gAdd, gSub, gMod, gInt, gGe, gGt, gLt, gLe, gOrd, gI2, evI, s1, s2, s3, s4, s5, s6, sz3, gE0, listOf]
  simp only [gNe, e, Option.map_some]
theorem popAt_ok {l : List D} {r : Int} (h0 : 0 ≤ r) (h1 : r < l.length) (h2 : l.length < 1000000) : ∃ x k, k < l.length ∧ l[k]? = some x ∧ mPopAt l [.int r] = some (x, l.eraseIdx k) := by
  obtain ⟨k, rfl⟩ := Int.eq_ofNat_of_zero_le h0
  have hk : k < l.length := by simpa using h1
  refine ⟨l[k], k, hk, List.getElem?_eq_getElem hk, ?_⟩
  have c1 : -(2 ^ 63) ≤ (k : Int) ∧ (k : Int) < 2 ^ 63 := by omega
  have c2 : seqIndex? (k : Int) l.length = some k := by
    unfold seqIndex?
    have : ¬ ((k : Int) < 0) := by omega
    simp [sNil, bodyEnv, sRet, sSeq, sSet, sIf, sEx, sBind, evOp, evs, evN, evC, evV, evCall, evIf, evAnd, evOr, evNot, Res.bind, getOs, getO, valOf, evDs, sPutK, evNeK, evPopK, evAppK, lstAt, isDM, setD, setM, valM, freeze, boolOf, takeOf, gLen, listOf, tupOf, dctOf, argsOf, argOf, collect, iosOf, putBack, gIx, gAdd, gSub, gMod, gInt, gGe, gGt, gLt, gLe, gOrd, gI2, evI, s1, s2, s3, s4, s5, s6, sz3, this, hk]
  simp only [mPopAt]
  rw [if_pos c1, c2]
  simp only [List.getElem?_eq_getElem hk]
theorem shuffled_loop {S : D} : ∀ (fuel : Nat) (left res : List D) (n : Nat) (m : M), Dk n m → n + left.length < 1000000000 → left.length < fuel → fuel ≤ 1000 → res.length + left.length < 1000000 →
    ∃ m' res', sWhile (evOp gNe [(evN 2), (evLst [])]) (sEx (evMeth 3 [(evMeth 2 [(evCall fn_l_draw [(evN 0), (evOp gLen [(evN 2)])])] mPopAt)] mAppend)) fuel [some m, some (.d S), some (.lst left), some (.lst res)] = .nx [some m', some (.d S), some (.lst []), some (.lst res')] ∧
      Dk (n + left.length) m' ∧ res'.length = res.length + left.length ∧ ∀ x ∈ res', x ∈ res ∨ x ∈ left
  | 0, left, res, n, m, _, _, h, _, _ => by omega
  | fuel + 1, left, res, n, m, h, hn, hf, hf2, hl => by
    have tst : evOp gNe [(evN 2), (evLst [])] [some m, some (.d S), some (.lst left), some (.lst res)] = .ok (.inr (.d (.bool (!left.isEmpty)))) [some m, some (.d S), some (.lst left), some (.lst res)] :=
      op2 (nOf rfl) (q := .inr (.lst [])) (by simp [sNil, bodyEnv, sRet, sSeq, sSet, sIf, sEx, sBind, evOp, evs, evN, evC, evV, evCall, evIf, evAnd, evOr, evNot, Res.bind, getOs, getO, valOf, evDs, sPutK, evNeK, evPopK, evAppK, lstAt, isDM, setD, setM, valM, freeze, boolOf, takeOf, gLen, listOf, tupOf, dctOf, argsOf, argOf, collect, iosOf, putBack, gIx, gAdd, gSub, gMod, gInt, gGe, gGt, gLt, gLe, gOrd, gI2, evI, s1, s2, s3, s4, s5, s6, sz3, evLst, evs, Res.bind, getOs]) rfl rfl (gNe_nil left)
    cases left with
    | nil =>
      refine ⟨m, res, ?_, h, rfl, fun x hx => .inl hx⟩
      simp only [sWhile, tst, sBind, boolOf, getO]
      simp
    | cons l0 lr =>
      obtain ⟨r, m', e, r0, r1, h'⟩ := draw_ok (b := (l0 :: lr).length) h (by omega) (by simp only [List.length_cons]; omega) (by simp only [List.length_cons] at *; omega)
      obtain ⟨kvs, hk⟩ := h.dct
      obtain ⟨x, k, hk1, hk2, hp⟩ := popAt_ok (l := l0 :: lr) r0 r1 (by simp only [List.length_cons] at *; omega)
      have c := call2 (fn := fn_l_draw) rfl rfl (env := [some m, some (.d S), some (.lst (l0 :: lr)), some (.lst res)]) (env1 := [some m, some (.d S), some (.lst (l0 :: lr)), some (.lst res)]) (m := m) (m' := m') (r := .d (.int r)) (md := .d (.int (l0 :: lr).length)) (f := evOp gLen [evN 2]) rfl rfl hk (op1 (nOf rfl) rfl rfl) e
      have pp := meth1 (i := 2) (g := mPopAt) (env := [some m, some (.d S), some (.lst (l0 :: lr)), some (.lst res)]) rfl c rfl hp
      have ap := meth1 (i := 3) (g := mAppend) (x := .none) (ds' := res ++ [x]) (env := [some m, some (.d S), some (.lst (l0 :: lr)), some (.lst res)]) rfl pp rfl (by simp only [mAppend]; rw [if_pos (by rw [sizeLine_eq]; simp only [List.length_cons] at hl; omega)]; rfl)
      have le : ((l0 :: lr).eraseIdx k).length = lr.length := by rw [List.length_eraseIdx_of_lt hk1]; rfl
      obtain ⟨m2, res2, e2, h2, l2, x2⟩ := shuffled_loop fuel ((l0 :: lr).eraseIdx k) (res ++ [x]) (n + 1) m' h' (by rw [le]; simp only [List.length_cons] at hn; omega) (by rw [le]; simp only [List.length_cons] at hf; omega) (by omega) (by rw [le]; simp only [List.length_cons, List.length_append, List.length_nil] at *; omega)
      refine ⟨m2, res2, ?_, h2.mono (by rw [le]; simp only [List.length_cons]; omega), by rw [l2, le]; simp only [List.length_cons, List.length_append, List.length_nil]; omega, fun y hy => ?_⟩
      · simp only [sWhile, tst, sBind, boolOf, getO, List.isEmpty_cons, Bool.not_false]
        rw [ex_of ap]
        exact e2
      · rcases x2 y hy with z | z
        · rcases List.mem_append.mp z with z | z
          · exact .inl z
          · simp at z; subst z; exact .inr (List.mem_of_getElem? hk2)
        · exact .inr (List.mem_of_mem_eraseIdx z)
theorem shuffled_ok {n : Nat} {m : M} {is : List D} (h : Dk n m) (hn : n + is.length < 1000000000) (h1 : is.length < 100) : ∃ res m', fn_l_shuffled.run [m, .d (.list is)] = some (.inr (.lst res), [m']) ∧ res.length = is.length ∧ (∀ x ∈ res, x ∈ is) ∧ Dk (n + is.length) m' := by
  obtain ⟨m', res, e, h', l, hx⟩ := shuffled_loop (S := .list is) 100 is [] n m h hn h1 (by omega) (by simp; omega)
  refine ⟨res, m', run2 (env := [some m', some (.d (.list is)), some (.lst []), none]) ?_ rfl, by simpa using l, fun x hx' => by simpa using hx x hx', h'⟩
  refine seq_of (env1 := [some m, some (.d (.list is)), some (.lst is), some (.lst [])]) ?_ (seq_of e ?_)
  · simp [sNil, bodyEnv, sRet, sSeq, sSet, sIf, sEx, sBind, evOp, evs, evN, evC, evV, evCall, evIf, evAnd, evOr, evNot, Res.bind, getOs, getO, valOf, evDs, sPutK, evNeK, evPopK, evAppK, lstAt, isDM, setD, setM, valM, freeze, boolOf, takeOf, gLen, listOf, tupOf, dctOf, argsOf, argOf, collect, iosOf, putBack, gIx, gAdd, gSub, gMod, gInt, gGe, gGt, gLt, gLe, gOrd, gI2, evI, s1, s2, s3, s4, s5, s6, sz3, sPar, evs, evV, evOp, evLst, gList, Res.bind, getOs, getO, valOf, evN, listOf, bodyEnv]
  · rfl
end k02
end Yf
namespace Yf
namespace k02
open PySem PySem.Spec L2
theorem call2l {fn : Fn} (hio : fn.io = [0]) (har : fn.ar = 2) {env : Sl} {m m' r : M} {ds : List D} {j : Nat} {kvs : List (Key × M)} (h0 : (env[0]?).join = some m) (hm : m = .dct kvs) (hj : (env[j]?).join = some (.lst ds)) (hj0 : j ≠ 0) (hrun : fn.run [m, .d (.list ds)] = some (.inr r, [m'])) :
    evCall fn [evN 0, evN j] env = .ok (.inr r) ((env.set j (some (.d (.list ds)))).set 0 (some m')) := by
  subst hm
  simp only [evCall, evs, evN, h0, hj, Res.bind, argsOf, argOf, hio]
  have : ((env.set 0 none)[j]?).join = some (M.lst ds) := by rw [List.getElem?_set_ne (Ne.symm hj0)]; exact hj
  simp [this, hrun, har, freeze, putBack, List.set_set]
  rw [List.set_comm _ _ (Ne.symm hj0), List.set_set, List.set_comm _ _ hj0]
theorem ifE {f fa fb : Sl → Res Rv} {env env1 : Sl} {p : Rv} {b : Bool} (h : f env = .ok p env1) (e : getO env1 p = some (.d (.bool b))) : evIf f fa fb env = if b then fa env1 else fb env1 := by
  simp only [evIf, h, Res.bind, boolOf, e]
  cases b <;> rfl
theorem cut_mem {ds : List D} {lo hi : Option Int} {x : D} (h : x ∈ cutD ds lo hi) : x ∈ ds := List.mem_of_mem_drop (List.mem_of_mem_take h)
theorem cut_len {ds : List D} {lo hi : Option Int} : (cutD ds lo hi).length ≤ ds.length := by
  unfold cutD
  rw [List.length_take, List.length_drop]
  omega
def IsI (x : D) : Prop := ∃ i : Int, x = .int i
def names1 : List D := rangeD 0 30
def names2 : List D := [.int 3, .int 0, .int (10 ^ 9), .int 12, .int 7, .int (10 ^ 30), .int 25, .int 1] ++ rangeD 40 22
theorem names1_i : names1.length = 30 ∧ ∀ x ∈ names1, IsI x := by
  refine ⟨by simp [names1, rangeD], fun x hx => ?_⟩
  obtain ⟨i, _, rfl⟩ := List.mem_map.mp hx
  exact ⟨_, rfl⟩
theorem names2_i : names2.length = 30 ∧ ∀ x ∈ names2, IsI x := by
  refine ⟨by simp [names2, rangeD], fun x hx => ?_⟩
  rcases List.mem_append.mp hx with h | h
  · simp only [List.mem_cons, List.not_mem_nil, or_false] at h
    rcases h with rfl | rfl | rfl | rfl | rfl | rfl | rfl | rfl <;> exact ⟨_, rfl⟩
  · obtain ⟨i, _, rfl⟩ := List.mem_map.mp h
    exact ⟨_, rfl⟩
theorem lr1 (env : Sl) : evLR1 (evC (.int 30)) env = .ok (.inr (.lst names1)) env := rfl
theorem lr2 (env : Sl) : evOp gAdd [(evLst [(evV (evC (.int 3))), (evV (evC (.int 0))), (evV (evOp gPow [(evC (.int 10)), (evC (.int 9))])), (evV (evC (.int 12))), (evV (evC (.int 7))), (evV (evOp gPow [(evC (.int 10)), (evC (.int 30))])), (evV (evC (.int 25))), (evV (evC (.int 1)))]), (evLR2 (evC (.int 40)) (evC (.int 62)))] env = .ok (.inr (.lst names2)) env := rfl
theorem sl01 {f g : Sl → Res Rv} {env env1 env2 : Sl} {ds : List D} {k : Int} {q : Rv} (hf : f env = .ok (.inr (.lst ds)) env1) (hg : g env1 = .ok q env2) (hq : getO env2 q = some (.d (.int k))) : evOp gSl01 [f, evI g] env = .ok (.inr (.lst (cutD ds none (some k)))) env2 :=
  op2 hf (q := .inr (.d (.int k))) (by simp only [evI, hg, Res.bind, hq]) rfl rfl rfl
theorem names_ok {n : Nat} {m : M} {k : Int} (h : Dk n m) (hn : n + 100 < 1000000000) : ∃ res m', fn_l_names.run [m, .d (.int k)] = some (.inr (.lst res), [m']) ∧ res.length ≤ 30 ∧ (∀ x ∈ res, IsI x) ∧ Dk (n + 31) m' := by
  obtain ⟨r, m1, e, r0, r1, h1⟩ := draw_ok (b := 3) h (by omega) (by omega) (by omega)
  obtain ⟨kvs, hk⟩ := h.dct
  have c := call2 (fn := fn_l_draw) rfl rfl (env := [some m, some (.d (.int k)), none]) (env1 := [some m, some (.d (.int k)), none]) (m := m) (m' := m1) (r := .d (.int r)) (md := .d (.int 3)) (f := evC (.int 3)) rfl rfl hk rfl e
  have go : ∀ L : List D, L.length = 30 → (∀ x ∈ L, IsI x) → ∃ res m', sSeq (fun _ => .nx [some m1, some (.d (.int k)), some (.lst L)]) (sRet [0] (evOp gSl01 [(evCall fn_l_shuffled [(evN 0), (evN 2)]), evI (evN 1)])) (bodyEnv 3 [m, .d (.int k)]) = .rt (.lst res) [some m', some (.d (.int k)), some (.d (.list L))] ∧ res.length ≤ 30 ∧ (∀ x ∈ res, IsI x) ∧ Dk (n + 31) m' := fun L hL hI => by
    obtain ⟨res, m2, e2, l2, x2, h2⟩ := shuffled_ok (is := L) h1 (by omega) (by omega)
    obtain ⟨kvs1, hk1⟩ := h1.dct
    have c2 := call2l (fn := fn_l_shuffled) rfl rfl (env := [some m1, some (.d (.int k)), some (.lst L)]) (m := m1) (m' := m2) (r := .lst res) (j := 2) rfl hk1 rfl (by decide) e2
    refine ⟨cutD res none (some k), m2, seq_of rfl (ret_of (sl01 c2 (nOf rfl) rfl)), Nat.le_trans cut_len (by omega), fun x hx => hI x (x2 x (cut_mem hx)), h2.mono (by omega)⟩
  have tst : evOp gGt [(evCall fn_l_draw [(evN 0), (evC (.int 3))]), (evC (.int 0))] [some m, some (.d (.int k)), none] = .ok (.inr (.d (.bool (decide (0 < r))))) [some m1, some (.d (.int k)), none] := op2 c rfl rfl rfl rfl
  by_cases z : 0 < r
  · obtain ⟨res, m', e2, l, hi, h'⟩ := go names1 names1_i.1 names1_i.2
    refine ⟨res, m', run2 (env := [some m', some (.d (.int k)), some (.d (.list names1))]) ?_ rfl, l, hi, h'⟩
    refine seq_of (set_of (env1 := [some m1, some (.d (.int k)), none]) (m := .lst names1) ?_) (by simpa [sSeq] using e2)
    show evIf _ _ _ [some m, some (.d (.int k)), none] = _
    rw [ifE tst rfl, decide_eq_true z, if_pos rfl, lr1]
  · obtain ⟨res, m', e2, l, hi, h'⟩ := go names2 names2_i.1 names2_i.2
    refine ⟨res, m', run2 (env := [some m', some (.d (.int k)), some (.d (.list names2))]) ?_ rfl, l, hi, h'⟩
    refine seq_of (set_of (env1 := [some m1, some (.d (.int k)), none]) (m := .lst names2) ?_) (by simpa [sSeq] using e2)
    show evIf _ _ _ [some m, some (.d (.int k)), none] = _
    rw [ifE tst rfl, decide_eq_false z, if_neg (by decide), lr2]
end k02
end Yf
namespace Yf
namespace k02
open PySem PySem.Spec L2
/-- trees of ints and short texts -/
inductive Tr (B : Nat) : D → Prop
  | int (i : Int) : Tr B (.int i)
  | str (s : Str) (h : s.length ≤ 100) (o : PyData.strOk s = true) : Tr B (.str s)
  | tup (ds : List D) (h : ds.length ≤ B) (t : ∀ d ∈ ds, Tr B d) : Tr B (.tuple ds)
/-- data whose tuples are short -/
inductive Sh (B : Nat) : D → Prop
  | tup (ds : List D) (h : ds.length ≤ B) (t : ∀ d ∈ ds, Sh B d) : Sh B (.tuple ds)
  | oth (d : D) (h : ∀ ds, d ≠ .tuple ds) (o : ∀ s, d = .str s → PyData.strOk s = true) : Sh B d
theorem Sh.mono {B C : Nat} (l : B ≤ C) {d : D} (h : Sh B d) : Sh C d := by
  induction h with
  | tup ds h t ih => exact .tup ds (by omega) ih
  | oth d h o => exact .oth d h o
theorem Tr.sh {B : Nat} {d : D} (h : Tr B d) : Sh B d := by
  induction h with
  | int i => exact .oth _ (fun _ z => by cases z) (fun _ z => by cases z)
  | str s _ o => exact .oth _ (fun _ z => by cases z) fun _ z => by cases z; exact o
  | tup ds h t ih => exact .tup ds h ih
theorem evs_c {f : Sl → Res Rv} {fs : List (Sl → Res Rv)} {m : M} {ms : List M} {env : Sl} (h : f env = .ok (.inr m) env) (t : evs fs env = .ok (ms.map .inr) env) : evs (f :: fs) env = .ok ((m :: ms).map .inr) env := by
  simp only [evs, h, Res.bind, t, List.map_cons]
theorem getOs_inr {env : Sl} : ∀ ms : List M, getOs env (ms.map .inr) = some ms
  | [] => rfl
  | m :: ms => by simp only [List.map_cons, getOs, getO, Option.bind_some, getOs_inr ms, Option.map_some]
theorem all_inr : ∀ ms : List M, ((ms.map (Sum.inr : M → Rv)).all fun p => p.isRight) = true
  | [] => rfl
  | m :: ms => by simp only [List.map_cons, List.all_cons, all_inr ms]; rfl
theorem lst_of {fs : List (Sl → Res Rv)} {ms : List M} {env : Sl} (h : evs fs env = .ok (ms.map .inr) env) (l : ms.length ≤ 1000) : evLst fs env = .ok (.inr (.lst (ms.map freeze))) env := by
  have : ms.length ≤ sizeLine := by rw [sizeLine_eq]; omega
  simp only [evLst, h, Res.bind, getOs_inr, all_inr, Bool.true_and]
  rw [if_pos (by simpa using this)]
theorem tup_of {fs : List (Sl → Res Rv)} {ms : List M} {env : Sl} (h : evs fs env = .ok (ms.map .inr) env) (l : ms.length ≤ 1000) : evTup fs env = .ok (.inr (.d (.tuple (ms.map freeze)))) env := by
  have : ms.length ≤ sizeLine := by rw [sizeLine_eq]; omega
  simp only [evTup, h, Res.bind, getOs_inr, all_inr, Bool.true_and]
  rw [if_pos (by simpa using this)]
theorem vOf {f : Sl → Res Rv} {m : M} {env env1 : Sl} (h : f env = .ok (.inr m) env1) : evV f env = .ok (.inr m) env1 := by simp only [evV, h, Res.bind, valOf]
theorem vN {i : Nat} {d : D} {env : Sl} (h : (env[i]?).join = some (.d d)) (he : env.set i (some (.d d)) = env) : evV (evN i) env = .ok (.inr (.d d)) env := by
  simp only [evV, evN, h, Res.bind, valOf, freeze, he]
theorem addT {a b : List D} (h : a.length + b.length ≤ 1000) : gAdd [.d (.tuple a), .d (.tuple b)] = some (.d (.tuple (a ++ b))) := by
  simp only [gAdd, tupOf]
  rw [if_pos (by rw [sizeLine_eq]; omega)]
theorem addL {a b : List D} (h : a.length + b.length ≤ 1000) : gAdd [.lst a, .lst b] = some (.lst (a ++ b)) := by
  simp only [gAdd, tupOf, listOf]
  rw [if_pos (by rw [sizeLine_eq]; omega)]
theorem mul3 {a : List D} (h : a.length ≤ 1000) : gMul [.lst a, .d (.int 3)] = some (.lst (a ++ (a ++ (a ++ [])))) := by
  simp only [gMul]
  rw [if_pos ⟨by decide, by decide, by rw [sizeLine_eq]; show a.length * 3 ≤ _; omega⟩]
  rfl
theorem kTT : kitB "tuple" "tuple" = some true := by decide +kernel
theorem kIT : kitB "int" "tuple" = some false := by decide +kernel
theorem kST : kitB "str" "tuple" = some false := by decide +kernel
theorem kII : kitB "int" "int" = some true := by decide +kernel
theorem kSI : kitB "str" "int" = some false := by decide +kernel
theorem kSS : kitB "str" "str" = some true := by decide +kernel
theorem isiE {n : String} {f : Sl → Res Rv} {env env1 : Sl} {p : Rv} {m : M} {b : Bool} (h : f env = .ok p env1) (e : getO env1 p = some m) (k : kitB (tyName m) n = some b) : evIsi n f env = .ok (.inr (.d (.bool b))) env1 := by
  simp only [evIsi, h, Res.bind, e, k]
def base0 : List D := [.none, .bool true, .bool false, .int 0, .int 1, .int (-1), .int 2, .int 7, .str "", .str "firm", .str "dropped", .str "kept", .str "open", .tuple [], .tuple [.tuple []], .list [], .dict [], .tuple [.int 0], .tuple [.str "dropped", .int 0], .tuple [.str "firm", .int 1, .tuple [.int 0]], .int (10 ^ 30)]
mutual
def shC (B : Nat) : D → Bool
  | .tuple ds => decide (ds.length ≤ B) && shCs B ds
  | .str s => PyData.strOk s
  | _ => true
def shCs (B : Nat) : List D → Bool
  | [] => true
  | d :: ds => shC B d && shCs B ds
end
mutual
theorem shC_of {B : Nat} : ∀ {d : D}, shC B d = true → Sh B d
  | .tuple ds, h => by
    simp only [shC, Bool.and_eq_true, decide_eq_true_eq] at h
    exact .tup ds h.1 (shCs_of h.2)
  | .none, _ => .oth _ (fun _ z => by cases z) (fun _ z => by cases z)
  | .bool _, _ => .oth _ (fun _ z => by cases z) (fun _ z => by cases z)
  | .int _, _ => .oth _ (fun _ z => by cases z) (fun _ z => by cases z)
  | .str s, h => .oth _ (fun _ z => by cases z) fun _ z => by cases z; simpa [shC] using h
  | .list _, _ => .oth _ (fun _ z => by cases z) (fun _ z => by cases z)
  | .dict _, _ => .oth _ (fun _ z => by cases z) (fun _ z => by cases z)
theorem shCs_of {B : Nat} : ∀ {ds : List D}, shCs B ds = true → ∀ d ∈ ds, Sh B d
  | [], _ => fun d hd => by simp at hd
  | d0 :: ds, h => by
    simp only [shCs, Bool.and_eq_true] at h
    intro d hd
    rcases List.mem_cons.mp hd with e | e
    · rw [e]; exact shC_of h.1
    · exact shCs_of h.2 d e
end
theorem base0_sh {B : Nat} (hB : 3 ≤ B) : ∀ d ∈ base0, Sh B d := fun d hd => (shCs_of (B := 3) (ds := base0) (by decide +kernel) d hd).mono hB
theorem sh_tup {B : Nat} {ds : List D} (l : ds.length ≤ B) (h : ∀ d ∈ ds, Sh B d) : Sh B (.tuple ds) := .tup ds l h
/-! ### the odd values for a tuple, an int, a text -/
def oddT (ds : List D) : List D := [.list ds, .tuple (ds ++ [.int 0]), .tuple (cutD ds (some 1) none), .tuple (cutD ds none (some (-1))), .tuple ds.reverse, .tuple (ds ++ cutD ds none (some 1)), .tuple [.tuple ds], .tuple (cutD ds none (some 1) ++ ds), .tuple (cutD ds none (some 1) ++ cutD ds (some 2) none)]
theorem cut1_len {ds : List D} : (cutD ds none (some 1)).length ≤ 1 := by
  unfold cutD
  rw [List.length_take, List.length_drop]
  have e : HT.sIx ds.length ds.length (some 1) = min 1 ds.length := HT.sIx_nat ds.length ds.length 1
  rw [e]
  omega
theorem oddT_sh {B : Nat} {ds : List D} (hB : 3 ≤ B) (l : ds.length ≤ B) (h : ∀ d ∈ ds, Sh B d) : ∀ d ∈ oddT ds, Sh (B + 1) d := by
  have h' : ∀ d ∈ ds, Sh (B + 1) d := fun d hd => (h d hd).mono (by omega)
  have c1 := cut1_len (ds := ds)
  have c2 : ∀ lo hi, (cutD ds lo hi).length ≤ ds.length := fun lo hi => cut_len
  have c2' := c2 (some 2) none
  have cm : ∀ lo hi, ∀ d ∈ cutD ds lo hi, Sh (B + 1) d := fun lo hi d hd => h' d (cut_mem hd)
  intro d hd
  simp only [oddT, List.mem_cons, List.not_mem_nil, or_false] at hd
  rcases hd with rfl | rfl | rfl | rfl | rfl | rfl | rfl | rfl | rfl
  · exact .oth _ (fun _ z => by cases z) (fun _ z => by cases z)
  · refine .tup _ (by simp; omega) fun d hd => ?_
    rcases List.mem_append.mp hd with z | z
    · exact h' d z
    · simp at z; subst z; exact .oth _ (fun _ z => by cases z) (fun _ z => by cases z)
  · exact .tup _ (Nat.le_trans (c2 _ _) (by omega)) (cm _ _)
  · exact .tup _ (Nat.le_trans (c2 _ _) (by omega)) (cm _ _)
  · exact .tup _ (by simp; omega) fun d hd => h' d (by simpa using hd)
  · refine .tup _ (by simp; omega) fun d hd => ?_
    rcases List.mem_append.mp hd with z | z
    · exact h' d z
    · exact cm _ _ d z
  · refine .tup _ (by simp) fun d hd => ?_
    simp at hd
    subst hd
    exact .tup _ (by omega) h'
  · refine .tup _ (by simp; omega) fun d hd => ?_
    rcases List.mem_append.mp hd with z | z
    · exact cm _ _ d z
    · exact h' d z
  · refine .tup _ (by simp; omega) fun d hd => ?_
    rcases List.mem_append.mp hd with z | z
    · exact cm _ _ d z
    · exact cm _ _ d z
def oddI (i : Int) : List D := [.int (i + 1), .int (i - 1), .int (-i), .bool (PyData.eqv (.int i) (.int 1)), .list [.int i], .tuple [.int i], .str (toString (i % 1000))]
def oddS (s : Str) : List D := [.str (s ++ "s"), .str (s ++ " "), .str (s ++ "\n"), .str (cutS s (some 1) none), .list [.str s], .tuple [.str s], .str (s ++ s)]
theorem ok_app {a b : Str} (h1 : PyData.strOk a = true) (h2 : PyData.strOk b = true) : PyData.strOk (a ++ b) = true := by
  have e : (a ++ b).cps = a.cps ++ b.cps := rfl
  unfold PyData.strOk at *
  rw [e, Array.all_append, h1, h2]
  rfl
theorem ok_cut {a : Str} {lo hi : Option Int} (h : PyData.strOk a = true) : PyData.strOk (cutS a lo hi) = true := by
  unfold PyData.strOk at *
  simp only [cutS, List.all_toArray', ← Array.all_toList] at *
  rw [List.all_eq_true] at *
  exact fun x hx => h x (List.mem_of_mem_drop (List.mem_of_mem_take hx))
theorem ok_num : ((List.range 1000).all fun n => PyData.strOk (Str.ofString (toString (n : Int)))) = true := by decide +kernel
theorem ok_int (i : Int) : PyData.strOk (Str.ofString (toString (i % 1000))) = true := by
  obtain ⟨k, hk⟩ := Int.eq_ofNat_of_zero_le (Int.emod_nonneg i (by decide : (1000 : Int) ≠ 0))
  have lt := Int.emod_lt_of_pos i (by decide : (0 : Int) < 1000)
  rw [hk] at lt ⊢
  exact List.all_eq_true.mp ok_num k (by simp; omega)
theorem oddI_sh {B : Nat} {i : Int} (hB : 3 ≤ B) : ∀ d ∈ oddI i, Sh B d := fun d hd => (shCs_of (B := 3) (ds := oddI i) (by simp [oddI, shC, shCs]; exact ok_int i) d hd).mono hB
theorem oddS_sh {B : Nat} {s : Str} (hB : 3 ≤ B) (o : PyData.strOk s = true) : ∀ d ∈ oddS s, Sh B d := fun d hd => (shCs_of (B := 3) (ds := oddS s) (by simp only [oddS, shC, shCs, ok_app o (show PyData.strOk "s" = true by decide +kernel), ok_app o (show PyData.strOk " " = true by decide +kernel), ok_app o (show PyData.strOk "\n" = true by decide +kernel), ok_cut o, ok_app o o, o]; simp) d hd).mono hB
theorem rep3 {l : List D} {d : D} (h : d ∈ l ++ (l ++ (l ++ []))) : d ∈ l := by
  simp only [List.append_nil, List.mem_append] at h
  rcases h with h | h | h <;> exact h
/-- how the menu's second part is laid -/
theorem more_of {env : Sl} {fs : List (Sl → Res Rv)} {ms : List M} (h2 : (env[2]?).join = some (.lst base0)) (h : evs fs env = .ok (ms.map .inr) env) (l : ms.length ≤ 100) :
    sSet 2 (evOp gAdd [(evN 2), (evOp gMul [(evLst fs), (evC (.int 3))])]) env = .nx (env.set 2 (some (.lst (base0 ++ (ms.map freeze ++ (ms.map freeze ++ (ms.map freeze ++ []))))))) := by
  refine set_of (op2 (nOf h2) (q := .inr (.lst (ms.map freeze ++ (ms.map freeze ++ (ms.map freeze ++ []))))) ?_ h2 rfl (addL ?_))
  · exact op2 (lst_of h (by omega)) (q := .inr (.d (.int 3))) rfl rfl rfl (mul3 (by simp; omega))
  · simp [base0]
    omega
end k02
end Yf
namespace Yf
namespace k02
open PySem PySem.Spec L2
theorem strAdd {a b : Str} (h : a.length + b.length ≤ 1000) : gAdd [.d (.str a), .d (.str b)] = some (.d (.str (a ++ b))) := by
  simp only [gAdd]
  rw [if_pos (by rw [sizeLine_eq]; omega)]
theorem strCut {a : Str} (h : a.length ≤ 1000) : gSl10 [.d (.str a), .d (.int 1)] = some (.d (.str (cutS a (some 1) none))) := by
  simp only [gSl10, slM, listOf, tupOf]
  rw [if_pos (by rw [sizeLine_eq]; omega)]
theorem strI (i : Int) : gStr [.d (.int (i % 1000))] = some (.d (.str (toString (i % 1000)))) := by
  simp only [gStr]
  rw [if_pos]
  exact Nat.lt_trans (log_le (i := i % 1000) (by omega)) (by decide)
/-- the end: a pick among the menu -/
theorem odd_end {n B : Nat} {m : M} {it : D} {more : List D} (h : Dk n m) (hn : n < 1000000) (hB : 3 ≤ B) (hm : ∀ d ∈ more, Sh (B + 1) d) (l : more.length ≤ 100) (env : Sl) (he : env = [some m, some (.d it), some (.lst (base0 ++ more))]) :
    ∃ x m' env', sRet [0] (evCall fn_l_pick [(evN 0), (evN 2)]) env = .rt (.d x) env' ∧ (env'[0]?).join = some m' ∧ Sh (B + 1) x ∧ Dk (n + 1) m' := by
  subst he
  obtain ⟨kvs, hk⟩ := h.dct
  obtain ⟨x, m', e, hx, h'⟩ := pick_ok (d := .list (base0 ++ more)) h (by omega) (.inl rfl) (by simp [base0]) (by simp [base0]; omega)
  have c := call2l (fn := fn_l_pick) rfl rfl (env := [some m, some (.d it), some (.lst (base0 ++ more))]) (m := m) (m' := m') (r := .d x) (j := 2) rfl hk rfl (by decide) e
  refine ⟨x, m', _, ret_of c, rfl, ?_, h'⟩
  rcases List.mem_append.mp hx with z | z
  · exact base0_sh (by omega) x z
  · exact hm x z
theorem odd_ok {n B : Nat} {m : M} {it : D} (h : Dk n m) (hn : n < 1000000) (hB : 3 ≤ B) (hB2 : B ≤ 50) (ht : Tr B it) : ∃ x m', fn_l_odd.run [m, .d it] = some (.inr (.d x), [m']) ∧ Sh (B + 1) x ∧ Dk (n + 1) m' := by
  have s1 : ∀ it : D, sSet 2 (evLst [(evV (evC .none)), (evV (evC (.bool true))), (evV (evC (.bool false))), (evV (evC (.int 0))), (evV (evC (.int 1))), (evV (evOp gNeg [(evC (.int 1))])), (evV (evC (.int 2))), (evV (evC (.int 7))), (evV (evC (.str ""))), (evV (evC (.str "firm"))), (evV (evC (.str "dropped"))), (evV (evC (.str "kept"))), (evV (evC (.str "open"))), (evV (evTup [])), (evV (evTup [(evV (evTup []))])), (evV (evLst [])), (evV evD0), (evV (evTup [(evV (evC (.int 0)))])), (evV (evTup [(evV (evC (.str "dropped"))), (evV (evC (.int 0)))])), (evV (evTup [(evV (evC (.str "firm"))), (evV (evC (.int 1))), (evV (evTup [(evV (evC (.int 0)))]))])), (evV (evOp gPow [(evC (.int 10)), (evC (.int 30))]))]) (bodyEnv 3 [m, .d it]) = .nx [some m, some (.d it), some (.lst base0)] := fun it => set_of (env1 := [some m, some (.d it), none]) (m := .lst base0) rfl
  cases ht with
  | tup ds l t =>
    have c1 := cut1_len (ds := ds)
    have c2 : (cutD ds (some 2) none).length ≤ ds.length := cut_len
    have mo : evs [(evV (evOp gList [(evN 1)])), (evV (evOp gAdd [(evN 1), (evTup [(evV (evC (.int 0)))])])), (evV (evOp gSl10 [(evN 1), evI (evC (.int 1))])), (evV (evOp gSl01 [(evN 1), evI (evOp gNeg [(evC (.int 1))])])), (evV (evOp gRev [(evN 1)])), (evV (evOp gAdd [(evN 1), (evOp gSl01 [(evN 1), evI (evC (.int 1))])])), (evV (evTup [(evV (evN 1))])), (evV (evOp gAdd [(evOp gSl01 [(evN 1), evI (evC (.int 1))]), (evN 1)])), (evV (evOp gAdd [(evOp gSl01 [(evN 1), evI (evC (.int 1))]), (evOp gSl10 [(evN 1), evI (evC (.int 2))])]))]
        [some m, some (.d (.tuple ds)), some (.lst base0)] = .ok ([.lst ds, .d (.tuple (ds ++ [.int 0])), .d (.tuple (cutD ds (some 1) none)), .d (.tuple (cutD ds none (some (-1)))), .d (.tuple ds.reverse), .d (.tuple (ds ++ cutD ds none (some 1))), .d (.tuple [.tuple ds]), .d (.tuple (cutD ds none (some 1) ++ ds)), .d (.tuple (cutD ds none (some 1) ++ cutD ds (some 2) none))].map .inr) [some m, some (.d (.tuple ds)), some (.lst base0)] :=
      evs_c (vOf (op1 (nOf rfl) rfl rfl)) <| evs_c (vOf (op2 (nOf rfl) (q := .inr (.d (.tuple [.int 0]))) rfl rfl rfl (addT (by simp; omega)))) <| evs_c (vOf (op2 (nOf rfl) (q := .inr (.d (.int 1))) rfl rfl rfl rfl)) <| evs_c (vOf (op2 (nOf rfl) (q := .inr (.d (.int (-1)))) rfl rfl rfl rfl)) <| evs_c (vOf (op1 (nOf rfl) rfl rfl)) <|
      evs_c (vOf (op2 (nOf rfl) (op2 (nOf rfl) (q := .inr (.d (.int 1))) rfl rfl rfl rfl) rfl rfl (addT (by omega)))) <| evs_c (vOf (tup_of (ms := [.d (.tuple ds)]) (evs_c (vN rfl rfl) rfl) (by simp))) <| evs_c (vOf (op2 (op2 (nOf rfl) (q := .inr (.d (.int 1))) rfl rfl rfl rfl) (nOf rfl) rfl rfl (addT (by omega)))) <|
      evs_c (vOf (op2 (op2 (nOf rfl) (q := .inr (.d (.int 1))) rfl rfl rfl rfl) (op2 (nOf rfl) (q := .inr (.d (.int 2))) rfl rfl rfl rfl) rfl rfl (addT (by omega)))) rfl
    obtain ⟨x, m', env', e, e0, hx, h'⟩ := odd_end (it := .tuple ds) (more := oddT ds ++ (oddT ds ++ (oddT ds ++ []))) h hn hB (fun d hd => oddT_sh hB l (fun d hd => (t d hd).sh) d (rep3 hd)) (by simp [oddT]) _ rfl
    exact ⟨x, m', run2 (seq_of (s1 _) (seq_of (if_of (isiE (nOf rfl) rfl kTT) rfl (more_of rfl mo (by simp))) e)) e0, hx, h'⟩
  | int i =>
    have mo : evs [(evV (evOp gAdd [(evN 1), (evC (.int 1))])), (evV (evOp gSub [(evN 1), (evC (.int 1))])), (evV (evOp gNeg [(evN 1)])), (evV (evOp gEq [(evN 1), (evC (.int 1))])), (evV (evLst [(evV (evN 1))])), (evV (evTup [(evV (evN 1))])), (evV (evOp gStr [(evOp gMod [(evOp gInt [(evN 1)]), (evC (.int 1000))])]))]
        [some m, some (.d (.int i)), some (.lst base0)] = .ok ([.d (.int (i + 1)), .d (.int (i - 1)), .d (.int (-i)), .d (.bool (PyData.eqv (.int i) (.int 1))), .lst [.int i], .d (.tuple [.int i]), .d (.str (toString (i % 1000)))].map .inr) [some m, some (.d (.int i)), some (.lst base0)] :=
      evs_c (vOf (op2 (nOf rfl) rfl rfl rfl rfl)) <| evs_c (vOf (op2 (nOf rfl) rfl rfl rfl rfl)) <| evs_c (vOf (op1 (nOf rfl) rfl rfl)) <| evs_c (vOf (op2 (nOf rfl) rfl rfl rfl rfl)) <| evs_c (vOf (lst_of (ms := [.d (.int i)]) (evs_c (vN rfl rfl) rfl) (by simp))) <| evs_c (vOf (tup_of (ms := [.d (.int i)]) (evs_c (vN rfl rfl) rfl) (by simp))) <|
      evs_c (vOf (op1 (op2 (op1 (nOf rfl) rfl rfl) rfl rfl rfl rfl) rfl (strI i))) rfl
    obtain ⟨x, m', env', e, e0, hx, h'⟩ := odd_end (it := .int i) (more := oddI i ++ (oddI i ++ (oddI i ++ []))) h hn hB (fun d hd => (oddI_sh hB d (rep3 hd)).mono (by omega)) (by simp [oddI]) _ rfl
    exact ⟨x, m', run2 (seq_of (s1 _) (seq_of (if_of (isiE (nOf rfl) rfl kIT) rfl (if_of (isiE (nOf rfl) rfl kII) rfl (more_of rfl mo (by simp)))) e)) e0, hx, h'⟩
  | str s hs o =>
    have mo : evs [(evV (evOp gAdd [(evN 1), (evC (.str "s"))])), (evV (evOp gAdd [(evN 1), (evC (.str " "))])), (evV (evOp gAdd [(evN 1), (evC (.str "\n"))])), (evV (evOp gSl10 [(evN 1), evI (evC (.int 1))])), (evV (evLst [(evV (evN 1))])), (evV (evTup [(evV (evN 1))])), (evV (evOp gAdd [(evN 1), (evN 1)]))]
        [some m, some (.d (.str s)), some (.lst base0)] = .ok ([.d (.str (s ++ "s")), .d (.str (s ++ " ")), .d (.str (s ++ "\n")), .d (.str (cutS s (some 1) none)), .lst [.str s], .d (.tuple [.str s]), .d (.str (s ++ s))].map .inr) [some m, some (.d (.str s)), some (.lst base0)] :=
      evs_c (vOf (op2 (nOf rfl) (q := .inr (.d (.str "s"))) rfl rfl rfl (strAdd (by show s.length + 1 ≤ _; omega)))) <| evs_c (vOf (op2 (nOf rfl) (q := .inr (.d (.str " "))) rfl rfl rfl (strAdd (by show s.length + 1 ≤ _; omega)))) <| evs_c (vOf (op2 (nOf rfl) (q := .inr (.d (.str "\n"))) rfl rfl rfl (strAdd (by show s.length + 1 ≤ _; omega)))) <|
      evs_c (vOf (op2 (nOf rfl) (q := .inr (.d (.int 1))) rfl rfl rfl (strCut (by omega)))) <| evs_c (vOf (lst_of (ms := [.d (.str s)]) (evs_c (vN rfl rfl) rfl) (by simp))) <| evs_c (vOf (tup_of (ms := [.d (.str s)]) (evs_c (vN rfl rfl) rfl) (by simp))) <| evs_c (vOf (op2 (nOf rfl) (nOf rfl) rfl rfl (strAdd (by omega)))) rfl
    obtain ⟨x, m', env', e, e0, hx, h'⟩ := odd_end (it := .str s) (more := oddS s ++ (oddS s ++ (oddS s ++ []))) h hn hB (fun d hd => (oddS_sh hB o d (rep3 hd)).mono (by omega)) (by simp [oddS]) _ rfl
    exact ⟨x, m', run2 (seq_of (s1 _) (seq_of (if_of (isiE (nOf rfl) rfl kST) rfl (if_of (isiE (nOf rfl) rfl kSI) rfl (if_of (isiE (nOf rfl) rfl kSS) rfl (more_of rfl mo (by simp))))) e)) e0, hx, h'⟩
end k02
end Yf
namespace Yf
namespace k02
open PySem PySem.Spec L2
theorem gEq_nil (l : List D) : gEq [.d (.tuple l), .d (.tuple [])] = some (.d (.bool l.isEmpty)) := by
  have e : eqD (.d (.tuple l)) (.d (.tuple [])) = some l.isEmpty := by
    unfold eqD
    split
    · cases l <;> simp [PyData.eqv, PyData.eqvAll, freeze]
    · simp [gE0, listOf, tupOf]
  simp only [gEq, e, Option.map_some]
theorem notE {f : Sl → Res Rv} {env env1 : Sl} {p : Rv} {b : Bool} (h : f env = .ok p env1) (e : getO env1 p = some (.d (.bool b))) : evNot f env = .ok (.inr (.d (.bool (!b)))) env1 := by
  simp only [evNot, h, Res.bind, boolOf, e]
def PathOk (B : Nat) (p : D) : Prop := ∃ (ds : List D) (k : Nat), p = .tuple [.tuple ds, .int k] ∧ Tr B (.tuple ds) ∧ k < ds.length
abbrev tst : Sl → Res Rv := evOr (evNot (evIsi "tuple" (evN 3))) (evOr (evOp gEq [(evN 3), (evTup [])]) (evOp gEq [(evCall fn_l_draw [(evN 0), (evC (.int 6))]), (evC (.int 0))]))
abbrev bentBody : Sl → SRes := (sSeq (sIf tst (fun env => .bk env) sNil)
   (sSeq (sSet 5 (evCall fn_l_draw [(evN 0), (evOp gLen [(evN 3)])]))
   (sSeq (sEx (evMeth 2 [(evTup [(evV (evN 3)), (evV (evN 5))])] mAppend))
   (sSet 3 (evOp gIx [(evN 3), (evN 5)])))))
theorem Tr.kids {B : Nat} {ds : List D} (h : Tr B (.tuple ds)) : ds.length ≤ B ∧ ∀ d ∈ ds, Tr B d := by
  cases h with
  | tup _ l t => exact ⟨l, t⟩
/-- what a turn does -/
theorem bent_turn {n B : Nat} {m : M} {it here : D} {path : List D} {x4 x5 : Option M} (h : Dk n m) (hn : n < 1000000) (hB2 : B ≤ 50) (ht : Tr B here) (hp : ∀ p ∈ path, PathOk B p) (hl : path.length ≤ 100) :
    (∃ m', bentBody [some m, some (.d it), some (.lst path), some (.d here), x4, x5, none] = .bk [some m', some (.d it), some (.lst path), some (.d here), x4, x5, none] ∧ Dk (n + 2) m') ∨
    ∃ m' p here' x5', bentBody [some m, some (.d it), some (.lst path), some (.d here), x4, x5, none] = .nx [some m', some (.d it), some (.lst (path ++ [p])), some (.d here'), x4, x5', none] ∧ Dk (n + 2) m' ∧ PathOk B p ∧ Tr B here' := by
  have leave : ∀ m' : M, tst [some m, some (.d it), some (.lst path), some (.d here), x4, x5, none] = .ok (.inr (.d (.bool true))) [some m', some (.d it), some (.lst path), some (.d here), x4, x5, none] →
      bentBody [some m, some (.d it), some (.lst path), some (.d here), x4, x5, none] = .bk [some m', some (.d it), some (.lst path), some (.d here), x4, x5, none] := fun m' e => by
    have : sIf tst (fun env => .bk env) sNil [some m, some (.d it), some (.lst path), some (.d here), x4, x5, none] = .bk [some m', some (.d it), some (.lst path), some (.d here), x4, x5, none] := if_of e rfl rfl
    simp only [bentBody, sSeq, this]
  have nt : ∀ b, evIsi "tuple" (evN 3) [some m, some (.d it), some (.lst path), some (.d here), x4, x5, none] = .ok (.inr (.d (.bool b))) [some m, some (.d it), some (.lst path), some (.d here), x4, x5, none] →
      tst [some m, some (.d it), some (.lst path), some (.d here), x4, x5, none] = if b then evOr (evOp gEq [(evN 3), (evTup [])]) (evOp gEq [(evCall fn_l_draw [(evN 0), (evC (.int 6))]), (evC (.int 0))]) [some m, some (.d it), some (.lst path), some (.d here), x4, x5, none] else .ok (.inr (.d (.bool true))) [some m, some (.d it), some (.lst path), some (.d here), x4, x5, none] := fun b e => by
    show evIf _ _ _ _ = _
    rw [ifE (notE e rfl) rfl]
    cases b <;> rfl
  cases ht with
  | int i => exact .inl ⟨m, leave m (by rw [nt false (isiE (nOf rfl) rfl kIT)]; rfl), h.mono (by omega)⟩
  | str s hs _ => exact .inl ⟨m, leave m (by rw [nt false (isiE (nOf rfl) rfl kST)]; rfl), h.mono (by omega)⟩
  | tup ds l t =>
    have e1 := nt true (isiE (nOf rfl) rfl kTT)
    rw [if_pos rfl] at e1
    have e2 : evOp gEq [(evN 3), (evTup [])] [some m, some (.d it), some (.lst path), some (.d (.tuple ds)), x4, x5, none] = .ok (.inr (.d (.bool ds.isEmpty))) [some m, some (.d it), some (.lst path), some (.d (.tuple ds)), x4, x5, none] := op2 (nOf rfl) (q := .inr (.d (.tuple []))) rfl rfl rfl (gEq_nil ds)
    have e3 : evOr (evOp gEq [(evN 3), (evTup [])]) (evOp gEq [(evCall fn_l_draw [(evN 0), (evC (.int 6))]), (evC (.int 0))]) [some m, some (.d it), some (.lst path), some (.d (.tuple ds)), x4, x5, none] = if ds.isEmpty then .ok (.inr (.d (.bool true))) [some m, some (.d it), some (.lst path), some (.d (.tuple ds)), x4, x5, none] else (evOp gEq [(evCall fn_l_draw [(evN 0), (evC (.int 6))]), (evC (.int 0))]) [some m, some (.d it), some (.lst path), some (.d (.tuple ds)), x4, x5, none] := by
      show evIf _ _ _ _ = _
      rw [ifE e2 rfl]
      rfl
    cases ds with
    | nil => exact .inl ⟨m, leave m (by rw [e1, e3]; rfl), h.mono (by omega)⟩
    | cons d0 dr =>
      obtain ⟨r, m1, e, r0, r1, h1⟩ := draw_ok (b := 6) h (by omega) (by omega) (by omega)
      obtain ⟨kvs, hk⟩ := h.dct
      have c := call2 (fn := fn_l_draw) rfl rfl (env := [some m, some (.d it), some (.lst path), some (.d (.tuple (d0 :: dr))), x4, x5, none]) (env1 := [some m, some (.d it), some (.lst path), some (.d (.tuple (d0 :: dr))), x4, x5, none]) (m := m) (m' := m1) (r := .d (.int r)) (md := .d (.int 6)) (f := evC (.int 6)) rfl rfl hk rfl e
      have e4 : evOp gEq [(evCall fn_l_draw [(evN 0), (evC (.int 6))]), (evC (.int 0))] [some m, some (.d it), some (.lst path), some (.d (.tuple (d0 :: dr))), x4, x5, none] = .ok (.inr (.d (.bool (PyData.eqv (.int r) (.int 0))))) [some m1, some (.d it), some (.lst path), some (.d (.tuple (d0 :: dr))), x4, x5, none] := op2 c rfl rfl rfl rfl
      have e5 : tst [some m, some (.d it), some (.lst path), some (.d (.tuple (d0 :: dr))), x4, x5, none] = .ok (.inr (.d (.bool (PyData.eqv (.int r) (.int 0))))) [some m1, some (.d it), some (.lst path), some (.d (.tuple (d0 :: dr))), x4, x5, none] := by rw [e1, e3]; exact e4
      cases hb : PyData.eqv (.int r) (.int 0) with
      | true => exact .inl ⟨m1, leave m1 (by rw [e5, hb]), h1.mono (by omega)⟩
      | false =>
        rw [hb] at e5
        obtain ⟨k, m2, e6, k0, k1, h2⟩ := draw_ok (b := (d0 :: dr).length) h1 (by omega) (by simp only [List.length_cons]; omega) (by omega)
        obtain ⟨kvs1, hk1⟩ := h1.dct
        have c2 := call2 (fn := fn_l_draw) rfl rfl (env := [some m1, some (.d it), some (.lst path), some (.d (.tuple (d0 :: dr))), x4, x5, none]) (env1 := [some m1, some (.d it), some (.lst path), some (.d (.tuple (d0 :: dr))), x4, x5, none]) (m := m1) (m' := m2) (r := .d (.int k)) (md := .d (.int (d0 :: dr).length)) (f := evOp gLen [evN 3]) rfl rfl hk1 (op1 (nOf rfl) rfl rfl) e6
        obtain ⟨x, hx, ex⟩ := gIx_of (m := .d (.tuple (d0 :: dr))) (.inr ⟨rfl, rfl⟩) k0 k1
        obtain ⟨kn, rfl⟩ := Int.eq_ofNat_of_zero_le k0
        refine .inr ⟨m2, .tuple [.tuple (d0 :: dr), .int kn], x, some (.d (.int kn)), ?_, h2, ⟨_, kn, rfl, .tup _ l t, by simp only [List.length_cons] at k1 ⊢; omega⟩, t x hx⟩
        refine seq_of (if_of e5 rfl rfl) (seq_of (set_of c2) (seq_of (ex_of (meth1 (m := .d (.tuple [.tuple (d0 :: dr), .int kn])) (x := .none) (ds' := path ++ [.tuple [.tuple (d0 :: dr), .int kn]]) rfl (tup_of (ms := [.d (.tuple (d0 :: dr)), .d (.int kn)]) (evs_c (vN rfl rfl) (evs_c (vN rfl rfl) rfl)) (by simp)) rfl ?_)) (set_of (op2 (nOf rfl) (nOf rfl) rfl rfl ex))))
        simp only [mAppend]
        rw [if_pos (by rw [sizeLine_eq]; omega)]
        rfl
theorem bent_loop {B : Nat} {it : D} (hB2 : B ≤ 50) : ∀ (rs : List D) {n : Nat} {m : M} {here : D} {path : List D} {x4 x5 : Option M}, Dk n m → n + 2 * rs.length < 1000000 → Tr B here → (∀ p ∈ path, PathOk B p) → path.length + rs.length ≤ 100 →
    ∃ m' path' here' x4' x5', sFor (gName1 4) bentBody rs [some m, some (.d it), some (.lst path), some (.d here), x4, x5, none] = .nx [some m', some (.d it), some (.lst path'), some (.d here'), x4', x5', none] ∧ Dk (n + 2 * rs.length) m' ∧ Tr B here' ∧ (∀ p ∈ path', PathOk B p) ∧ path'.length ≤ 100
  | [], n, m, here, path, x4, x5, h, _, ht, hp, hl => ⟨m, path, here, x4, x5, rfl, h, ht, hp, by simpa using hl⟩
  | r :: rs, n, m, here, path, x4, x5, h, hn, ht, hp, hl => by
    simp only [List.length_cons] at hn hl
    rcases bent_turn (it := it) (x4 := some (.d r)) (x5 := x5) h (by omega) hB2 ht hp (by omega) with ⟨m', e, h'⟩ | ⟨m', p, here', x5', e, h', pp, t'⟩
    · refine ⟨m', path, here, some (.d r), x5, ?_, h'.mono (by simp only [List.length_cons]; omega), ht, hp, by omega⟩
      have e : bentBody [some m, some (.d it), some (.lst path), some (.d here), some (.d r), x5, none] = _ := e
      simp only [sFor, gName1, List.set]
      rw [e]
    · obtain ⟨m2, path2, here2, x42, x52, e2, h2, t2, p2, l2⟩ := bent_loop hB2 rs (it := it) (path := path ++ [p]) (x4 := some (.d r)) (x5 := x5') h' (by omega) t' (fun q hq => by
        rcases List.mem_append.mp hq with z | z
        · exact hp q z
        · simp at z; subst z; exact pp) (by simp only [List.length_append, List.length_cons, List.length_nil]; omega)
      refine ⟨m2, path2, here2, x42, x52, ?_, h2.mono (by simp only [List.length_cons]; omega), t2, p2, l2⟩
      have e : bentBody [some m, some (.d it), some (.lst path), some (.d here), some (.d r), x5, none] = _ := e
      simp only [sFor, gName1, List.set]
      rw [e]
      exact e2
theorem cutTo {ds : List D} {k : Nat} (h : k < ds.length) : (cutD ds none (some (k : Int))).length = k := by
  unfold cutD
  rw [List.length_take, List.length_drop]
  have e : HT.sIx ds.length ds.length (some (k : Int)) = min k ds.length := HT.sIx_nat ds.length ds.length k
  have e0 : HT.sIx ds.length 0 none = 0 := HT.sIx_none _ _
  rw [e, e0]
  omega
theorem cutFrom {ds : List D} {k : Nat} (h : k < ds.length) : (cutD ds (some ((k : Int) + 1)) none).length = ds.length - (k + 1) := by
  unfold cutD
  rw [List.length_take, List.length_drop]
  have e : HT.sIx ds.length 0 (some ((k : Int) + 1)) = min (k + 1) ds.length := HT.sIx_nat ds.length 0 (k + 1)
  have e0 : HT.sIx ds.length ds.length none = ds.length := HT.sIx_none _ _
  rw [e, e0]
  omega
abbrev backBody : Sl → SRes := (sSet 3 (evOp gAdd [(evOp gAdd [(evOp gSl01 [(evN 6), evI (evN 5)]), (evTup [(evV (evN 3))])]), (evOp gSl10 [(evN 6), evI (evOp gAdd [(evN 5), (evC (.int 1))])])]))
theorem back_loop {B : Nat} {it : D} {m : M} {pp : List D} (hB2 : B ≤ 50) : ∀ (rs : List D) {here : D} {x4 x5 x6 : Option M}, (∀ p ∈ rs, PathOk B p) → Sh (B + 1) here →
    ∃ here' x5' x6', sFor (gTupN [6, 5]) backBody rs [some m, some (.d it), some (.lst pp), some (.d here), x4, x5, x6] = .nx [some m, some (.d it), some (.lst pp), some (.d here'), x4, x5', x6'] ∧ Sh (B + 1) here'
  | [], here, x4, x5, x6, _, hs => ⟨here, x5, x6, rfl, hs⟩
  | r :: rs, here, x4, x5, x6, hp, hs => by
    obtain ⟨ds, k, rfl, ht, hk⟩ := hp r (by simp)
    have l1 := cutTo hk
    have l2 := cutFrom hk
    obtain ⟨lB, kids⟩ := ht.kids
    have e : backBody [some m, some (.d it), some (.lst pp), some (.d here), x4, some (.d (.int k)), some (.d (.tuple ds))] = .nx [some m, some (.d it), some (.lst pp), some (.d (.tuple ((cutD ds none (some (k : Int)) ++ [here]) ++ cutD ds (some ((k : Int) + 1)) none))), x4, some (.d (.int k)), some (.d (.tuple ds))] := by
      let E : Sl := [some m, some (.d it), some (.lst pp), some (.d here), x4, some (.d (.int k)), some (.d (.tuple ds))]
      have a1 : evOp gSl01 [(evN 6), evI (evN 5)] E = .ok (.inr (.d (.tuple (cutD ds none (some (k : Int)))))) E := op2 (nOf rfl) (q := .inr (.d (.int k))) rfl rfl rfl rfl
      have a2 : evTup [(evV (evN 3))] E = .ok (.inr (.d (.tuple [here]))) E := tup_of (ms := [.d here]) (evs_c (vN rfl rfl) rfl) (by simp)
      have a3 : evOp gAdd [(evOp gSl01 [(evN 6), evI (evN 5)]), (evTup [(evV (evN 3))])] E = .ok (.inr (.d (.tuple (cutD ds none (some (k : Int)) ++ [here])))) E := op2 a1 a2 rfl rfl (addT (by simp only [List.length_cons, List.length_nil]; omega))
      have a4 : evOp gSl10 [(evN 6), evI (evOp gAdd [(evN 5), (evC (.int 1))])] E = .ok (.inr (.d (.tuple (cutD ds (some ((k : Int) + 1)) none)))) E := op2 (nOf rfl) (q := .inr (.d (.int ((k : Int) + 1)))) rfl rfl rfl rfl
      exact set_of (op2 a3 a4 rfl rfl (addT (by simp only [List.length_append, List.length_cons, List.length_nil]; omega)))
    have s2 : Sh (B + 1) (.tuple ((cutD ds none (some (k : Int)) ++ [here]) ++ cutD ds (some ((k : Int) + 1)) none)) := by
      refine .tup _ (by simp only [List.length_append, List.length_cons, List.length_nil]; omega) fun d hd => ?_
      rcases List.mem_append.mp hd with z | z
      · rcases List.mem_append.mp z with z | z
        · exact ((kids d (cut_mem z)).sh).mono (by omega)
        · simp at z; subst z; exact hs
      · exact ((kids d (cut_mem z)).sh).mono (by omega)
    obtain ⟨here2, x52, x62, e2, h2⟩ := back_loop hB2 rs (it := it) (m := m) (pp := pp) (x4 := x4) (x5 := some (.d (.int k))) (x6 := some (.d (.tuple ds))) (fun p hp' => hp p (by simp [hp'])) s2
    refine ⟨here2, x52, x62, ?_, h2⟩
    simp only [sFor, gTupN, setAll, List.set]
    rw [e]
    exact e2
theorem run_for {fi : Sl → Res (List M × List D)} {g : D → Sl → Option Sl} {s : Sl → SRes} {env env1 : Sl} {ms : List M} {ds : List D} {R : SRes} (h : fi env = .ok (ms, ds) env1) (k : sFor g s ds env1 = R) : sForI fi g s env = R := by
  simp only [sForI, h, k]
theorem seqE {f : Sl → Res Rv} {env env1 : Sl} {m : M} {is : List D} (h : f env = .ok (.inr m) env1) (e : itemsOf (freeze m) = some is) : fSeq f env = .ok ([.d (freeze m)], is) env1 := by
  simp only [fSeq, ds1 h, Res.bind, e]
theorem retN {io : List Nat} {i : Nat} {env : Sl} {d : D} (h : (env[i]?).join = some (.d d)) : sRet io (evN i) env = .rt (.d d) env := by
  simp only [sRet, evN, h, sBind, takeOf]
theorem bent_ok {n B : Nat} {m : M} {it : D} (h : Dk n m) (hn : n < 900000) (hB : 3 ≤ B) (hB2 : B ≤ 50) (ht : Tr B it) : ∃ x m', fn_l_bent.run [m, .d it] = some (.inr (.d x), [m']) ∧ Sh (B + 1) x ∧ Dk (n + 20) m' := by
  have s1 : sPar 2 3 (evLst []) (evN 1) (bodyEnv 7 [m, .d it]) = .nx [some m, some (.d it), some (.lst []), some (.d it), none, none, none] := by
    simp [sPar, evs, evV, evLst, Res.bind, getOs, getO, valOf, evN, bodyEnv, freeze]
  obtain ⟨m1, path, here, x4, x5, e1, h1, t1, p1, l1⟩ := bent_loop (it := it) hB2 (rangeD 0 8) (path := []) (x4 := none) (x5 := none) h (by simp [rangeD]; omega) ht (fun p hp => by simp at hp) (by simp [rangeD])
  have lr : (rangeD 0 8).length = 8 := by simp [rangeD]
  rw [lr] at h1
  obtain ⟨x, m2, e2, sx, h2⟩ := odd_ok h1 (by omega) hB hB2 t1
  obtain ⟨kvs, hk⟩ := h1.dct
  have c := call2s (fn := fn_l_odd) rfl rfl (env := [some m1, some (.d it), some (.lst path), some (.d here), x4, x5, none]) (m := m1) (m' := m2) (r := .d x) (j := 3) rfl hk rfl (by decide) e2
  obtain ⟨x', x5', x6', e3, s3⟩ := back_loop (it := it) (m := m2) (pp := path) hB2 path.reverse (x4 := x4) (x5 := x5) (x6 := none) (fun p hp => p1 p (by simpa using hp)) sx
  refine ⟨x', m2, run2 (env := [some m2, some (.d it), some (.lst path), some (.d x'), x4, x5', x6']) (seq_of s1 (seq_of (run_for (ms := []) (ds := rangeD 0 8) rfl e1) (seq_of (set_of c) (seq_of (run_for (seqE (m := .lst path.reverse) (op1 (nOf rfl) rfl rfl) rfl) e3) (retN rfl))))) rfl, s3, h2.mono (by omega)⟩
end k02
end Yf
namespace Yf
namespace k02
open PySem PySem.Spec L2
theorem intsD_of : ∀ {ds : List D}, (∀ d ∈ ds, IsI d) → ∃ ns : List Int, ds = ns.map .int ∧ intsD ds = some ns
  | [], _ => ⟨[], rfl, rfl⟩
  | d :: ds, h => by
    obtain ⟨ns, e, e2⟩ := intsD_of (ds := ds) fun x hx => h x (by simp [hx])
    obtain ⟨i, rfl⟩ := h d (by simp)
    exact ⟨i :: ns, by simp [e], by simp [intsD, e2]⟩
def FactOk (f : D) : Prop := (∃ t : Int, f = .tuple [.str "dropped", .int t]) ∨ ∃ (t : Int) (us : List Int), f = .tuple [.str "firm", .int t, .tuple (us.map .int)] ∧ us.length ≤ 30
theorem FactOk.key {f : D} (h : FactOk f) : hasKey f = true := by
  rcases h with ⟨t, rfl⟩ | ⟨t, us, rfl, _⟩ <;> rfl
theorem FactOk.tr {f : D} (h : FactOk f) : Tr 40 f := by
  rcases h with ⟨t, rfl⟩ | ⟨t, us, rfl, l⟩
  · refine .tup _ (by simp) fun d hd => ?_
    simp only [List.mem_cons, List.not_mem_nil, or_false] at hd
    rcases hd with rfl | rfl
    · exact .str _ (by decide) (by decide +kernel)
    · exact .int _
  · refine .tup _ (by simp) fun d hd => ?_
    simp only [List.mem_cons, List.not_mem_nil, or_false] at hd
    rcases hd with rfl | rfl | rfl
    · exact .str _ (by decide) (by decide +kernel)
    · exact .int _
    · refine .tup _ (by simp; omega) fun d hd => ?_
      obtain ⟨i, _, rfl⟩ := List.mem_map.mp hd
      exact .int _
theorem sortK_mem {ds : List D} {d : D} : d ∈ sortK ds ↔ d ∈ ds := (List.mergeSort_perm _ _).mem_iff
theorem sortK_len {ds : List D} : (sortK ds).length = ds.length := List.length_mergeSort _
/-- in order -/
theorem in_order_run {is : List D} (h : ∀ d ∈ is, hasKey d = true) : fn_l_in_order.run [.d (.list is)] = some (.inr (.d (.tuple (sortK is))), []) := by
  have a : evSK (evN 0) [some (.d (.list is))] = .ok (.inr (.lst (sortK is))) [some (.d (.list is))] := by
    have e : evDs [evN 0] [some (.d (.list is))] = .ok [.list is] [some (.d (.list is))] := rfl
    simp only [evSK, e, Res.bind, seqD]
    rw [if_pos (List.all_eq_true.mpr h)]
  have b : evOp gTuple [evSK (evN 0)] [some (.d (.list is))] = .ok (.inr (.d (.tuple (sortK is)))) [some (.d (.list is))] := op1 a rfl rfl
  have c : den_l_in_order [some (.d (.list is))] = .rt (.d (.tuple (sortK is))) [some (.d (.list is))] := ret_of b
  show mkRun [] 1 1 den_l_in_order [.d (.list is)] = _
  simp only [mkRun]
  have d : bodyEnv 1 [M.d (.list is)] = [some (.d (.list is))] := rfl
  rw [d, c]
  rfl
/-- [u for u in names if u != t] -/
theorem lc_names {m : M} {names : List D} {x2 x3 x4 x6 x7 : Option M} {t : Int} : ∀ (ds acc : List D), (∀ d ∈ ds, IsI d) → (∀ d ∈ acc, IsI d) → acc.length + ds.length ≤ 1000 →
    ∃ acc', lcGo [8] (gName1 8) (some (evOp gNe [(evN 8), (evN 5)])) (evN 8) ds acc [some m, some (.d (.list names)), x2, x3, x4, some (.d (.int t)), x6, x7, none] = .ok acc' [some m, some (.d (.list names)), x2, x3, x4, some (.d (.int t)), x6, x7, none] ∧ (∀ d ∈ acc', IsI d) ∧ acc'.length ≤ acc.length + ds.length
  | [], acc, _, ha, _ => ⟨acc, rfl, ha, by simp⟩
  | d :: ds, acc, hd, ha, hl => by
    obtain ⟨i, rfl⟩ := hd d (by simp)
    simp only [List.length_cons] at hl
    have e1 : evOp gNe [(evN 8), (evN 5)] [some m, some (.d (.list names)), x2, x3, x4, some (.d (.int t)), x6, x7, some (.d (.int i))] = .ok (.inr (.d (.bool (!PyData.eqv (.int i) (.int t))))) [some m, some (.d (.list names)), x2, x3, x4, some (.d (.int t)), x6, x7, some (.d (.int i))] := op2 (nOf rfl) (nOf rfl) rfl rfl rfl
    cases hb : (!PyData.eqv (.int i) (.int t)) with
    | false =>
      rw [hb] at e1
      obtain ⟨acc', e, h1, h2⟩ := lc_names (m := m) (names := names) (x2 := x2) (x3 := x3) (x4 := x4) (x6 := x6) (x7 := x7) (t := t) ds acc (fun x hx => hd x (by simp [hx])) ha (by omega)
      refine ⟨acc', ?_, h1, by simp only [List.length_cons]; omega⟩
      simp only [lcGo, gName1, List.set, e1, Res.bind, boolOf, getO]
      exact e
    | true =>
      rw [hb] at e1
      obtain ⟨acc', e, h1, h2⟩ := lc_names (m := m) (names := names) (x2 := x2) (x3 := x3) (x4 := x4) (x6 := x6) (x7 := x7) (t := t) ds (acc ++ [.int i]) (fun x hx => hd x (by simp [hx])) (fun x hx => by
        rcases List.mem_append.mp hx with z | z
        · exact ha x z
        · simp at z; subst z; exact ⟨i, rfl⟩) (by simp only [List.length_append, List.length_cons, List.length_nil]; omega)
      refine ⟨acc', ?_, h1, by simp only [List.length_append, List.length_cons, List.length_nil] at h2; simp only [List.length_cons]; omega⟩
      have ev : evV (evN 8) [some m, some (.d (.list names)), x2, x3, x4, some (.d (.int t)), x6, x7, some (.d (.int i))] = .ok (.inr (.d (.int i))) [some m, some (.d (.list names)), x2, x3, x4, some (.d (.int t)), x6, x7, some (.d (.int i))] := vN rfl rfl
      simp only [lcGo, gName1, List.set, e1, Res.bind, boolOf, getO, ev]
      rw [if_pos (by rw [sizeLine_eq]; omega)]
      exact e
theorem lc_ok {m : M} {names : List D} {x2 x3 x4 x6 x7 : Option M} {t : Int} (hd : ∀ d ∈ names, IsI d) (hl : names.length ≤ 100) :
    ∃ acc', evLc [8] (fSeq (evN 1)) (gName1 8) (some (evOp gNe [(evN 8), (evN 5)])) (evN 8) [some m, some (.d (.list names)), x2, x3, x4, some (.d (.int t)), x6, x7, none] = .ok (.inr (.lst acc')) [some m, some (.d (.list names)), x2, x3, x4, some (.d (.int t)), x6, x7, none] ∧ (∀ d ∈ acc', IsI d) ∧ acc'.length ≤ names.length := by
  obtain ⟨acc', e, h1, h2⟩ := lc_names (m := m) (names := names) (x2 := x2) (x3 := x3) (x4 := x4) (x6 := x6) (x7 := x7) (t := t) names [] hd (fun d hd => by simp at hd) (by simp; omega)
  refine ⟨acc', ?_, h1, by simpa using h2⟩
  have f1 : fSeq (evN 1) [some m, some (.d (.list names)), x2, x3, x4, some (.d (.int t)), x6, x7, none] = .ok ([.d (.list names)], names) [some m, some (.d (.list names)), x2, x3, x4, some (.d (.int t)), x6, x7, none] := rfl
  have f2 : saveE [some m, some (.d (.list names)), x2, x3, x4, some (.d (.int t)), x6, x7, none] [8] = some [none] := rfl
  simp only [evLc, f1, f2]
  have f3 : wipeE [some m, some (.d (.list names)), x2, x3, x4, some (.d (.int t)), x6, x7, none] [8] = [some m, some (.d (.list names)), x2, x3, x4, some (.d (.int t)), x6, x7, none] := rfl
  rw [f3, e]
  rfl
end k02
end Yf
namespace Yf
namespace k02
open PySem PySem.Spec L2
theorem tup3 {f g h : Sl → Res Rv} {a b c : M} {env env' : Sl} (h1 : f env = .ok (.inr a) env) (h2 : g env = .ok (.inr b) env) (h3 : h env = .ok (.inr c) env') : evTup [f, g, h] env = .ok (.inr (.d (.tuple [freeze a, freeze b, freeze c]))) env' := by
  have e : evs [f, g, h] env = .ok ([a, b, c].map .inr) env' := by
    simp only [evs, h1, h2, h3, Res.bind, List.map]
  simp only [evTup, e, Res.bind, getOs_inr, all_inr, Bool.true_and]
  rw [if_pos (by simp [sizeLine_eq])]
  rfl
theorem sorted_of {ds : List D} (h : ∀ d ∈ ds, IsI d) : ∃ ns : List Int, ns.length = ds.length ∧ gSorted [.lst ds] = some (.lst (ns.map .int)) := by
  obtain ⟨ns, e, e2⟩ := intsD_of h
  refine ⟨sortI ns, ?_, ?_⟩
  · rw [(sortI_perm ns).length_eq, e, List.length_map]
  · simp only [gSorted, listOf, e2]
theorem append_ok {l : List D} {d : D} (h : l.length ≤ 1000) : mAppend l [d] = some (.none, l ++ [d]) := by
  simp only [mAppend]
  rw [if_pos (by rw [sizeLine_eq]; omega)]
abbrev factsBody : Sl → SRes := (sSeq (sSet 6 (evIf (evOp gGt [(evCall fn_l_draw [(evN 0), (evN 3)]), (evC (.int 0))]) (evOp gSl01 [(evN 1), evI (evN 4)]) (evLc [8] (fSeq (evN 1)) (gName1 8) (some (evOp gNe [(evN 8), (evN 5)])) (evN 8))))
   (sSeq (sSet 7 (evCall fn_l_draw [(evN 0), (evC (.int 9))]))
   (sIf (evOp gEq [(evN 7), (evC (.int 0))]) (sEx (evMeth 2 [(evTup [(evV (evC (.str "dropped"))), (evV (evN 5))])] mAppend)) (sIf (evOr (evOp gLt [(evN 7), (evC (.int 8))]) (evOp gEq [(evN 4), (evC (.int 0))])) (sEx (evMeth 2 [(evTup [(evV (evC (.str "firm"))), (evV (evN 5)), (evV (evOp gTuple [(evOp gSorted [(evOp gSl01 [(evCall fn_l_shuffled [(evN 0), (evN 6)]), evI (evCall fn_l_pick [(evN 0), (evTup [(evV (evC (.int 1))), (evV (evC (.int 2))), (evV (evC (.int 0))), (evV (evC (.int 1))), (evV (evC (.int 3)))])])])])]))])] mAppend)) sNil))))
theorem facts_turn {n : Nat} {m : M} {names res : List D} {w at' t : Int} {x6 x7 : Option M} (h : Dk n m) (hn : n < 1000000) (hN : ∀ d ∈ names, IsI d) (hNl : names.length ≤ 30) (w0 : 0 < w) (w1 : w < 1000) (hl : res.length ≤ 500) :
    ∃ m' res' x6' x7', factsBody [some m, some (.d (.list names)), some (.lst res), some (.d (.int w)), some (.d (.int at')), some (.d (.int t)), x6, x7, none] = .nx [some m', some (.d (.list names)), some (.lst res'), some (.d (.int w)), some (.d (.int at')), some (.d (.int t)), x6', x7', none] ∧ Dk (n + 40) m' ∧ (res' = res ∨ ∃ f, res' = res ++ [f] ∧ FactOk f) := by
  obtain ⟨r1, m1, e1, r10, r11, h1⟩ := draw_ok (b := w) h (by omega) w0 (by omega)
  obtain ⟨kvs, hk⟩ := h.dct
  have c1 := call2s (fn := fn_l_draw) rfl rfl (env := [some m, some (.d (.list names)), some (.lst res), some (.d (.int w)), some (.d (.int at')), some (.d (.int t)), x6, x7, none]) (m := m) (m' := m1) (r := .d (.int r1)) (j := 3) rfl hk rfl (by decide) e1
  have t1 : evOp gGt [(evCall fn_l_draw [(evN 0), (evN 3)]), (evC (.int 0))] [some m, some (.d (.list names)), some (.lst res), some (.d (.int w)), some (.d (.int at')), some (.d (.int t)), x6, x7, none] = .ok (.inr (.d (.bool (decide (0 < r1))))) [some m1, some (.d (.list names)), some (.lst res), some (.d (.int w)), some (.d (.int at')), some (.d (.int t)), x6, x7, none] := op2 c1 rfl rfl rfl rfl
  obtain ⟨L, eL, iL, lL⟩ : ∃ L : List D, evIf (evOp gGt [(evCall fn_l_draw [(evN 0), (evN 3)]), (evC (.int 0))]) (evOp gSl01 [(evN 1), evI (evN 4)]) (evLc [8] (fSeq (evN 1)) (gName1 8) (some (evOp gNe [(evN 8), (evN 5)])) (evN 8)) [some m, some (.d (.list names)), some (.lst res), some (.d (.int w)), some (.d (.int at')), some (.d (.int t)), x6, x7, none] = .ok (.inr (.lst L)) [some m1, some (.d (.list names)), some (.lst res), some (.d (.int w)), some (.d (.int at')), some (.d (.int t)), x6, x7, none] ∧ (∀ d ∈ L, IsI d) ∧ L.length ≤ 30 := by
    rw [ifE t1 rfl]
    by_cases z : 0 < r1
    · refine ⟨cutD names none (some at'), ?_, fun d hd => hN d (cut_mem hd), Nat.le_trans cut_len hNl⟩
      rw [decide_eq_true z, if_pos rfl]
      exact op2 (nOf rfl) (q := .inr (.d (.int at'))) rfl rfl rfl rfl
    · obtain ⟨acc, e, i1, l1⟩ := lc_ok (m := m1) (x2 := some (.lst res)) (x3 := some (.d (.int w))) (x4 := some (.d (.int at'))) (x6 := x6) (x7 := x7) (t := t) hN (by omega)
      refine ⟨acc, ?_, i1, by omega⟩
      rw [decide_eq_false z, if_neg (by decide)]
      exact e
  obtain ⟨r2, m2, e2, r20, r21, h2⟩ := draw_ok (b := 9) h1 (by omega) (by omega) (by omega)
  obtain ⟨kvs1, hk1⟩ := h1.dct
  have c2 := call2 (fn := fn_l_draw) rfl rfl (env := [some m1, some (.d (.list names)), some (.lst res), some (.d (.int w)), some (.d (.int at')), some (.d (.int t)), some (.lst L), x7, none]) (env1 := [some m1, some (.d (.list names)), some (.lst res), some (.d (.int w)), some (.d (.int at')), some (.d (.int t)), some (.lst L), x7, none]) (m := m1) (m' := m2) (r := .d (.int r2)) (md := .d (.int 9)) (f := evC (.int 9)) rfl rfl hk1 rfl e2
  have t2 : evOp gEq [(evN 7), (evC (.int 0))] [some m2, some (.d (.list names)), some (.lst res), some (.d (.int w)), some (.d (.int at')), some (.d (.int t)), some (.lst L), some (.d (.int r2)), none] = .ok (.inr (.d (.bool (PyData.eqv (.int r2) (.int 0))))) [some m2, some (.d (.list names)), some (.lst res), some (.d (.int w)), some (.d (.int at')), some (.d (.int t)), some (.lst L), some (.d (.int r2)), none] := op2 (nOf rfl) rfl rfl rfl rfl
  cases hb : PyData.eqv (.int r2) (.int 0) with
  | true =>
    rw [hb] at t2
    refine ⟨m2, res ++ [.tuple [.str "dropped", .int t]], some (.lst L), some (.d (.int r2)), ?_, h2.mono (by omega), .inr ⟨_, rfl, .inl ⟨t, rfl⟩⟩⟩
    exact seq_of (set_of eL) (seq_of (set_of c2) (if_of t2 rfl (ex_of (meth1 (m := .d (.tuple [.str "dropped", .int t])) (x := .none) (ds' := res ++ [.tuple [.str "dropped", .int t]]) rfl (tup_of (ms := [.d (.str "dropped"), .d (.int t)]) (evs_c rfl (evs_c (vN rfl rfl) rfl)) (by simp)) rfl (append_ok (by omega))))))
  | false =>
    rw [hb] at t2
    have t3 : evOp gLt [(evN 7), (evC (.int 8))] [some m2, some (.d (.list names)), some (.lst res), some (.d (.int w)), some (.d (.int at')), some (.d (.int t)), some (.lst L), some (.d (.int r2)), none] = .ok (.inr (.d (.bool (decide (r2 < 8))))) [some m2, some (.d (.list names)), some (.lst res), some (.d (.int w)), some (.d (.int at')), some (.d (.int t)), some (.lst L), some (.d (.int r2)), none] := op2 (nOf rfl) rfl rfl rfl rfl
    have t4 : evOp gEq [(evN 4), (evC (.int 0))] [some m2, some (.d (.list names)), some (.lst res), some (.d (.int w)), some (.d (.int at')), some (.d (.int t)), some (.lst L), some (.d (.int r2)), none] = .ok (.inr (.d (.bool (PyData.eqv (.int at') (.int 0))))) [some m2, some (.d (.list names)), some (.lst res), some (.d (.int w)), some (.d (.int at')), some (.d (.int t)), some (.lst L), some (.d (.int r2)), none] := op2 (nOf rfl) rfl rfl rfl rfl
    obtain ⟨b, t5⟩ : ∃ b, evOr (evOp gLt [(evN 7), (evC (.int 8))]) (evOp gEq [(evN 4), (evC (.int 0))]) [some m2, some (.d (.list names)), some (.lst res), some (.d (.int w)), some (.d (.int at')), some (.d (.int t)), some (.lst L), some (.d (.int r2)), none] = .ok (.inr (.d (.bool b))) [some m2, some (.d (.list names)), some (.lst res), some (.d (.int w)), some (.d (.int at')), some (.d (.int t)), some (.lst L), some (.d (.int r2)), none] := by
      have : evOr (evOp gLt [(evN 7), (evC (.int 8))]) (evOp gEq [(evN 4), (evC (.int 0))]) [some m2, some (.d (.list names)), some (.lst res), some (.d (.int w)), some (.d (.int at')), some (.d (.int t)), some (.lst L), some (.d (.int r2)), none] = _ := ifE t3 rfl
      rw [this]
      cases hd : decide (r2 < 8) with
      | true => exact ⟨true, rfl⟩
      | false => exact ⟨_, t4⟩
    cases b with
    | false =>
      refine ⟨m2, res, some (.lst L), some (.d (.int r2)), ?_, h2.mono (by omega), .inl rfl⟩
      exact seq_of (set_of eL) (seq_of (set_of c2) (if_of t2 rfl (if_of t5 rfl rfl)))
    | true =>
      obtain ⟨S, m3, e3, lS, iS, h3⟩ := shuffled_ok (is := L) h2 (by omega) (by omega)
      obtain ⟨kvs2, hk2⟩ := h2.dct
      have c3 := call2l (fn := fn_l_shuffled) rfl rfl (env := [some m2, some (.d (.list names)), some (.lst res), some (.d (.int w)), some (.d (.int at')), some (.d (.int t)), some (.lst L), some (.d (.int r2)), none]) (m := m2) (m' := m3) (r := .lst S) (j := 6) rfl hk2 rfl (by decide) e3
      obtain ⟨x, m4, e4, hx, h4⟩ := pick_ok (d := .tuple [.int 1, .int 2, .int 0, .int 1, .int 3]) h3 (by omega) (.inr rfl) (by simp) (by simp)
      obtain ⟨kvs3, hk3⟩ := h3.dct
      have c4 := call2 (fn := fn_l_pick) rfl rfl (env := [some m3, some (.d (.list names)), some (.lst res), some (.d (.int w)), some (.d (.int at')), some (.d (.int t)), some (.d (.list L)), some (.d (.int r2)), none]) (env1 := [some m3, some (.d (.list names)), some (.lst res), some (.d (.int w)), some (.d (.int at')), some (.d (.int t)), some (.d (.list L)), some (.d (.int r2)), none]) (m := m3) (m' := m4) (r := .d x) (md := .d (.tuple [.int 1, .int 2, .int 0, .int 1, .int 3])) (f := evTup [(evV (evC (.int 1))), (evV (evC (.int 2))), (evV (evC (.int 0))), (evV (evC (.int 1))), (evV (evC (.int 3)))]) rfl rfl hk3 rfl e4
      obtain ⟨k, rfl⟩ : ∃ k : Int, x = .int k := by
        simp only [List.mem_cons, List.not_mem_nil, or_false] at hx
        rcases hx with rfl | rfl | rfl | rfl | rfl <;> exact ⟨_, rfl⟩
      have c5 := sl01 (k := k) c3 c4 rfl
      obtain ⟨ns, lns, es⟩ := sorted_of (ds := cutD S none (some k)) fun d hd => iL d (iS d (cut_mem hd))
      have lc : (cutD S none (some k)).length ≤ S.length := cut_len
      refine ⟨m4, res ++ [.tuple [.str "firm", .int t, .tuple (ns.map .int)]], some (.d (.list L)), some (.d (.int r2)), ?_, h4.mono (by omega), .inr ⟨_, rfl, .inr ⟨t, ns, rfl, by omega⟩⟩⟩
      exact seq_of (set_of eL) (seq_of (set_of c2) (if_of t2 rfl (if_of t5 rfl (ex_of (meth1 (m := .d (.tuple [.str "firm", .int t, .tuple (ns.map .int)])) (x := .none) (ds' := res ++ [.tuple [.str "firm", .int t, .tuple (ns.map .int)]]) rfl (tup3 (a := .d (.str "firm")) (b := .d (.int t)) (c := .d (.tuple (ns.map .int))) rfl (vN rfl rfl) (vOf (op1 (op1 c5 rfl es) rfl rfl))) rfl (append_ok (by omega)))))))
end k02
end Yf
namespace Yf
namespace k02
open PySem PySem.Spec L2
theorem facts_loop {names : List D} {w : Int} (hN : ∀ d ∈ names, IsI d) (hNl : names.length ≤ 30) (w0 : 0 < w) (w1 : w < 1000) : ∀ (rs : List D) {n : Nat} {m : M} {res : List D} {x4 x5 x6 x7 : Option M}, (∀ r ∈ rs, ∃ i t : Int, r = .tuple [.int i, .int t]) → Dk n m → n + 40 * rs.length < 1000000 → (∀ f ∈ res, FactOk f) → res.length + rs.length ≤ 400 →
    ∃ m' res' x4' x5' x6' x7', sFor (gTupN [4, 5]) factsBody rs [some m, some (.d (.list names)), some (.lst res), some (.d (.int w)), x4, x5, x6, x7, none] = .nx [some m', some (.d (.list names)), some (.lst res'), some (.d (.int w)), x4', x5', x6', x7', none] ∧ Dk (n + 40 * rs.length) m' ∧ (∀ f ∈ res', FactOk f) ∧ res'.length ≤ res.length + rs.length
  | [], n, m, res, x4, x5, x6, x7, _, h, _, hr, _ => ⟨m, res, x4, x5, x6, x7, rfl, h, hr, by simp⟩
  | r :: rs, n, m, res, x4, x5, x6, x7, hs, h, hn, hr, hl => by
    obtain ⟨i, t, rfl⟩ := hs r (by simp)
    simp only [List.length_cons] at hn hl
    obtain ⟨m1, res1, x61, x71, e, h1, hf⟩ := facts_turn (at' := i) (t := t) (x6 := x6) (x7 := x7) h (by omega) hN hNl w0 w1 (show res.length ≤ 500 by omega)
    have hr1 : (∀ f ∈ res1, FactOk f) ∧ res1.length ≤ res.length + 1 := by
      rcases hf with rfl | ⟨f, rfl, hf⟩
      · exact ⟨hr, by omega⟩
      · refine ⟨fun g hg => ?_, by simp⟩
        rcases List.mem_append.mp hg with z | z
        · exact hr g z
        · simp at z; subst z; exact hf
    obtain ⟨m2, res2, a, b, c, d, e2, h2, f2, l2⟩ := facts_loop hN hNl w0 w1 rs (res := res1) (x4 := some (.d (.int i))) (x5 := some (.d (.int t))) (x6 := x61) (x7 := x71) (fun q hq => hs q (by simp [hq])) h1 (by omega) hr1.1 (by omega)
    refine ⟨m2, res2, a, b, c, d, ?_, h2.mono (by simp only [List.length_cons]; omega), f2, by simp only [List.length_cons]; omega⟩
    simp only [sFor, gTupN, setAll, List.set]
    rw [e]
    exact e2
theorem enum_ok {names : List D} (hN : ∀ d ∈ names, IsI d) : (enumD names).length = names.length ∧ ∀ r ∈ enumD names, ∃ i t : Int, r = .tuple [.int i, .int t] := by
  refine ⟨by simp [enumD], fun r hr => ?_⟩
  simp only [enumD, List.mem_mapIdx] at hr
  obtain ⟨i, hi, rfl⟩ := hr
  obtain ⟨t, e⟩ := hN names[i] (List.getElem_mem hi)
  exact ⟨i, t, by rw [e]⟩
/-- a call of a def that changes nothing, by a slot's own list -/
theorem call1l {fn : Fn} (hio : fn.io = []) (har : fn.ar = 1) {env : Sl} {r : M} {ds : List D} {j : Nat} (hj : (env[j]?).join = some (.lst ds)) (hrun : fn.run [.d (.list ds)] = some (.inr r, [])) : evCall fn [evN j] env = .ok (.inr r) (env.set j (some (.d (.list ds)))) := by
  simp only [evCall, evs, evN, hj, Res.bind, argsOf, argOf, hio]
  simp [hrun, har, freeze, putBack]
/-- facts as they are drawn -/
def Facts (fs : List D) : Prop := (∀ f ∈ fs, FactOk f) ∧ fs.length ≤ 30
theorem drawn_ok {n : Nat} {m : M} {names : List D} (h : Dk n m) (hn : n < 900000) (hN : ∀ d ∈ names, IsI d) (hNl : names.length ≤ 30) : ∃ fs m', fn_l_drawn_facts.run [m, .d (.list names)] = some (.inr (.d (.tuple fs)), [m']) ∧ Facts fs ∧ Dk (n + 1300) m' := by
  obtain ⟨x, m1, e1, hx, h1⟩ := pick_ok (d := .tuple [.int 6, .int 3, .int 12]) h (by omega) (.inr rfl) (by simp) (by simp)
  obtain ⟨kvs, hk⟩ := h.dct
  obtain ⟨w, rfl, w0, w1⟩ : ∃ w : Int, x = .int w ∧ 0 < w ∧ w < 1000 := by
    simp only [List.mem_cons, List.not_mem_nil, or_false] at hx
    rcases hx with rfl | rfl | rfl <;> exact ⟨_, rfl, by omega, by omega⟩
  have c1 := call2 (fn := fn_l_pick) rfl rfl (env := [some m, some (.d (.list names)), none, none, none, none, none, none, none]) (env1 := [some m, some (.d (.list names)), none, none, none, none, none, none, none]) (m := m) (m' := m1) (r := .d (.int w)) (md := .d (.tuple [.int 6, .int 3, .int 12])) (f := evTup [(evV (evC (.int 6))), (evV (evC (.int 3))), (evV (evC (.int 12)))]) rfl rfl hk rfl e1
  have s1 : sPar 2 3 (evLst []) (evCall fn_l_pick [(evN 0), (evTup [(evV (evC (.int 6))), (evV (evC (.int 3))), (evV (evC (.int 12)))])]) (bodyEnv 9 [m, .d (.list names)]) = .nx [some m1, some (.d (.list names)), some (.lst []), some (.d (.int w)), none, none, none, none, none] := by
    have b : bodyEnv 9 [m, M.d (.list names)] = [some m, some (.d (.list names)), none, none, none, none, none, none, none] := rfl
    have a : evV (evLst []) [some m, some (.d (.list names)), none, none, none, none, none, none, none] = .ok (.inr (.lst [])) [some m, some (.d (.list names)), none, none, none, none, none, none, none] := rfl
    have a2 := vOf c1
    rw [b]
    simp only [sPar, evs, a, a2, Res.bind]
    rfl
  obtain ⟨l1, l2⟩ := enum_ok hN
  obtain ⟨m2, res, x4, x5, x6, x7, e2, h2, fr, lr⟩ := facts_loop hN hNl w0 w1 (enumD names) (res := []) (x4 := none) (x5 := none) (x6 := none) (x7 := none) l2 h1 (by omega) (fun f hf => by simp at hf) (by simp; omega)
  have c3 := call1l (fn := fn_l_in_order) rfl rfl (env := [some m2, some (.d (.list names)), some (.lst res), some (.d (.int w)), x4, x5, x6, x7, none]) (j := 2) rfl (in_order_run fun d hd => (fr d hd).key)
  refine ⟨sortK res, m2, run2 (env := [some m2, some (.d (.list names)), some (.d (.list res)), some (.d (.int w)), x4, x5, x6, x7, none]) (seq_of s1 (seq_of (run_for (ms := [.d (.list names)]) (ds := enumD names) rfl e2) (ret_of c3))) rfl, ⟨fun f hf => fr f (sortK_mem.mp hf), ?_⟩, h2.mono (by omega)⟩
  rw [sortK_len]
  simp at lr
  omega
end k02
end Yf
namespace Yf
namespace k02
open PySem PySem.Spec L2
def isI : D → Bool
  | .int _ => true
  | _ => false
/-- a count -/
def isC : D → Bool
  | .int i => decide (0 ≤ i)
  | _ => false
theorem run1 {n : Nat} {s : Sl → SRes} {d r : M} {env : Sl} (h : s (bodyEnv n [d]) = .rt r env) : (mkFn [] 1 n s).run [d] = some (.inr r, []) := by
  simp only [mkFn, mkRun, h, collect, List.range, List.range.loop, iosOf]
  simp
theorem kB (s : String) (h : s = "NoneType" ∨ s = "bool" ∨ s = "int" ∨ s = "str" ∨ s = "list" ∨ s = "tuple" ∨ s = "dict") : kitB s "int" = some (s == "int" || s == "bool") ∧ kitB s "bool" = some (s == "bool") ∧ kitB s "str" = some (s == "str") ∧ kitB s "tuple" = some (s == "tuple") := by
  rcases h with rfl | rfl | rfl | rfl | rfl | rfl | rfl <;> decide +kernel
theorem ty_in (d : D) : tyName (.d d) = "NoneType" ∨ tyName (.d d) = "bool" ∨ tyName (.d d) = "int" ∨ tyName (.d d) = "str" ∨ tyName (.d d) = "list" ∨ tyName (.d d) = "tuple" ∨ tyName (.d d) = "dict" := by
  cases d <;> simp [tyName]
def isT (n : String) (d : D) : Bool := tyName (.d d) == n
theorem isi_int {f : Sl → Res Rv} {env env1 : Sl} {p : Rv} {d : D} (h : f env = .ok p env1) (e : getO env1 p = some (.d d)) : evIsi "int" f env = .ok (.inr (.d (.bool (isT "int" d || isT "bool" d)))) env1 := isiE h e (kB _ (ty_in d)).1
theorem isi_bool {f : Sl → Res Rv} {env env1 : Sl} {p : Rv} {d : D} (h : f env = .ok p env1) (e : getO env1 p = some (.d d)) : evIsi "bool" f env = .ok (.inr (.d (.bool (isT "bool" d)))) env1 := isiE h e (kB _ (ty_in d)).2.1
theorem isi_str {f : Sl → Res Rv} {env env1 : Sl} {p : Rv} {d : D} (h : f env = .ok p env1) (e : getO env1 p = some (.d d)) : evIsi "str" f env = .ok (.inr (.d (.bool (isT "str" d)))) env1 := isiE h e (kB _ (ty_in d)).2.2.1
theorem isi_tup {f : Sl → Res Rv} {env env1 : Sl} {p : Rv} {d : D} (h : f env = .ok p env1) (e : getO env1 p = some (.d d)) : evIsi "tuple" f env = .ok (.inr (.d (.bool (isT "tuple" d)))) env1 := isiE h e (kB _ (ty_in d)).2.2.2
/-- and, or of truth values -/
theorem andE {fa fb : Sl → Res Rv} {env env1 : Sl} {p : Rv} {a b : Bool} (h : fa env = .ok p env1) (e : getO env1 p = some (.d (.bool a))) (hb : a = true → fb env1 = .ok (.inr (.d (.bool b))) env1) : evAnd fa fb env = .ok (.inr (.d (.bool (a && b)))) env1 := by
  show evIf _ _ _ _ = _
  rw [ifE h e]
  cases a with
  | true => exact hb rfl
  | false => rfl
theorem orE {fa fb : Sl → Res Rv} {env env1 : Sl} {p : Rv} {a b : Bool} (h : fa env = .ok p env1) (e : getO env1 p = some (.d (.bool a))) (hb : a = false → fb env1 = .ok (.inr (.d (.bool b))) env1) : evOr fa fb env = .ok (.inr (.d (.bool (a || b)))) env1 := by
  show evIf _ _ _ _ = _
  rw [ifE h e]
  cases a with
  | true => rfl
  | false => exact hb rfl
theorem ty_int {d : D} (h : isT "int" d = true) : ∃ i, d = .int i := by
  cases d <;> simp [isT, tyName] at h ⊢
theorem ty_str {d : D} (h : isT "str" d = true) : ∃ i, d = .str i := by
  cases d <;> simp [isT, tyName] at h ⊢
theorem ty_tup {d : D} (h : isT "tuple" d = true) : ∃ i, d = .tuple i := by
  cases d <;> simp [isT, tyName] at h ⊢
theorem isI_eq (d : D) : ((isT "int" d || isT "bool" d) && !isT "bool" d) = isI d := by
  cases d <;> simp [isI, isT, tyName]
theorem isI_inv {d : D} (h : isI d = true) : ∃ i, d = .int i := by
  cases d <;> simp [isI] at h ⊢
theorem is_integer_run (d : D) : fn_is_integer.run [.d d] = some (.inr (.d (.bool (isI d))), []) := by
  rw [← isI_eq]
  exact run1 (ret_of (andE (isi_int (nOf rfl) rfl) rfl fun _ => notE (isi_bool (nOf rfl) rfl) rfl))
/-- a def of one argument that changes nothing, called -/
theorem call1 {fn : Fn} (hio : fn.io = []) (har : fn.ar = 1) {f : Sl → Res Rv} {env env1 : Sl} {d : D} {r : M} {m : M} (hf : f env = .ok (.inr m) env1) (hm : freeze m = d) (hrun : fn.run [.d d] = some (.inr r, [])) : evCall fn [f] env = .ok (.inr r) env1 := by
  simp only [evCall, evs, hf, Res.bind, argsOf, argOf, hio]
  simp [hm, hrun, har, putBack]
theorem call1s {fn : Fn} (hio : fn.io = []) (har : fn.ar = 1) {env : Sl} {d : D} {r : M} {j : Nat} (hj : (env[j]?).join = some (.d d)) (hrun : fn.run [.d d] = some (.inr r, [])) : evCall fn [evN j] env = .ok (.inr r) env := by
  simp only [evCall, evs, evN, hj, Res.bind, argsOf, argOf, hio]
  simp [hrun, har, putBack]
theorem isC_of (i : Int) : isC (.int i) = decide (0 ≤ i) := rfl
theorem is_count_run (d : D) : fn_is_count.run [.d d] = some (.inr (.d (.bool (isC d))), []) := by
  have e : (isI d && isC d) = isC d := by cases d <;> simp [isI, isC]
  rw [← e]
  refine run1 (ret_of (andE (call1s rfl rfl rfl (is_integer_run d)) rfl fun h => ?_))
  obtain ⟨i, rfl⟩ := isI_inv h
  exact op2 (nOf rfl) rfl rfl rfl rfl
theorem l_is_number_run (d : D) : fn_l_is_number.run [.d d] = some (.inr (.d (.bool (isC d))), []) := by
  have e : ((isT "int" d || isT "bool" d) && (!isT "bool" d && isC d)) = isC d := by cases d <;> simp [isT, tyName, isC]
  rw [← e]
  refine run1 (ret_of (andE (isi_int (nOf rfl) rfl) rfl fun h1 => andE (notE (isi_bool (nOf rfl) rfl) rfl) rfl fun h2 => ?_))
  obtain ⟨i, rfl⟩ : ∃ i, d = .int i := by
    cases d <;> simp [isT, tyName] at h1 h2 ⊢
  exact op2 (nOf rfl) rfl rfl rfl rfl
end k02
end Yf
namespace Yf
namespace k02
open PySem PySem.Spec L2
/-- a comprehension whose parts are known item by item -/
theorem lc_map {own : List Nat} {g : D → Sl → Option Sl} {f : Sl → Res Rv} {env : Sl} (e1 : D → Sl) (h : D → D) : ∀ (ds acc : List D), (∀ d ∈ ds, g d env = some (e1 d) ∧ evV f (e1 d) = .ok (.inr (.d (h d))) (e1 d) ∧ wipeE (e1 d) own = env) → acc.length + ds.length ≤ 1000 →
    lcGo own g none f ds acc env = .ok (acc ++ ds.map h) env
  | [], acc, _, _ => by simp [lcGo]
  | d :: ds, acc, H, hl => by
    obtain ⟨a, b, c⟩ := H d (by simp)
    simp only [List.length_cons] at hl
    have ih := lc_map (own := own) (g := g) (f := f) (env := env) e1 h ds (acc ++ [h d]) (fun x hx => H x (by simp [hx])) (by simp only [List.length_append, List.length_cons, List.length_nil]; omega)
    simp only [lcGo, a, b, freeze]
    rw [if_pos (by rw [sizeLine_eq]; omega), c, ih]
    simp
theorem lc_filter {own : List Nat} {g : D → Sl → Option Sl} {c f : Sl → Res Rv} {env : Sl} (e1 : D → Sl) (b : D → Bool) (h : D → D) : ∀ (ds acc : List D), (∀ d ∈ ds, g d env = some (e1 d) ∧ c (e1 d) = .ok (.inr (.d (.bool (b d)))) (e1 d) ∧ evV f (e1 d) = .ok (.inr (.d (h d))) (e1 d) ∧ wipeE (e1 d) own = env) → acc.length + ds.length ≤ 1000 →
    lcGo own g (some c) f ds acc env = .ok (acc ++ (ds.filter b).map h) env
  | [], acc, _, _ => by simp [lcGo]
  | d :: ds, acc, H, hl => by
    obtain ⟨a, t, v, z⟩ := H d (by simp)
    simp only [List.length_cons] at hl
    cases hb : b d with
    | false =>
      have ih := lc_filter (own := own) (g := g) (c := c) (f := f) (env := env) e1 b h ds acc (fun x hx => H x (by simp [hx])) (by omega)
      rw [hb] at t
      simp only [lcGo, a, t, Res.bind, boolOf, getO]
      rw [z, ih, List.filter_cons, hb]
      simp
    | true =>
      have ih := lc_filter (own := own) (g := g) (c := c) (f := f) (env := env) e1 b h ds (acc ++ [h d]) (fun x hx => H x (by simp [hx])) (by simp only [List.length_append, List.length_cons, List.length_nil]; omega)
      rw [hb] at t
      simp only [lcGo, a, t, Res.bind, boolOf, getO, v, freeze]
      rw [if_pos (by rw [sizeLine_eq]; omega), z, ih, List.filter_cons, hb]
      simp
theorem lcE {own : List Nat} {fi : Sl → Res (List M × List D)} {g : D → Sl → Option Sl} {t : Option (Sl → Res Rv)} {f : Sl → Res Rv} {env : Sl} {ms : List M} {ds acc : List D} {sv : List (Option D)} (h1 : fi env = .ok (ms, ds) env) (h2 : saveE env own = some sv) (h3 : wipeE env own = env) (h4 : lcGo own g t f ds [] env = .ok acc env) (h5 : restE env own sv = env) :
    evLc own fi g t f env = .ok (.inr (.lst acc)) env := by
  simp only [evLc, h1, h2, h3, h4, h5]
theorem cut1 (ds : List D) : cutD ds (some 1) none = ds.drop 1 := by
  unfold cutD
  have e : HT.sIx ds.length 0 (some 1) = min 1 ds.length := HT.sIx_nat ds.length 0 1
  have e0 : HT.sIx ds.length ds.length none = ds.length := HT.sIx_none _ _
  rw [e, e0]
  cases ds with
  | nil => rfl
  | cons d r =>
    rw [show min 1 (d :: r).length = 1 by simp only [List.length_cons]; omega]
    exact List.take_of_length_le (by simp)
/-- each is below the next -/
def rise (ns : List Int) : Bool := (ns.zip (ns.drop 1)).all fun p => decide (p.1 < p.2)
theorem zip_ints (ns : List Int) : zipD (ns.map .int) ((ns.map (.int : Int → D)).drop 1) = (ns.zip (ns.drop 1)).map fun p => .tuple [.int p.1, .int p.2] := by
  rw [zipD, ← List.map_drop, List.zip_map, List.map_map]
  rfl
theorem all_of (bs : List Bool) : gAll [.lst (bs.map .bool)] = some (.d (.bool (bs.all id))) := by
  have : ∀ bs : List Bool, boolsOf (bs.map .bool) = some bs := fun bs => by
    induction bs with
    | nil => rfl
    | cons b bs ih => simp only [List.map_cons, boolsOf, ih, Option.map_some]
  simp only [gAll, listOf, Option.bind_some, this, Option.map_some]
theorem is_rising_run {d : D} {ns : List Int} (h : Sq d (ns.map .int)) (l : ns.length ≤ 500) : fn_is_rising.run [.d d] = some (.inr (.d (.bool (rise ns))), []) := by
  have z : fZip (evN 0) (evOp gSl10 [(evN 0), evI (evC (.int 1))]) [some (.d d), none, none] = .ok ([.d d, .d (match d with | .list _ => .list ((ns.map (.int : Int → D)).drop 1) | _ => .tuple ((ns.map (.int : Int → D)).drop 1))], zipD (ns.map .int) ((ns.map (.int : Int → D)).drop 1)) [some (.d d), none, none] := by
    rcases h with rfl | rfl
    · have e : evDs [evN 0, evOp gSl10 [(evN 0), evI (evC (.int 1))]] [some (.d (.list (ns.map .int))), none, none] = .ok [.list (ns.map .int), .list (cutD (ns.map .int) (some 1) none)] [some (.d (.list (ns.map .int))), none, none] := rfl
      simp only [fZip, e, Res.bind, cut1]
    · have e : evDs [evN 0, evOp gSl10 [(evN 0), evI (evC (.int 1))]] [some (.d (.tuple (ns.map .int))), none, none] = .ok [.tuple (ns.map .int), .tuple (cutD (ns.map .int) (some 1) none)] [some (.d (.tuple (ns.map .int))), none, none] := rfl
      simp only [fZip, e, Res.bind, cut1]
  have g := lc_map (own := [1, 2]) (g := gTupN [1, 2]) (f := evOp gLt [(evN 1), (evN 2)]) (env := [some (.d d), none, none])
    (fun p => match p with | .tuple [.int a, .int b] => [some (.d d), some (.d (.int a)), some (.d (.int b))] | _ => []) (fun p => match p with | .tuple [.int a, .int b] => .bool (decide (a < b)) | _ => .none)
    (zipD (ns.map .int) ((ns.map (.int : Int → D)).drop 1)) [] (fun p hp => by
      rw [zip_ints] at hp
      obtain ⟨⟨a, b⟩, _, rfl⟩ := List.mem_map.mp hp
      exact ⟨rfl, vOf (op2 (nOf rfl) (nOf rfl) rfl rfl rfl), rfl⟩) (by rw [zip_ints]; simp; omega)
  have e : evLc [1, 2] (fZip (evN 0) (evOp gSl10 [(evN 0), evI (evC (.int 1))])) (gTupN [1, 2]) none (evOp gLt [(evN 1), (evN 2)]) [some (.d d), none, none] = .ok (.inr (.lst (((ns.zip (ns.drop 1)).map fun p => decide (p.1 < p.2)).map .bool))) [some (.d d), none, none] := by
    refine lcE z rfl rfl (by rw [g]; rw [zip_ints, List.map_map, List.map_map]; rfl) rfl
  have r := op1 (gg := gAll) e rfl (all_of _)
  have er : rise ns = (((ns.zip (ns.drop 1)).map fun p => decide (p.1 < p.2)).all id) := by
    rw [List.all_map]; rfl
  rw [er]
  exact run1 (ret_of r)
end k02
end Yf
namespace Yf
namespace k02
open PySem PySem.Spec L2
def toI : D → Int
  | .int i => i
  | _ => 0
theorem counts_ints : ∀ {ds : List D}, ds.all isC = true → ds = (ds.map toI).map .int
  | [], _ => rfl
  | d :: ds, h => by
    simp only [List.all_cons, Bool.and_eq_true] at h
    have ih := counts_ints h.2
    obtain ⟨i, rfl⟩ : ∃ i, d = .int i := by
      have := h.1
      cases d <;> simp [isC] at this ⊢
    simp only [List.map_cons, toI]
    rw [← ih]
/-- transactions -/
def trB : D → Bool
  | .tuple ds => ds.all isC && rise (ds.map toI)
  | _ => false
theorem trB_of {d : D} (h : isT "tuple" d = false) : trB d = false := by
  cases d <;> simp [isT, tyName, trB] at h ⊢
theorem seqN {i : Nat} {env : Sl} {d : D} {is : List D} (h : (env[i]?).join = some (.d d)) (he : env.set i (some (.d d)) = env) (e : itemsOf d = some is) : fSeq (evN i) env = .ok ([.d d], is) env := by
  have a : evDs [evN i] env = .ok [d] env := by
    simp [evDs, evs, evV, evN, h, Res.bind, valOf, getOs, getO, freeze, he]
  simp only [fSeq, a, Res.bind, e]
theorem are_transactions_run {d : D} (h : ∀ ds, d = .tuple ds → ds.length ≤ 500) : fn_are_transactions.run [.d d] = some (.inr (.d (.bool (trB d))), []) := by
  cases ht : isT "tuple" d with
  | false =>
    rw [trB_of ht]
    have i0 : evIsi "tuple" (evN 0) [some (.d d), none] = .ok (.inr (.d (.bool (isT "tuple" d)))) [some (.d d), none] := isi_tup (nOf rfl) rfl
    have := andE (fb := evAnd (evOp gAll [(evLc [1] (fSeq (evN 0)) (gName1 1) none (evCall fn_is_count [(evN 1)]))]) (evCall fn_is_rising [(evN 0)])) (env := [some (.d d), none]) (b := false) i0 rfl (fun z => absurd (ht.symm.trans z) (by decide))
    rw [ht] at this
    exact run1 (ret_of this)
  | true =>
    obtain ⟨ds, rfl⟩ := ty_tup ht
    have hl := h ds rfl
    have g := lc_map (own := [1]) (g := gName1 1) (f := evCall fn_is_count [(evN 1)]) (env := [some (.d (.tuple ds)), none]) (fun x => [some (.d (.tuple ds)), some (.d x)]) (fun x => .bool (isC x)) ds [] (fun x _ => ⟨rfl, vOf (call1s rfl rfl rfl (is_count_run x)), rfl⟩) (by simp; omega)
    have e : evLc [1] (fSeq (evN 0)) (gName1 1) none (evCall fn_is_count [(evN 1)]) [some (.d (.tuple ds)), none] = .ok (.inr (.lst ((ds.map isC).map .bool))) [some (.d (.tuple ds)), none] := lcE (seqN rfl rfl rfl) rfl rfl (by rw [g]; simp) rfl
    have a := op1 (gg := gAll) e rfl (all_of _)
    have er : trB (.tuple ds) = (isT "tuple" (.tuple ds) && ((ds.map isC).all id && rise (ds.map toI))) := by
      simp [trB, isT, tyName, List.all_map]
    rw [er]
    refine run1 (ret_of (andE (isi_tup (nOf rfl) rfl) rfl fun _ => andE a rfl fun hc => ?_))
    have hc' : ds.all isC = true := by simpa [List.all_map] using hc
    have ed := counts_ints hc'
    exact call1s rfl rfl rfl (is_rising_run (ns := ds.map toI) (.inr (by rw [← ed])) (by simp; omega))
theorem run3 {n : Nat} {s : Sl → SRes} {a b c r : M} {env : Sl} (h : s (bodyEnv n [a, b, c]) = .rt r env) : (mkFn [] 3 n s).run [a, b, c] = some (.inr r, []) := by
  simp only [mkFn, mkRun, h, collect, List.range, List.range.loop, iosOf]
  simp
theorem eqS {a b : Str} (ha : PyData.strOk a = true) (hb : PyData.strOk b = true) : gEq [.d (.str a), .d (.str b)] = some (.d (.bool (a == b))) := by
  simp [gEq, eqD, SeqAt.shaped, PyData.canLay0, PyData.depth, PyData.eqv, freeze, ha, hb]
theorem eqI (a b : Int) : gEq [.d (.int a), .d (.int b)] = some (.d (.bool (a == b))) := rfl
/-- a paper: a tuple of so many, this word ahead -/
def pap (d : D) (w : Str) (k : Nat) : Bool :=
  match d with
  | .tuple (.str z :: r) => (r.length + 1 == k) && (z == w)
  | _ => false
theorem ix0 (x : D) (r : List D) : gIx [.d (.tuple (x :: r)), .d (.int 0)] = some (.d x) := by
  have e := atI_nat (xs := x :: r) (j := 0) (v := x) rfl
  simp only [gIx, listOf, tupOf]
  show (atI (x :: r) ((0 : Nat) : Int)).map M.d = _
  rw [e]; rfl
theorem ixk {ds : List D} {k : Nat} {x : D} (h : ds[k]? = some x) : gIx [.d (.tuple ds), .d (.int k)] = some (.d x) := by
  have e := atI_nat (xs := ds) (j := k) (v := x) h
  simp only [gIx, listOf, tupOf]
  rw [e]; rfl
theorem is_paper_run (d : D) {w : Str} {k : Nat} (hk : 0 < k) (hw : PyData.strOk w = true) (hz : ∀ z r, d = .tuple (.str z :: r) → PyData.strOk z = true) : fn_is_paper.run [.d d, .d (.str w), .d (.int k)] = some (.inr (.d (.bool (pap d w k))), []) := by
  have i0 : evIsi "tuple" (evN 0) [some (.d d), some (.d (.str w)), some (.d (.int k))] = .ok (.inr (.d (.bool (isT "tuple" d)))) [some (.d d), some (.d (.str w)), some (.d (.int k))] := isi_tup (nOf rfl) rfl
  cases ht : isT "tuple" d with
  | false =>
    have e : pap d w k = false := by cases d <;> simp [isT, tyName, pap] at ht ⊢
    rw [e]
    have := andE (fb := evAnd (evOp gEq [(evOp gLen [(evN 0)]), (evN 2)]) (evAnd (evIsi "str" (evOp gIx [(evN 0), (evC (.int 0))])) (evOp gEq [(evOp gIx [(evN 0), (evC (.int 0))]), (evN 1)]))) (b := false) i0 rfl (fun z => absurd (ht.symm.trans z) (by decide))
    rw [ht] at this
    exact run3 (ret_of this)
  | true =>
    obtain ⟨ds, rfl⟩ := ty_tup ht
    have l0 : evOp gEq [(evOp gLen [(evN 0)]), (evN 2)] [some (.d (.tuple ds)), some (.d (.str w)), some (.d (.int k))] = .ok (.inr (.d (.bool ((ds.length : Int) == (k : Int))))) [some (.d (.tuple ds)), some (.d (.str w)), some (.d (.int k))] := op2 (op1 (nOf rfl) rfl rfl) (nOf rfl) rfl rfl rfl
    cases ds with
    | nil =>
      have e : pap (.tuple []) w k = (isT "tuple" (.tuple []) && ((([] : List D).length : Int) == (k : Int) && false)) := by simp [pap]
      rw [e]
      refine run3 (ret_of (andE i0 rfl fun _ => andE l0 rfl fun z => ?_))
      simp at z
      omega
    | cons x r =>
      have x0 : evOp gIx [(evN 0), (evC (.int 0))] [some (.d (.tuple (x :: r))), some (.d (.str w)), some (.d (.int k))] = .ok (.inr (.d x)) [some (.d (.tuple (x :: r))), some (.d (.str w)), some (.d (.int k))] := op2 (nOf rfl) rfl rfl rfl (ix0 x r)
      have e : pap (.tuple (x :: r)) w k = (isT "tuple" (.tuple (x :: r)) && ((((x :: r).length : Int) == (k : Int)) && (isT "str" x && (match x with | .str z => z == w | _ => false)))) := by
        have c : (((r.length + 1 : Nat) : Int) == (k : Int)) = (r.length + 1 == k) := by
          rw [Bool.eq_iff_iff]
          simp only [beq_iff_eq]
          omega
        cases x <;> simp only [pap, isT, tyName, List.length_cons, c] <;> simp
      rw [e]
      refine run3 (ret_of (andE i0 rfl fun _ => andE l0 rfl fun _ => andE (isi_str x0 rfl) rfl fun z => ?_))
      obtain ⟨y, rfl⟩ := ty_str z
      exact op2 x0 (nOf rfl) rfl rfl (eqS (hz y r rfl) hw)
end k02
end Yf
namespace Yf
namespace k02
open PySem PySem.Spec L2
theorem seq_rt {s u : Sl → SRes} {env env1 : Sl} {m : M} (h : s env = .rt m env1) : sSeq s u env = .rt m env1 := by simp only [sSeq, h]
theorem call3 {fn : Fn} (hio : fn.io = []) (har : fn.ar = 3) {env : Sl} {d a b : D} {r : M} (hj : (env[0]?).join = some (.d d)) (hrun : fn.run [.d d, .d a, .d b] = some (.inr r, [])) : evCall fn [evN 0, evC a, evC b] env = .ok (.inr r) env := by
  simp only [evCall, evs, evN, evC, hj, Res.bind, argsOf, argOf, hio]
  simp [hrun, har, putBack, freeze]
theorem shaped_ints (ns : List Int) : SeqAt.shaped (.list (ns.map .int)) = true := by
  have a : ∀ ns : List Int, PyData.canLayAll0 (ns.map .int) = true := fun ns => by
    induction ns with
    | nil => rfl
    | cons n ns ih => simp [PyData.canLayAll0, PyData.canLay0, ih]
  have b := PySem.W.depth_ints ns
  simp [SeqAt.shaped, PyData.canLay0, PyData.depth, a, b]
theorem nin_ints (i : Int) (ns : List Int) : gNin [.d (.int i), .d (.tuple (ns.map .int))] = some (.d (.bool (!(ns.any fun n => n == i)))) := by
  have s1 : SeqAt.shaped (.int i) = true := rfl
  have s2 := shaped_ints ns
  have e : ((ns.map (.int : Int → D)).any fun z => PyData.eqv z (.int i)) = ns.any fun n => n == i := by
    rw [List.any_map]
    rfl
  have c : (SeqAt.shaped (freeze (.d (.int i))) && SeqAt.shaped (.list (ns.map .int))) = true := by
    show (SeqAt.shaped (.int i) && SeqAt.shaped (.list (ns.map .int))) = true
    simp only [s1, s2, Bool.and_self]
  have b : gInB [.d (.int i), .d (.tuple (ns.map .int))] = some (ns.any fun n => n == i) := by
    simp only [gInB, listOf, tupOf]
    rw [if_pos c]
    exact congrArg some e
  simp only [gNin, b, Option.map_some]
theorem trB_tup {us : D} (h : trB us = true) : ∃ ds, us = .tuple ds := by
  cases us <;> simp [trB] at h ⊢
def outB (us : D) (i : Int) : Bool :=
  match us with
  | .tuple ds => !((ds.map toI).any fun n => n == i)
  | _ => false
/-- a fact -/
def factB (d : D) : Bool :=
  match d with
  | .tuple [.str z, t] => (z == "dropped") && isC t
  | .tuple [.str z, t, us] => (z == "firm") && isC t && (trB us && outB us (toI t))
  | _ => false
def TxOk (d : D) : Prop := ∀ z r, d = .tuple (.str z :: r) → PyData.strOk z = true
theorem is_fact_value_run {d : D} (ho : TxOk d) (hs : ∀ x y us, d = .tuple [x, y, .tuple us] → us.length ≤ 500) : fn_is_fact_value.run [.d d] = some (.inr (.d (.bool (factB d))), []) := by
  have p1 := call3 (fn := fn_is_paper) rfl rfl (env := [some (.d d)]) rfl (is_paper_run d (w := "dropped") (k := 2) (by decide) (by decide +kernel) ho)
  have p2 := call3 (fn := fn_is_paper) rfl rfl (env := [some (.d d)]) rfl (is_paper_run d (w := "firm") (k := 3) (by decide) (by decide +kernel) ho)
  cases h1 : pap d "dropped" 2 with
  | true =>
    rw [h1] at p1
    obtain ⟨z, t, rfl, hz⟩ : ∃ z t, d = .tuple [.str z, t] ∧ (z == "dropped") = true := by
      unfold pap at h1
      split at h1
      · rename_i z r
        simp only [Bool.and_eq_true, beq_iff_eq] at h1
        match r, h1.1 with
        | [t], _ => exact ⟨z, t, rfl, by simpa using h1.2⟩
      · cases h1
    have e : factB (.tuple [.str z, t]) = isC t := by simp only [factB, hz, Bool.true_and]
    rw [e]
    have x1 : evOp gIx [(evN 0), (evC (.int 1))] [some (.d (.tuple [.str z, t]))] = .ok (.inr (.d t)) [some (.d (.tuple [.str z, t]))] := op2 (nOf rfl) rfl rfl rfl (ixk (k := 1) rfl)
    exact run1 (seq_rt (if_of p1 rfl (ret_of (call1 rfl rfl x1 rfl (is_count_run t)))))
  | false =>
    rw [h1] at p1
    have s1 : sIf (evCall fn_is_paper [(evN 0), (evC (.str "dropped")), (evC (.int 2))]) (sRet [] (evCall fn_is_count [(evOp gIx [(evN 0), (evC (.int 1))])])) sNil [some (.d d)] = .nx [some (.d d)] := if_of p1 rfl rfl
    cases h2 : pap d "firm" 3 with
    | false =>
      rw [h2] at p2
      have e : factB d = false := by
        unfold factB
        split
        · rename_i z t
          simp only [pap, List.length_cons, List.length_nil] at h1
          simp at h1
          simp [h1]
        · rename_i z t us
          simp only [pap, List.length_cons, List.length_nil] at h2
          simp at h2
          simp [h2]
        · rfl
      rw [e]
      have o1 : evOr (evNot (evCall fn_is_paper [(evN 0), (evC (.str "firm")), (evC (.int 3))])) (evNot (evCall fn_is_count [(evOp gIx [(evN 0), (evC (.int 1))])])) [some (.d d)] = .ok (.inr (.d (.bool (true || true)))) [some (.d d)] := orE (notE p2 rfl) rfl fun z => by cases z
      exact run1 (seq_of s1 (seq_rt (if_of o1 rfl rfl)))
    | true =>
      rw [h2] at p2
      obtain ⟨z, t, us, rfl, hz⟩ : ∃ z t us, d = .tuple [.str z, t, us] ∧ (z == "firm") = true := by
        unfold pap at h2
        split at h2
        · rename_i z r
          simp only [Bool.and_eq_true, beq_iff_eq] at h2
          match r, h2.1 with
          | [t, us], _ => exact ⟨z, t, us, rfl, by simpa using h2.2⟩
        · cases h2
      have x1 : evOp gIx [(evN 0), (evC (.int 1))] [some (.d (.tuple [.str z, t, us]))] = .ok (.inr (.d t)) [some (.d (.tuple [.str z, t, us]))] := op2 (nOf rfl) rfl rfl rfl (ixk (k := 1) rfl)
      have x2 : evOp gIx [(evN 0), (evC (.int 2))] [some (.d (.tuple [.str z, t, us]))] = .ok (.inr (.d us)) [some (.d (.tuple [.str z, t, us]))] := op2 (nOf rfl) rfl rfl rfl (ixk (k := 2) rfl)
      have c1 := call1 (fn := fn_is_count) rfl rfl x1 rfl (is_count_run t)
      have o1 : evOr (evNot (evCall fn_is_paper [(evN 0), (evC (.str "firm")), (evC (.int 3))])) (evNot (evCall fn_is_count [(evOp gIx [(evN 0), (evC (.int 1))])])) [some (.d (.tuple [.str z, t, us]))] = .ok (.inr (.d (.bool (false || !isC t)))) [some (.d (.tuple [.str z, t, us]))] := orE (notE p2 rfl) rfl fun _ => notE c1 rfl
      cases hc : isC t with
      | false =>
        rw [hc] at o1
        have e : factB (.tuple [.str z, t, us]) = false := by simp only [factB, hz, hc, Bool.and_false, Bool.false_and]
        rw [e]
        exact run1 (seq_of s1 (seq_rt (if_of o1 rfl rfl)))
      | true =>
        rw [hc] at o1
        obtain ⟨i, rfl⟩ : ∃ i, t = .int i := by cases t <;> simp [isC] at hc ⊢
        have e : factB (.tuple [.str z, .int i, us]) = (trB us && outB us i) := by simp only [factB, hz, hc, Bool.true_and, toI]
        rw [e]
        have tr := call1 (fn := fn_are_transactions) rfl rfl x2 rfl (are_transactions_run (d := us) fun ds h => hs _ _ ds (by rw [h]))
        refine run1 (seq_of s1 (seq_of (if_of o1 rfl rfl) (ret_of (andE tr rfl fun ht => ?_))))
        obtain ⟨ds, rfl⟩ := trB_tup ht
        simp only [trB, Bool.and_eq_true] at ht
        have ed := counts_ints ht.1
        have q : gNin [.d (.int i), .d (.tuple ds)] = some (.d (.bool (outB (.tuple ds) i))) := by
          have z := nin_ints i (ds.map toI)
          rw [← ed] at z
          exact z
        exact op2 x1 x2 rfl rfl q
end k02
end Yf
namespace Yf
namespace k02
open PySem PySem.Spec L2
def Good (d : D) : Prop := TxOk d ∧ ∀ x y us, d = .tuple [x, y, .tuple us] → us.length ≤ 500
theorem Sh.kids {B : Nat} {ds : List D} (h : Sh B (.tuple ds)) : ds.length ≤ B ∧ ∀ d ∈ ds, Sh B d := by
  cases h with
  | tup _ l t => exact ⟨l, t⟩
  | oth _ h _ => exact absurd rfl (h ds)
theorem Sh.txt {B : Nat} {s : Str} (h : Sh B (.str s)) : PyData.strOk s = true := by
  cases h with
  | oth _ _ o => exact o s rfl
theorem Sh.good {B : Nat} {d : D} (h : Sh B d) (hB : B ≤ 500) : Good d := by
  refine ⟨fun z r e => ?_, fun x y us e => ?_⟩
  · subst e
    exact (h.kids.2 (.str z) (by simp)).txt
  · subst e
    exact Nat.le_trans (h.kids.2 (.tuple us) (by simp)).kids.1 hB
theorem is_fact_run {d : D} (h : Good d) : fn_is_fact.run [.d d] = some (.inr (.d (.bool (factB d))), []) :=
  run1 (ret_of (call1s rfl rfl rfl (is_fact_value_run h.1 h.2)))
def at1 : D → Int
  | .tuple (_ :: .int i :: _) => i
  | _ => 0
theorem fact_at1 {d : D} (h : factB d = true) : ∃ x i r, d = .tuple (x :: .int i :: r) ∧ at1 d = i := by
  unfold factB at h
  split at h
  · rename_i z t
    simp only [Bool.and_eq_true] at h
    obtain ⟨i, rfl⟩ : ∃ i, t = .int i := by
      have := h.2
      cases t <;> simp [isC] at this ⊢
    exact ⟨_, i, _, rfl, rfl⟩
  · rename_i z t us
    simp only [Bool.and_eq_true] at h
    obtain ⟨i, rfl⟩ : ∃ i, t = .int i := by
      have := h.1.2
      cases t <;> simp [isC] at this ⊢
    exact ⟨_, i, _, rfl, rfl⟩
  · cases h
/-- facts -/
def factsB : D → Bool
  | .tuple ds => ds.all factB && rise (ds.map at1)
  | _ => false
theorem are_facts_value_run {d : D} (h : ∀ ds, d = .tuple ds → ds.length ≤ 400 ∧ ∀ x ∈ ds, Good x) : fn_are_facts_value.run [.d d] = some (.inr (.d (.bool (factsB d))), []) := by
  have i0 : evIsi "tuple" (evN 0) [some (.d d), none] = .ok (.inr (.d (.bool (isT "tuple" d)))) [some (.d d), none] := isi_tup (nOf rfl) rfl
  cases ht : isT "tuple" d with
  | false =>
    have e : factsB d = false := by cases d <;> simp [isT, tyName, factsB] at ht ⊢
    rw [e]
    rw [ht] at i0
    have o1 : evOr (evNot (evIsi "tuple" (evN 0))) (evNot (evOp gAll [(evLc [1] (fSeq (evN 0)) (gName1 1) none (evCall fn_is_fact_value [(evN 1)]))])) [some (.d d), none] = .ok (.inr (.d (.bool (true || true)))) [some (.d d), none] := orE (notE i0 rfl) rfl fun z => by cases z
    exact run1 (seq_rt (if_of o1 rfl rfl))
  | true =>
    obtain ⟨ds, rfl⟩ := ty_tup ht
    obtain ⟨hl, hg⟩ := h ds rfl
    rw [ht] at i0
    have g := lc_map (own := [1]) (g := gName1 1) (f := evCall fn_is_fact_value [(evN 1)]) (env := [some (.d (.tuple ds)), none]) (fun x => [some (.d (.tuple ds)), some (.d x)]) (fun x => .bool (factB x)) ds [] (fun x hx => ⟨rfl, vOf (call1s rfl rfl rfl (is_fact_value_run (hg x hx).1 (hg x hx).2)), rfl⟩) (by simp; omega)
    have e : evLc [1] (fSeq (evN 0)) (gName1 1) none (evCall fn_is_fact_value [(evN 1)]) [some (.d (.tuple ds)), none] = .ok (.inr (.lst ((ds.map factB).map .bool))) [some (.d (.tuple ds)), none] := lcE (seqN rfl rfl rfl) rfl rfl (by rw [g]; simp) rfl
    have a := op1 (gg := gAll) e rfl (all_of _)
    have ea : (ds.map factB).all id = ds.all factB := by simp [List.all_map]
    rw [ea] at a
    have o1 : evOr (evNot (evIsi "tuple" (evN 0))) (evNot (evOp gAll [(evLc [1] (fSeq (evN 0)) (gName1 1) none (evCall fn_is_fact_value [(evN 1)]))])) [some (.d (.tuple ds)), none] = .ok (.inr (.d (.bool (false || !(ds.all factB))))) [some (.d (.tuple ds)), none] := orE (notE i0 rfl) rfl fun _ => notE a rfl
    cases hf : ds.all factB with
    | false =>
      rw [hf] at o1
      have e : factsB (.tuple ds) = false := by simp only [factsB, hf, Bool.false_and]
      rw [e]
      exact run1 (seq_rt (if_of o1 rfl rfl))
    | true =>
      rw [hf] at o1
      have e2 : factsB (.tuple ds) = rise (ds.map at1) := by simp only [factsB, hf, Bool.true_and]
      rw [e2]
      have g2 := lc_map (own := [1]) (g := gName1 1) (f := evOp gIx [(evN 1), (evC (.int 1))]) (env := [some (.d (.tuple ds)), none]) (fun x => [some (.d (.tuple ds)), some (.d x)]) (fun x => .int (at1 x)) ds [] (fun x hx => by
        obtain ⟨y, i, r, rfl, ei⟩ := fact_at1 (List.all_eq_true.mp hf x hx)
        rw [ei]
        exact ⟨rfl, vOf (op2 (nOf rfl) rfl rfl rfl (ixk (k := 1) rfl)), rfl⟩) (by simp; omega)
      have e3 : evLc [1] (fSeq (evN 0)) (gName1 1) none (evOp gIx [(evN 1), (evC (.int 1))]) [some (.d (.tuple ds)), none] = .ok (.inr (.lst ((ds.map at1).map .int))) [some (.d (.tuple ds)), none] := lcE (seqN rfl rfl rfl) rfl rfl (by rw [g2]; simp) rfl
      exact run1 (seq_of (if_of o1 rfl rfl) (ret_of (call1 rfl rfl e3 rfl (is_rising_run (ns := ds.map at1) (.inl rfl) (by simp; omega)))))
theorem are_facts_run {d : D} (h : ∀ ds, d = .tuple ds → ds.length ≤ 400 ∧ ∀ x ∈ ds, Good x) : fn_are_facts.run [.d d] = some (.inr (.d (.bool (factsB d))), []) :=
  run1 (ret_of (call1s rfl rfl rfl (are_facts_value_run h)))
end k02
end Yf
namespace Yf
namespace k02
open PySem PySem.Spec L2
/-! strictly ascending lists -/
theorem rise_cons (a b : Int) (r : List Int) : rise (a :: b :: r) = (decide (a < b) && rise (b :: r)) := rfl
theorem rise_lt : ∀ {ns : List Int}, rise ns = true → ns.Pairwise (· < ·)
  | [], _ => .nil
  | [a], _ => by simp
  | a :: b :: r, h => by
    rw [rise_cons, Bool.and_eq_true, decide_eq_true_eq] at h
    have ih := rise_lt h.2
    rw [List.pairwise_cons]
    refine ⟨fun x hx => ?_, ih⟩
    rcases List.mem_cons.mp hx with e | e
    · rw [e]; exact h.1
    · have := (List.pairwise_cons.mp ih).1 x e
      omega
theorem lt_rise : ∀ {ns : List Int}, ns.Pairwise (· < ·) → rise ns = true
  | [], _ => rfl
  | [a], _ => rfl
  | a :: b :: r, h => by
    rw [List.pairwise_cons] at h
    rw [rise_cons, lt_rise h.2, decide_eq_true (h.1 b (by simp))]
    rfl
theorem rise_sortU (ns : List Int) : decide (ns = sortU ns) = rise ns := by
  by_cases h : rise ns = true
  · rw [h, decide_eq_true]
    exact strict_one (rise_lt h) (sortU_lt ns) fun z => sortU_mem.symm
  · rw [Bool.not_eq_true] at h
    rw [h, decide_eq_false]
    intro e
    have := lt_rise (sortU_lt ns)
    rw [← e, h] at this
    cases this
theorem eqvAll_ints : ∀ (as bs : List Int), PyData.eqvAll (as.map .int) (bs.map .int) = decide (as = bs)
  | [], [] => by simp [PyData.eqvAll]
  | [], _ :: _ => by simp [PyData.eqvAll]
  | _ :: _, [] => by simp [PyData.eqvAll]
  | a :: as, b :: bs => by
    simp only [List.map_cons, PyData.eqvAll, PyData.eqv, eqvAll_ints as bs, List.cons.injEq]
    by_cases h : a = b <;> by_cases g : as = bs <;> simp [h, g]
theorem eq_lists (as bs : List Int) : gEq [.lst (as.map .int), .lst (bs.map .int)] = some (.d (.bool (decide (as = bs)))) := by
  have c : (SeqAt.shaped (freeze (.lst (as.map .int))) && SeqAt.shaped (freeze (.lst (bs.map .int)))) = true := by
    show (SeqAt.shaped (.list (as.map .int)) && SeqAt.shaped (.list (bs.map .int))) = true
    simp only [shaped_ints, Bool.and_self]
  have e : eqD (.lst (as.map .int)) (.lst (bs.map .int)) = some (decide (as = bs)) := by
    unfold eqD
    rw [if_pos c]
    show some (PyData.eqv (.list (as.map .int)) (.list (bs.map .int))) = _
    rw [← eqvAll_ints]
    simp [PyData.eqv]
  simp only [gEq, e, Option.map_some]
end k02
end Yf
namespace Yf
namespace k02
open PySem PySem.Spec L2
theorem nin23 (n : Int) : gNin [.d (.int n), .d (.tuple [.int 2, .int 3])] = some (.d (.bool (!(n == 2 || n == 3)))) := by
  have z := nin_ints n [2, 3]
  have e : (([2, 3] : List Int).any fun k => k == n) = (n == 2 || n == 3) := by
    simp only [List.any_cons, List.any_nil, Bool.or_false]
    rw [Bool.eq_iff_iff]
    simp only [Bool.or_eq_true, beq_iff_eq]
    omega
  rw [e] at z
  exact z
abbrev testA : Sl → Res Rv := (evOr (evNot (evIsi "tuple" (evN 0))) (evOr (evOp gNin [(evOp gLen [(evN 0)]), (evTup [(evV (evC (.int 2))), (evV (evC (.int 3)))])]) (evOr (evNot (evIsi "str" (evOp gIx [(evN 0), (evC (.int 0))]))) (evNot (evCall fn_l_is_number [(evOp gIx [(evN 0), (evC (.int 1))])])))))
/-- the first test: is it refused at once -/
def refA (d : D) : Bool :=
  match d with
  | .tuple (x :: t :: r) => !(r.length == 0 || r.length == 1) || !isT "str" x || !isC t
  | _ => true
theorem testA_run (d : D) : testA [some (.d d), none] = .ok (.inr (.d (.bool (refA d)))) [some (.d d), none] := by
  have i0 : evIsi "tuple" (evN 0) [some (.d d), none] = .ok (.inr (.d (.bool (isT "tuple" d)))) [some (.d d), none] := isi_tup (nOf rfl) rfl
  cases ht : isT "tuple" d with
  | false =>
    have e : refA d = (true || true) := by cases d <;> simp [isT, tyName, refA] at ht ⊢
    rw [e]
    rw [ht] at i0
    exact orE (notE i0 rfl) rfl fun z => by cases z
  | true =>
    obtain ⟨ds, rfl⟩ := ty_tup ht
    rw [ht] at i0
    have l0 : evOp gNin [(evOp gLen [(evN 0)]), (evTup [(evV (evC (.int 2))), (evV (evC (.int 3)))])] [some (.d (.tuple ds)), none] = .ok (.inr (.d (.bool (!((ds.length : Int) == 2 || (ds.length : Int) == 3))))) [some (.d (.tuple ds)), none] := op2 (op1 (nOf rfl) rfl rfl) (q := .inr (.d (.tuple [.int 2, .int 3]))) rfl rfl rfl (nin23 _)
    match ds with
    | [] => exact orE (b := true) (notE i0 rfl) rfl fun _ => orE (b := true) l0 rfl fun z => by cases z
    | [x] => exact orE (b := true) (notE i0 rfl) rfl fun _ => orE (b := true) l0 rfl fun z => by cases z
    | x :: t :: r =>
      have x0 : evOp gIx [(evN 0), (evC (.int 0))] [some (.d (.tuple (x :: t :: r))), none] = .ok (.inr (.d x)) [some (.d (.tuple (x :: t :: r))), none] := op2 (nOf rfl) rfl rfl rfl (ix0 x _)
      have x1 : evOp gIx [(evN 0), (evC (.int 1))] [some (.d (.tuple (x :: t :: r))), none] = .ok (.inr (.d t)) [some (.d (.tuple (x :: t :: r))), none] := op2 (nOf rfl) rfl rfl rfl (ixk (k := 1) rfl)
      have e : refA (.tuple (x :: t :: r)) = (!true || ((!((((x :: t :: r).length : Nat) : Int) == 2 || (((x :: t :: r).length : Nat) : Int) == 3)) || (!isT "str" x || !isC t))) := by
        have c : (((((x :: t :: r).length : Nat) : Int) == 2 || (((x :: t :: r).length : Nat) : Int) == 3)) = (r.length == 0 || r.length == 1) := by
          rw [Bool.eq_iff_iff]
          simp only [Bool.or_eq_true, beq_iff_eq, List.length_cons]
          omega
        rw [c]
        simp only [refA, Bool.not_true, Bool.false_or, Bool.or_assoc]
      rw [e]
      exact orE (notE i0 rfl) rfl fun _ => orE l0 rfl fun _ => orE (notE (isi_str x0 rfl) rfl) rfl fun _ => notE (call1 rfl rfl x1 rfl (l_is_number_run t)) rfl
end k02
end Yf
namespace Yf
namespace k02
open PySem PySem.Spec L2
theorem neS {a b : Str} (ha : PyData.strOk a = true) (hb : PyData.strOk b = true) : gNe [.d (.str a), .d (.str b)] = some (.d (.bool (!(a == b)))) := by
  simp [gNe, eqD, SeqAt.shaped, PyData.canLay0, PyData.depth, PyData.eqv, freeze, ha, hb]
theorem intsD_map : ∀ ns : List Int, intsD (ns.map .int) = some ns
  | [] => rfl
  | n :: ns => by
    simp only [List.map_cons, intsD, intsD_map ns]
    try rfl
theorem ss_of {f : Sl → Res Rv} {env env1 : Sl} {ns : List Int} (hf : f env = .ok (.inr (.d (.tuple (ns.map .int)))) env1) (l : ns.length < 64) : evSS f env = .ok (.inr (.lst ((sortU ns).map .int))) env1 := by
  have a := ds1 hf
  simp only [evSS, a, Res.bind, freeze, intsD_map]
  rw [if_pos l]
theorem filter_not {α : Type} (p : α → Bool) : ∀ ds : List α, (ds.filter fun x => !p x).isEmpty = ds.all p
  | [] => rfl
  | d :: ds => by
    cases h : p d
    · simp [h]
    · simp [h, filter_not p ds]
theorem refA_fact {d : D} (h : refA d = true) : factB d = false := by
  unfold factB
  split
  · rename_i z t
    simp [refA, isT, tyName] at h
    simp [h]
  · rename_i z t us
    simp [refA, isT, tyName] at h
    simp [h]
  · rfl
theorem refA_inv {d : D} (h : refA d = false) : ∃ z i, d = .tuple [.str z, .int i] ∧ isC (.int i) = true ∨ ∃ us, d = .tuple [.str z, .int i, us] ∧ isC (.int i) = true := by
  unfold refA at h
  split at h
  · rename_i x t r
    simp only [Bool.or_eq_false_iff, Bool.not_eq_false'] at h
    obtain ⟨⟨h1, h2⟩, h3⟩ := h
    obtain ⟨z, rfl⟩ := ty_str h2
    obtain ⟨i, rfl⟩ : ∃ i, t = .int i := by cases t <;> simp [isC] at h3 ⊢
    match r, h1 with
    | [], _ => exact ⟨z, i, .inl ⟨rfl, h3⟩⟩
    | [us], _ => exact ⟨z, i, .inr ⟨us, rfl, h3⟩⟩
  · cases h
theorem l_is_fact_run {d : D} (ho : TxOk d) (hs : ∀ x y us, d = .tuple [x, y, .tuple us] → us.length ≤ 63) : fn_l_is_fact.run [.d d] = some (.inr (.d (.bool (factB d))), []) := by
  have t1 := testA_run d
  cases hr : refA d with
  | true =>
    rw [hr] at t1
    rw [refA_fact hr]
    exact run1 (seq_rt (if_of t1 rfl rfl))
  | false =>
    rw [hr] at t1
    obtain ⟨z, i, ⟨rfl, hi⟩ | ⟨us, rfl, hi⟩⟩ := refA_inv hr
    · have e : factB (.tuple [.str z, .int i]) = (z == "dropped") := by simp only [factB, hi, Bool.and_true]
      rw [e]
      have x0 : evOp gIx [(evN 0), (evC (.int 0))] [some (.d (.tuple [.str z, .int i])), none] = .ok (.inr (.d (.str z))) [some (.d (.tuple [.str z, .int i])), none] := op2 (nOf rfl) rfl rfl rfl (ix0 _ _)
      have l0 : evOp gEq [(evOp gLen [(evN 0)]), (evC (.int 2))] [some (.d (.tuple [.str z, .int i])), none] = .ok (.inr (.d (.bool true))) [some (.d (.tuple [.str z, .int i])), none] := op2 (op1 (nOf rfl) rfl rfl) rfl rfl rfl rfl
      exact run1 (seq_of (if_of t1 rfl rfl) (seq_rt (if_of l0 rfl (ret_of (op2 x0 rfl rfl rfl (eqS (ho z _ rfl) (by decide +kernel)))))))
    · have x0 : evOp gIx [(evN 0), (evC (.int 0))] [some (.d (.tuple [.str z, .int i, us])), none] = .ok (.inr (.d (.str z))) [some (.d (.tuple [.str z, .int i, us])), none] := op2 (nOf rfl) rfl rfl rfl (ix0 _ _)
      have x1 : evOp gIx [(evN 0), (evC (.int 1))] [some (.d (.tuple [.str z, .int i, us])), none] = .ok (.inr (.d (.int i))) [some (.d (.tuple [.str z, .int i, us])), none] := op2 (nOf rfl) rfl rfl rfl (ixk (k := 1) rfl)
      have x2 : evOp gIx [(evN 0), (evC (.int 2))] [some (.d (.tuple [.str z, .int i, us])), none] = .ok (.inr (.d us)) [some (.d (.tuple [.str z, .int i, us])), none] := op2 (nOf rfl) rfl rfl rfl (ixk (k := 2) rfl)
      have l0 : evOp gEq [(evOp gLen [(evN 0)]), (evC (.int 2))] [some (.d (.tuple [.str z, .int i, us])), none] = .ok (.inr (.d (.bool false))) [some (.d (.tuple [.str z, .int i, us])), none] := op2 (op1 (nOf rfl) rfl rfl) rfl rfl rfl rfl
      have n0 : evOp gNe [(evOp gIx [(evN 0), (evC (.int 0))]), (evC (.str "firm"))] [some (.d (.tuple [.str z, .int i, us])), none] = .ok (.inr (.d (.bool (!(z == "firm"))))) [some (.d (.tuple [.str z, .int i, us])), none] := op2 x0 rfl rfl rfl (neS (ho z _ rfl) (by decide +kernel))
      have e : factB (.tuple [.str z, .int i, us]) = ((z == "firm") && (trB us && outB us i)) := by simp only [factB, hi, toI, Bool.and_true]
      rw [e]
      refine run1 (env := [some (.d (.tuple [.str z, .int i, us])), none]) (seq_of (if_of t1 rfl rfl) (seq_of (if_of l0 rfl rfl) ?_))
      cases hz : z == "firm" with
      | false =>
        rw [hz] at n0
        exact seq_rt (if_of (orE (b := true) n0 rfl fun z => by cases z) rfl rfl)
      | true =>
        rw [hz] at n0
        have i2 := notE (isi_tup x2 rfl) rfl
        cases hu : isT "tuple" us with
        | false =>
          rw [hu] at i2
          rw [trB_of hu]
          exact seq_rt (if_of (orE (b := true || true) n0 rfl fun _ => orE i2 rfl fun z => by cases z) rfl rfl)
        | true =>
          rw [hu] at i2
          obtain ⟨ds, rfl⟩ := ty_tup hu
          have hl := hs _ _ ds rfl
          have g := lc_filter (own := [1]) (g := gName1 1) (c := evNot (evCall fn_l_is_number [(evN 1)])) (f := evN 1) (env := [some (.d (.tuple [.str z, .int i, .tuple ds])), none]) (fun x => [some (.d (.tuple [.str z, .int i, .tuple ds])), some (.d x)]) (fun x => !isC x) (fun x => x) ds [] (fun x _ => ⟨rfl, notE (call1s rfl rfl rfl (l_is_number_run x)) rfl, vN rfl rfl, rfl⟩) (by simp; omega)
          have e3 : evLc [1] (fSeq (evOp gIx [(evN 0), (evC (.int 2))])) (gName1 1) (some (evNot (evCall fn_l_is_number [(evN 1)]))) (evN 1) [some (.d (.tuple [.str z, .int i, .tuple ds])), none] = .ok (.inr (.lst (ds.filter fun x => !isC x))) [some (.d (.tuple [.str z, .int i, .tuple ds])), none] := lcE (seqE x2 rfl) rfl rfl (by rw [g]; simp) rfl
          have n3 := op2 (gg := gNe) e3 (q := .inr (.lst [])) (env2 := [some (.d (.tuple [.str z, .int i, .tuple ds])), none]) (g := evLst []) rfl rfl rfl (gNe_nil _)
          rw [filter_not] at n3
          have o3 := orE n0 rfl fun _ => orE i2 rfl fun _ => n3
          cases hc : ds.all isC with
          | false =>
            rw [hc] at o3
            have et : trB (.tuple ds) = false := by simp only [trB, hc, Bool.false_and]
            rw [et]
            exact seq_rt (if_of o3 rfl rfl)
          | true =>
            rw [hc] at o3
            have ed := counts_ints hc
            have et : trB (.tuple ds) = rise (ds.map toI) := by simp only [trB, hc, Bool.true_and]
            rw [et]
            refine seq_of (if_of o3 rfl rfl) (ret_of ?_)
            have a1 : evOp gEq [(evOp gList [(evOp gIx [(evN 0), (evC (.int 2))])]), (evSS (evOp gIx [(evN 0), (evC (.int 2))]))] [some (.d (.tuple [.str z, .int i, .tuple ds])), none] = .ok (.inr (.d (.bool (rise (ds.map toI))))) [some (.d (.tuple [.str z, .int i, .tuple ds])), none] := by
              have y2 := x2
              rw [ed] at y2
              have q := eq_lists (ds.map toI) (sortU (ds.map toI))
              rw [rise_sortU] at q
              exact op2 (op1 x2 rfl (k := .lst ((ds.map toI).map .int)) (by rw [← ed]; rfl)) (ss_of (ns := ds.map toI) (by rw [← ed] at y2; rw [← ed]; exact x2) (by simp; omega)) rfl rfl q
            rw [Bool.true_and]
            refine andE a1 rfl fun _ => ?_
            have q : gNin [.d (.int i), .d (.tuple ds)] = some (.d (.bool (outB (.tuple ds) i))) := by
              have z := nin_ints i (ds.map toI)
              rw [← ed] at z
              exact z
            exact op2 x1 x2 rfl rfl q
end k02
end Yf
namespace Yf
namespace k02
open PySem PySem.Spec L2
theorem gEq_nilL (l : List D) : gEq [.lst l, .lst []] = some (.d (.bool l.isEmpty)) := by
  have e : eqD (.lst l) (.lst []) = some l.isEmpty := by
    unfold eqD
    split
    · cases l <;> simp [PyData.eqv, PyData.eqvAll, freeze]
    · simp [gE0, listOf]
  simp only [gEq, e, Option.map_some]
def geP : D → Bool
  | .tuple [a, b] => decide (at1 b ≤ at1 a)
  | _ => false
theorem geP_all (l : List (D × D)) : ((l.map fun p => (.tuple [p.1, p.2] : D)).filter geP).isEmpty = l.all fun p => decide (at1 p.1 < at1 p.2) := by
  induction l with
  | nil => rfl
  | cons p l ih =>
    simp only [List.map_cons, List.all_cons]
    by_cases h : at1 p.1 < at1 p.2
    · have g : geP (.tuple [p.1, p.2]) = false := by simp only [geP, decide_eq_false_iff_not]; omega
      rw [List.filter_cons_of_neg (by simp [g]), ih, decide_eq_true h, Bool.true_and]
    · have g : geP (.tuple [p.1, p.2]) = true := by simp only [geP, decide_eq_true_eq]; omega
      rw [List.filter_cons_of_pos g, decide_eq_false h]
      rfl
theorem rise_at1 (ds : List D) : rise (ds.map at1) = (ds.zip (ds.drop 1)).all fun p => decide (at1 p.1 < at1 p.2) := by
  unfold rise
  rw [← List.map_drop, List.zip_map, List.all_map]
  rfl
theorem l_are_facts_run {d : D} (h : ∀ ds, d = .tuple ds → ds.length ≤ 400 ∧ ∀ x ∈ ds, TxOk x ∧ ∀ y z us, x = .tuple [y, z, .tuple us] → us.length ≤ 63) : fn_l_are_facts.run [.d d] = some (.inr (.d (.bool (factsB d))), []) := by
  have i0 : evIsi "tuple" (evN 0) [some (.d d), none, none, none] = .ok (.inr (.d (.bool (isT "tuple" d)))) [some (.d d), none, none, none] := isi_tup (nOf rfl) rfl
  have i1 := notE i0 rfl
  cases ht : isT "tuple" d with
  | false =>
    have e : factsB d = false := by cases d <;> simp [isT, tyName, factsB] at ht ⊢
    rw [e]
    rw [ht] at i1
    exact run1 (seq_rt (if_of (orE (b := true) i1 rfl fun z => by cases z) rfl rfl))
  | true =>
    obtain ⟨ds, rfl⟩ := ty_tup ht
    obtain ⟨hl, hg⟩ := h ds rfl
    rw [ht] at i1
    have g := lc_filter (own := [3]) (g := gName1 3) (c := evNot (evCall fn_l_is_fact [(evN 3)])) (f := evN 3) (env := [some (.d (.tuple ds)), none, none, none]) (fun x => [some (.d (.tuple ds)), none, none, some (.d x)]) (fun x => !factB x) (fun x => x) ds [] (fun x hx => ⟨rfl, notE (call1s rfl rfl rfl (l_is_fact_run (hg x hx).1 (hg x hx).2)) rfl, vN rfl rfl, rfl⟩) (by simp; omega)
    have e3 : evLc [3] (fSeq (evN 0)) (gName1 3) (some (evNot (evCall fn_l_is_fact [(evN 3)]))) (evN 3) [some (.d (.tuple ds)), none, none, none] = .ok (.inr (.lst (ds.filter fun x => !factB x))) [some (.d (.tuple ds)), none, none, none] := lcE (seqN rfl rfl rfl) rfl rfl (by rw [g]; simp) rfl
    have n3 := op2 (gg := gNe) e3 (q := .inr (.lst [])) (env2 := [some (.d (.tuple ds)), none, none, none]) (g := evLst []) rfl rfl rfl (gNe_nil _)
    rw [filter_not] at n3
    have o3 := orE i1 rfl fun _ => n3
    cases hf : ds.all factB with
    | false =>
      rw [hf] at o3
      have e : factsB (.tuple ds) = false := by simp only [factsB, hf, Bool.false_and]
      rw [e]
      exact run1 (seq_rt (if_of o3 rfl rfl))
    | true =>
      rw [hf] at o3
      have e2 : factsB (.tuple ds) = rise (ds.map at1) := by simp only [factsB, hf, Bool.true_and]
      rw [e2]
      have z : fZip (evN 0) (evOp gSl10 [(evN 0), evI (evC (.int 1))]) [some (.d (.tuple ds)), none, none, none] = .ok ([.d (.tuple ds), .d (.tuple (ds.drop 1))], zipD ds (ds.drop 1)) [some (.d (.tuple ds)), none, none, none] := by
        have e : evDs [evN 0, evOp gSl10 [(evN 0), evI (evC (.int 1))]] [some (.d (.tuple ds)), none, none, none] = .ok [.tuple ds, .tuple (cutD ds (some 1) none)] [some (.d (.tuple ds)), none, none, none] := rfl
        simp only [fZip, e, Res.bind, cut1]
      have g2 := lc_filter (own := [1, 2]) (g := gTupN [1, 2]) (c := evOp gGe [(evOp gIx [(evN 1), (evC (.int 1))]), (evOp gIx [(evN 2), (evC (.int 1))])]) (f := evC (.int 1)) (env := [some (.d (.tuple ds)), none, none, none])
        (fun p => match p with | .tuple [a, b] => [some (.d (.tuple ds)), some (.d a), some (.d b), none] | _ => []) geP (fun _ => .int 1) (zipD ds (ds.drop 1)) [] (fun p hp => by
          rw [zipD] at hp
          obtain ⟨⟨a, b⟩, hab, rfl⟩ := List.mem_map.mp hp
          have ha := List.all_eq_true.mp hf a (List.of_mem_zip hab).1
          have hb := List.all_eq_true.mp hf b (List.mem_of_mem_drop (List.of_mem_zip hab).2)
          obtain ⟨x, i, r, rfl, ei⟩ := fact_at1 ha
          obtain ⟨y, j, q, rfl, ej⟩ := fact_at1 hb
          have c : geP (.tuple [.tuple (x :: .int i :: r), .tuple (y :: .int j :: q)]) = decide (j ≤ i) := rfl
          show _ ∧ _ = Res.ok (Sum.inr (M.d (.bool (geP (.tuple [.tuple (x :: .int i :: r), .tuple (y :: .int j :: q)]))))) _ ∧ _
          rw [c]
          exact ⟨rfl, op2 (op2 (nOf rfl) rfl rfl rfl (ixk (k := 1) rfl)) (op2 (nOf rfl) rfl rfl rfl (ixk (k := 1) rfl)) rfl rfl rfl, rfl, rfl⟩) (by simp [zipD]; omega)
      have e4 : evLc [1, 2] (fZip (evN 0) (evOp gSl10 [(evN 0), evI (evC (.int 1))])) (gTupN [1, 2]) (some (evOp gGe [(evOp gIx [(evN 1), (evC (.int 1))]), (evOp gIx [(evN 2), (evC (.int 1))])])) (evC (.int 1)) [some (.d (.tuple ds)), none, none, none] = .ok (.inr (.lst (((zipD ds (ds.drop 1)).filter geP).map fun _ => .int 1))) [some (.d (.tuple ds)), none, none, none] := lcE z rfl rfl (by rw [g2]; simp) rfl
      have n4 := op2 (gg := gEq) e4 (q := .inr (.lst [])) (env2 := [some (.d (.tuple ds)), none, none, none]) (g := evLst []) rfl rfl rfl (gEq_nilL _)
      have ee : (((zipD ds (ds.drop 1)).filter geP).map fun _ => (.int 1 : D)).isEmpty = rise (ds.map at1) := by
        rw [List.isEmpty_map, zipD, geP_all, rise_at1]
      rw [ee] at n4
      exact run1 (seq_of (if_of o3 rfl rfl) (ret_of n4))
end k02
end Yf
namespace Yf
namespace k02
open PySem PySem.Spec L2
abbrev deckBody : Sl → SRes := (sSet 1 (evOp gMod [(evOp gInt [(evOp gAdd [(evOp gAdd [(evOp gMul [(evN 1), (evC (.int 48271))]), (evOp gMod [(evOp gInt [(evN 2)]), (evC (.int 2305843009213693921))])]), (evC (.int 37))])]), (evC (.int 2305843009213693951))]))
theorem deck_turn {L : D} {mx k : Int} (h0 : 0 ≤ mx) (h1 : mx < 2305843009213693951) : deckBody [some (.d L), some (.d (.int mx)), some (.d (.int k))] = .nx [some (.d L), some (.d (.int ((mx * 48271 + k % 2305843009213693921 + 37) % 2305843009213693951))), some (.d (.int k))] := by
  have g1 : gMul [.d (.int mx), .d (.int 48271)] = some (.d (.int (mx * 48271))) := mulI (by omega) (by decide)
  exact set_of (op2 (op1 (op2 (op2 (op2 (nOf rfl) rfl rfl rfl g1) (op2 (op1 (nOf rfl) rfl rfl) rfl rfl rfl rfl) rfl rfl rfl) rfl rfl rfl rfl) rfl rfl) rfl rfl rfl rfl)
def Dat (x : Option M) : Prop := x = none ∨ ∃ d, x = some (.d d)
theorem deck_loop {L : D} : ∀ (ks : List Int) {mx : Int} {x : Option M}, Dat x → 0 ≤ mx → mx < 2305843009213693951 → ∃ mx' x', sFor (gName1 2) deckBody (ks.map .int) [some (.d L), some (.d (.int mx)), x] = .nx [some (.d L), some (.d (.int mx')), x'] ∧ Dat x' ∧ 0 ≤ mx' ∧ mx' < 2305843009213693951
  | [], mx, x, hx, h0, h1 => ⟨mx, x, rfl, hx, h0, h1⟩
  | k :: ks, mx, x, hx, h0, h1 => by
    have e := deck_turn (L := L) (k := k) h0 h1
    obtain ⟨mx', x', e2, c, a, b⟩ := deck_loop (L := L) ks (mx := (mx * 48271 + k % 2305843009213693921 + 37) % 2305843009213693951) (x := some (.d (.int k))) (.inr ⟨_, rfl⟩) (Int.emod_nonneg _ (by decide)) (Int.emod_lt_of_pos _ (by decide))
    refine ⟨mx', x', ?_, c, a, b⟩
    simp only [List.map_cons, sFor, gName1, List.set]
    rw [e]
    exact e2
theorem lcE2 {own : List Nat} {fi : Sl → Res (List M × List D)} {g : D → Sl → Option Sl} {t : Option (Sl → Res Rv)} {f : Sl → Res Rv} {env env0 env2 env3 : Sl} {ms : List M} {ds acc : List D} {sv : List (Option D)} (h1 : fi env = .ok (ms, ds) env) (h2 : saveE env own = some sv) (h3 : wipeE env own = env0) (h4 : lcGo own g t f ds [] env0 = .ok acc env2) (h5 : restE env2 own sv = env3) :
    evLc own fi g t f env = .ok (.inr (.lst acc)) env3 := by
  simp only [evLc, h1, h2, h3, h4, h5]
theorem deck_ok (ns : List Int) : ∃ m, fn_l_deck.run [.d (.list (ns.map .int))] = some (.inr m, []) ∧ Dk 0 m := by
  obtain ⟨ks, ek, -⟩ := intsD_of (ds := cutD (ns.map .int) none (some 63)) fun d hd => by
    obtain ⟨i, _, rfl⟩ := List.mem_map.mp (cut_mem hd)
    exact ⟨i, rfl⟩
  have lk : ks.length ≤ 63 := by
    have : (cutD (ns.map .int) none (some 63)).length ≤ 63 := by
      unfold cutD
      have e : HT.sIx (ns.map (.int : Int → D)).length (ns.map (.int : Int → D)).length (some 63) = min 63 (ns.map (.int : Int → D)).length := HT.sIx_nat _ _ 63
      rw [e]
      simp only [List.length_drop, List.length_take]
      omega
    rw [ek, List.length_map] at this
    exact this
  have c : ∀ x1 x2 : Option M, evOp gSl01 [(evN 0), evI (evC (.int 63))] [some (.d (.list (ns.map .int))), x1, x2] = .ok (.inr (.lst (ks.map .int))) [some (.d (.list (ns.map .int))), x1, x2] := fun x1 x2 => by
    rw [← ek]
    rfl
  obtain ⟨mx, x, e, hx, a, b⟩ := deck_loop (L := .list (ns.map .int)) ks (mx := 15362074) (x := none) (.inl rfl) (by decide) (by decide)
  have g := lc_map (own := [2]) (g := gName1 2) (f := evOp gInt [(evN 2)]) (env := [some (.d (.list (ns.map .int))), some (.d (.int mx)), none]) (fun y => [some (.d (.list (ns.map .int))), some (.d (.int mx)), some (.d y)]) (fun y => y) (ks.map .int) [] (fun y hy => by
    obtain ⟨i, _, rfl⟩ := List.mem_map.mp hy
    exact ⟨rfl, vOf (op1 (nOf rfl) rfl rfl), rfl⟩) (by simp; omega)
  refine ⟨dk ks.reverse mx 0, ?_, ⟨ks.reverse, mx, 0, rfl, by simpa using lk, a, b, by omega, by omega⟩⟩
  have lc : ∃ z, evLc [2] (fSeq (evOp gSl01 [(evN 0), evI (evC (.int 63))])) (gName1 2) none (evOp gInt [(evN 2)]) [some (.d (.list (ns.map .int))), some (.d (.int mx)), x] = .ok (.inr (.lst (ks.map .int))) [some (.d (.list (ns.map .int))), some (.d (.int mx)), z] := by
    rw [List.map_id', List.nil_append] at g
    have f := seqE (c (some (.d (.int mx))) x) (is := ks.map .int) rfl
    rcases hx with rfl | ⟨d, rfl⟩
    · exact ⟨none, lcE f rfl rfl g rfl⟩
    · exact ⟨some (.d d), lcE2 f rfl rfl g rfl⟩
  obtain ⟨z, lc⟩ := lc
  have rv := op1 (gg := gRev) lc rfl (k := .lst (ks.map .int).reverse) rfl
  rw [← List.map_reverse] at rv
  have dp : evDsp ["cells", "mixed", "turn"] [(evOp gRev [(evLc [2] (fSeq (evOp gSl01 [(evN 0), evI (evC (.int 63))])) (gName1 2) none (evOp gInt [(evN 2)]))]), (evN 1), (evC (.int 0))] [some (.d (.list (ns.map .int))), some (.d (.int mx)), x] = .ok (.inr (dk ks.reverse mx 0)) [some (.d (.list (ns.map .int))), some (.d (.int mx)), z] := by
    have v := vOf rv
    simp only [evDsp, List.map, evs, v, Res.bind]
    rfl
  exact run1 (seq_of (s := sSet 1 (evC (.int 15362074))) (env1 := [some (.d (.list (ns.map .int))), some (.d (.int 15362074)), none]) rfl (seq_of (run_for (seqE (c _ _) (is := ks.map .int) rfl) e) (ret_of dp)))
end k02
end Yf
namespace Yf
namespace k02
open PySem PySem.Spec L2
theorem callK1 {fn : Fn} (hio : fn.io = []) (har : fn.ar = 1) {env : Sl} {d : D} {r : M} {j : Nat} (hj : (env[j]?).join = some (.d d)) (he : env.set j (some (.d d)) = env) (hrun : fn.run [.d d] = some (.inr r, [])) : evCallK fn [0] [evN j] env = .ok (.inr r) env := by
  have a : evDs [evN j] env = .ok [d] env := by
    simp [evDs, evs, evV, evN, hj, Res.bind, valOf, getOs, getO, freeze, he]
  simp only [evCallK, a, Res.bind]
  simp [pickAt, hio, har, hrun]
abbrev got1 (f : Fn) (j : Nat) : Sl → Res Rv := (evIf (evOp gEq [(evOp gMod [(evOp gInt [(evN 4)]), (evC (.int 2))]), (evC (.int 0))]) (evCall f [(evN j)]) (evCallK f [0] [(evN j)]))
theorem got_of {fn : Fn} (hio : fn.io = []) (har : fn.ar = 1) {env : Sl} {g : Int} {d : D} {r : M} {j : Nat} (h4 : (env[4]?).join = some (.d (.int g))) (hj : (env[j]?).join = some (.d d)) (he : env.set j (some (.d d)) = env) (hrun : fn.run [.d d] = some (.inr r, [])) : got1 fn j env = .ok (.inr r) env := by
  obtain ⟨b, t⟩ : ∃ b, evOp gEq [(evOp gMod [(evOp gInt [(evN 4)]), (evC (.int 2))]), (evC (.int 0))] env = .ok (.inr (.d (.bool b))) env := ⟨_, op2 (op2 (op1 (nOf h4) h4 rfl) rfl rfl rfl rfl) rfl rfl rfl (eqI _ _)⟩
  rw [got1, ifE t rfl]
  cases b with
  | true => exact call1s hio har hj hrun
  | false => exact callK1 hio har hj he hrun
theorem ne_repr (b : Bool) : gNe [.d (.str (if b then "True" else "False")), .d (.str (if b then "True" else "False"))] = some (.d (.bool false)) := by
  have e : PyData.strOk (if b then "True" else "False") = true := by cases b <;> decide +kernel
  have := neS e e
  rw [this, beq_self_eq_true]
  rfl
/-- two verdicts that agree -/
theorem same_of {fn : Fn} (hio : fn.io = []) (har : fn.ar = 1) {env : Sl} {d : D} {b : Bool} {j : Nat} {s : Sl → SRes} (h6 : (env[6]?).join = some (.d (.bool b))) (hj : (env[j]?).join = some (.d d)) (hrun : fn.run [.d d] = some (.inr (.d (.bool b)), [])) :
    sIf (evOp gNe [(evOp gReprB [(evN 6)]), (evOp gReprB [(evCall fn [(evN j)])])]) s sNil env = .nx env :=
  if_of (op2 (op1 (nOf h6) h6 rfl) (op1 (call1s hio har hj hrun) rfl rfl) rfl rfl (ne_repr b)) rfl rfl
end k02
end Yf
namespace Yf
namespace k02
open PySem PySem.Spec L2
/-- a def that draws, called with the deck of slot 1 -/
theorem call2d {fn : Fn} (hio : fn.io = [0]) (har : fn.ar = 2) {env env1 : Sl} {m m' r md : M} {f : Sl → Res Rv} {kvs : List (Key × M)} (h00 : (env[1]?).join.isSome = true) (h0 : (env1[1]?).join = some m) (hm : m = .dct kvs) (hf : f env = .ok (.inr md) env1) (hrun : fn.run [m, .d (freeze md)] = some (.inr r, [m'])) :
    evCall fn [evN 1, f] env = .ok (.inr r) (env1.set 1 (some m')) := by
  subst hm
  obtain ⟨m0, e0⟩ := Option.isSome_iff_exists.mp h00
  have el : 1 < env1.length := by
    apply Classical.byContradiction
    intro n
    rw [List.getElem?_eq_none (by omega)] at h0
    cases h0
  simp only [evCall, evs, evN, e0, Res.bind, hf, argsOf, argOf, hio, h0]
  simp [hrun, har, putBack, List.set_set]
theorem call2e {fn : Fn} (hio : fn.io = [0]) (har : fn.ar = 2) {env : Sl} {m m' r : M} {d : D} {j : Nat} {kvs : List (Key × M)} (h0 : (env[1]?).join = some m) (hm : m = .dct kvs) (hj : (env[j]?).join = some (.d d)) (hj0 : j ≠ 1) (hrun : fn.run [m, .d d] = some (.inr r, [m'])) :
    evCall fn [evN 1, evN j] env = .ok (.inr r) (env.set 1 (some m')) := by
  subst hm
  simp only [evCall, evs, evN, h0, hj, Res.bind, argsOf, argOf, hio]
  have : ((env.set 1 none)[j]?).join = some (M.d d) := by rw [List.getElem?_set_ne (Ne.symm hj0)]; exact hj
  simp [this, hrun, har, putBack, List.set_set]
end k02
end Yf
namespace Yf
namespace k02
open PySem PySem.Spec L2
/-- the thing at hand: the facts, or bent -/
theorem thing_of {n : Nat} {m sc : M} {fs : List D} {tu go : Int} {x5 x6 x7 : Option M} (h : Dk n m) (hn : n < 900000) (hf : Facts fs) :
    ∃ d m', evIf (evOp gGt [(evN 4), (evC (.int 0))]) (evCall fn_l_bent [(evN 1), (evN 3)]) (evN 3) [some sc, some m, some (.d (.int tu)), some (.d (.tuple fs)), some (.d (.int go)), x5, x6, x7] = .ok d [some sc, some m', some (.d (.int tu)), some (.d (.tuple fs)), some (.d (.int go)), x5, x6, x7] ∧
      (∃ y, Sh 41 y ∧ (d = .inr (.d y) ∨ (d = .inl 3 ∧ y = .tuple fs))) ∧ Dk (n + 20) m' := by
  have t : evOp gGt [(evN 4), (evC (.int 0))] [some sc, some m, some (.d (.int tu)), some (.d (.tuple fs)), some (.d (.int go)), x5, x6, x7] = .ok (.inr (.d (.bool (decide (0 < go))))) [some sc, some m, some (.d (.int tu)), some (.d (.tuple fs)), some (.d (.int go)), x5, x6, x7] := op2 (nOf rfl) rfl rfl rfl rfl
  have tr : Tr 40 (.tuple fs) := .tup fs (by have := hf.2; omega) fun f hh => (hf.1 f hh).tr
  rw [ifE t rfl]
  by_cases z : 0 < go
  · obtain ⟨x, m', e, sx, h'⟩ := bent_ok h hn (by decide) (by decide) tr
    obtain ⟨kvs, hk⟩ := h.dct
    refine ⟨.inr (.d x), m', ?_, ⟨x, sx, .inl rfl⟩, h'⟩
    rw [decide_eq_true z, if_pos rfl]
    exact call2e (fn := fn_l_bent) rfl rfl (m := m) (j := 3) rfl hk rfl (by decide) e
  · refine ⟨.inl 3, m, ?_, ⟨.tuple fs, tr.sh.mono (by decide), .inr ⟨rfl, rfl⟩⟩, h.mono (by omega)⟩
    rw [decide_eq_false z, if_neg (by decide)]
    exact nOf rfl
end k02
end Yf
namespace Yf
namespace k02
open PySem PySem.Spec L2
theorem thing_set {n : Nat} {m sc : M} {fs : List D} {tu go : Int} {x5 x6 x7 : Option M} (h : Dk n m) (hn : n < 900000) (hf : Facts fs) :
    ∃ y m', sSet 5 (evIf (evOp gGt [(evN 4), (evC (.int 0))]) (evCall fn_l_bent [(evN 1), (evN 3)]) (evN 3)) [some sc, some m, some (.d (.int tu)), some (.d (.tuple fs)), some (.d (.int go)), x5, x6, x7] = .nx [some sc, some m', some (.d (.int tu)), some (.d (.tuple fs)), some (.d (.int go)), some (.d y), x6, x7] ∧ Sh 41 y ∧ Dk (n + 20) m' := by
  obtain ⟨d, m', e, ⟨y, sy, hd⟩, h'⟩ := thing_of (sc := sc) (tu := tu) (go := go) (x5 := x5) (x6 := x6) (x7 := x7) h hn hf
  refine ⟨y, m', ?_, sy, h'⟩
  rcases hd with rfl | ⟨rfl, rfl⟩
  · exact set_of e
  · simp only [sSet, sBind, e]
    rfl
/-- the one fact at hand, bent or not -/
theorem fact_set {n : Nat} {m sc : M} {f : D} {tu go : Int} {x3 x5 x6 : Option M} (h : Dk n m) (hn : n < 900000) (hf : Tr 40 f) :
    ∃ y m', sSet 7 (evIf (evOp gGt [(evN 4), (evC (.int 0))]) (evCall fn_l_bent [(evN 1), (evN 7)]) (evN 7)) [some sc, some m, some (.d (.int tu)), x3, some (.d (.int go)), x5, x6, some (.d f)] = .nx [some sc, some m', some (.d (.int tu)), x3, some (.d (.int go)), x5, x6, some (.d y)] ∧ Sh 41 y ∧ Dk (n + 20) m' := by
  have t : evOp gGt [(evN 4), (evC (.int 0))] [some sc, some m, some (.d (.int tu)), x3, some (.d (.int go)), x5, x6, some (.d f)] = .ok (.inr (.d (.bool (decide (0 < go))))) [some sc, some m, some (.d (.int tu)), x3, some (.d (.int go)), x5, x6, some (.d f)] := op2 (nOf rfl) rfl rfl rfl rfl
  have i := ifE (fa := evCall fn_l_bent [(evN 1), (evN 7)]) (fb := evN 7) t rfl
  by_cases z : 0 < go
  · obtain ⟨x, m', e, sx, h'⟩ := bent_ok h hn (by decide) (by decide) hf
    obtain ⟨kvs, hk⟩ := h.dct
    refine ⟨x, m', ?_, sx, h'⟩
    rw [decide_eq_true z, if_pos rfl] at i
    exact set_of (i.trans (call2e (fn := fn_l_bent) rfl rfl (m := m) (j := 7) rfl hk rfl (by decide) e))
  · refine ⟨f, m, ?_, hf.sh.mono (by decide), h.mono (by omega)⟩
    rw [decide_eq_false z, if_neg (by decide)] at i
    simp only [sSet, sBind, i]
    rfl
end k02
end Yf
namespace Yf
namespace k02
open PySem PySem.Spec L2
theorem Sh.any {d : D} (h : Sh 41 d) : ∀ ds, d = .tuple ds → ds.length ≤ 400 ∧ ∀ x ∈ ds, TxOk x ∧ ∀ y z us, x = .tuple [y, z, .tuple us] → us.length ≤ 63 := fun ds e => by
  subst e
  refine ⟨by have := h.kids.1; omega, fun x hx => ⟨((h.kids.2 x hx).good (by decide)).1, fun y z us e => ?_⟩⟩
  have s := h.kids.2 x hx
  subst e
  have := (s.kids.2 (.tuple us) (by simp)).kids.1
  omega
theorem Sh.one {d : D} (h : Sh 41 d) : TxOk d ∧ ∀ y z us, d = .tuple [y, z, .tuple us] → us.length ≤ 63 := by
  refine ⟨(h.good (by decide)).1, fun y z us e => ?_⟩
  subst e
  have := (h.kids.2 (.tuple us) (by simp)).kids.1
  omega
theorem Sh.alls {d : D} (h : Sh 41 d) : ∀ ds, d = .tuple ds → ds.length ≤ 400 ∧ ∀ x ∈ ds, Good x := fun ds e => by
  subst e
  exact ⟨by have := h.kids.1; omega, fun x hx => (h.kids.2 x hx).good (by decide)⟩
/-- both verdicts on the facts agree -/
theorem facts_agree {d : D} (h : Sh 41 d) : fn_are_facts.run [.d d] = some (.inr (.d (.bool (factsB d))), []) ∧ fn_l_are_facts.run [.d d] = some (.inr (.d (.bool (factsB d))), []) := ⟨are_facts_run h.alls, l_are_facts_run h.any⟩
theorem fact_agree {d : D} (h : Sh 41 d) : fn_is_fact.run [.d d] = some (.inr (.d (.bool (factB d))), []) ∧ fn_l_is_fact.run [.d d] = some (.inr (.d (.bool (factB d))), []) := ⟨is_fact_run (h.good (by decide)), l_is_fact_run h.one.1 h.one.2⟩
end k02
end Yf
namespace Yf
namespace k02
open PySem PySem.Spec L2
def two : List D := [.tuple [.str "dropped", .int 0], .tuple [.str "firm", .int 3, .tuple [.int 1, .int 2]]]
theorem two_tr : ∀ d ∈ two, Tr 40 d := fun d hd => by
  simp only [two, List.mem_cons, List.not_mem_nil, or_false] at hd
  rcases hd with rfl | rfl
  · exact (show FactOk (.tuple [.str "dropped", .int 0]) from .inl ⟨0, rfl⟩).tr
  · exact (show FactOk (.tuple [.str "firm", .int 3, .tuple [.int 1, .int 2]]) from .inr ⟨3, [1, 2], rfl, by simp⟩).tr
theorem seven {n : Nat} {m sc : M} {fs : List D} {tu go : Int} {x5 x6 x7 : Option M} (h : Dk n m) (hn : n < 900000) (hf : Facts fs) :
    ∃ f m', sSet 7 (evCall fn_l_pick [(evN 1), (evOp gAdd [(evN 3), (evTup [(evV (evTup [(evV (evC (.str "dropped"))), (evV (evC (.int 0)))])), (evV (evTup [(evV (evC (.str "firm"))), (evV (evC (.int 3))), (evV (evTup [(evV (evC (.int 1))), (evV (evC (.int 2)))]))]))])])]) [some sc, some m, some (.d (.int tu)), some (.d (.tuple fs)), some (.d (.int go)), x5, x6, x7] = .nx [some sc, some m', some (.d (.int tu)), some (.d (.tuple fs)), some (.d (.int go)), x5, x6, some (.d f)] ∧ Tr 40 f ∧ Dk (n + 1) m' := by
  have l := hf.2
  obtain ⟨x, m', e, hx, h'⟩ := pick_ok (d := .tuple (fs ++ two)) h (by omega) (.inr rfl) (by simp [two]) (by simp [two]; omega)
  obtain ⟨kvs, hk⟩ := h.dct
  have a : evOp gAdd [(evN 3), (evTup [(evV (evTup [(evV (evC (.str "dropped"))), (evV (evC (.int 0)))])), (evV (evTup [(evV (evC (.str "firm"))), (evV (evC (.int 3))), (evV (evTup [(evV (evC (.int 1))), (evV (evC (.int 2)))]))]))])] [some sc, some m, some (.d (.int tu)), some (.d (.tuple fs)), some (.d (.int go)), x5, x6, x7] = .ok (.inr (.d (.tuple (fs ++ two)))) [some sc, some m, some (.d (.int tu)), some (.d (.tuple fs)), some (.d (.int go)), x5, x6, x7] := op2 (q := .inr (.d (.tuple two))) (nOf rfl) rfl rfl rfl (addT (by simp [two]; omega))
  refine ⟨x, m', set_of (call2d (fn := fn_l_pick) rfl rfl rfl rfl hk a e), ?_, h'⟩
  rcases List.mem_append.mp hx with z | z
  · exact (hf.1 x z).tr
  · exact two_tr x z
end k02
end Yf
namespace Yf
namespace k02
open PySem PySem.Spec L2
theorem FactOk.at {f : D} (h : FactOk f) : ∃ (x : D) (t : Int) (r : List D), f = .tuple (x :: .int t :: r) := by
  rcases h with ⟨t, rfl⟩ | ⟨t, us, rfl, _⟩ <;> exact ⟨_, _, _, rfl⟩
theorem ixLast {r : List D} {x : D} (l : (r ++ [x]).length ≤ 1000) : gIx [.d (.tuple (r ++ [x])), .d (.int (-1))] = some (.d x) := by
  simp only [gIx, listOf, tupOf]
  have e : ixN (r.length + 1) (-1) = some r.length := by
    simp only [ixN]
    simp
    omega
  simp [atI, e]
end k02
end Yf
namespace Yf
namespace k02
open PySem PySem.Spec L2
theorem sk_of {f : Sl → Res Rv} {env env1 : Sl} {ds : List D} (h : f env = .ok (.inr (.d (.tuple ds))) env1) (hk : ∀ d ∈ ds, hasKey d = true) : evSK f env = .ok (.inr (.lst (sortK ds))) env1 := by
  have e := ds1 h
  simp only [evSK, e, Res.bind, seqD, freeze]
  rw [if_pos (List.all_eq_true.mpr hk)]
end k02
end Yf
namespace Yf
namespace k02
open PySem PySem.Spec L2
abbrev threeF : List (Sl → Res Rv) := [(evV (evTup [(evV (evC (.str "dropped"))), (evV (evOp gIx [(evOp gIx [(evN 3), (evC (.int 0))]), (evC (.int 1))]))])), (evV (evOp gIx [(evN 3), (evC (.int 0))])), (evV (evTup [(evV (evC (.str "firm"))), (evV (evOp gIx [(evOp gIx [(evN 3), (evOp gNeg [(evC (.int 1))])]), (evC (.int 1))])), (evV (evTup []))]))]
theorem three_of {m sc : M} {fs : List D} {tu go : Int} {x5 x6 x7 : Option M} (hf : Facts fs) (h0 : fs ≠ []) : ∃ ls, evLst threeF [some sc, some m, some (.d (.int tu)), some (.d (.tuple fs)), some (.d (.int go)), x5, x6, x7] = .ok (.inr (.lst ls)) [some sc, some m, some (.d (.int tu)), some (.d (.tuple fs)), some (.d (.int go)), x5, x6, x7] ∧ (∀ d ∈ ls, FactOk d) ∧ ls.length = 3 := by
  have l := hf.2
  obtain ⟨f0, hf0, r0, m0⟩ : ∃ f0, FactOk f0 ∧ gIx [.d (.tuple fs), .d (.int 0)] = some (.d f0) ∧ True := by
    cases fs with
    | nil => exact absurd rfl h0
    | cons f r => exact ⟨f, hf.1 f (by simp), ix0 _ _, trivial⟩
  obtain ⟨f1, hf1, r1⟩ : ∃ f1, FactOk f1 ∧ gIx [.d (.tuple fs), .d (.int (-1))] = some (.d f1) := by
    rcases List.eq_nil_or_concat fs with e | ⟨r, f, e⟩
    · exact absurd e h0
    · rw [List.concat_eq_append] at e
      subst e
      exact ⟨f, hf.1 f (by simp), ixLast (by omega)⟩
  obtain ⟨a, t, q, rfl⟩ := hf0.at
  obtain ⟨b, u, p, rfl⟩ := hf1.at
  refine ⟨[.tuple [.str "dropped", .int t], .tuple (a :: .int t :: q), .tuple [.str "firm", .int u, .tuple []]], ?_, ?_, rfl⟩
  · exact lst_of (ms := [.d (.tuple [.str "dropped", .int t]), .d (.tuple (a :: .int t :: q)), .d (.tuple [.str "firm", .int u, .tuple []])]) (evs_c (vOf (tup_of (ms := [.d (.str "dropped"), .d (.int t)]) (evs_c rfl (evs_c (vOf (op2 (op2 (nOf rfl) rfl rfl rfl r0) rfl rfl rfl (ixk (k := 1) rfl))) rfl)) (by simp))) (evs_c (vOf (op2 (nOf rfl) rfl rfl rfl r0)) (evs_c (vOf (tup_of (ms := [.d (.str "firm"), .d (.int u), .d (.tuple [])]) (evs_c rfl (evs_c (vOf (op2 (op2 (nOf rfl) rfl rfl rfl r1) rfl rfl rfl (ixk (k := 1) rfl))) (evs_c rfl rfl))) (by simp))) rfl))) (by simp)
  · intro d hd
    simp only [List.mem_cons, List.not_mem_nil, or_false] at hd
    rcases hd with rfl | rfl | rfl
    · exact .inl ⟨t, rfl⟩
    · exact hf0
    · exact .inr ⟨u, [], rfl, by simp⟩
end k02
end Yf
namespace Yf
namespace k02
open PySem PySem.Spec L2
theorem four_set {n : Nat} {m sc : M} {fs : List D} {tu go : Int} {x5 x6 x7 : Option M} (h : Dk n m) (hn : n < 900000) (hf : Facts fs) (h0 : fs ≠ []) :
    ∃ y m', sSet 5 (evOp gTuple [(evSK (evOp gAdd [(evN 3), (evTup [(evV (evCall fn_l_pick [(evN 1), (evLst threeF)]))])]))]) [some sc, some m, some (.d (.int tu)), some (.d (.tuple fs)), some (.d (.int go)), x5, x6, x7] = .nx [some sc, some m', some (.d (.int tu)), some (.d (.tuple fs)), some (.d (.int go)), some (.d y), x6, x7] ∧ Sh 41 y ∧ Dk (n + 1) m' := by
  have l := hf.2
  obtain ⟨ls, e3, hl, l3⟩ := three_of (m := m) (sc := sc) (tu := tu) (go := go) (x5 := x5) (x6 := x6) (x7 := x7) hf h0
  obtain ⟨x, m', e, hx, h'⟩ := pick_ok (d := .list ls) h (by omega) (.inl rfl) (by intro z; rw [z] at l3; simp at l3) (by omega)
  obtain ⟨kvs, hk⟩ := h.dct
  have c := call2d (fn := fn_l_pick) rfl rfl rfl rfl hk e3 e
  have v := vOf c
  have t : evTup [(evV (evCall fn_l_pick [(evN 1), (evLst threeF)]))] [some sc, some m, some (.d (.int tu)), some (.d (.tuple fs)), some (.d (.int go)), x5, x6, x7] = .ok (.inr (.d (.tuple [x]))) [some sc, some m', some (.d (.int tu)), some (.d (.tuple fs)), some (.d (.int go)), x5, x6, x7] := by
    simp only [evTup, evs, v, Res.bind]
    rfl
  have a := op2 (gg := gAdd) (k := .d (.tuple (fs ++ [x]))) (nOf (i := 3) (env := [some sc, some m, some (.d (.int tu)), some (.d (.tuple fs)), some (.d (.int go)), x5, x6, x7]) rfl) t rfl rfl (addT (by simp; omega))
  have ok : ∀ d ∈ fs ++ [x], FactOk d := fun d hd => by
    rcases List.mem_append.mp hd with z | z
    · exact hf.1 d z
    · simp at z; subst z; exact hl d hx
  have s := op1 (gg := gTuple) (sk_of a fun d hd => (ok d hd).key) rfl (k := .d (.tuple (sortK (fs ++ [x])))) rfl
  refine ⟨_, m', set_of s, .tup _ ?_ fun d hd => ((ok d (sortK_mem.mp hd)).tr.sh).mono (by decide), h'⟩
  rw [sortK_len]
  simp
  omega
end k02
end Yf
namespace Yf
namespace k02
open PySem PySem.Spec L2
theorem gNe_nilT (l : List D) : gNe [.d (.tuple l), .d (.tuple [])] = some (.d (.bool (!l.isEmpty))) := by
  have e := gEq_nil l
  simp only [gEq] at e
  simp only [gNe]
  cases z : eqD (.d (.tuple l)) (.d (.tuple [])) with
  | none => rw [z] at e; cases e
  | some b =>
    rw [z] at e
    simp only [Option.map_some, Option.some.injEq, M.d.injEq, PyData.bool.injEq] at e
    simp only [Option.map_some, e]
end k02
end Yf
namespace Yf
namespace k02
open PySem PySem.Spec L2
abbrev fourS : Sl → SRes := sIf (evAnd (evOp gEq [(evN 4), (evC (.int 4))]) (evOp gNe [(evN 3), (evTup [])])) (sSet 5 (evOp gTuple [(evSK (evOp gAdd [(evN 3), (evTup [(evV (evCall fn_l_pick [(evN 1), (evLst threeF)]))])]))])) sNil
theorem four_ok {n : Nat} {m sc : M} {fs : List D} {tu go : Int} {y : D} {x6 x7 : Option M} (h : Dk n m) (hn : n < 900000) (hf : Facts fs) (hy : Sh 41 y) :
    ∃ y' m', fourS [some sc, some m, some (.d (.int tu)), some (.d (.tuple fs)), some (.d (.int go)), some (.d y), x6, x7] = .nx [some sc, some m', some (.d (.int tu)), some (.d (.tuple fs)), some (.d (.int go)), some (.d y'), x6, x7] ∧ Sh 41 y' ∧ Dk (n + 1) m' := by
  have t := andE (env := [some sc, some m, some (.d (.int tu)), some (.d (.tuple fs)), some (.d (.int go)), some (.d y), x6, x7]) (fa := evOp gEq [(evN 4), (evC (.int 4))]) (fb := evOp gNe [(evN 3), (evTup [])]) (op2 (nOf rfl) rfl rfl rfl (eqI go 4)) rfl fun _ => op2 (q := .inr (.d (.tuple []))) (nOf (i := 3) rfl) rfl rfl rfl (gNe_nilT fs)
  cases hb : ((go == 4) && !fs.isEmpty) with
  | false =>
    rw [hb] at t
    exact ⟨y, m, if_of t rfl rfl, hy, h.mono (by omega)⟩
  | true =>
    rw [hb] at t
    obtain ⟨y', m', e, a, b⟩ := four_set (sc := sc) (tu := tu) (go := go) (x5 := some (.d y)) (x6 := x6) (x7 := x7) h hn hf (by intro z; subst z; simp at hb)
    exact ⟨y', m', if_of t rfl e, a, b⟩
end k02
end Yf
namespace Yf
namespace k02
open PySem PySem.Spec L2
abbrev bodyIn : Sl → SRes := (sSeq (sSet 5 (evIf (evOp gGt [(evN 4), (evC (.int 0))]) (evCall fn_l_bent [(evN 1), (evN 3)]) (evN 3)))
   (sSeq fourS
   (sSeq (sSet 6 (got1 fn_are_facts 5))
   (sSeq (sIf (evOp gNe [(evOp gReprB [(evN 6)]), (evOp gReprB [(evCall fn_l_are_facts [(evN 5)])])]) (sRet [] (evC (.bool false))) sNil)
   (sSeq (sSet 7 (evCall fn_l_pick [(evN 1), (evOp gAdd [(evN 3), (evTup [(evV (evTup [(evV (evC (.str "dropped"))), (evV (evC (.int 0)))])), (evV (evTup [(evV (evC (.str "firm"))), (evV (evC (.int 3))), (evV (evTup [(evV (evC (.int 1))), (evV (evC (.int 2)))]))]))])])]))
   (sSeq (sSet 7 (evIf (evOp gGt [(evN 4), (evC (.int 0))]) (evCall fn_l_bent [(evN 1), (evN 7)]) (evN 7)))
   (sSeq (sSet 6 (got1 fn_is_fact 7))
   (sIf (evOp gNe [(evOp gReprB [(evN 6)]), (evOp gReprB [(evCall fn_l_is_fact [(evN 7)])])]) (sRet [] (evC (.bool false))) sNil))))))))
theorem body_ok {n : Nat} {m sc : M} {fs : List D} {tu go : Int} {x5 x6 x7 : Option M} (h : Dk n m) (hn : n < 800000) (hf : Facts fs) :
    ∃ m' x5' x6' x7', bodyIn [some sc, some m, some (.d (.int tu)), some (.d (.tuple fs)), some (.d (.int go)), x5, x6, x7] = .nx [some sc, some m', some (.d (.int tu)), some (.d (.tuple fs)), some (.d (.int go)), x5', x6', x7'] ∧ Dk (n + 60) m' := by
  obtain ⟨y, m1, e1, s1, h1⟩ := thing_set (sc := sc) (tu := tu) (go := go) (x5 := x5) (x6 := x6) (x7 := x7) h (by omega) hf
  obtain ⟨y2, m2, e2, s2, h2⟩ := four_ok (sc := sc) (tu := tu) (go := go) (x6 := x6) (x7 := x7) h1 (by omega) hf s1
  obtain ⟨a1, a2⟩ := facts_agree s2
  obtain ⟨f, m3, e3, t3, h3⟩ := seven (sc := sc) (tu := tu) (go := go) (x5 := some (.d y2)) (x6 := some (.d (.bool (factsB y2)))) (x7 := x7) h2 (by omega) hf
  obtain ⟨z, m4, e4, s4, h4⟩ := fact_set (sc := sc) (tu := tu) (go := go) (x3 := some (.d (.tuple fs))) (x5 := some (.d y2)) (x6 := some (.d (.bool (factsB y2)))) h3 (by omega) t3
  obtain ⟨b1, b2⟩ := fact_agree s4
  refine ⟨m4, some (.d y2), some (.d (.bool (factB z))), some (.d z), ?_, h4.mono (by omega)⟩
  exact seq_of e1 (seq_of e2 (seq_of (set_of (got_of (j := 5) (g := go) rfl rfl rfl rfl rfl a1)) (seq_of (same_of (j := 5) rfl rfl rfl rfl a2) (seq_of e3 (seq_of e4 (seq_of (set_of (got_of (j := 7) (g := go) rfl rfl rfl rfl rfl b1)) (same_of (j := 7) rfl rfl rfl rfl b2)))))))
end k02
end Yf
namespace Yf
namespace k02
open PySem PySem.Spec L2
theorem in_loop {sc : M} {fs : List D} {tu : Int} (hf : Facts fs) : ∀ (gs : List Int) {n : Nat} {m : M} {x4 x5 x6 x7 : Option M}, Dk n m → n + 60 * gs.length < 800000 → ∃ m' x4' x5' x6' x7', sFor (gName1 4) bodyIn (gs.map .int) [some sc, some m, some (.d (.int tu)), some (.d (.tuple fs)), x4, x5, x6, x7] = .nx [some sc, some m', some (.d (.int tu)), some (.d (.tuple fs)), x4', x5', x6', x7'] ∧ Dk (n + 60 * gs.length) m'
  | [], n, m, x4, x5, x6, x7, h, _ => ⟨m, x4, x5, x6, x7, rfl, h⟩
  | g :: gs, n, m, x4, x5, x6, x7, h, hn => by
    simp only [List.length_cons] at hn
    obtain ⟨m1, y5, y6, y7, e1, h1⟩ := body_ok (sc := sc) (tu := tu) (go := g) (x5 := x5) (x6 := x6) (x7 := x7) h (by omega) hf
    obtain ⟨m2, z4, z5, z6, z7, e2, h2⟩ := in_loop hf gs (x4 := some (.d (.int g))) (x5 := y5) (x6 := y6) (x7 := y7) h1 (by omega)
    refine ⟨m2, z4, z5, z6, z7, ?_, h2.mono (by simp only [List.length_cons]; omega)⟩
    simp only [List.map_cons, sFor, gName1, List.set]
    rw [e1]
    exact e2
end k02
end Yf
namespace Yf
namespace k02
open PySem PySem.Spec L2
abbrev bodyOut : Sl → SRes := (sSeq (sSet 3 (evCall fn_l_drawn_facts [(evN 1), (evCall fn_l_names [(evN 1), (evCall fn_l_draw [(evN 1), (evC (.int 15))])])])) (sForI (fRange1 (evC (.int 5))) (gName1 4) bodyIn))
theorem out_ok {n : Nat} {m sc : M} {tu : Int} {x3 x4 x5 x6 x7 : Option M} (h : Dk n m) (hn : n < 100000) : ∃ m' x3' x4' x5' x6' x7', bodyOut [some sc, some m, some (.d (.int tu)), x3, x4, x5, x6, x7] = .nx [some sc, some m', some (.d (.int tu)), x3', x4', x5', x6', x7'] ∧ Dk (n + 2000) m' := by
  obtain ⟨k, m1, e1, -, -, h1⟩ := draw_ok (b := 15) h (by omega) (by decide) (by decide)
  obtain ⟨kv, hk⟩ := h.dct
  have c1 := call2d (fn := fn_l_draw) rfl rfl (env := [some sc, some m, some (.d (.int tu)), x3, x4, x5, x6, x7]) (env1 := [some sc, some m, some (.d (.int tu)), x3, x4, x5, x6, x7]) (f := evC (.int 15)) (md := .d (.int 15)) rfl rfl hk rfl e1
  obtain ⟨names, m2, e2, l2, i2, h2⟩ := names_ok (k := k) h1 (by omega)
  obtain ⟨kv1, hk1⟩ := h1.dct
  have c2 := call2d (fn := fn_l_names) rfl rfl rfl rfl hk1 c1 e2
  obtain ⟨fs, m3, e3, hf, h3⟩ := drawn_ok h2 (by omega) i2 l2
  obtain ⟨kv2, hk2⟩ := h2.dct
  have c3 := call2d (fn := fn_l_drawn_facts) rfl rfl rfl rfl hk2 c2 e3
  obtain ⟨m4, x4', x5', x6', x7', e4, h4⟩ := in_loop (sc := sc) (tu := tu) hf [0, 1, 2, 3, 4] (x4 := x4) (x5 := x5) (x6 := x6) (x7 := x7) h3 (by simp only [List.length_cons, List.length_nil]; omega)
  exact ⟨m4, _, x4', x5', x6', x7', seq_of (set_of c3) (run_for (ms := []) (ds := [.int 0, .int 1, .int 2, .int 3, .int 4]) rfl e4), h4.mono (by simp only [List.length_cons, List.length_nil]; omega)⟩
end k02
end Yf
namespace Yf
namespace k02
open PySem PySem.Spec L2
theorem out_loop {sc : M} : ∀ (gs : List Int) {n : Nat} {m : M} {x2 x3 x4 x5 x6 x7 : Option M}, Dk n m → n + 2000 * gs.length < 100000 → ∃ m' x2' x3' x4' x5' x6' x7', sFor (gName1 2) bodyOut (gs.map .int) [some sc, some m, x2, x3, x4, x5, x6, x7] = .nx [some sc, some m', x2', x3', x4', x5', x6', x7'] ∧ Dk (n + 2000 * gs.length) m'
  | [], n, m, x2, x3, x4, x5, x6, x7, h, _ => ⟨m, x2, x3, x4, x5, x6, x7, rfl, h⟩
  | g :: gs, n, m, x2, x3, x4, x5, x6, x7, h, hn => by
    simp only [List.length_cons] at hn
    obtain ⟨m1, y3, y4, y5, y6, y7, e1, h1⟩ := out_ok (sc := sc) (tu := g) (x3 := x3) (x4 := x4) (x5 := x5) (x6 := x6) (x7 := x7) h (by omega)
    obtain ⟨m2, z2, z3, z4, z5, z6, z7, e2, h2⟩ := out_loop (sc := sc) gs (x2 := some (.d (.int g))) (x3 := y3) (x4 := y4) (x5 := y5) (x6 := y6) (x7 := y7) h1 (by omega)
    refine ⟨m2, z2, z3, z4, z5, z6, z7, ?_, h2.mono (by simp only [List.length_cons]; omega)⟩
    simp only [List.map_cons, sFor, gName1, List.set]
    rw [e1]
    exact e2
theorem law_true (ns : List Int) : fn_law.run [.d (.list (ns.map .int))] = some (.inr (.d (.bool true)), []) := by
  obtain ⟨m, e, h⟩ := deck_ok ns
  have c := call1s (fn := fn_l_deck) rfl rfl (env := [some (.d (.list (ns.map .int))), none, none, none, none, none, none, none]) (j := 0) rfl e
  obtain ⟨m1, z2, z3, z4, z5, z6, z7, e2, h2⟩ := out_loop (sc := .d (.list (ns.map .int))) [0, 1, 2, 3, 4] (x2 := none) (x3 := none) (x4 := none) (x5 := none) (x6 := none) (x7 := none) h (by simp only [List.length_cons, List.length_nil]; omega)
  exact run1 (seq_of (set_of c) (seq_of (run_for (ms := []) (ds := [.int 0, .int 1, .int 2, .int 3, .int 4]) rfl e2) rfl))
end k02
end Yf
namespace Yf
namespace k02
open PySem PySem.Spec L2
open PyProof.Rows hiding St
section
variable {K : PySem.W.Frag} {mg : Str → Option Value} {w : World}
open LamX in
set_option maxHeartbeats 0 in
theorem all_mk {l : PySem.W.OpenLaw} {h : Heap} {fa : Addr} (Y : K.In h) (G : h.Ns mainGlobals mg) (hfa : mg "law" = some (.ref fa))
    {f_l_deck : Addr} {o_l_deck : Option Addr} {an_l_deck : Option Addr} {s_l_deck : Array (Option Value)} {oc_l_deck kV_l_deck dc_l_deck pm_l_deck ct_l_deck : Value} {cd_l_deck : Value}
    (a_l_deck : PySem.W.nsIn K mainGlobals "_law_deck" = some (some (.ref f_l_deck))) (l_l_deck : K.lookup f_l_deck = some ⟨oc_l_deck, o_l_deck, .func (PySem.W.fnOf "_law_deck" "_law_deck" (defArgs st_l_deck) (defBody st_l_deck) (defScope st_l_deck) .none kV_l_deck dc_l_deck pm_l_deck an_l_deck cd_l_deck ct_l_deck), s_l_deck⟩) (c_l_deck : PySem.W.codeIn K cd_l_deck "_law_deck" = true) (k_l_deck : PySem.W.keepIn K (.ref f_l_deck) = true)
    {f_l_in_order : Addr} {o_l_in_order : Option Addr} {an_l_in_order : Option Addr} {s_l_in_order : Array (Option Value)} {oc_l_in_order kV_l_in_order dc_l_in_order pm_l_in_order ct_l_in_order : Value} {cc_l_in_order PP_l_in_order : Addr}
    (a_l_in_order : PySem.W.nsIn K mainGlobals "_law_in_order" = some (some (.ref f_l_in_order))) (l_l_in_order : K.lookup f_l_in_order = some ⟨oc_l_in_order, o_l_in_order, .func (PySem.W.fnOf "_law_in_order" "_law_in_order" (defArgs st_l_in_order) (defBody st_l_in_order) (defScope st_l_in_order) .none kV_l_in_order dc_l_in_order pm_l_in_order an_l_in_order (.ref cc_l_in_order) ct_l_in_order), s_l_in_order⟩) (c_l_in_order : PySem.W.codeIn K (.ref cc_l_in_order) "_law_in_order" = true) (k_l_in_order : PySem.W.keepIn K (.ref f_l_in_order) = true)
    {f_l_draw : Addr} {o_l_draw : Option Addr} {an_l_draw : Option Addr} {s_l_draw : Array (Option Value)} {oc_l_draw kV_l_draw dc_l_draw pm_l_draw ct_l_draw : Value} {cd_l_draw : Value}
    (a_l_draw : PySem.W.nsIn K mainGlobals "_law_draw" = some (some (.ref f_l_draw))) (l_l_draw : K.lookup f_l_draw = some ⟨oc_l_draw, o_l_draw, .func (PySem.W.fnOf "_law_draw" "_law_draw" (defArgs st_l_draw) (defBody st_l_draw) (defScope st_l_draw) .none kV_l_draw dc_l_draw pm_l_draw an_l_draw cd_l_draw ct_l_draw), s_l_draw⟩) (c_l_draw : PySem.W.codeIn K cd_l_draw "_law_draw" = true) (k_l_draw : PySem.W.keepIn K (.ref f_l_draw) = true)
    {f_l_pick : Addr} {o_l_pick : Option Addr} {an_l_pick : Option Addr} {s_l_pick : Array (Option Value)} {oc_l_pick kV_l_pick dc_l_pick pm_l_pick ct_l_pick : Value} {cd_l_pick : Value}
    (a_l_pick : PySem.W.nsIn K mainGlobals "_law_pick" = some (some (.ref f_l_pick))) (l_l_pick : K.lookup f_l_pick = some ⟨oc_l_pick, o_l_pick, .func (PySem.W.fnOf "_law_pick" "_law_pick" (defArgs st_l_pick) (defBody st_l_pick) (defScope st_l_pick) .none kV_l_pick dc_l_pick pm_l_pick an_l_pick cd_l_pick ct_l_pick), s_l_pick⟩) (c_l_pick : PySem.W.codeIn K cd_l_pick "_law_pick" = true) (k_l_pick : PySem.W.keepIn K (.ref f_l_pick) = true)
    {f_l_shuffled : Addr} {o_l_shuffled : Option Addr} {an_l_shuffled : Option Addr} {s_l_shuffled : Array (Option Value)} {oc_l_shuffled kV_l_shuffled dc_l_shuffled pm_l_shuffled ct_l_shuffled : Value} {cd_l_shuffled : Value}
    (a_l_shuffled : PySem.W.nsIn K mainGlobals "_law_shuffled" = some (some (.ref f_l_shuffled))) (l_l_shuffled : K.lookup f_l_shuffled = some ⟨oc_l_shuffled, o_l_shuffled, .func (PySem.W.fnOf "_law_shuffled" "_law_shuffled" (defArgs st_l_shuffled) (defBody st_l_shuffled) (defScope st_l_shuffled) .none kV_l_shuffled dc_l_shuffled pm_l_shuffled an_l_shuffled cd_l_shuffled ct_l_shuffled), s_l_shuffled⟩) (c_l_shuffled : PySem.W.codeIn K cd_l_shuffled "_law_shuffled" = true) (k_l_shuffled : PySem.W.keepIn K (.ref f_l_shuffled) = true)
    {f_l_drawn_facts : Addr} {o_l_drawn_facts : Option Addr} {an_l_drawn_facts : Option Addr} {s_l_drawn_facts : Array (Option Value)} {oc_l_drawn_facts kV_l_drawn_facts dc_l_drawn_facts pm_l_drawn_facts ct_l_drawn_facts : Value} {cd_l_drawn_facts : Value}
    (a_l_drawn_facts : PySem.W.nsIn K mainGlobals "_law_drawn_facts" = some (some (.ref f_l_drawn_facts))) (l_l_drawn_facts : K.lookup f_l_drawn_facts = some ⟨oc_l_drawn_facts, o_l_drawn_facts, .func (PySem.W.fnOf "_law_drawn_facts" "_law_drawn_facts" (defArgs st_l_drawn_facts) (defBody st_l_drawn_facts) (defScope st_l_drawn_facts) .none kV_l_drawn_facts dc_l_drawn_facts pm_l_drawn_facts an_l_drawn_facts cd_l_drawn_facts ct_l_drawn_facts), s_l_drawn_facts⟩) (c_l_drawn_facts : PySem.W.codeIn K cd_l_drawn_facts "_law_drawn_facts" = true) (k_l_drawn_facts : PySem.W.keepIn K (.ref f_l_drawn_facts) = true)
    {f_l_names : Addr} {o_l_names : Option Addr} {an_l_names : Option Addr} {s_l_names : Array (Option Value)} {oc_l_names kV_l_names dc_l_names pm_l_names ct_l_names : Value} {cd_l_names : Value}
    (a_l_names : PySem.W.nsIn K mainGlobals "_law_names" = some (some (.ref f_l_names))) (l_l_names : K.lookup f_l_names = some ⟨oc_l_names, o_l_names, .func (PySem.W.fnOf "_law_names" "_law_names" (defArgs st_l_names) (defBody st_l_names) (defScope st_l_names) .none kV_l_names dc_l_names pm_l_names an_l_names cd_l_names ct_l_names), s_l_names⟩) (c_l_names : PySem.W.codeIn K cd_l_names "_law_names" = true) (k_l_names : PySem.W.keepIn K (.ref f_l_names) = true)
    {f_l_odd : Addr} {o_l_odd : Option Addr} {an_l_odd : Option Addr} {s_l_odd : Array (Option Value)} {oc_l_odd kV_l_odd dc_l_odd pm_l_odd ct_l_odd : Value} {cd_l_odd : Value}
    (a_l_odd : PySem.W.nsIn K mainGlobals "_law_odd" = some (some (.ref f_l_odd))) (l_l_odd : K.lookup f_l_odd = some ⟨oc_l_odd, o_l_odd, .func (PySem.W.fnOf "_law_odd" "_law_odd" (defArgs st_l_odd) (defBody st_l_odd) (defScope st_l_odd) .none kV_l_odd dc_l_odd pm_l_odd an_l_odd cd_l_odd ct_l_odd), s_l_odd⟩) (c_l_odd : PySem.W.codeIn K cd_l_odd "_law_odd" = true) (k_l_odd : PySem.W.keepIn K (.ref f_l_odd) = true)
    {f_l_bent : Addr} {o_l_bent : Option Addr} {an_l_bent : Option Addr} {s_l_bent : Array (Option Value)} {oc_l_bent kV_l_bent dc_l_bent pm_l_bent ct_l_bent : Value} {cd_l_bent : Value}
    (a_l_bent : PySem.W.nsIn K mainGlobals "_law_bent" = some (some (.ref f_l_bent))) (l_l_bent : K.lookup f_l_bent = some ⟨oc_l_bent, o_l_bent, .func (PySem.W.fnOf "_law_bent" "_law_bent" (defArgs st_l_bent) (defBody st_l_bent) (defScope st_l_bent) .none kV_l_bent dc_l_bent pm_l_bent an_l_bent cd_l_bent ct_l_bent), s_l_bent⟩) (c_l_bent : PySem.W.codeIn K cd_l_bent "_law_bent" = true) (k_l_bent : PySem.W.keepIn K (.ref f_l_bent) = true)
    {f_is_rising : Addr} {o_is_rising : Option Addr} {an_is_rising : Option Addr} {s_is_rising : Array (Option Value)} {oc_is_rising kV_is_rising dc_is_rising pm_is_rising ct_is_rising : Value} {cd_is_rising : Value}
    (a_is_rising : PySem.W.nsIn K mainGlobals "is_rising" = some (some (.ref f_is_rising))) (l_is_rising : K.lookup f_is_rising = some ⟨oc_is_rising, o_is_rising, .func (PySem.W.fnOf "is_rising" "is_rising" (defArgs st_is_rising) (defBody st_is_rising) (defScope st_is_rising) .none kV_is_rising dc_is_rising pm_is_rising an_is_rising cd_is_rising ct_is_rising), s_is_rising⟩) (c_is_rising : PySem.W.codeIn K cd_is_rising "is_rising" = true) (k_is_rising : PySem.W.keepIn K (.ref f_is_rising) = true)
    {f_is_paper : Addr} {o_is_paper : Option Addr} {an_is_paper : Option Addr} {s_is_paper : Array (Option Value)} {oc_is_paper kV_is_paper dc_is_paper pm_is_paper ct_is_paper : Value} {cd_is_paper : Value}
    (a_is_paper : PySem.W.nsIn K mainGlobals "is_paper" = some (some (.ref f_is_paper))) (l_is_paper : K.lookup f_is_paper = some ⟨oc_is_paper, o_is_paper, .func (PySem.W.fnOf "is_paper" "is_paper" (defArgs st_is_paper) (defBody st_is_paper) (defScope st_is_paper) .none kV_is_paper dc_is_paper pm_is_paper an_is_paper cd_is_paper ct_is_paper), s_is_paper⟩) (c_is_paper : PySem.W.codeIn K cd_is_paper "is_paper" = true) (k_is_paper : PySem.W.keepIn K (.ref f_is_paper) = true)
    {f_is_integer : Addr} {o_is_integer : Option Addr} {an_is_integer : Option Addr} {s_is_integer : Array (Option Value)} {oc_is_integer kV_is_integer dc_is_integer pm_is_integer ct_is_integer : Value} {cd_is_integer : Value}
    (a_is_integer : PySem.W.nsIn K mainGlobals "is_integer" = some (some (.ref f_is_integer))) (l_is_integer : K.lookup f_is_integer = some ⟨oc_is_integer, o_is_integer, .func (PySem.W.fnOf "is_integer" "is_integer" (defArgs st_is_integer) (defBody st_is_integer) (defScope st_is_integer) .none kV_is_integer dc_is_integer pm_is_integer an_is_integer cd_is_integer ct_is_integer), s_is_integer⟩) (c_is_integer : PySem.W.codeIn K cd_is_integer "is_integer" = true) (k_is_integer : PySem.W.keepIn K (.ref f_is_integer) = true)
    {f_is_count : Addr} {o_is_count : Option Addr} {an_is_count : Option Addr} {s_is_count : Array (Option Value)} {oc_is_count kV_is_count dc_is_count pm_is_count ct_is_count : Value} {cd_is_count : Value}
    (a_is_count : PySem.W.nsIn K mainGlobals "is_count" = some (some (.ref f_is_count))) (l_is_count : K.lookup f_is_count = some ⟨oc_is_count, o_is_count, .func (PySem.W.fnOf "is_count" "is_count" (defArgs st_is_count) (defBody st_is_count) (defScope st_is_count) .none kV_is_count dc_is_count pm_is_count an_is_count cd_is_count ct_is_count), s_is_count⟩) (c_is_count : PySem.W.codeIn K cd_is_count "is_count" = true) (k_is_count : PySem.W.keepIn K (.ref f_is_count) = true)
    {f_are_transactions : Addr} {o_are_transactions : Option Addr} {an_are_transactions : Option Addr} {s_are_transactions : Array (Option Value)} {oc_are_transactions kV_are_transactions dc_are_transactions pm_are_transactions ct_are_transactions : Value} {cd_are_transactions : Value}
    (a_are_transactions : PySem.W.nsIn K mainGlobals "are_transactions" = some (some (.ref f_are_transactions))) (l_are_transactions : K.lookup f_are_transactions = some ⟨oc_are_transactions, o_are_transactions, .func (PySem.W.fnOf "are_transactions" "are_transactions" (defArgs st_are_transactions) (defBody st_are_transactions) (defScope st_are_transactions) .none kV_are_transactions dc_are_transactions pm_are_transactions an_are_transactions cd_are_transactions ct_are_transactions), s_are_transactions⟩) (c_are_transactions : PySem.W.codeIn K cd_are_transactions "are_transactions" = true) (k_are_transactions : PySem.W.keepIn K (.ref f_are_transactions) = true)
    {f_is_fact_value : Addr} {o_is_fact_value : Option Addr} {an_is_fact_value : Option Addr} {s_is_fact_value : Array (Option Value)} {oc_is_fact_value kV_is_fact_value dc_is_fact_value pm_is_fact_value ct_is_fact_value : Value} {cd_is_fact_value : Value}
    (a_is_fact_value : PySem.W.nsIn K mainGlobals "is_fact_value" = some (some (.ref f_is_fact_value))) (l_is_fact_value : K.lookup f_is_fact_value = some ⟨oc_is_fact_value, o_is_fact_value, .func (PySem.W.fnOf "is_fact_value" "is_fact_value" (defArgs st_is_fact_value) (defBody st_is_fact_value) (defScope st_is_fact_value) .none kV_is_fact_value dc_is_fact_value pm_is_fact_value an_is_fact_value cd_is_fact_value ct_is_fact_value), s_is_fact_value⟩) (c_is_fact_value : PySem.W.codeIn K cd_is_fact_value "is_fact_value" = true) (k_is_fact_value : PySem.W.keepIn K (.ref f_is_fact_value) = true)
    {f_are_facts_value : Addr} {o_are_facts_value : Option Addr} {an_are_facts_value : Option Addr} {s_are_facts_value : Array (Option Value)} {oc_are_facts_value kV_are_facts_value dc_are_facts_value pm_are_facts_value ct_are_facts_value : Value} {cd_are_facts_value : Value}
    (a_are_facts_value : PySem.W.nsIn K mainGlobals "are_facts_value" = some (some (.ref f_are_facts_value))) (l_are_facts_value : K.lookup f_are_facts_value = some ⟨oc_are_facts_value, o_are_facts_value, .func (PySem.W.fnOf "are_facts_value" "are_facts_value" (defArgs st_are_facts_value) (defBody st_are_facts_value) (defScope st_are_facts_value) .none kV_are_facts_value dc_are_facts_value pm_are_facts_value an_are_facts_value cd_are_facts_value ct_are_facts_value), s_are_facts_value⟩) (c_are_facts_value : PySem.W.codeIn K cd_are_facts_value "are_facts_value" = true) (k_are_facts_value : PySem.W.keepIn K (.ref f_are_facts_value) = true)
    {f_are_facts : Addr} {o_are_facts : Option Addr} {an_are_facts : Option Addr} {s_are_facts : Array (Option Value)} {oc_are_facts kV_are_facts dc_are_facts pm_are_facts ct_are_facts : Value} {cd_are_facts : Value}
    (a_are_facts : PySem.W.nsIn K mainGlobals "are_facts" = some (some (.ref f_are_facts))) (l_are_facts : K.lookup f_are_facts = some ⟨oc_are_facts, o_are_facts, .func (PySem.W.fnOf "are_facts" "are_facts" (defArgs st_are_facts) (defBody st_are_facts) (defScope st_are_facts) .none kV_are_facts dc_are_facts pm_are_facts an_are_facts cd_are_facts ct_are_facts), s_are_facts⟩) (c_are_facts : PySem.W.codeIn K cd_are_facts "are_facts" = true) (k_are_facts : PySem.W.keepIn K (.ref f_are_facts) = true)
    {f_is_fact : Addr} {o_is_fact : Option Addr} {an_is_fact : Option Addr} {s_is_fact : Array (Option Value)} {oc_is_fact kV_is_fact dc_is_fact pm_is_fact ct_is_fact : Value} {cd_is_fact : Value}
    (a_is_fact : PySem.W.nsIn K mainGlobals "is_fact" = some (some (.ref f_is_fact))) (l_is_fact : K.lookup f_is_fact = some ⟨oc_is_fact, o_is_fact, .func (PySem.W.fnOf "is_fact" "is_fact" (defArgs st_is_fact) (defBody st_is_fact) (defScope st_is_fact) .none kV_is_fact dc_is_fact pm_is_fact an_is_fact cd_is_fact ct_is_fact), s_is_fact⟩) (c_is_fact : PySem.W.codeIn K cd_is_fact "is_fact" = true) (k_is_fact : PySem.W.keepIn K (.ref f_is_fact) = true)
    {f_l_is_number : Addr} {o_l_is_number : Option Addr} {an_l_is_number : Option Addr} {s_l_is_number : Array (Option Value)} {oc_l_is_number kV_l_is_number dc_l_is_number pm_l_is_number ct_l_is_number : Value} {cd_l_is_number : Value}
    (a_l_is_number : PySem.W.nsIn K mainGlobals "_law_is_number" = some (some (.ref f_l_is_number))) (l_l_is_number : K.lookup f_l_is_number = some ⟨oc_l_is_number, o_l_is_number, .func (PySem.W.fnOf "_law_is_number" "_law_is_number" (defArgs st_l_is_number) (defBody st_l_is_number) (defScope st_l_is_number) .none kV_l_is_number dc_l_is_number pm_l_is_number an_l_is_number cd_l_is_number ct_l_is_number), s_l_is_number⟩) (c_l_is_number : PySem.W.codeIn K cd_l_is_number "_law_is_number" = true) (k_l_is_number : PySem.W.keepIn K (.ref f_l_is_number) = true)
    {f_l_is_fact : Addr} {o_l_is_fact : Option Addr} {an_l_is_fact : Option Addr} {s_l_is_fact : Array (Option Value)} {oc_l_is_fact kV_l_is_fact dc_l_is_fact pm_l_is_fact ct_l_is_fact : Value} {cd_l_is_fact : Value}
    (a_l_is_fact : PySem.W.nsIn K mainGlobals "_law_is_fact" = some (some (.ref f_l_is_fact))) (l_l_is_fact : K.lookup f_l_is_fact = some ⟨oc_l_is_fact, o_l_is_fact, .func (PySem.W.fnOf "_law_is_fact" "_law_is_fact" (defArgs st_l_is_fact) (defBody st_l_is_fact) (defScope st_l_is_fact) .none kV_l_is_fact dc_l_is_fact pm_l_is_fact an_l_is_fact cd_l_is_fact ct_l_is_fact), s_l_is_fact⟩) (c_l_is_fact : PySem.W.codeIn K cd_l_is_fact "_law_is_fact" = true) (k_l_is_fact : PySem.W.keepIn K (.ref f_l_is_fact) = true)
    {f_l_are_facts : Addr} {o_l_are_facts : Option Addr} {an_l_are_facts : Option Addr} {s_l_are_facts : Array (Option Value)} {oc_l_are_facts kV_l_are_facts dc_l_are_facts pm_l_are_facts ct_l_are_facts : Value} {cd_l_are_facts : Value}
    (a_l_are_facts : PySem.W.nsIn K mainGlobals "_law_are_facts" = some (some (.ref f_l_are_facts))) (l_l_are_facts : K.lookup f_l_are_facts = some ⟨oc_l_are_facts, o_l_are_facts, .func (PySem.W.fnOf "_law_are_facts" "_law_are_facts" (defArgs st_l_are_facts) (defBody st_l_are_facts) (defScope st_l_are_facts) .none kV_l_are_facts dc_l_are_facts pm_l_are_facts an_l_are_facts cd_l_are_facts ct_l_are_facts), s_l_are_facts⟩) (c_l_are_facts : PySem.W.codeIn K cd_l_are_facts "_law_are_facts" = true) (k_l_are_facts : PySem.W.keepIn K (.ref f_l_are_facts) = true)
    {f_law : Addr} {o_law : Option Addr} {an_law : Option Addr} {s_law : Array (Option Value)} {oc_law kV_law dc_law pm_law ct_law : Value} {cc_law PP_law : Addr}
    (a_law : PySem.W.nsIn K mainGlobals "law" = some (some (.ref f_law))) (l_law : K.lookup f_law = some ⟨oc_law, o_law, .func (PySem.W.fnOf "law" "law" (defArgs st_law) (defBody st_law) (defScope st_law) .none kV_law dc_law pm_law an_law (.ref cc_law) ct_law), s_law⟩) (c_law : PySem.W.codeIn K (.ref cc_law) "law" = true) (k_law : PySem.W.keepIn K (.ref f_law) = true)
    {ec_l_in_order : Value} {dd_l_in_order : Option Addr} {vs_l_in_order : Array Value} {sl_l_in_order : Array (Option Value)} (u_l_in_order : K.lookup cc_l_in_order = some ⟨ec_l_in_order, dd_l_in_order, .fields vs_l_in_order, sl_l_in_order⟩) (v_l_in_order : (vs_l_in_order[11]? : Option Value) = some (.ref PP_l_in_order)) (hd_l_in_order : PySem.W.codeHdIn K cc_l_in_order PP_l_in_order = true) (gt_l_in_order : h.get? PP_l_in_order = some { cls := .none, data := .fields #[] }) (n_l_in_order : K.lookup PP_l_in_order = none)
    {ec_law : Value} {dd_law : Option Addr} {vs_law : Array Value} {sl_law : Array (Option Value)} (u_law : K.lookup cc_law = some ⟨ec_law, dd_law, .fields vs_law, sl_law⟩) (v_law : (vs_law[11]? : Option Value) = some (.ref PP_law)) (hd_law : PySem.W.codeHdIn K cc_law PP_law = true) (gt_law : h.get? PP_law = some { cls := .none, data := .fields #[] }) (n_law : K.lookup PP_law = none)
    (pne : PP_l_in_order ≠ PP_law)
    (z_all : PySem.W.nsIn K mainGlobals "all" = some none)
    (z_bool : PySem.W.nsIn K mainGlobals "bool" = some none)
    (z_enumerate : PySem.W.nsIn K mainGlobals "enumerate" = some none)
    (z_int : PySem.W.nsIn K mainGlobals "int" = some none)
    (z_isinstance : PySem.W.nsIn K mainGlobals "isinstance" = some none)
    (z_len : PySem.W.nsIn K mainGlobals "len" = some none)
    (z_list : PySem.W.nsIn K mainGlobals "list" = some none)
    (z_max : PySem.W.nsIn K mainGlobals "max" = some none)
    (z_range : PySem.W.nsIn K mainGlobals "range" = some none)
    (z_repr : PySem.W.nsIn K mainGlobals "repr" = some none)
    (z_set : PySem.W.nsIn K mainGlobals "set" = some none)
    (z_sorted : PySem.W.nsIn K mainGlobals "sorted" = some none)
    (z_str : PySem.W.nsIn K mainGlobals "str" = some none)
    (z_tuple : PySem.W.nsIn K mainGlobals "tuple" = some none)
    (z_zip : PySem.W.nsIn K mainGlobals "zip" = some none)
    {tk_DROPPED : Tok} (y_DROPPED : PySem.W.nsIn K mainGlobals "DROPPED" = some (some (.str "dropped" tk_DROPPED)))
    {tk_FIRM : Tok} (y_FIRM : PySem.W.nsIn K mainGlobals "FIRM" = some (some (.str "firm" tk_FIRM)))
    (nl : (K.all fun p => !(p.2.cls == .type "list")) = true)
 :
    LawAtS l w K (L2.CX l.prog w) 7 63 "script" mg fa h := by
  have e := hfa.symm.trans (PySem.W.mg_of Y G a_law)
  cases e
  let Gm : Gl0 K mg := { a_l_deck := f_l_deck, d_l_deck := PySem.W.fnOf "_law_deck" "_law_deck" (defArgs st_l_deck) (defBody st_l_deck) (defScope st_l_deck) .none kV_l_deck dc_l_deck pm_l_deck an_l_deck cd_l_deck ct_l_deck, F_l_deck := fun_mk (st := st_l_deck) l_l_deck c_l_deck k_l_deck, g_l_deck := PySem.W.mg_of Y G a_l_deck, a_l_in_order := f_l_in_order, d_l_in_order := PySem.W.fnOf "_law_in_order" "_law_in_order" (defArgs st_l_in_order) (defBody st_l_in_order) (defScope st_l_in_order) .none kV_l_in_order dc_l_in_order pm_l_in_order an_l_in_order (.ref cc_l_in_order) ct_l_in_order, F_l_in_order := fun_mk (st := st_l_in_order) l_l_in_order c_l_in_order k_l_in_order, g_l_in_order := PySem.W.mg_of Y G a_l_in_order, a_l_draw := f_l_draw, d_l_draw := PySem.W.fnOf "_law_draw" "_law_draw" (defArgs st_l_draw) (defBody st_l_draw) (defScope st_l_draw) .none kV_l_draw dc_l_draw pm_l_draw an_l_draw cd_l_draw ct_l_draw, F_l_draw := fun_mk (st := st_l_draw) l_l_draw c_l_draw k_l_draw, g_l_draw := PySem.W.mg_of Y G a_l_draw, a_l_pick := f_l_pick, d_l_pick := PySem.W.fnOf "_law_pick" "_law_pick" (defArgs st_l_pick) (defBody st_l_pick) (defScope st_l_pick) .none kV_l_pick dc_l_pick pm_l_pick an_l_pick cd_l_pick ct_l_pick, F_l_pick := fun_mk (st := st_l_pick) l_l_pick c_l_pick k_l_pick, g_l_pick := PySem.W.mg_of Y G a_l_pick, a_l_shuffled := f_l_shuffled, d_l_shuffled := PySem.W.fnOf "_law_shuffled" "_law_shuffled" (defArgs st_l_shuffled) (defBody st_l_shuffled) (defScope st_l_shuffled) .none kV_l_shuffled dc_l_shuffled pm_l_shuffled an_l_shuffled cd_l_shuffled ct_l_shuffled, F_l_shuffled := fun_mk (st := st_l_shuffled) l_l_shuffled c_l_shuffled k_l_shuffled, g_l_shuffled := PySem.W.mg_of Y G a_l_shuffled, a_l_drawn_facts := f_l_drawn_facts, d_l_drawn_facts := PySem.W.fnOf "_law_drawn_facts" "_law_drawn_facts" (defArgs st_l_drawn_facts) (defBody st_l_drawn_facts) (defScope st_l_drawn_facts) .none kV_l_drawn_facts dc_l_drawn_facts pm_l_drawn_facts an_l_drawn_facts cd_l_drawn_facts ct_l_drawn_facts, F_l_drawn_facts := fun_mk (st := st_l_drawn_facts) l_l_drawn_facts c_l_drawn_facts k_l_drawn_facts, g_l_drawn_facts := PySem.W.mg_of Y G a_l_drawn_facts, a_l_names := f_l_names, d_l_names := PySem.W.fnOf "_law_names" "_law_names" (defArgs st_l_names) (defBody st_l_names) (defScope st_l_names) .none kV_l_names dc_l_names pm_l_names an_l_names cd_l_names ct_l_names, F_l_names := fun_mk (st := st_l_names) l_l_names c_l_names k_l_names, g_l_names := PySem.W.mg_of Y G a_l_names, a_l_odd := f_l_odd, d_l_odd := PySem.W.fnOf "_law_odd" "_law_odd" (defArgs st_l_odd) (defBody st_l_odd) (defScope st_l_odd) .none kV_l_odd dc_l_odd pm_l_odd an_l_odd cd_l_odd ct_l_odd, F_l_odd := fun_mk (st := st_l_odd) l_l_odd c_l_odd k_l_odd, g_l_odd := PySem.W.mg_of Y G a_l_odd, a_l_bent := f_l_bent, d_l_bent := PySem.W.fnOf "_law_bent" "_law_bent" (defArgs st_l_bent) (defBody st_l_bent) (defScope st_l_bent) .none kV_l_bent dc_l_bent pm_l_bent an_l_bent cd_l_bent ct_l_bent, F_l_bent := fun_mk (st := st_l_bent) l_l_bent c_l_bent k_l_bent, g_l_bent := PySem.W.mg_of Y G a_l_bent, a_is_rising := f_is_rising, d_is_rising := PySem.W.fnOf "is_rising" "is_rising" (defArgs st_is_rising) (defBody st_is_rising) (defScope st_is_rising) .none kV_is_rising dc_is_rising pm_is_rising an_is_rising cd_is_rising ct_is_rising, F_is_rising := fun_mk (st := st_is_rising) l_is_rising c_is_rising k_is_rising, g_is_rising := PySem.W.mg_of Y G a_is_rising, a_is_paper := f_is_paper, d_is_paper := PySem.W.fnOf "is_paper" "is_paper" (defArgs st_is_paper) (defBody st_is_paper) (defScope st_is_paper) .none kV_is_paper dc_is_paper pm_is_paper an_is_paper cd_is_paper ct_is_paper, F_is_paper := fun_mk (st := st_is_paper) l_is_paper c_is_paper k_is_paper, g_is_paper := PySem.W.mg_of Y G a_is_paper, a_is_integer := f_is_integer, d_is_integer := PySem.W.fnOf "is_integer" "is_integer" (defArgs st_is_integer) (defBody st_is_integer) (defScope st_is_integer) .none kV_is_integer dc_is_integer pm_is_integer an_is_integer cd_is_integer ct_is_integer, F_is_integer := fun_mk (st := st_is_integer) l_is_integer c_is_integer k_is_integer, g_is_integer := PySem.W.mg_of Y G a_is_integer, a_is_count := f_is_count, d_is_count := PySem.W.fnOf "is_count" "is_count" (defArgs st_is_count) (defBody st_is_count) (defScope st_is_count) .none kV_is_count dc_is_count pm_is_count an_is_count cd_is_count ct_is_count, F_is_count := fun_mk (st := st_is_count) l_is_count c_is_count k_is_count, g_is_count := PySem.W.mg_of Y G a_is_count, a_are_transactions := f_are_transactions, d_are_transactions := PySem.W.fnOf "are_transactions" "are_transactions" (defArgs st_are_transactions) (defBody st_are_transactions) (defScope st_are_transactions) .none kV_are_transactions dc_are_transactions pm_are_transactions an_are_transactions cd_are_transactions ct_are_transactions, F_are_transactions := fun_mk (st := st_are_transactions) l_are_transactions c_are_transactions k_are_transactions, g_are_transactions := PySem.W.mg_of Y G a_are_transactions, a_is_fact_value := f_is_fact_value, d_is_fact_value := PySem.W.fnOf "is_fact_value" "is_fact_value" (defArgs st_is_fact_value) (defBody st_is_fact_value) (defScope st_is_fact_value) .none kV_is_fact_value dc_is_fact_value pm_is_fact_value an_is_fact_value cd_is_fact_value ct_is_fact_value, F_is_fact_value := fun_mk (st := st_is_fact_value) l_is_fact_value c_is_fact_value k_is_fact_value, g_is_fact_value := PySem.W.mg_of Y G a_is_fact_value, a_are_facts_value := f_are_facts_value, d_are_facts_value := PySem.W.fnOf "are_facts_value" "are_facts_value" (defArgs st_are_facts_value) (defBody st_are_facts_value) (defScope st_are_facts_value) .none kV_are_facts_value dc_are_facts_value pm_are_facts_value an_are_facts_value cd_are_facts_value ct_are_facts_value, F_are_facts_value := fun_mk (st := st_are_facts_value) l_are_facts_value c_are_facts_value k_are_facts_value, g_are_facts_value := PySem.W.mg_of Y G a_are_facts_value, a_are_facts := f_are_facts, d_are_facts := PySem.W.fnOf "are_facts" "are_facts" (defArgs st_are_facts) (defBody st_are_facts) (defScope st_are_facts) .none kV_are_facts dc_are_facts pm_are_facts an_are_facts cd_are_facts ct_are_facts, F_are_facts := fun_mk (st := st_are_facts) l_are_facts c_are_facts k_are_facts, g_are_facts := PySem.W.mg_of Y G a_are_facts, a_is_fact := f_is_fact, d_is_fact := PySem.W.fnOf "is_fact" "is_fact" (defArgs st_is_fact) (defBody st_is_fact) (defScope st_is_fact) .none kV_is_fact dc_is_fact pm_is_fact an_is_fact cd_is_fact ct_is_fact, F_is_fact := fun_mk (st := st_is_fact) l_is_fact c_is_fact k_is_fact, g_is_fact := PySem.W.mg_of Y G a_is_fact, a_l_is_number := f_l_is_number, d_l_is_number := PySem.W.fnOf "_law_is_number" "_law_is_number" (defArgs st_l_is_number) (defBody st_l_is_number) (defScope st_l_is_number) .none kV_l_is_number dc_l_is_number pm_l_is_number an_l_is_number cd_l_is_number ct_l_is_number, F_l_is_number := fun_mk (st := st_l_is_number) l_l_is_number c_l_is_number k_l_is_number, g_l_is_number := PySem.W.mg_of Y G a_l_is_number, a_l_is_fact := f_l_is_fact, d_l_is_fact := PySem.W.fnOf "_law_is_fact" "_law_is_fact" (defArgs st_l_is_fact) (defBody st_l_is_fact) (defScope st_l_is_fact) .none kV_l_is_fact dc_l_is_fact pm_l_is_fact an_l_is_fact cd_l_is_fact ct_l_is_fact, F_l_is_fact := fun_mk (st := st_l_is_fact) l_l_is_fact c_l_is_fact k_l_is_fact, g_l_is_fact := PySem.W.mg_of Y G a_l_is_fact, a_l_are_facts := f_l_are_facts, d_l_are_facts := PySem.W.fnOf "_law_are_facts" "_law_are_facts" (defArgs st_l_are_facts) (defBody st_l_are_facts) (defScope st_l_are_facts) .none kV_l_are_facts dc_l_are_facts pm_l_are_facts an_l_are_facts cd_l_are_facts ct_l_are_facts, F_l_are_facts := fun_mk (st := st_l_are_facts) l_l_are_facts c_l_are_facts k_l_are_facts, g_l_are_facts := PySem.W.mg_of Y G a_l_are_facts, a_law := fa, d_law := PySem.W.fnOf "law" "law" (defArgs st_law) (defBody st_law) (defScope st_law) .none kV_law dc_law pm_law an_law (.ref cc_law) ct_law, F_law := fun_mk (st := st_law) l_law c_law k_law, g_law := PySem.W.mg_of Y G a_law, c_l_in_order := cc_l_in_order, P_l_in_order := PP_l_in_order, h_l_in_order := rfl, c_law := cc_law, P_law := PP_law, h_law := rfl, pne := pne, z_all := PySem.W.mg_none_of Y G z_all, z_bool := PySem.W.mg_none_of Y G z_bool, z_enumerate := PySem.W.mg_none_of Y G z_enumerate, z_int := PySem.W.mg_none_of Y G z_int, z_isinstance := PySem.W.mg_none_of Y G z_isinstance, z_len := PySem.W.mg_none_of Y G z_len, z_list := PySem.W.mg_none_of Y G z_list, z_max := PySem.W.mg_none_of Y G z_max, z_range := PySem.W.mg_none_of Y G z_range, z_repr := PySem.W.mg_none_of Y G z_repr, z_set := PySem.W.mg_none_of Y G z_set, z_sorted := PySem.W.mg_none_of Y G z_sorted, z_str := PySem.W.mg_none_of Y G z_str, z_tuple := PySem.W.mg_none_of Y G z_tuple, z_zip := PySem.W.mg_none_of Y G z_zip, c_DROPPED := ⟨_, PySem.W.mg_of Y G y_DROPPED⟩, c_FIRM := ⟨_, PySem.W.mg_of Y G y_FIRM⟩ }
  have T : (PySem.W.CodeHd h cc_l_in_order PP_l_in_order ∧ h.get? PP_l_in_order = some { cls := .none, data := .fields #[] }) ∧ (PySem.W.CodeHd h cc_law PP_law ∧ h.get? PP_law = some { cls := .none, data := .fields #[] }) := ⟨⟨PySem.W.codeHd_of_K Y hd_l_in_order, gt_l_in_order⟩, ⟨PySem.W.codeHd_of_K Y hd_law, gt_law⟩⟩
  refine ⟨Gm.d_law, [(cc_l_in_order, PP_l_in_order), (cc_law, PP_law)], spF K mg Gm.T fn_law, ?_, ?_, ?_, fun s u => .of_eq rfl, ?_, ?_⟩
  · intro p hp
    simp only [List.mem_cons, List.not_mem_nil, or_false] at hp
    rcases hp with rfl | rfl
    · exact T.1.2
    · exact T.2.2
  · intro p hp
    simp only [List.mem_cons, List.not_mem_nil, or_false] at hp
    rcases hp with rfl | rfl
    · exact n_l_in_order
    · exact n_law
  · intro p hp
    simp only [List.mem_cons, List.not_mem_nil, or_false] at hp
    rcases hp with rfl | rfl
    · exact T.1.1
    · exact T.2.1
  · intro H a ns hl _ hT hS
    exact law_promise (ns := ns) rfl rfl (law_true ns) (noLst_of nl hS) (fun p hp => by
      simp only [Gl0.T, List.mem_cons, List.not_mem_nil, or_false] at hp
      rcases hp with rfl | rfl
      · exact LamX.TabS.nil (hT (cc_l_in_order, PP_l_in_order) (by simp))
      · exact LamX.TabS.nil (hT (cc_law, PP_law) (by simp))
      )
  · intro base Yb Gb Tb
    exact ok_law Gm ⟨Tb (cc_l_in_order, PP_l_in_order) (by simp), Tb (cc_law, PP_law) (by simp)⟩
end
end k02
end Yf
open PySem PySem.W PyProof.Rows
set_option maxHeartbeats 0 in
theorem PySem.Challenge.cw_yesifs_k02_facts_among_any_values_holds : PySem.Challenge.rw_yesifs_k02_facts_among_any_values.Holds := by
  w_on; o_law; k_head; (case hw => w_witness2)
  k_fill
  refine Yf.walk_ofTop (l := PySem.Challenge.rw_yesifs_k02_facts_among_any_values) (n := 63) (k := 7) (x := "script") (CX := fun w => L2.CX PySem.Challenge.rw_yesifs_k02_facts_among_any_values.prog w) rfl (by decide) rfl ⟨rfl, by decide, by decide⟩ (fun w h Y => PySem.W.km_in_of Y) ?F ?C
  case F =>
    intro w mg fa h Y KX G hmg tab
    refine' Yf.k02.all_mk KX G hmg ?a_l_deck ?l_l_deck ?c_l_deck ?k_l_deck ?a_l_in_order ?l_l_in_order ?c_l_in_order ?k_l_in_order ?a_l_draw ?l_l_draw ?c_l_draw ?k_l_draw ?a_l_pick ?l_l_pick ?c_l_pick ?k_l_pick ?a_l_shuffled ?l_l_shuffled ?c_l_shuffled ?k_l_shuffled ?a_l_drawn_facts ?l_l_drawn_facts ?c_l_drawn_facts ?k_l_drawn_facts ?a_l_names ?l_l_names ?c_l_names ?k_l_names ?a_l_odd ?l_l_odd ?c_l_odd ?k_l_odd ?a_l_bent ?l_l_bent ?c_l_bent ?k_l_bent ?a_is_rising ?l_is_rising ?c_is_rising ?k_is_rising ?a_is_paper ?l_is_paper ?c_is_paper ?k_is_paper ?a_is_integer ?l_is_integer ?c_is_integer ?k_is_integer ?a_is_count ?l_is_count ?c_is_count ?k_is_count ?a_are_transactions ?l_are_transactions ?c_are_transactions ?k_are_transactions ?a_is_fact_value ?l_is_fact_value ?c_is_fact_value ?k_is_fact_value ?a_are_facts_value ?l_are_facts_value ?c_are_facts_value ?k_are_facts_value ?a_are_facts ?l_are_facts ?c_are_facts ?k_are_facts ?a_is_fact ?l_is_fact ?c_is_fact ?k_is_fact ?a_l_is_number ?l_l_is_number ?c_l_is_number ?k_l_is_number ?a_l_is_fact ?l_l_is_fact ?c_l_is_fact ?k_l_is_fact ?a_l_are_facts ?l_l_are_facts ?c_l_are_facts ?k_l_are_facts ?a_law ?l_law ?c_law ?k_law ?u_l_in_order ?v_l_in_order ?hd_l_in_order ?gt_l_in_order ?n_l_in_order ?u_law ?v_law ?hd_law ?gt_law ?n_law ?pne ?z_all ?z_bool ?z_enumerate ?z_int ?z_isinstance ?z_len ?z_list ?z_max ?z_range ?z_repr ?z_set ?z_sorted ?z_str ?z_tuple ?z_zip ?y_DROPPED ?y_FIRM ?nl
    (case a_l_deck => k_is); (case l_l_deck => k_is); (case c_l_deck => k_is); (case k_l_deck => k_is); (case a_l_in_order => k_is); (case l_l_in_order => k_is); (case c_l_in_order => k_is); (case k_l_in_order => k_is); (case a_l_draw => k_is); (case l_l_draw => k_is); (case c_l_draw => k_is); (case k_l_draw => k_is); (case a_l_pick => k_is); (case l_l_pick => k_is); (case c_l_pick => k_is); (case k_l_pick => k_is); (case a_l_shuffled => k_is); (case l_l_shuffled => k_is); (case c_l_shuffled => k_is); (case k_l_shuffled => k_is); (case a_l_drawn_facts => k_is); (case l_l_drawn_facts => k_is); (case c_l_drawn_facts => k_is); (case k_l_drawn_facts => k_is); (case a_l_names => k_is); (case l_l_names => k_is); (case c_l_names => k_is); (case k_l_names => k_is); (case a_l_odd => k_is); (case l_l_odd => k_is); (case c_l_odd => k_is); (case k_l_odd => k_is); (case a_l_bent => k_is); (case l_l_bent => k_is); (case c_l_bent => k_is); (case k_l_bent => k_is); (case a_is_rising => k_is); (case l_is_rising => k_is); (case c_is_rising => k_is); (case k_is_rising => k_is); (case a_is_paper => k_is); (case l_is_paper => k_is); (case c_is_paper => k_is); (case k_is_paper => k_is); (case a_is_integer => k_is); (case l_is_integer => k_is); (case c_is_integer => k_is); (case k_is_integer => k_is); (case a_is_count => k_is); (case l_is_count => k_is); (case c_is_count => k_is); (case k_is_count => k_is); (case a_are_transactions => k_is); (case l_are_transactions => k_is); (case c_are_transactions => k_is); (case k_are_transactions => k_is); (case a_is_fact_value => k_is); (case l_is_fact_value => k_is); (case c_is_fact_value => k_is); (case k_is_fact_value => k_is); (case a_are_facts_value => k_is); (case l_are_facts_value => k_is); (case c_are_facts_value => k_is); (case k_are_facts_value => k_is); (case a_are_facts => k_is); (case l_are_facts => k_is); (case c_are_facts => k_is); (case k_are_facts => k_is); (case a_is_fact => k_is); (case l_is_fact => k_is); (case c_is_fact => k_is); (case k_is_fact => k_is); (case a_l_is_number => k_is); (case l_l_is_number => k_is); (case c_l_is_number => k_is); (case k_l_is_number => k_is); (case a_l_is_fact => k_is); (case l_l_is_fact => k_is); (case c_l_is_fact => k_is); (case k_l_is_fact => k_is); (case a_l_are_facts => k_is); (case l_l_are_facts => k_is); (case c_l_are_facts => k_is); (case k_l_are_facts => k_is); (case a_law => k_is); (case l_law => k_is); (case c_law => k_is); (case k_law => k_is); (case u_l_in_order => k_is); (case u_law => k_is); (case z_all => k_is); (case z_bool => k_is); (case z_enumerate => k_is); (case z_int => k_is); (case z_isinstance => k_is); (case z_len => k_is); (case z_list => k_is); (case z_max => k_is); (case z_range => k_is); (case z_repr => k_is); (case z_set => k_is); (case z_sorted => k_is); (case z_str => k_is); (case z_tuple => k_is); (case z_zip => k_is); (case y_DROPPED => k_is); (case y_FIRM => k_is)
    (case v_l_in_order => rfl); (case hd_l_in_order => first | rfl | k_is); (case gt_l_in_order => exact PySem.W.km_tabs_of Y _ (by decide)); (case n_l_in_order => first | rfl | k_is); (case v_law => rfl); (case hd_law => first | rfl | k_is); (case gt_law => exact PySem.W.km_tabs_of Y _ (by decide)); (case n_law => first | rfl | k_is)
    (case pne => decide); (case nl => first | rfl | k_is)
  case C => exact fun w H s e s' h => Yf.cx_none h
