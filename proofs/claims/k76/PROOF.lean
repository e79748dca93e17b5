import PyProof.Rows.All
import Wide.All
import OpenK.AllK
import Wide.FinOn
import HandS.ForMost
import HandS.More
import HandS.Defaults
import HandS.Star
import HandS.Property
import HandS.MakeKwOnly
import HandS.ClsMeth
import HandS.IsInst
import HandS.WordsList
import HandS.DictComp
import HandS.ListItems
import HandS.DeepEq
import HandS.Sort
import HandS.ListEq
import HandS.DictEq
import HandS.Style
import HandS.Text
import HandS.Iter
import HandS.HeadNt
import HandS.Head0
import HandS.Head1
import HandS.Head2
import HandS.HeadEnd
import HandS.HeadHook1
import HandS.HeadHook2
import KE.KStateDown
import Lean
import PySem.Challenge.RW_askranges_k76_whole_orders_and_all_value
set_option Elab.async false
set_option linter.all false
set_option maxRecDepth 100000
set_option maxHeartbeats 4300000
/-! A0: the abstract layer: data instead of objects. -/
namespace Ab
open L2 PySem PySem.Spec PyProof.Rows
abbrev St := L2.St

/-- plain data; ref: an address as such (a changing object, a class) -/
inductive D where
  | non | bl (b : Bool) | int (i : Int) | str (x : Str) | ty (n : String) | ref (a : Addr)
  | lst (ds : List D) | tup (ds : List D) | dic (ks : List (Key × D)) | ins (C : Addr) (fs : List (Str × D))
  /-- a list that may be one of K's -/
  | kl (ds : List D)

/-- what a changing object holds -/
inductive MO where
  | lst (ds : List D) | dic (ks : List (Key × D)) | ins (C : Addr) (fs : List (Str × D))
abbrev Mu := Addr → Option MO
def dom (m : Mu) (a : Addr) : Prop := m a ≠ none
def updM (m : Mu) (a : Addr) (o : MO) : Mu := fun b => if b = a then some o else m b
def delM (m : Mu) (a : Addr) : Mu := fun b => if b = a then none else m b
theorem updM_same {m : Mu} {a : Addr} {o : MO} : updM m a o a = some o := if_pos rfl
theorem updM_ne {m : Mu} {a b : Addr} {o : MO} (h : b ≠ a) : updM m a o b = m b := if_neg h
theorem updM_updM {m : Mu} {a : Addr} {o u : MO} : updM (updM m a o) a u = updM m a u := by
  funext b; unfold updM; split <;> rfl
theorem delM_updM {m : Mu} {a : Addr} {o : MO} (h : m a = none) : delM (updM m a o) a = m := by
  funext b; unfold delM updM; split
  · rename_i e; rw [e, h]
  · rfl
theorem neM {m : Mu} {a b : Addr} {o : MO} (h : m a = some o) (h' : m b = none) : a ≠ b := by
  intro e; rw [e, h'] at h; cases h
theorem dom_upd {m : Mu} {a b : Addr} {o : MO} : dom (updM m a o) b ↔ b = a ∨ dom m b := by
  unfold dom updM; split
  · rename_i e; simp [e]
  · rename_i e; simp [e]
theorem dom_del {m : Mu} {a b : Addr} : dom (delM m a) b ↔ b ≠ a ∧ dom m b := by
  unfold dom delM; split
  · rename_i e; simp [e]
  · rename_i e; simp [e]

section
variable (K : PySem.W.Frag) (M : Addr → Prop) (H : Hp)
mutual
inductive Rep : D → V → Prop
  | non : Rep .non .non
  | bl {b : Bool} : Rep (.bl b) (.bl b)
  | int {i : Int} : Rep (.int i) (.int i)
  | str {x : Str} : Rep (.str x) (.str x)
  | ty {n : String} : Rep (.ty n) (.ty n)
  | ref {a : Addr} : Rep (.ref a) (.ref a)
  | lst {a : Addr} {ds : List D} {vs : List V} (m : ¬ M a) (h : Rd H a (.lst vs)) (r : Reps ds vs) : Rep (.lst ds) (.ref a)
  | tup {a : Addr} {ds : List D} {vs : List V} (m : ¬ M a) (h : H a = some (.tup vs)) (r : Reps ds vs) : Rep (.tup ds) (.ref a)
  | kl {a : Addr} {ds : List D} {vs : List V} (h : SqL K (fun _ => none) a vs) (r : Reps ds vs) : Rep (.kl ds) (.ref a)
  | tupK {a : Addr} {ds : List D} {vs : List V} (h : SqT K (fun _ => none) a vs) (r : Reps ds vs) : Rep (.tup ds) (.ref a)
  | dic {a : Addr} {ks : List (Key × D)} {kvs : List (Key × V)} (m : ¬ M a) (h : H a = some (.dK kvs)) (e : kvs.map (·.1) = ks.map (·.1)) (r : Reps (ks.map (·.2)) (kvs.map (·.2))) : Rep (.dic ks) (.ref a)
  | ins {a C dx : Addr} {fs : List (Str × D)} {gs : List (Str × V)} (m : ¬ M a) (h : H a = some (.ins C dx gs)) (e : gs.map (·.1) = fs.map (·.1)) (r : Reps (fs.map (·.2)) (gs.map (·.2))) : Rep (.ins C fs) (.ref a)
inductive Reps : List D → List V → Prop
  | nil : Reps [] []
  | cons {d : D} {v : V} {ds : List D} {vs : List V} (h : Rep d v) (t : Reps ds vs) : Reps (d :: ds) (v :: vs)
end
end
section
variable {K : PySem.W.Frag} {M M' : Addr → Prop} {H H' : Hp}
mutual
/-- what is not marked as changing stays: the data stays -/
theorem Rep.later (k : ∀ a o, ¬ M a → H a = some o → H' a = some o ∧ ¬ M' a) : ∀ {d : D} {v : V}, Rep K M H d v → Rep K M' H' d v
  | _, _, .non => .non
  | _, _, .bl => .bl
  | _, _, .int => .int
  | _, _, .str => .str
  | _, _, .ty => .ty
  | _, _, .ref => .ref
  | _, _, .lst m (.inl h) r => .lst (k _ _ m h).2 (.inl (k _ _ m h).1) (Reps.later k r)
  | _, _, .lst m (.inr ⟨o, h⟩) r => .lst (k _ _ m h).2 (.inr ⟨o, (k _ _ m h).1⟩) (Reps.later k r)
  | _, _, .tup m h r => .tup (k _ _ m h).2 (k _ _ m h).1 (Reps.later k r)
  | _, _, .tupK h r => .tupK h (Reps.later k r)
  | _, _, .kl h r => .kl h (Reps.later k r)
  | _, _, .dic m h e r => .dic (k _ _ m h).2 (k _ _ m h).1 e (Reps.later k r)
  | _, _, .ins m h e r => .ins (k _ _ m h).2 (k _ _ m h).1 e (Reps.later k r)
theorem Reps.later (k : ∀ a o, ¬ M a → H a = some o → H' a = some o ∧ ¬ M' a) : ∀ {ds : List D} {vs : List V}, Reps K M H ds vs → Reps K M' H' ds vs
  | _, _, .nil => .nil
  | _, _, .cons h t => .cons (Rep.later k h) (Reps.later k t)
end
theorem Reps.length : ∀ {ds : List D} {vs : List V}, Reps K M H ds vs → ds.length = vs.length
  | _, _, .nil => rfl
  | _, _, .cons _ t => congrArg (· + 1) (Reps.length t)
theorem Reps.get : ∀ {ds : List D} {vs : List V} {i : Nat} {d : D}, Reps K M H ds vs → ds[i]? = some d → ∃ v, vs[i]? = some v ∧ Rep K M H d v
  | _, _, _, _, .nil, e => by simp at e
  | _, _, 0, _, .cons h _, e => by simp at e; subst e; exact ⟨_, rfl, h⟩
  | _, _, i + 1, _, .cons _ t, e => by
    obtain ⟨u, h1, h2⟩ := Reps.get (i := i) t (by simpa using e)
    exact ⟨u, by simpa using h1, h2⟩
theorem Reps.getV : ∀ {ds : List D} {vs : List V} {i : Nat} {v : V}, Reps K M H ds vs → vs[i]? = some v → ∃ d, ds[i]? = some d ∧ Rep K M H d v
  | _, _, _, _, .nil, e => by simp at e
  | _, _, 0, _, .cons h _, e => by simp at e; subst e; exact ⟨_, rfl, h⟩
  | _, _, i + 1, _, .cons _ t, e => by
    obtain ⟨u, h1, h2⟩ := Reps.getV (i := i) t (by simpa using e)
    exact ⟨u, by simpa using h1, h2⟩
theorem Reps.append : ∀ {ds es : List D} {vs us : List V}, Reps K M H ds vs → Reps K M H es us → Reps K M H (ds ++ es) (vs ++ us)
  | _, _, _, _, .nil, s => s
  | _, _, _, _, .cons h t, s => .cons h (Reps.append t s)
theorem Reps.take : ∀ {ds : List D} {vs : List V} (n : Nat), Reps K M H ds vs → Reps K M H (ds.take n) (vs.take n)
  | _, _, 0, _ => by simpa using Reps.nil
  | _, _, _ + 1, .nil => .nil
  | _, _, n + 1, .cons h t => .cons h (Reps.take n t)
theorem Reps.drop : ∀ {ds : List D} {vs : List V} (n : Nat), Reps K M H ds vs → Reps K M H (ds.drop n) (vs.drop n)
  | _, _, 0, h => h
  | _, _, _ + 1, .nil => .nil
  | _, _, n + 1, .cons _ t => Reps.drop n t
theorem Reps.set : ∀ {ds : List D} {vs : List V} (n : Nat) {d : D} {v : V}, Reps K M H ds vs → Rep K M H d v → Reps K M H (ds.set n d) (vs.set n v)
  | _, _, _, _, _, .nil, _ => .nil
  | _, _, 0, _, _, .cons _ t, r => .cons r t
  | _, _, n + 1, _, _, .cons h t, r => .cons h (Reps.set n t r)
theorem Reps.eraseIdx : ∀ {ds : List D} {vs : List V} (n : Nat), Reps K M H ds vs → Reps K M H (ds.eraseIdx n) (vs.eraseIdx n)
  | _, _, _, .nil => .nil
  | _, _, 0, .cons _ t => t
  | _, _, n + 1, .cons h t => .cons h (Reps.eraseIdx n t)
end

/-- a changing object stands as the store says -/
def MOk (K : PySem.W.Frag) (M : Addr → Prop) (H : Hp) (a : Addr) : MO → Prop
  | .lst ds => ∃ vs, H a = some (.lst vs) ∧ Reps K M H ds vs
  | .dic ks => ∃ kvs, H a = some (.dK kvs) ∧ kvs.map (·.1) = ks.map (·.1) ∧ Reps K M H (ks.map (·.2)) (kvs.map (·.2))
  | .ins C fs => ∃ dx gs, H a = some (.ins C dx gs) ∧ gs.map (·.1) = fs.map (·.1) ∧ Reps K M H (fs.map (·.2)) (gs.map (·.2))
def HM (K : PySem.W.Frag) (m : Mu) (H : Hp) : Prop := ∀ a o, m a = some o → MOk K (dom m) H a o
/-- all data stays data -/
def Later (m : Mu) (H : Hp) (m' : Mu) (H' : Hp) : Prop := ∀ a o, ¬ dom m a → H a = some o → H' a = some o ∧ ¬ dom m' a
section
variable {K : PySem.W.Frag} {m m' m1 m2 : Mu} {H H' H1 H2 : Hp} {a : Addr}
theorem Later.refl : Later m H m H := fun _ _ n e => ⟨e, n⟩
theorem Later.trans (a : Later m H m1 H1) (b : Later m1 H1 m2 H2) : Later m H m2 H2 := fun d v n e => let ⟨e', n'⟩ := a d v n e; b d v n' e'
theorem Later.rep {d : D} {v : V} (l : Later m H m' H') (r : Rep K (dom m) H d v) : Rep K (dom m') H' d v := r.later l
theorem Later.reps {ds : List D} {vs : List V} (l : Later m H m' H') (r : Reps K (dom m) H ds vs) : Reps K (dom m') H' ds vs := r.later l
theorem HM.there (h : HM K m H) {a : Addr} (d : dom m a) : ∃ o, H a = some o := by
  cases e : m a with
  | none => exact absurd e d
  | some o =>
    have q := h a o e
    cases o with
    | lst ds => obtain ⟨vs, z, _⟩ := q; exact ⟨_, z⟩
    | dic ks => obtain ⟨vs, z, _⟩ := q; exact ⟨_, z⟩
    | ins C fs => obtain ⟨dx, gs, z, _⟩ := q; exact ⟨_, z⟩
theorem HM.fresh (h : HM K m H) {a : Addr} (e : H a = none) : m a = none := by
  cases q : m a with
  | none => rfl
  | some o =>
    obtain ⟨u, z⟩ := h.there (a := a) (by unfold dom; rw [q]; simp)
    rw [e] at z; cases z
theorem MOk.later {o : MO} (l : Later m H m' H') (e : H' a = H a) (h : MOk K (dom m) H a o) : MOk K (dom m') H' a o := by
  cases o with
  | lst ds => obtain ⟨vs, z, r⟩ := h; exact ⟨vs, e.trans z, l.reps r⟩
  | dic ks => obtain ⟨vs, z, q, r⟩ := h; exact ⟨vs, e.trans z, q, l.reps r⟩
  | ins C fs => obtain ⟨dx, gs, z, q, r⟩ := h; exact ⟨dx, gs, e.trans z, q, l.reps r⟩
/-- new objects, none of the old ones changed -/
theorem Later.same (k : Same H H') : Later m H m H' := fun a o n h => ⟨k a o h, n⟩
theorem HM.same (h : HM K m H) (k : Same H H') : HM K m H' := fun a o e => by
  obtain ⟨u, z⟩ := h.there (a := a) (by unfold dom; rw [e]; simp)
  exact (h a o e).later (Later.same k) (by rw [k a u z, z])
theorem same_upd {a : Addr} {o : HO} (n : H a = none) : Same H (upd H a o) := fun b u e => by
  rw [upd_ne (ne_of_none e n)]; exact e
/-- a new changing object -/
theorem Later.new {o : HO} {u : MO} (n : H a = none) : Later m H (updM m a u) (upd H a o) := fun b q nb h => by
  have ne : b ≠ a := ne_of_none h n
  refine ⟨by rw [upd_ne ne]; exact h, fun z => ?_⟩
  rcases dom_upd.mp z with z | z
  · exact ne z
  · exact nb z
/-- a changing object is changed -/
theorem Later.write {o : HO} {u : MO} (d : dom m a) : Later m H (updM m a u) (upd H a o) := fun b q nb h => by
  have ne : b ≠ a := fun e => nb (e ▸ d)
  refine ⟨by rw [upd_ne ne]; exact h, fun z => ?_⟩
  rcases dom_upd.mp z with z | z
  · exact ne z
  · exact nb z
theorem Later.put {o : HO} {u : MO} (d : H a = none ∨ dom m a) : Later m H (updM m a u) (upd H a o) := d.elim Later.new Later.write
theorem HM.put {o : HO} {u : MO} (h : HM K m H) (d : H a = none ∨ dom m a) (ok : MOk K (dom (updM m a u)) (upd H a o) a u) : HM K (updM m a u) (upd H a o) := fun b q e => by
  by_cases hb : b = a
  · subst hb
    rw [updM_same] at e; cases e
    exact ok
  · rw [updM_ne hb] at e
    exact (h b q e).later (Later.put d) (upd_ne hb)
/-- an object changes no more: its data -/
theorem Later.del : Later m H (delM m a) H := fun b q nb h => ⟨h, fun z => nb (dom_del.mp z).2⟩
theorem HM.del (h : HM K m H) : HM K (delM m a) H := fun b q e => by
  have ne : b ≠ a := by
    intro z; subst z
    unfold delM at e; rw [if_pos rfl] at e; cases e
  unfold delM at e; rw [if_neg ne] at e
  exact (h b q e).later Later.del rfl
theorem nodel : ¬ dom (delM m a) a := fun z => (dom_del.mp z).1 rfl
end

/-! ### the frame's slots -/
abbrev Rho := List (Option D)
structure RS (K : PySem.W.Frag) (M : Addr → Prop) (H : Hp) (ρ : Rho) (σ : St) : Prop where
  len : ρ.length = σ.length
  get : ∀ (i : Nat) (d : D), ρ[i]? = some (some d) → ∃ v, σ[i]? = some (some v) ∧ Rep K M H d v
section
variable {K : PySem.W.Frag} {m m' : Mu} {H H' : Hp} {ρ : Rho} {σ : St}
theorem RS.later (l : Later m H m' H') (r : RS K (dom m) H ρ σ) : RS K (dom m') H' ρ σ := ⟨r.len, fun i d e => let ⟨v, h1, h2⟩ := r.get i d e; ⟨v, h1, l.rep h2⟩⟩
theorem RS.set {d : D} {v : V} (i : Nat) (h : RS K (dom m) H ρ σ) (r : Rep K (dom m) H d v) : RS K (dom m) H (ρ.set i (some d)) (σ.set i (some v)) := by
  refine ⟨by simp [h.len], fun j e q => ?_⟩
  by_cases hj : i = j
  · subst hj
    by_cases hi : i < ρ.length
    · rw [List.getElem?_set_self hi] at q; cases q
      exact ⟨v, by rw [List.getElem?_set_self (by rw [← h.len]; exact hi)], r⟩
    · rw [List.getElem?_eq_none (by simpa using hi)] at q; cases q
  · rw [List.getElem?_set_ne hj] at q ⊢
    exact h.get j e q
/-- forgetting -/
theorem RS.weak {ρ' : Rho} (h : RS K (dom m) H ρ σ) (l : ρ'.length = ρ.length) (w : ∀ (i : Nat) d, ρ'[i]? = some (some d) → ρ[i]? = some (some d)) : RS K (dom m) H ρ' σ :=
  ⟨l.trans h.len, fun i d e => h.get i d (w i d e)⟩
end
structure SR (K : PySem.W.Frag) (ρ : Rho) (m : Mu) (σ : St) (H : Hp) : Prop where
  hm : HM K m H
  rs : RS K (dom m) H ρ σ
theorem SR.later {K : PySem.W.Frag} {ρ : Rho} {m m' : Mu} {σ : St} {H H' : Hp} (s : SR K ρ m σ H) (h : HM K m' H') (l : Later m H m' H') : SR K ρ m' σ H' := ⟨h, s.rs.later l⟩

/-! ### what is wanted behind an expression, a test, arguments, a statement -/
abbrev QD := D → Mu → Prop
def Post (K : PySem.W.Frag) (m : Mu) (H : Hp) (Q : QD) : VK := fun v H' => ∃ d m', HM K m' H' ∧ Later m H m' H' ∧ Rep K (dom m') H' d v ∧ Q d m'
def PostB (K : PySem.W.Frag) (m : Mu) (H : Hp) (Q : Bool → Mu → Prop) : Bool → Hp → Prop := fun b H' => ∃ m', HM K m' H' ∧ Later m H m' H' ∧ Q b m'
def PostA (K : PySem.W.Frag) (m : Mu) (H : Hp) (Q : List D → Mu → Prop) : List V → Hp → Prop := fun vs H' => ∃ ds m', HM K m' H' ∧ Later m H m' H' ∧ Reps K (dom m') H' ds vs ∧ Q ds m'
def PostS (K : PySem.W.Frag) (m : Mu) (H : Hp) (Q : Rho → Mu → Prop) : St → Hp → Prop := fun σ' H' => ∃ ρ' m', HM K m' H' ∧ Later m H m' H' ∧ RS K (dom m') H' ρ' σ' ∧ Q ρ' m'
structure AEnds where
  nx : Rho → Mu → Prop
  rt : QD
  bk : Rho → Mu → Prop := fun _ _ => False
  ct : Rho → Mu → Prop := fun _ _ => False
def AEnds.lift (D : AEnds) (K : PySem.W.Frag) (m : Mu) (H : Hp) : Ends where
  nx := PostS K m H D.nx
  rt := Post K m H D.rt
  bk := PostS K m H D.bk
  ct := PostS K m H D.ct
section
variable (X : Cx)
/-- the weakest readings -/
def WE (e : Expr) : TE := fun σ H Q => ∀ pins s, Inv X pins σ H s → wpAny (model X.prog X.w) X.A (eval e X.env) (EP X pins σ Q) X.xe s
def WT (e : Expr) : TT := fun σ H Q => ∀ pins s, Inv X pins σ H s → wpAny (model X.prog X.w) X.A (isTrue e X.env (eval e X.env)) (TP X pins σ Q) X.xe s
def WW (e : Expr) : TT := fun σ H Q => ∀ (whole : Sem Value) pins s, Inv X pins σ H s → wpAny (model X.prog X.w) X.A (isTrue e X.env whole) (TP X pins σ Q) X.xe s
def WA (es : List Expr) : TA := fun σ H Q => ∀ (pos : Pos) pins s, Inv X pins σ H s → wpAny (model X.prog X.w) X.A (spliced (backTo pos (starEach es X.env))) (AP X pins σ Q) X.xe s
def WS (st : Stmt) : TS := fun D σ H => ∀ pins s, Inv X pins σ H s → wpAny (model X.prog X.w) X.A (exec st X.env) (SP X pins D) X.xe s
def WSs (st : List Stmt) : TS := fun D σ H => ∀ pins s, Inv X pins σ H s → wpAny (model X.prog X.w) X.A (execs st X.env) (SP X pins D) X.xe s
def WG (tg : Expr) : TG := fun v σ H Q => ∀ pins s u, Inv X pins σ H s → RelV v u → wpAny (model X.prog X.w) X.A (assign tg X.env u) (fun _ s' => ∃ σ' H', Inv X pins σ' H' s' ∧ Q σ' H') X.xe s
end
section
variable {X : Cx}
theorem peW {e : Expr} : PE X e (WE X e) := ⟨fun pins s _ _ _ I h => h pins s I⟩
theorem ptW {e : Expr} : PT X e (WT X e) := ⟨fun pins s _ _ _ I h => h pins s I⟩
theorem pwW {e : Expr} : PW X e (WW X e) := ⟨fun wh pins s _ _ _ I h => h wh pins s I⟩
theorem paW {es : List Expr} : PA X es (WA X es) := ⟨fun pos pins s _ _ _ I h => h pos pins s I⟩
theorem psW {st : Stmt} : PS X st (WS X st) := ⟨fun pins s _ _ _ I h => h pins s I⟩
theorem pssW {st : List Stmt} : PSs X st (WSs X st) := ⟨fun pins s _ _ _ I h => h pins s I⟩
theorem pgW {tg : Expr} : PG X tg (WG X tg) := ⟨fun pins s _ _ _ u _ I r h => h pins s u I r⟩
theorem WE.of {e : Expr} {t : TE} {σ : St} {H : Hp} {Q : VK} (p : PE X e t) (h : t σ H Q) : WE X e σ H Q := fun pins s I => p.run pins s σ H Q I h
theorem WT.of {e : Expr} {t : TT} {σ : St} {H : Hp} {Q : Bool → Hp → Prop} (p : PT X e t) (h : t σ H Q) : WT X e σ H Q := fun pins s I => p.run pins s σ H Q I h
theorem WA.of {es : List Expr} {t : TA} {σ : St} {H : Hp} {Q : List V → Hp → Prop} (p : PA X es t) (h : t σ H Q) : WA X es σ H Q := fun pos pins s I => p.run pos pins s σ H Q I h
theorem WS.of {st : Stmt} {t : TS} {σ : St} {H : Hp} {D : Ends} (p : PS X st t) (h : t D σ H) : WS X st D σ H := fun pins s I => p.run pins s σ H D I h
theorem WSs.of {st : List Stmt} {t : TS} {σ : St} {H : Hp} {D : Ends} (p : PSs X st t) (h : t D σ H) : WSs X st D σ H := fun pins s I => p.run pins s σ H D I h
theorem WE.mono {e : Expr} {σ : St} {H : Hp} {Q Q' : VK} (h : WE X e σ H Q) (w : ∀ v H', Q v H' → Q' v H') : WE X e σ H Q' := fun pins s I =>
  thn (h pins s I) fun _ _ ⟨v, H', I', r, q⟩ => ⟨v, H', I', r, w _ _ q⟩
theorem WT.mono {e : Expr} {σ : St} {H : Hp} {Q Q' : Bool → Hp → Prop} (h : WT X e σ H Q) (w : ∀ v H', Q v H' → Q' v H') : WT X e σ H Q' := fun pins s I =>
  thn (h pins s I) fun _ _ ⟨H', I', q⟩ => ⟨H', I', w _ _ q⟩
theorem WW.mono {e : Expr} {σ : St} {H : Hp} {Q Q' : Bool → Hp → Prop} (h : WW X e σ H Q) (w : ∀ v H', Q v H' → Q' v H') : WW X e σ H Q' := fun wh pins s I =>
  thn (h wh pins s I) fun _ _ ⟨H', I', q⟩ => ⟨H', I', w _ _ q⟩
theorem WA.mono {es : List Expr} {σ : St} {H : Hp} {Q Q' : List V → Hp → Prop} (h : WA X es σ H Q) (w : ∀ v H', Q v H' → Q' v H') : WA X es σ H Q' := fun pos pins s I =>
  thn (h pos pins s I) fun _ _ ⟨v, H', I', r, q⟩ => ⟨v, H', I', r, w _ _ q⟩
theorem SP.mono {pins : List (Addr × Obj)} {D D' : Ends} {f : Flow} {s : Shared} (h : SP X pins D f s) (w1 : ∀ σ H, D.nx σ H → D'.nx σ H) (w2 : ∀ v H, D.rt v H → D'.rt v H) (w3 : ∀ σ H, D.bk σ H → D'.bk σ H) (w4 : ∀ σ H, D.ct σ H → D'.ct σ H) : SP X pins D' f s := by
  cases f with
  | next => obtain ⟨σ', H', I, q⟩ := h; exact ⟨σ', H', I, w1 _ _ q⟩
  | brk => obtain ⟨σ', H', I, q⟩ := h; exact ⟨σ', H', I, w3 _ _ q⟩
  | cont => obtain ⟨σ', H', I, q⟩ := h; exact ⟨σ', H', I, w4 _ _ q⟩
  | ret u => obtain ⟨v, σ', H', I, r, q⟩ := h; exact ⟨v, σ', H', I, r, w2 _ _ q⟩
theorem WS.mono {st : Stmt} {σ : St} {H : Hp} {D D' : Ends} (h : WS X st D σ H) (w1 : ∀ σ H, D.nx σ H → D'.nx σ H) (w2 : ∀ v H, D.rt v H → D'.rt v H) (w3 : ∀ σ H, D.bk σ H → D'.bk σ H) (w4 : ∀ σ H, D.ct σ H → D'.ct σ H) : WS X st D' σ H := fun pins s I =>
  thn (h pins s I) fun _ _ q => SP.mono q w1 w2 w3 w4
theorem WSs.mono {st : List Stmt} {σ : St} {H : Hp} {D D' : Ends} (h : WSs X st D σ H) (w1 : ∀ σ H, D.nx σ H → D'.nx σ H) (w2 : ∀ v H, D.rt v H → D'.rt v H) (w3 : ∀ σ H, D.bk σ H → D'.bk σ H) (w4 : ∀ σ H, D.ct σ H → D'.ct σ H) : WSs X st D' σ H := fun pins s I =>
  thn (h pins s I) fun _ _ q => SP.mono q w1 w2 w3 w4
theorem WG.mono {tg : Expr} {v : V} {σ : St} {H : Hp} {Q Q' : St → Hp → Prop} (h : WG X tg v σ H Q) (w : ∀ σ H, Q σ H → Q' σ H) : WG X tg v σ H Q' := fun pins s u I r =>
  thn (h pins s u I r) fun _ _ ⟨σ', H', I', q⟩ => ⟨σ', H', I', w _ _ q⟩
end

/-! ### the abstract judgements -/
section
variable (X : Cx)
structure AE (e : Expr) (ρ : Rho) (m : Mu) (Q : QD) : Prop where
  run : ∀ σ H, SR X.K ρ m σ H → WE X e σ H (Post X.K m H Q)
structure AT (e : Expr) (ρ : Rho) (m : Mu) (Q : Bool → Mu → Prop) : Prop where
  run : ∀ σ H, SR X.K ρ m σ H → WT X e σ H (PostB X.K m H Q)
structure AW (e : Expr) (ρ : Rho) (m : Mu) (Q : Bool → Mu → Prop) : Prop where
  run : ∀ σ H, SR X.K ρ m σ H → WW X e σ H (PostB X.K m H Q)
structure AA (es : List Expr) (ρ : Rho) (m : Mu) (Q : List D → Mu → Prop) : Prop where
  run : ∀ σ H, SR X.K ρ m σ H → WA X es σ H (PostA X.K m H Q)
structure AS (st : Stmt) (ρ : Rho) (m : Mu) (D : AEnds) : Prop where
  run : ∀ σ H, SR X.K ρ m σ H → WS X st (D.lift X.K m H) σ H
structure ASs (st : List Stmt) (ρ : Rho) (m : Mu) (D : AEnds) : Prop where
  run : ∀ σ H, SR X.K ρ m σ H → WSs X st (D.lift X.K m H) σ H
structure AG (tg : Expr) (d : D) (ρ : Rho) (m : Mu) (Q : Rho → Mu → Prop) : Prop where
  run : ∀ v σ H, SR X.K ρ m σ H → Rep X.K (dom m) H d v → WG X tg v σ H (PostS X.K m H Q)
end
section
variable {X : Cx} {e : Expr} {es : List Expr} {st : Stmt} {sts : List Stmt} {ρ : Rho} {m : Mu} {d : D}
instance {Q : QD} : CoeFun (AE X e ρ m Q) (fun _ => ∀ σ H, SR X.K ρ m σ H → WE X e σ H (Post X.K m H Q)) := ⟨AE.run⟩
instance {Q : Bool → Mu → Prop} : CoeFun (AT X e ρ m Q) (fun _ => ∀ σ H, SR X.K ρ m σ H → WT X e σ H (PostB X.K m H Q)) := ⟨AT.run⟩
instance {Q : Bool → Mu → Prop} : CoeFun (AW X e ρ m Q) (fun _ => ∀ σ H, SR X.K ρ m σ H → WW X e σ H (PostB X.K m H Q)) := ⟨AW.run⟩
instance {Q : List D → Mu → Prop} : CoeFun (AA X es ρ m Q) (fun _ => ∀ σ H, SR X.K ρ m σ H → WA X es σ H (PostA X.K m H Q)) := ⟨AA.run⟩
instance {D : AEnds} : CoeFun (AS X st ρ m D) (fun _ => ∀ σ H, SR X.K ρ m σ H → WS X st (D.lift X.K m H) σ H) := ⟨AS.run⟩
instance {D : AEnds} : CoeFun (ASs X sts ρ m D) (fun _ => ∀ σ H, SR X.K ρ m σ H → WSs X sts (D.lift X.K m H) σ H) := ⟨ASs.run⟩
instance {Q : Rho → Mu → Prop} : CoeFun (AG X e d ρ m Q) (fun _ => ∀ v σ H, SR X.K ρ m σ H → Rep X.K (dom m) H d v → WG X e v σ H (PostS X.K m H Q)) := ⟨AG.run⟩
end
section
variable {K : PySem.W.Frag} {m m1 : Mu} {H H1 : Hp}
theorem Post.from {Q : QD} (l : Later m H m1 H1) {v : V} {H2 : Hp} (p : Post K m1 H1 Q v H2) : Post K m H Q v H2 :=
  let ⟨d, m', h, l', r, q⟩ := p; ⟨d, m', h, l.trans l', r, q⟩
theorem PostB.from {Q : Bool → Mu → Prop} (l : Later m H m1 H1) {b : Bool} {H2 : Hp} (p : PostB K m1 H1 Q b H2) : PostB K m H Q b H2 :=
  let ⟨m', h, l', q⟩ := p; ⟨m', h, l.trans l', q⟩
theorem PostA.from {Q : List D → Mu → Prop} (l : Later m H m1 H1) {v : List V} {H2 : Hp} (p : PostA K m1 H1 Q v H2) : PostA K m H Q v H2 :=
  let ⟨d, m', h, l', r, q⟩ := p; ⟨d, m', h, l.trans l', r, q⟩
theorem PostS.from {Q : Rho → Mu → Prop} (l : Later m H m1 H1) {σ : St} {H2 : Hp} (p : PostS K m1 H1 Q σ H2) : PostS K m H Q σ H2 :=
  let ⟨d, m', h, l', r, q⟩ := p; ⟨d, m', h, l.trans l', r, q⟩
end
section
variable {X : Cx} {m m1 : Mu} {H H1 : Hp} {σ : St}
theorem WE.from {e : Expr} {Q : QD} (l : Later m H m1 H1) (h : WE X e σ H1 (Post X.K m1 H1 Q)) : WE X e σ H1 (Post X.K m H Q) := h.mono fun _ _ p => p.from l
theorem WT.from {e : Expr} {Q : Bool → Mu → Prop} (l : Later m H m1 H1) (h : WT X e σ H1 (PostB X.K m1 H1 Q)) : WT X e σ H1 (PostB X.K m H Q) := h.mono fun _ _ p => p.from l
theorem WW.from {e : Expr} {Q : Bool → Mu → Prop} (l : Later m H m1 H1) (h : WW X e σ H1 (PostB X.K m1 H1 Q)) : WW X e σ H1 (PostB X.K m H Q) := h.mono fun _ _ p => p.from l
theorem WSs.from {st : List Stmt} {D : AEnds} (l : Later m H m1 H1) (h : WSs X st (D.lift X.K m1 H1) σ H1) : WSs X st (D.lift X.K m H) σ H1 :=
  h.mono (fun _ _ p => p.from l) (fun _ _ p => p.from l) (fun _ _ p => p.from l) fun _ _ p => p.from l
theorem WS.from {st : Stmt} {D : AEnds} (l : Later m H m1 H1) (h : WS X st (D.lift X.K m1 H1) σ H1) : WS X st (D.lift X.K m H) σ H1 :=
  h.mono (fun _ _ p => p.from l) (fun _ _ p => p.from l) (fun _ _ p => p.from l) fun _ _ p => p.from l
end
end Ab
/-! A1: rules of the abstract layer: names, constants, operators, tests, statements. -/
namespace Ab
open L2 PySem PySem.Spec PyProof.Rows

/-- what the names of a frame are: slots, seen, stored, global -/
structure FB where
  N : List Str
  vis : Str → Bool
  sto : Str → Bool
  glb : Str → Bool
def visB (sc : Scope) (x : Str) : Bool := match sc.names.lookup x with
  | some .local => true
  | some .cell => true
  | some .free => true
  | _ => false
def stoB (sc : Scope) (x : Str) : Bool := match sc.names.lookup x with
  | some .local => true
  | some .cell => true
  | _ => false
def glbB (sc : Scope) (x : Str) : Bool := match sc.names.lookup x with
  | some .globalImplicit => true
  | _ => false
abbrev fbOf (N : List Str) (sc : Scope) : FB := ⟨N, visB sc, stoB sc, glbB sc⟩
theorem visB_ok {sc : Scope} {x : Str} (h : visB sc x = true) : Vis sc x := by
  unfold visB at h; unfold Vis
  split at h <;> simp_all
theorem stoB_ok {sc : Scope} {x : Str} (h : stoB sc x = true) : L2.Loc sc x := by
  unfold stoB at h; unfold L2.Loc
  split at h <;> simp_all
theorem glbB_ok {sc : Scope} {x : Str} (h : glbB sc x = true) : sc.names.lookup x = some .globalImplicit := by
  unfold glbB at h
  split at h <;> simp_all
structure XF (X : Cx) (fb : FB) (k : Nat) : Prop where
  nN : X.N = fb.N
  nd : X.N.Nodup
  calm : X.calm = true
  room : Room k X.A
  vis : ∀ x, fb.vis x = true → Vis X.env.scope x
  sto : ∀ x, fb.sto x = true → L2.Loc X.env.scope x ∧ (X.fn x = true ∨ X.env.scope.names.lookup x = some .local)
  glb : ∀ x, fb.glb x = true → Gl X x
theorem XF.hu {X : Cx} {fb : FB} {k : Nat} (h : XF X fb k) : X.A.units + 1 < cLine := hu_of h.room

section
variable {K : PySem.W.Frag} {m : Mu} {H : Hp} {M : Addr → Prop}
theorem Post.now {Q : QD} {d : D} {v : V} (h : HM K m H) (r : Rep K (dom m) H d v) (q : Q d m) : Post K m H Q v H := ⟨d, m, h, Later.refl, r, q⟩
theorem PostB.now {Q : Bool → Mu → Prop} {b : Bool} (h : HM K m H) (q : Q b m) : PostB K m H Q b H := ⟨m, h, Later.refl, q⟩
/-- a new object -/
theorem Post.new {Q : QD} {d : D} {p : Addr} {o : HO} (h : HM K m H) (n : H p = none) (r : Rep K (dom m) (upd H p o) d (.ref p)) (q : Q d m) : Post K m H Q (.ref p) (upd H p o) :=
  ⟨d, m, h.same (same_upd n), Later.same (same_upd n), r, q⟩
/-- a new changing object -/
theorem Post.newM {Q : QD} {p : Addr} {o : HO} {u : MO} (h : HM K m H) (n : H p = none) (ok : MOk K (dom (updM m p u)) (upd H p o) p u) (q : ∀ a, m a = none → Q (.ref a) (updM m a u)) : Post K m H Q (.ref p) (upd H p o) :=
  ⟨.ref p, updM m p u, h.put (.inl n) ok, Later.new n, .ref, q p (h.fresh n)⟩
theorem Reps.same {ds : List D} {vs : List V} {H' : Hp} (r : Reps K (dom m) H ds vs) (k : Same H H') : Reps K (dom m) H' ds vs := (Later.same k).reps r
theorem notdom (h : HM K m H) {p : Addr} (n : H p = none) : ¬ dom m p := fun z => by
  obtain ⟨o, e⟩ := h.there z
  rw [n] at e; cases e
end

/-! ### shapes -/
/-- a list's items -/
inductive IsL (m : Mu) : D → List D → Prop
  | im {ds : List D} : IsL m (.lst ds) ds
  | mu {a : Addr} {ds : List D} (h : m a = some (.lst ds)) : IsL m (.ref a) ds
inductive IsT : D → List D → Prop
  | im {ds : List D} : IsT (.tup ds) ds
/-- a list or a tuple -/
inductive IsQ (m : Mu) : D → List D → Prop
  | im {ds : List D} : IsQ m (.lst ds) ds
  | mu {a : Addr} {ds : List D} (h : m a = some (.lst ds)) : IsQ m (.ref a) ds
  | tup {ds : List D} : IsQ m (.tup ds) ds
inductive IsD (m : Mu) : D → List (Key × D) → Prop
  | im {ks : List (Key × D)} : IsD m (.dic ks) ks
  | mu {a : Addr} {ks : List (Key × D)} (h : m a = some (.dic ks)) : IsD m (.ref a) ks
inductive IsI (m : Mu) : D → Addr → List (Str × D) → Prop
  | im {C : Addr} {fs : List (Str × D)} : IsI m (.ins C fs) C fs
  | mu {a C : Addr} {fs : List (Str × D)} (h : m a = some (.ins C fs)) : IsI m (.ref a) C fs
section
variable {K : PySem.W.Frag} {m : Mu} {H : Hp} {d : D} {v : V}
theorem sqK {a : Addr} {vs : List V} (h : SqL K (fun _ => none) a vs) : SqL K H a vs := by
  rcases h with (h | ⟨o, h⟩) | h
  · cases h
  · cases h
  · exact .inr h
theorem sqKT {a : Addr} {vs : List V} (h : SqT K (fun _ => none) a vs) : SqT K H a vs := by
  rcases h with (h | ⟨o, h⟩) | h
  · cases h
  · cases h
  · exact .inr h
theorem IsL.rd {ds : List D} (s : IsL m d ds) (h : HM K m H) (r : Rep K (dom m) H d v) : ∃ a vs, v = .ref a ∧ Rd H a (.lst vs) ∧ Reps K (dom m) H ds vs := by
  cases s with
  | im =>
    cases r with
    | lst n e r => exact ⟨_, _, rfl, e, r⟩
  | mu e =>
    cases r
    obtain ⟨vs, z, r⟩ := h _ _ e
    exact ⟨_, _, rfl, .inl z, r⟩
theorem IsL.at {ds : List D} (s : IsL m d ds) (h : HM K m H) (r : Rep K (dom m) H d v) : ∃ a vs, v = .ref a ∧ SqL K H a vs ∧ Reps K (dom m) H ds vs :=
  let ⟨a, vs, e, q, r⟩ := s.rd h r; ⟨a, vs, e, .inl q, r⟩
theorem IsT.at {ds : List D} (s : IsT d ds) (h : HM K m H) (r : Rep K (dom m) H d v) : ∃ a vs, v = .ref a ∧ SqT K H a vs ∧ Reps K (dom m) H ds vs := by
  cases s with
  | im =>
    cases r with
    | tup n e r => exact ⟨_, _, rfl, .of e, r⟩
    | tupK e r => exact ⟨_, _, rfl, sqKT e, r⟩
theorem IsQ.at {ds : List D} (s : IsQ m d ds) (h : HM K m H) (r : Rep K (dom m) H d v) : ∃ a vs, v = .ref a ∧ (SqL K H a vs ∨ SqT K H a vs) ∧ Reps K (dom m) H ds vs := by
  cases s with
  | im => obtain ⟨a, vs, e, q, r⟩ := (IsL.im (m := m)).at h r; exact ⟨a, vs, e, .inl q, r⟩
  | mu e => obtain ⟨a, vs, e, q, r⟩ := (IsL.mu e).at h r; exact ⟨a, vs, e, .inl q, r⟩
  | tup => obtain ⟨a, vs, e, q, r⟩ := IsT.im.at h r; exact ⟨a, vs, e, .inr q, r⟩
theorem IsD.at {ks : List (Key × D)} (s : IsD m d ks) (h : HM K m H) (r : Rep K (dom m) H d v) : ∃ a kvs, v = .ref a ∧ H a = some (.dK kvs) ∧ kvs.map (·.1) = ks.map (·.1) ∧ Reps K (dom m) H (ks.map (·.2)) (kvs.map (·.2)) := by
  cases s with
  | im =>
    cases r with
    | dic n e q r => exact ⟨_, _, rfl, e, q, r⟩
  | mu e =>
    cases r
    obtain ⟨kvs, z, q, r⟩ := h _ _ e
    exact ⟨_, _, rfl, z, q, r⟩
theorem IsI.at {C : Addr} {fs : List (Str × D)} (s : IsI m d C fs) (h : HM K m H) (r : Rep K (dom m) H d v) : ∃ a dx gs, v = .ref a ∧ H a = some (.ins C dx gs) ∧ gs.map (·.1) = fs.map (·.1) ∧ Reps K (dom m) H (fs.map (·.2)) (gs.map (·.2)) := by
  cases s with
  | im =>
    cases r with
    | ins n e q r => exact ⟨_, _, _, rfl, e, q, r⟩
  | mu e =>
    cases r
    obtain ⟨dx, gs, z, q, r⟩ := h _ _ e
    exact ⟨_, _, _, rfl, z, q, r⟩
end
/-- fields, keys -/
theorem lookup_at {β γ : Type} {R : β → γ → Prop} {κ : Type} [BEq κ] [LawfulBEq κ] : ∀ {fs : List (κ × β)} {gs : List (κ × γ)} {f : κ} {d : β}, gs.map (·.1) = fs.map (·.1) → (∀ (i : Nat) d, (fs.map (·.2))[i]? = some d → ∃ v, (gs.map (·.2))[i]? = some v ∧ R d v) → fs.lookup f = some d → ∃ v, gs.lookup f = some v ∧ R d v
  | [], [], _, _, _, _, e => by cases e
  | [], _ :: _, _, _, e, _, _ => by cases e
  | _ :: _, [], _, _, e, _, _ => by cases e
  | (k, b) :: fs, (k', c) :: gs, f, d, e, r, l => by
    simp only [List.map_cons, List.cons.injEq] at e
    obtain ⟨e1, e2⟩ := e
    subst e1
    obtain ⟨c', hc, rc⟩ := r 0 b rfl
    simp at hc; subst hc
    rw [List.lookup_cons] at l ⊢
    cases q : (f == k') with
    | true =>
      rw [q] at l
      cases l
      exact ⟨c, rfl, rc⟩
    | false =>
      rw [q] at l
      exact lookup_at e2 (fun i d h => by simpa using r (i + 1) d (by simpa using h)) l
theorem lookup_no {β γ : Type} {κ : Type} [BEq κ] [LawfulBEq κ] : ∀ {fs : List (κ × β)} {gs : List (κ × γ)} {f : κ}, gs.map (·.1) = fs.map (·.1) → fs.lookup f = none → gs.lookup f = none
  | [], [], _, _, _ => rfl
  | [], _ :: _, _, e, _ => by cases e
  | _ :: _, [], _, e, _ => by cases e
  | (k, b) :: fs, (k', c) :: gs, f, e, l => by
    simp only [List.map_cons, List.cons.injEq] at e
    obtain ⟨e1, e2⟩ := e
    subst e1
    rw [List.lookup_cons] at l ⊢
    cases q : (f == k') with
    | true => rw [q] at l; cases l
    | false =>
      rw [q] at l
      exact lookup_no e2 l

section
variable {X : Cx} {fb : FB} {k : Nat} {ρ : Rho} {m : Mu} {e a b : Expr} {pos : Pos}
theorem AE.imp {Q Q' : QD} (h : AE X e ρ m Q) (w : ∀ d m', Q d m' → Q' d m') : AE X e ρ m Q' := .mk fun σ H S =>
  (h σ H S).mono fun _ _ ⟨d, m', hm, l, r, q⟩ => ⟨d, m', hm, l, r, w _ _ q⟩
/-! ### names, constants -/
/-- the slot of a name -/
inductive Nth : List Str → Nat → Str → Prop
  | z {x : Str} {r : List Str} : Nth (x :: r) 0 x
  | s {x y : Str} {n : Nat} {r : List Str} (h : Nth r n x) : Nth (y :: r) (n + 1) x
theorem Nth.at : ∀ {N : List Str} {i : Nat} {x : Str}, Nth N i x → N[i]? = some x
  | _, _, _, .z => rfl
  | _, _, _, .s h => by simpa using h.at
theorem AE.name {Q : QD} {x : Str} {i : Nat} {d : D} (hx : XF X fb k) (hN : Nth fb.N i x) (hv : fb.vis x = true) (hr : ρ[i]? = some (some d)) (q : Q d m) (hd : (x == ("__debug__" : Str)) = false := by decide +kernel) (hcd : (x == ("__classdict__" : Str)) = false := by decide +kernel) : AE X (.Name x pos) ρ m Q := .mk fun σ H S => by
  obtain ⟨v, e, r⟩ := S.rs.get i d hr
  exact WE.of (pe_var (by rw [hx.nN]; exact hN.at) (hx.vis x hv) hd hcd) ⟨v, e, .now S.hm r q⟩
theorem AE.int {Q : QD} {i : Int} {j} (q : Q (.int i) m) : AE X (.Constant (.int i) j pos) ρ m Q := .mk fun σ H S => WE.of pe_int (Post.now S.hm .int q)
theorem AE.bl {Q : QD} {i : Bool} {j} (q : Q (.bl i) m) : AE X (.Constant (.bool i) j pos) ρ m Q := .mk fun σ H S => WE.of pe_bl (Post.now S.hm .bl q)
theorem AE.str {Q : QD} {i : Str} {j} (q : Q (.str i) m) : AE X (.Constant (.str i) j pos) ρ m Q := .mk fun σ H S => WE.of pe_str (Post.now S.hm .str q)
theorem AE.non {Q : QD} {j} (q : Q .non m) : AE X (.Constant .none j pos) ρ m Q := .mk fun σ H S => WE.of pe_non (Post.now S.hm .non q)
/-- a module's constant: an int, a text -/
theorem AE.gint {Q : QD} {x : Str} {i : Int} (hx : XF X fb k) (hg : fb.glb x = true) (hm : ∃ t, X.mg x = some (.int i t)) (q : Q (.int i) m) (hd : (x == ("__debug__" : Str)) = false := by decide +kernel) : AE X (.Name x pos) ρ m Q := .mk fun σ H S =>
  let ⟨_, e⟩ := hm; WE.of (pe_glob (v := .int i) (hx.glb x hg) e ⟨_, rfl⟩ hd) (Post.now S.hm .int q)
theorem AE.gstr {Q : QD} {x i : Str} (hx : XF X fb k) (hg : fb.glb x = true) (hm : ∃ t, X.mg x = some (.str i t)) (q : Q (.str i) m) (hd : (x == ("__debug__" : Str)) = false := by decide +kernel) : AE X (.Name x pos) ρ m Q := .mk fun σ H S =>
  let ⟨_, e⟩ := hm; WE.of (pe_glob (v := .str i) (hx.glb x hg) e ⟨_, rfl⟩ hd) (Post.now S.hm .str q)
/-- a class, a def, an object of the module -/
theorem AE.gref {Q : QD} {x : Str} {i : Addr} (hx : XF X fb k) (hg : fb.glb x = true) (hm : X.mg x = some (.ref i)) (q : Q (.ref i) m) (hd : (x == ("__debug__" : Str)) = false := by decide +kernel) : AE X (.Name x pos) ρ m Q := .mk fun σ H S =>
  WE.of (pe_glob (v := .ref i) (hx.glb x hg) hm rfl hd) (Post.now S.hm .ref q)
/-- .. a tuple, a list of it -/
theorem AE.gtup {Q : QD} {x : Str} {i : Addr} {ds : List D} {vs : List V} (hx : XF X fb k) (hg : fb.glb x = true) (hm : X.mg x = some (.ref i)) (hs : SqT X.K (fun _ => none) i vs) (r : ∀ M H, Reps X.K M H ds vs) (q : Q (.tup ds) m) (hd : (x == ("__debug__" : Str)) = false := by decide +kernel) : AE X (.Name x pos) ρ m Q := .mk fun σ H S =>
  WE.of (pe_glob (v := .ref i) (hx.glb x hg) hm rfl hd) (Post.now S.hm (.tupK hs (r _ _)) q)
/-- a built-in class as a value -/
theorem AE.bty {Q : QD} {x : Str} {n : String} (hx : XF X fb k) (hg : fb.glb x = true) (hm : X.mg x = none) (hv : bootBuiltins x = some (.type n)) (q : Q (.ty n) m) (hn : x ≠ "__name__" := by decide +kernel) (hd : (x == ("__debug__" : Str)) = false := by decide +kernel) : AE X (.Name x pos) ρ m Q := .mk fun σ H S =>
  WE.of (pe_bltn (v := .ty n) (hx.glb x hg) hm hv rfl hn hd) (Post.now S.hm .ty q)

/-! ### operators by values -/
abbrev RD2 := D → D → Mu → QD → Prop
def OpA (X : Cx) (f : Value → Value → Sem Value) (rd : RD2) : Prop := ∃ r : R2, OpR X f r ∧ ∀ da db x y m H (Q : QD), HM X.K m H → Rep X.K (dom m) H da x → Rep X.K (dom m) H db y → rd da db m Q → r x y H (Post X.K m H Q)
theorem OpA.or {f : Value → Value → Sem Value} {rd rd' : RD2} (h : OpA X f rd) (h' : OpA X f rd') : OpA X f fun x y m Q => rd x y m Q ∨ rd' x y m Q := by
  obtain ⟨r, h, g⟩ := h
  obtain ⟨r', h', g'⟩ := h'
  exact ⟨_, h.or h', fun da db x y m H Q hm ra rb q => q.imp (g _ _ _ _ _ _ _ hm ra rb) (g' _ _ _ _ _ _ _ hm ra rb)⟩
theorem bin2 {r : R2} {rd : RD2} (g : ∀ da db x y m H (Q : QD), HM X.K m H → Rep X.K (dom m) H da x → Rep X.K (dom m) H db y → rd da db m Q → r x y H (Post X.K m H Q)) {Q : QD} (h : AE X a ρ m fun da m1 => AE X b ρ m1 fun db m2 => rd da db m2 Q) {σ : St} {H : Hp} (S : SR X.K ρ m σ H)
    (mono : ∀ x y H Q Q', (∀ v H', Q v H' → Q' v H') → r x y H Q → r x y H Q') : tOp r (WE X a) (WE X b) σ H (Post X.K m H Q) := by
  refine (h σ H S).mono ?_
  rintro v H1 ⟨da, m1, hm1, l1, r1, q1⟩
  refine (q1 σ H1 (S.later hm1 l1)).mono ?_
  rintro u H2 ⟨db, m2, hm2, l2, r2, q2⟩
  exact mono _ _ _ _ _ (fun _ _ p => p.from (l1.trans l2)) (g da db v u m2 H2 Q hm2 (l2.rep r1) r2 q2)
/-- operators whose reading may be weakened at its end: all of them -/
def Mono2 (r : R2) : Prop := ∀ x y H Q Q', (∀ v H', Q v H' → Q' v H') → r x y H Q → r x y H Q'
/-- the weakest reading of an operator -/
def WO (X : Cx) (f : Value → Value → Sem Value) : R2 := fun x y H Q => ∀ pins s σ v u, Inv X pins σ H s → RelV x v → RelV y u → wpAny (model X.prog X.w) X.A (f v u) (EP X pins σ Q) X.xe s
theorem woW {f : Value → Value → Sem Value} : OpR X f (WO X f) := fun pins s σ H x y v u Q I rx ry h => h pins s σ v u I rx ry
theorem WO.mono {f : Value → Value → Sem Value} : Mono2 (WO X f) := fun x y H Q Q' w h pins s σ v u I rx ry => thn (h pins s σ v u I rx ry) fun _ _ ⟨v, H', I', r, q⟩ => ⟨v, H', I', r, w _ _ q⟩
theorem OpA.w {f : Value → Value → Sem Value} {rd : RD2} (h : OpA X f rd) : ∀ da db x y m H (Q : QD), HM X.K m H → Rep X.K (dom m) H da x → Rep X.K (dom m) H db y → rd da db m Q → WO X f x y H (Post X.K m H Q) := by
  obtain ⟨r, ho, g⟩ := h
  exact fun da db x y m H Q hm ra rb q pins s σ v u I rx ry => ho pins s σ H x y v u _ I rx ry (g da db x y m H Q hm ra rb q)
theorem AE.op {Q : QD} {op : Operator} {rd : RD2} (ho : OpA X (binaryOp op) rd) (h : AE X a ρ m fun da m1 => AE X b ρ m1 fun db m2 => rd da db m2 Q) : AE X (.BinOp a op b pos) ρ m Q := .mk fun σ H S =>
  WE.of (pe_op woW peW peW) (bin2 ho.w h S WO.mono)
theorem AE.cmp {Q : QD} {op : CmpOp} {rd : RD2} (ho : OpA X (compareOp op) rd) (h : AE X a ρ m fun da m1 => AE X b ρ m1 fun db m2 => rd da db m2 Q) (hm : behindInMarks op b = false := by rfl) : AE X (.Compare a [op] [b] pos) ρ m Q := .mk fun σ H S =>
  WE.of (pe_cmpR woW peW peW hm) (bin2 ho.w h S WO.mono)
/-- a comparison as a test -/
theorem AT.cmp {Q : Bool → Mu → Prop} {op : CmpOp} {rd : RD2} (ho : OpA X (compareOp op) rd) (h : AE X a ρ m fun da m1 => AE X b ρ m1 fun db m2 => rd da db m2 fun d m3 => ∃ c, d = .bl c ∧ Q c m3) (hm : behindInMarks op b = false := by rfl) : AT X (.Compare a [op] [b] pos) ρ m Q := .mk fun σ H S => by
  refine WT.of (pt_cmpR woW peW peW hm) ?_
  have g := bin2 ho.w h S WO.mono
  refine WE.mono (X := X) (e := a) g fun v H1 g1 => WE.mono (X := X) (e := b) g1 fun u H2 g2 => WO.mono _ _ _ _ _ (fun z H3 ⟨d, m', hm', l, r, c, e, q⟩ => ?_) g2
  subst e
  cases r
  exact ⟨c, rfl, m', hm', l, q⟩
/-- any expression that gives a bool, as a test -/
theorem AT.val {Q : Bool → Mu → Prop} (h : AE X e ρ m fun d m1 => ∃ c, d = .bl c ∧ Q c m1) (he : ∀ whole, isTrue e X.env whole = (do let v ← whole; standAt e.pos; holding [v] (truthy v)) := by intro _; rfl) : AT X e ρ m Q := .mk fun σ H S => by
  refine WT.of (pt_val peW he) ?_
  refine (h σ H S).mono fun v H1 ⟨d, m', hm', l, r, c, e, q⟩ => ?_
  subst e
  cases r
  exact ⟨c, rfl, m', hm', l, q⟩
theorem AT.imp {Q Q' : Bool → Mu → Prop} (h : AT X e ρ m Q) (w : ∀ d m', Q d m' → Q' d m') : AT X e ρ m Q' := .mk fun σ H S =>
  (h σ H S).mono fun _ _ ⟨m', hm, l, q⟩ => ⟨m', hm, l, w _ _ q⟩
theorem AT.ofW {Q : Bool → Mu → Prop} (h : AW X e ρ m Q) : AT X e ρ m Q := .mk fun σ H S pins s I => h σ H S _ pins s I
theorem AT.not {Q : Bool → Mu → Prop} (h : AT X a ρ m fun c m1 => Q (!c) m1) : AT X (.UnaryOp .Not a pos) ρ m Q := .mk fun σ H S =>
  WT.of (pt_not ptW) ((h σ H S).mono fun _ _ p => p)
variable {rest : List Expr}
theorem AW.and1 {Q : Bool → Mu → Prop} (h : AT X a ρ m Q) : AW X (.BoolOp .And [a] pos) ρ m Q := .mk fun σ H S wh pins s I => (pw_and1 ptW).run wh pins s σ H _ I (h σ H S)
theorem AW.or1 {Q : Bool → Mu → Prop} (h : AT X a ρ m Q) : AW X (.BoolOp .Or [a] pos) ρ m Q := .mk fun σ H S wh pins s I => (pw_or1 ptW).run wh pins s σ H _ I (h σ H S)
theorem AW.and {Q : Bool → Mu → Prop} (h : AT X a ρ m fun c m1 => (c = true → AW X (.BoolOp .And (b :: rest) pos) ρ m1 Q) ∧ (c = false → Q false m1)) : AW X (.BoolOp .And (a :: b :: rest) pos) ρ m Q := .mk fun σ H S wh pins s I =>
  (pw_and ptW pwW).run wh pins s σ H _ I ((h σ H S).mono fun c H1 ⟨m1, hm1, l1, q1, q2⟩ => by
    cases c with
    | true => rw [if_pos rfl]; exact WW.from l1 (q1 rfl σ H1 (S.later hm1 l1))
    | false => rw [if_neg Bool.false_ne_true]; exact ⟨m1, hm1, l1, q2 rfl⟩)
theorem AW.or {Q : Bool → Mu → Prop} (h : AT X a ρ m fun c m1 => (c = true → Q true m1) ∧ (c = false → AW X (.BoolOp .Or (b :: rest) pos) ρ m1 Q)) : AW X (.BoolOp .Or (a :: b :: rest) pos) ρ m Q := .mk fun σ H S wh pins s I =>
  (pw_or ptW pwW).run wh pins s σ H _ I ((h σ H S).mono fun c H1 ⟨m1, hm1, l1, q1, q2⟩ => by
    cases c with
    | true => rw [if_pos rfl]; exact ⟨m1, hm1, l1, q1 rfl⟩
    | false => rw [if_neg Bool.false_ne_true]; exact WW.from l1 (q2 rfl σ H1 (S.later hm1 l1)))
/-- and, or, not as values (bools) -/
theorem AE.one {Q : QD} {op} (h : AE X a ρ m Q) : AE X (.BoolOp op [a] pos) ρ m Q := .mk fun σ H S => WE.of (pe_one peW) (h σ H S)
theorem AE.and {Q : QD} (h : AE X a ρ m fun d m1 => ∃ c, d = .bl c ∧ (c = true → AE X (.BoolOp .And (b :: rest) pos) ρ m1 Q) ∧ (c = false → Q (.bl false) m1)) : AE X (.BoolOp .And (a :: b :: rest) pos) ρ m Q := .mk fun σ H S => by
  refine WE.of (pe_and peW peW) ((h σ H S).mono fun v H1 ⟨d, m1, hm1, l1, r1, c, e, q1, q2⟩ => ?_)
  subst e
  cases r1
  refine ⟨c, rfl, ?_⟩
  cases c with
  | true => rw [if_pos rfl]; exact WE.from l1 (q1 rfl σ H1 (S.later hm1 l1))
  | false => rw [if_neg Bool.false_ne_true]; exact ⟨_, m1, hm1, l1, .bl, q2 rfl⟩
theorem AE.or {Q : QD} (h : AE X a ρ m fun d m1 => ∃ c, d = .bl c ∧ (c = true → Q (.bl true) m1) ∧ (c = false → AE X (.BoolOp .Or (b :: rest) pos) ρ m1 Q)) : AE X (.BoolOp .Or (a :: b :: rest) pos) ρ m Q := .mk fun σ H S => by
  refine WE.of (pe_or peW peW) ((h σ H S).mono fun v H1 ⟨d, m1, hm1, l1, r1, c, e, q1, q2⟩ => ?_)
  subst e
  cases r1
  refine ⟨c, rfl, ?_⟩
  cases c with
  | true => rw [if_pos rfl]; exact ⟨_, m1, hm1, l1, .bl, q1 rfl⟩
  | false => rw [if_neg Bool.false_ne_true]; exact WE.from l1 (q2 rfl σ H1 (S.later hm1 l1))
theorem AE.not {Q : QD} (h : AE X a ρ m fun d m1 => ∃ c, d = .bl c ∧ Q (.bl (!c)) m1) : AE X (.UnaryOp .Not a pos) ρ m Q := .mk fun σ H S => by
  refine WE.of (pe_not peW) ((h σ H S).mono fun v H1 ⟨d, m1, hm1, l1, r1, c, e, q1⟩ => ?_)
  subst e
  cases r1
  exact ⟨c, rfl, _, m1, hm1, l1, .bl, q1⟩
theorem AE.ifx {Q : QD} {c : Expr} (h : AT X c ρ m fun t m1 => (t = true → AE X a ρ m1 Q) ∧ (t = false → AE X b ρ m1 Q)) : AE X (.IfExp c a b pos) ρ m Q := .mk fun σ H S => by
  refine WE.of (pe_ifExp ptW peW peW) ((h σ H S).mono fun t H1 ⟨m1, hm1, l1, q1, q2⟩ => ?_)
  cases t with
  | true => rw [if_pos rfl]; exact WE.from l1 (q1 rfl σ H1 (S.later hm1 l1))
  | false => rw [if_neg Bool.false_ne_true]; exact WE.from l1 (q2 rfl σ H1 (S.later hm1 l1))
/-- a < b < c -/
theorem chain_at {c : Expr} {rd rd' : RD2} {f f' : Value → Value → Sem Value} (ho : OpA X f rd) (ho' : OpA X f' rd') {Q : QD}
    (h : AE X a ρ m fun da m1 => AE X b ρ m1 fun db m2 => rd da db m2 fun d m3 => ∃ t, d = .bl t ∧ (t = true → AE X c ρ m3 fun dc m4 => rd' db dc m4 Q) ∧ (t = false → Q (.bl false) m3)) {σ : St} {H : Hp} (S : SR X.K ρ m σ H) :
    WE X a σ H fun x H1 => WE X b σ H1 fun y H2 => WO X f x y H2 fun z H3 => ∃ k, z = .bl k ∧ if k = true then WE X c σ H3 fun w H4 => WO X f' y w H4 (Post X.K m H Q) else Post X.K m H Q (.bl false) H3 := by
  refine (h σ H S).mono ?_
  rintro v H1 ⟨da, m1, hm1, l1, r1, q1⟩
  refine (q1 σ H1 (S.later hm1 l1)).mono ?_
  rintro u H2 ⟨db, m2, hm2, l2, r2, q2⟩
  refine WO.mono _ _ _ _ _ ?_ (ho.w da db v u m2 H2 _ hm2 (l2.rep r1) r2 q2)
  rintro z H3 ⟨d, m3, hm3, l3, r3, t, e, q3, q4⟩
  subst e
  cases r3
  refine ⟨t, rfl, ?_⟩
  cases t with
  | false => rw [if_neg Bool.false_ne_true]; exact ⟨_, m3, hm3, l1.trans (l2.trans l3), .bl, q4 rfl⟩
  | true =>
    rw [if_pos rfl]
    refine (q3 rfl σ H3 (S.later hm3 (l1.trans (l2.trans l3)))).mono ?_
    rintro w H4 ⟨dc, m4, hm4, l4, r4, q5⟩
    exact WO.mono _ _ _ _ _ (fun _ _ p => p.from (l1.trans (l2.trans (l3.trans l4)))) (ho'.w db dc u w m4 H4 _ hm4 (l4.rep (l3.rep r2)) r4 q5)
theorem AE.chain {Q : QD} {c : Expr} {op op' : CmpOp} {rd rd' : RD2} (ho : OpA X (compareOp op) rd) (ho' : OpA X (compareOp op') rd')
    (h : AE X a ρ m fun da m1 => AE X b ρ m1 fun db m2 => rd da db m2 fun d m3 => ∃ t, d = .bl t ∧ (t = true → AE X c ρ m3 fun dc m4 => rd' db dc m4 Q) ∧ (t = false → Q (.bl false) m3)) (hm : lastMarks [op, op'] [b, c] = false := by with_unfolding_all rfl) : AE X (.Compare a [op, op'] [b, c] pos) ρ m Q := .mk fun σ H S =>
  WE.of (pe_chain woW woW peW peW peW hm) (chain_at ho ho' h S)
theorem AT.chain {Q : Bool → Mu → Prop} {c : Expr} {op op' : CmpOp} {rd rd' : RD2} (ho : OpA X (compareOp op) rd) (ho' : OpA X (compareOp op') rd')
    (h : AE X a ρ m fun da m1 => AE X b ρ m1 fun db m2 => rd da db m2 fun d m3 => ∃ t, d = .bl t ∧ (t = true → AE X c ρ m3 fun dc m4 => rd' db dc m4 fun d5 m5 => ∃ c, d5 = .bl c ∧ Q c m5) ∧ (t = false → ∃ c, D.bl false = .bl c ∧ Q c m3)) (hm : lastMarks [op, op'] [b, c] = false := by with_unfolding_all rfl) : AT X (.Compare a [op, op'] [b, c] pos) ρ m Q := .mk fun σ H S => by
  refine WT.of (pt_chain woW woW peW peW peW hm) ?_
  have g := chain_at (Q := fun d5 m5 => ∃ c, d5 = .bl c ∧ Q c m5) ho ho' h S
  refine WE.mono (X := X) (e := a) g fun v H1 g1 => WE.mono (X := X) (e := b) g1 fun u H2 g2 => WO.mono _ _ _ _ _ (fun z H3 ⟨k, e, g3⟩ => ⟨k, e, ?_⟩) g2
  have fin : ∀ {v H'}, Post X.K m H (fun d5 m5 => ∃ c, d5 = .bl c ∧ Q c m5) v H' → ∃ k, v = .bl k ∧ PostB X.K m H Q k H' := by
    rintro v H' ⟨d, m', hm', l, r, c, e, q⟩
    subst e
    cases r
    exact ⟨c, rfl, m', hm', l, q⟩
  cases k with
  | false => rw [if_neg Bool.false_ne_true] at g3 ⊢; exact fin g3
  | true => rw [if_pos rfl] at g3 ⊢; exact g3.mono fun w H4 g4 => WO.mono _ _ _ _ _ (fun _ _ p => fin p) g4
/-! ### is None -/
def dNon : D → Bool
  | .non => true
  | _ => false
theorem rep_non {K : PySem.W.Frag} {M : Addr → Prop} {H : Hp} {d : D} {v : V} (r : Rep K M H d v) : decide (v = .non) = dNon d := by
  cases r <;> simp [dNon]
theorem oa_isN : OpA X (compareOp .Is) fun da db m Q => db = .non ∧ Q (.bl (dNon da)) m := ⟨_, op_isN, fun da db x y m H Q hm ra rb ⟨e, q⟩ => by
  subst e; cases rb; exact ⟨rfl, .now hm (by rw [rep_non ra]; exact .bl) q⟩⟩
theorem oa_notN : OpA X (compareOp .IsNot) fun da db m Q => db = .non ∧ Q (.bl (!dNon da)) m := ⟨_, op_notN, fun da db x y m H Q hm ra rb ⟨e, q⟩ => by
  subst e; cases rb; exact ⟨rfl, .now hm (by rw [rep_non ra]; exact .bl) q⟩⟩
/-! ### whole numbers -/
theorem oaI0 {f : Value → Value → Sem Value} {g : Int → Int → Int} (h : OpR X f (rI0 fun i j => .int (g i j))) : OpA X f fun da db m Q => ∃ i j, da = .int i ∧ db = .int j ∧ Q (.int (g i j)) m := ⟨_, h, fun da db x y m H Q hm ra rb ⟨i, j, e1, e2, q⟩ => by
  subst e1 e2; cases ra; cases rb; exact ⟨i, j, rfl, rfl, .now hm .int q⟩⟩
theorem oaIB {f : Value → Value → Sem Value} {g : Int → Int → Bool} (h : OpR X f (rI0 fun i j => .bl (g i j))) : OpA X f fun da db m Q => ∃ i j, da = .int i ∧ db = .int j ∧ Q (.bl (g i j)) m := ⟨_, h, fun da db x y m H Q hm ra rb ⟨i, j, e1, e2, q⟩ => by
  subst e1 e2; cases ra; cases rb; exact ⟨i, j, rfl, rfl, .now hm .bl q⟩⟩
theorem oaI {f : Value → Value → Sem Value} {C : Int → Int → Prop} {g : Int → Int → Int} (h : OpR X f (rI C fun i j => .int (g i j))) : OpA X f fun da db m Q => ∃ i j, da = .int i ∧ db = .int j ∧ C i j ∧ Q (.int (g i j)) m := ⟨_, h, fun da db x y m H Q hm ra rb ⟨i, j, e1, e2, c, q⟩ => by
  subst e1 e2; cases ra; cases rb; exact ⟨i, j, rfl, rfl, c, .now hm .int q⟩⟩
theorem oa_add : OpA X (binaryOp .Add) fun da db m Q => ∃ i j, da = .int i ∧ db = .int j ∧ Q (.int (i + j)) m := oaI0 op_add
theorem oa_sub : OpA X (binaryOp .Sub) fun da db m Q => ∃ i j, da = .int i ∧ db = .int j ∧ Q (.int (i - j)) m := oaI0 op_sub
theorem oa_mul : OpA X (binaryOp .Mult) fun da db m Q => ∃ i j, da = .int i ∧ db = .int j ∧ CMul i j ∧ Q (.int (i * j)) m := oaI op_mul
theorem oa_fdiv : OpA X (binaryOp .FloorDiv) fun da db m Q => ∃ i j, da = .int i ∧ db = .int j ∧ CDiv i j ∧ Q (.int (i / j)) m := oaI op_fdiv
theorem oa_mod : OpA X (binaryOp .Mod) fun da db m Q => ∃ i j, da = .int i ∧ db = .int j ∧ 0 < j ∧ Q (.int (i % j)) m := oaI op_mod
theorem oa_pow : OpA X (binaryOp .Pow) fun da db m Q => ∃ i j, da = .int i ∧ db = .int j ∧ CPow i j ∧ Q (.int (i ^ j.toNat)) m := oaI op_pow
theorem oa_lt : OpA X (compareOp .Lt) fun da db m Q => ∃ i j, da = .int i ∧ db = .int j ∧ Q (.bl (decide (i < j))) m := oaIB op_lt
theorem oa_le : OpA X (compareOp .LtE) fun da db m Q => ∃ i j, da = .int i ∧ db = .int j ∧ Q (.bl (decide (i ≤ j))) m := oaIB op_le
theorem oa_gt : OpA X (compareOp .Gt) fun da db m Q => ∃ i j, da = .int i ∧ db = .int j ∧ Q (.bl (decide (j < i))) m := oaIB op_gt
theorem oa_ge : OpA X (compareOp .GtE) fun da db m Q => ∃ i j, da = .int i ∧ db = .int j ∧ Q (.bl (decide (j ≤ i))) m := oaIB op_ge
/-! ### scalars -/
/-- a scalar -/
def scD : D → Option V
  | .int i => some (.int i)
  | .bl b => some (.bl b)
  | .str x => some (.str x)
  | .non => some .non
  | _ => none
theorem scD_rep {K : PySem.W.Frag} {M : Addr → Prop} {H : Hp} {d : D} {v u : V} (r : Rep K M H d v) (e : scD d = some u) : v = u := by
  cases r <;> simp [scD] at e <;> exact e
theorem oa_eq : OpA X (compareOp .Eq) fun da db m Q => ∃ x y, scD da = some x ∧ scD db = some y ∧ scal x y = true ∧ Q (.bl (decide (x = y))) m := ⟨_, op_eq, fun da db x y m H Q hm ra rb ⟨u, v, e1, e2, s, q⟩ => by
  rw [scD_rep ra e1, scD_rep rb e2]; exact ⟨s, .now hm .bl q⟩⟩
theorem oa_ne : OpA X (compareOp .NotEq) fun da db m Q => ∃ x y, scD da = some x ∧ scD db = some y ∧ scal x y = true ∧ Q (.bl (!decide (x = y))) m := ⟨_, op_ne, fun da db x y m H Q hm ra rb ⟨u, v, e1, e2, s, q⟩ => by
  rw [scD_rep ra e1, scD_rep rb e2]; exact ⟨s, .now hm .bl q⟩⟩
/-! ### arguments, displays -/
variable {es : List Expr}
theorem AA.nil {Q : List D → Mu → Prop} (q : Q [] m) : AA X [] ρ m Q := .mk fun σ H S => WA.of pa_nil ⟨[], m, S.hm, Later.refl, .nil, q⟩
theorem AA.cons {Q : List D → Mu → Prop} (h : AE X e ρ m fun d m1 => AA X es ρ m1 fun ds m2 => Q (d :: ds) m2) (hs : starEach (e :: es) X.env = (false, eval e X.env) :: starEach es X.env := by rfl) : AA X (e :: es) ρ m Q := .mk fun σ H S => by
  refine WA.of (pa_cons peW paW hs) ((h σ H S).mono fun v H1 ⟨d, m1, hm1, l1, r1, q1⟩ => ?_)
  refine (q1 σ H1 (S.later hm1 l1)).mono fun vs H2 ⟨ds, m2, hm2, l2, r2, q2⟩ => ?_
  exact ⟨d :: ds, m2, hm2, l1.trans l2, .cons (l2.rep r1) r2, q2⟩
theorem AE.tup {Q : QD} {x1} (h : AA X es ρ m fun ds m1 => ds.length ≤ sizeLine ∧ Q (.tup ds) m1) : AE X (.Tuple es x1 pos) ρ m Q := .mk fun σ H S => by
  refine WE.of (pe_tup paW) ((h σ H S).mono fun vs H1 ⟨ds, m1, hm1, l1, r1, z, q1⟩ => ⟨by rw [← r1.length]; exact z, fun p hp => ?_⟩)
  exact (Post.new hm1 hp (.tup (notdom hm1 hp) upd_same (r1.same (same_upd hp))) q1).from l1
/-- a list that is not to change -/
theorem AE.lst {Q : QD} (h : AA X es ρ m fun ds m1 => ds.length ≤ sizeLine ∧ Q (.lst ds) m1) : AE X (.List es pos) ρ m Q := .mk fun σ H S => by
  refine WE.of (pe_lst paW) ((h σ H S).mono fun vs H1 ⟨ds, m1, hm1, l1, r1, z, q1⟩ => ⟨by rw [← r1.length]; exact z, fun p hp => ?_⟩)
  exact (Post.new hm1 hp (.lst (notdom hm1 hp) (.inl upd_same) (r1.same (same_upd hp))) q1).from l1
/-- a list that is to change -/
theorem AE.lstM {Q : QD} (h : AA X es ρ m fun ds m1 => ds.length ≤ sizeLine ∧ ∀ p, m1 p = none → Q (.ref p) (updM m1 p (.lst ds))) : AE X (.List es pos) ρ m Q := .mk fun σ H S => by
  refine WE.of (pe_lst paW) ((h σ H S).mono fun vs H1 ⟨ds, m1, hm1, l1, r1, z, q1⟩ => ⟨by rw [← r1.length]; exact z, fun p hp => ?_⟩)
  exact (Post.newM (u := .lst ds) hm1 hp ⟨vs, upd_same, (Later.new hp).reps r1⟩ q1).from l1
theorem AE.dic {Q : QD} (q : Q (.dic []) m) : AE X (.Dict [] [] pos) ρ m Q := .mk fun σ H S => WE.of pe_dnewK fun p hp => Post.new S.hm hp (.dic (notdom S.hm hp) upd_same rfl .nil) q
theorem AE.dicM {Q : QD} (q : ∀ p, m p = none → Q (.ref p) (updM m p (.dic []))) : AE X (.Dict [] [] pos) ρ m Q := .mk fun σ H S => WE.of pe_dnewK fun p hp => Post.newM (u := .dic []) S.hm hp ⟨[], upd_same, rfl, .nil⟩ q
/-- a changing list is to change no more -/
theorem AE.frz {Q : QD} (h : AE X e ρ m fun d m1 => ∃ a ds, d = .ref a ∧ m1 a = some (.lst ds) ∧ Q (.lst ds) (delM m1 a)) : AE X e ρ m Q := .mk fun σ H S =>
  (h σ H S).mono fun v H1 ⟨d, m1, hm1, l1, r1, a, ds, e1, e2, q⟩ => by
    subst e1
    cases r1
    obtain ⟨vs, z, r⟩ := hm1 _ _ e2
    exact ⟨.lst ds, delM m1 a, hm1.del, l1.trans Later.del, .lst nodel (.inl z) (Later.del.reps r), q⟩
theorem AE.frzD {Q : QD} (h : AE X e ρ m fun d m1 => ∃ a ds, d = .ref a ∧ m1 a = some (.dic ds) ∧ Q (.dic ds) (delM m1 a)) : AE X e ρ m Q := .mk fun σ H S =>
  (h σ H S).mono fun v H1 ⟨d, m1, hm1, l1, r1, a, ds, e1, e2, q⟩ => by
    subst e1
    cases r1
    obtain ⟨vs, z, e, r⟩ := hm1 _ _ e2
    exact ⟨.dic ds, delM m1 a, hm1.del, l1.trans Later.del, .dic nodel z e (Later.del.reps r), q⟩
theorem AE.frzI {Q : QD} (h : AE X e ρ m fun d m1 => ∃ a C ds, d = .ref a ∧ m1 a = some (.ins C ds) ∧ Q (.ins C ds) (delM m1 a)) : AE X e ρ m Q := .mk fun σ H S =>
  (h σ H S).mono fun v H1 ⟨d, m1, hm1, l1, r1, a, C, ds, e1, e2, q⟩ => by
    subst e1
    cases r1
    obtain ⟨dx, vs, z, e, r⟩ := hm1 _ _ e2
    exact ⟨.ins C ds, delM m1 a, hm1.del, l1.trans Later.del, .ins nodel z e (Later.del.reps r), q⟩
/-! ### statements -/
variable {st : Stmt} {sts : List Stmt}
theorem ASs.nil {D : AEnds} (h : D.nx ρ m) : ASs X [] ρ m D := .mk fun σ H S => WSs.of pss_nil ⟨ρ, m, S.hm, Later.refl, S.rs, h⟩
theorem ASs.cons {D : AEnds} (h : AS X st ρ m { D with nx := fun ρ' m' => ASs X sts ρ' m' D }) : ASs X (st :: sts) ρ m D := .mk fun σ H S => by
  refine WSs.of (pss_cons psW pssW) ?_
  refine WS.mono (h σ H S) (fun σ' H' ⟨ρ', m', hm, l, rs, q⟩ => ?_) (fun _ _ p => p) (fun _ _ p => p) fun _ _ p => p
  exact WSs.from l (q σ' H' ⟨hm, rs⟩)
/-- the ways join: what holds behind the statement -/
theorem ASs.cut {D : AEnds} (R : Rho → Mu → Prop) (h : AS X st ρ m { D with nx := R }) (h2 : ∀ ρ' m', R ρ' m' → ASs X sts ρ' m' D) : ASs X (st :: sts) ρ m D := .mk fun σ H S => by
  refine WSs.of (pss_cons psW pssW) ?_
  refine WS.mono (h σ H S) (fun σ' H' ⟨ρ', m', hm, l, rs, q⟩ => ?_) (fun _ _ p => p) (fun _ _ p => p) fun _ _ p => p
  exact WSs.from l (h2 ρ' m' q σ' H' ⟨hm, rs⟩)
theorem ASs.one {D : AEnds} (h : AS X st ρ m D) : ASs X [st] ρ m D := .mk fun σ H S => WSs.of (pss_one psW) (h σ H S)
theorem ASs.imp {D D' : AEnds} (h : ASs X sts ρ m D) (w1 : ∀ ρ m, D.nx ρ m → D'.nx ρ m) (w2 : ∀ d m, D.rt d m → D'.rt d m) (w3 : ∀ ρ m, D.bk ρ m → D'.bk ρ m) (w4 : ∀ ρ m, D.ct ρ m → D'.ct ρ m) : ASs X sts ρ m D' := .mk fun σ H S =>
  (h σ H S).mono (fun _ _ ⟨ρ', m', a, b, c, q⟩ => ⟨ρ', m', a, b, c, w1 _ _ q⟩) (fun _ _ ⟨ρ', m', a, b, c, q⟩ => ⟨ρ', m', a, b, c, w2 _ _ q⟩) (fun _ _ ⟨ρ', m', a, b, c, q⟩ => ⟨ρ', m', a, b, c, w3 _ _ q⟩) fun _ _ ⟨ρ', m', a, b, c, q⟩ => ⟨ρ', m', a, b, c, w4 _ _ q⟩
theorem AS.pass {D : AEnds} (h : D.nx ρ m) : AS X (.Pass pos) ρ m D := .mk fun σ H S => WS.of ps_pass ⟨ρ, m, S.hm, Later.refl, S.rs, h⟩
theorem AS.brk {D : AEnds} (h : D.bk ρ m) : AS X (.Break pos) ρ m D := .mk fun σ H S => WS.of ps_break ⟨ρ, m, S.hm, Later.refl, S.rs, h⟩
theorem AS.cont {D : AEnds} (h : D.ct ρ m) : AS X (.Continue pos) ρ m D := .mk fun σ H S => WS.of ps_continue ⟨ρ, m, S.hm, Later.refl, S.rs, h⟩
theorem AS.ret {D : AEnds} (h : AE X e ρ m D.rt) : AS X (.Return (some e) pos) ρ m D := .mk fun σ H S => WS.of (ps_ret peW) ((h σ H S).mono fun _ _ p => p)
theorem AS.retN {D : AEnds} (h : D.rt .non m) : AS X (.Return none pos) ρ m D := .mk fun σ H S => WS.of ps_retN (Post.now S.hm .non h)
theorem AS.expr {D : AEnds} (h : AE X e ρ m fun _ m1 => D.nx ρ m1) (hs : swapsWith e none pos.line X.env = pure false := by rfl) : AS X (.Expr e pos) ρ m D := .mk fun σ H S =>
  WS.of (ps_expr peW hs) ((h σ H S).mono fun v H1 ⟨d, m1, hm1, l1, r1, q⟩ => ⟨ρ, m1, hm1, l1, S.rs.later l1, q⟩)
theorem AS.ifs {D : AEnds} {c : Expr} {as bs : List Stmt} (h : AT X c ρ m fun t m1 => (t = true → ASs X as ρ m1 D) ∧ (t = false → ASs X bs ρ m1 D)) : AS X (.If c as bs pos) ρ m D := .mk fun σ H S => by
  refine WS.of (ps_if ptW pssW pssW) ((h σ H S).mono fun t H1 ⟨m1, hm1, l1, q1, q2⟩ => ?_)
  cases t with
  | true => rw [if_pos rfl]; exact WSs.from l1 (q1 rfl σ H1 (S.later hm1 l1))
  | false => rw [if_neg Bool.false_ne_true]; exact WSs.from l1 (q2 rfl σ H1 (S.later hm1 l1))
/-- slots: SetR i d ρ ρ' : ρ' is ρ with d at i -/
inductive SetR : Nat → D → Rho → Rho → Prop
  | z {d : D} {x : Option D} {r : Rho} : SetR 0 d (x :: r) (some d :: r)
  | s {n : Nat} {d : D} {x : Option D} {r r' : Rho} (h : SetR n d r r') : SetR (n + 1) d (x :: r) (x :: r')
theorem SetR.eq : ∀ {i : Nat} {d : D} {ρ ρ' : Rho}, SetR i d ρ ρ' → ρ' = ρ.set i (some d)
  | _, _, _, _, .z => rfl
  | _, _, _, _, .s h => by rw [h.eq] <;> rfl
theorem AS.set {D : AEnds} {i : Nat} {x : Str} {pos' : Pos} (hx : XF X fb k) (hN : Nth fb.N i x) (hv : fb.sto x = true) (h : AE X e ρ m fun d m1 => ∃ ρ', SetR i d ρ ρ' ∧ D.nx ρ' m1) (hs : swapsWith e (some (.Name x pos')) pos.line X.env = pure false := by rfl) : AS X (.Assign [.Name x pos'] e pos) ρ m D := .mk fun σ H S => by
  obtain ⟨l, f⟩ := hx.sto x hv
  refine WS.of (ps_set hx.nd (by rw [hx.nN]; exact hN.at) l peW hs f) ((h σ H S).mono fun v H1 ⟨d, m1, hm1, l1, r1, ρ', e, q⟩ => ?_)
  rw [e.eq] at q
  exact ⟨_, m1, hm1, l1, (S.rs.later l1).set i r1, q⟩
theorem AG.name {Q : Rho → Mu → Prop} {i : Nat} {x : Str} {d : D} (hx : XF X fb k) (hN : Nth fb.N i x) (hv : fb.sto x = true) (h : ∃ ρ', SetR i d ρ ρ' ∧ Q ρ' m) : AG X (.Name x pos) d ρ m Q := .mk fun v σ H S r pins s u I rv => by
  obtain ⟨l, f⟩ := hx.sto x hv
  obtain ⟨ρ', e, q⟩ := h
  rw [e.eq] at q
  exact (pg_name hx.nd (by rw [hx.nN]; exact hN.at) l f).run pins s σ H v u _ I rv ⟨_, m, S.hm, Later.refl, S.rs.set i r, q⟩
theorem AS.asg {D : AEnds} {tg : Expr} (h : AE X e ρ m fun d m1 => AG X tg d ρ m1 D.nx) (hs : swapsWithSole [tg] e pos.line X.env = pure false := by rfl) (hw : swappedStores [tg] e X.env = pure none := by rfl) (h1 : (assignEach [tg] X.env).map (·.2) = [assign tg X.env] := by rfl) : AS X (.Assign [tg] e pos) ρ m D := .mk fun σ H S => by
  refine WS.of (ps_asg peW pgW hs hw h1) ((h σ H S).mono fun v H1 ⟨d, m1, hm1, l1, r1, q⟩ => ?_)
  exact (q v σ H1 (S.later hm1 l1) r1).mono fun _ _ p => p.from l1
theorem AS.never {D : AEnds} (h : False) : AS X st ρ m D := h.elim
end
end Ab
/-! A2: promises of defs; calls, attributes, methods, properties, instances. -/
namespace Ab
open L2 PySem PySem.Spec PyProof.Rows

/-- a def's abstract promise: the arguments, the store, what is wanted of the result -/
abbrev ASp := List D → Mu → QD → Prop
def liftSp (K : PySem.W.Frag) (asp : ASp) : Sp := fun vs H Q _ => ∃ ds m Q', HM K m H ∧ Reps K (dom m) H ds vs ∧ asp ds m Q' ∧ ∀ d m' v H', HM K m' H' → Later m H m' H' → Rep K (dom m') H' d v → Q' d m' → Q v H'
section
variable (P : Program) (w : World) (K : PySem.W.Frag) (mg : Str → Option Value) (base : Heap)
/-- the def at f keeps the promise -/
def AFn (k : Nat) (f : Addr) (asp : ASp) : Prop := FnR P w K mg base CX0 k f (liftSp K asp)
/-- .. with its parameters, for other ways of binding -/
structure AFd (k : Nat) (f : Addr) (fd : FuncData) (ps : List Str) (asp : ASp) : Prop where
  ok : FnOk P w K mg base CX0 k f fd ps (liftSp K asp)
  len : ∀ ds m Q, asp ds m Q → ds.length = ps.length
structure XG (X : Cx) : Prop where
  prog : X.prog = P
  w : X.w = w
  K : X.K = K
  mg : X.mg = mg
  base : X.base = base
end
section
variable {P : Program} {w : World} {K : PySem.W.Frag} {mg : Str → Option Value} {base : Heap} {k j : Nat} {f : Addr} {fd : FuncData} {ps : List Str} {asp asp' : ASp}
theorem AFn.mono (F : AFn P w K mg base j f asp) (h : j ≤ k) : AFn P w K mg base k f asp := FnR.mono F h
theorem AFn.imp (F : AFn P w K mg base k f asp) (h : ∀ ds m Q, asp' ds m Q → asp ds m Q) : AFn P w K mg base k f asp' := FnR.imp F fun vs H Q E ⟨ds, m, Q', a, b, c, e⟩ => ⟨ds, m, Q', a, b, h _ _ _ c, e⟩
theorem AFd.pos (F : AFd P w K mg base k f fd ps asp) (hb : Binds K fd ps []) : AFn P w K mg base k f asp := (F.ok.raw hb .nil).imp fun vs H Q E h => by rw [List.append_nil]; exact h
/-- with defaults -/
theorem AFd.dfl (F : AFd P w K mg base k f fd ps asp) {ds : List Value} {dvs : List V} {dds : List D} (hb : Binds K fd ps ds) (hd : Vals dvs ds) (hr : ∀ M H, Reps K M H dds dvs) : AFn P w K mg base k f (fun es m Q => asp (es ++ dds) m Q) :=
  (F.ok.raw hb hd).imp fun vs H Q E ⟨es, m, Q', a, b, c, e⟩ => ⟨es ++ dds, m, Q', a, b.append (hr _ _), c, e⟩
/-- the slots at the entry -/
abbrev startR (N : List Str) (ds : List D) : Rho := ds.map some ++ List.replicate (N.length - ds.length) none
theorem startR_ok {m : Mu} {H : Hp} {N : List Str} {ds : List D} {vs : List V} (r : Reps K (dom m) H ds vs) : RS K (dom m) H (startR N ds) (L2.start N vs) := by
  have hl := r.length
  refine ⟨by simp [startR, L2.start, hl], fun i d e => ?_⟩
  unfold startR at e
  unfold L2.start
  by_cases hi : i < ds.length
  · rw [List.getElem?_append_left (by simpa using hi), List.getElem?_map] at e
    cases q : ds[i]? with
    | none => rw [q] at e; cases e
    | some d' =>
      rw [q] at e
      cases e
      obtain ⟨v, h1, h2⟩ := r.get q
      exact ⟨v, by rw [List.getElem?_append_left (by simpa [← hl] using hi), List.getElem?_map, h1] <;> rfl, h2⟩
  · rw [List.getElem?_append_right (by simpa using hi), List.getElem?_replicate] at e
    split at e <;> cases e
theorem nd_of {N : List Str} {sc : Scope} {ps : List Str} (S : FnScope N ps sc) : N.Nodup := S.nd
/-- the frame of a def's body -/
theorem xf_start {N : List Str} {sc : Scope} {ps : List Str} {qual : Str} {cdv : Value} {A : Around} {outer : List Env} {s : Shared} {H : Hp} {E : XK} (S : FnScope N ps sc) (hr : Room k (A.deeper (envOfC qual sc s.heap.objs.size f cdv))) :
    XF (cxOf CX0 P w K mg base N qual sc f cdv A outer s H E).nox (fbOf N sc) k where
  nN := rfl
  nd := S.nd
  calm := rfl
  room := hr
  vis := fun x h => visB_ok h
  sto := fun x h => ⟨stoB_ok h, .inl rfl⟩
  glb := fun x h => glbB_ok h
/-- THE RULE for a def by its body -/
theorem afd_of {x qual : Str} {params : Arguments} {body : List Stmt} {scope : Scope} {dvs : List V} {kws : List (Str × V)} {N : List Str} (F : FunD K x qual params body scope dvs kws f fd) (S : FnScope N ps scope)
    (len : ∀ ds m Q, asp ds m Q → ds.length = ps.length)
    (h : ∀ X : Cx, XG P w K mg base X → XF X (fbOf N scope) k → X.xe = (fun _ _ => False) → X.env.scope = scope → ∀ ds m Q, asp ds m Q → ASs X body (startR N ds) m { nx := fun _ m' => Q .non m', rt := Q }) : AFd P w K mg base (k + 1) f fd ps asp := by
  refine ⟨F.ok S (fun vs H Q E ⟨ds, m, Q', _, r, q, _⟩ => r.length.symm.trans (len _ _ _ q)) fun cdv A outer s H vs Q E hr ⟨ds, m, Q', hm, r, q, fin⟩ => ?_, len⟩
  refine ⟨WSs (cxOf CX0 P w K mg base N qual scope f cdv A outer s H E).nox body, pssW.nox, ?_⟩
  refine WSs.mono ((h (cxOf CX0 P w K mg base N qual scope f cdv A outer s H E).nox ⟨rfl, rfl, rfl, rfl, rfl⟩ (xf_start S hr) rfl rfl ds m Q' q).run _ _ ⟨hm, startR_ok r⟩) ?_ ?_ ?_ ?_
  · rintro σ' H' ⟨ρ', m', hm', l, rs, q'⟩
    exact fin .non m' .non H' hm' l .non q'
  · rintro v H' ⟨d, m', hm', l, rd, q'⟩
    exact fin d m' v H' hm' l rd q'
  · rintro σ' H' ⟨ρ', m', hm', l, rs, q'⟩
    exact q'
  · rintro σ' H' ⟨ρ', m', hm', l, rs, q'⟩
    exact q'
end

/-! ### calls -/
section
variable {X : Cx} {fb : FB} {k j : Nat} {ρ : Rho} {m : Mu} {e o : Expr} {es : List Expr} {x nm : Str} {p pos apos : Pos} {f C : Addr} {asp : ASp}
theorem AFn.run (F : AFn X.prog X.w X.K X.mg X.base j f asp) (hr : Room j X.A) {ds : List D} {vs : List V} {us : List Value} {pins : List (Addr × Obj)} {s : Shared} {σ : St} {H : Hp} {Q : QD} {Q' : VK} (I : Inv X pins σ H s) (r : Vals vs us) (hm : HM X.K m H) (rs : Reps X.K (dom m) H ds vs) (q : asp ds m Q)
    (fin : ∀ v H', Post X.K m H Q v H' → Q' v H') : wpAny (model X.prog X.w) X.A (call (.ref f) us) (EP X pins σ Q') X.xe s :=
  wpAny_call (run_fnR (E := E0) F hr pass0 I r ⟨ds, m, Q, hm, rs, q, fun d m' v H' a b c e => fin v H' ⟨d, m', a, b, c, e⟩⟩)
theorem AE.call {Q : QD} (F : AFn X.prog X.w X.K X.mg X.base j f asp) (hx : XF X fb k) (hj : j ≤ k) (hg : fb.glb x = true) (hm : X.mg x = some (.ref f)) (hk : PySem.W.keepIn X.K (.ref f) = true) (h : AA X (e :: es) ρ m fun ds m1 => asp ds m1 Q)
    (hdb : (x == ("__debug__" : Str)) = false := by decide +kernel) (he : starEach (e :: es) X.env = (false, eval e X.env) :: starEach es X.env := by rfl) (hpl : (backTo pos (starEach es X.env)).any (·.1) = false := by rfl) : AE X (.Call (.Name x p) (e :: es) [] pos) ρ m Q := .mk fun σ H S pins s I => by
  refine wpAny_Call_Name_kw (ld_glob I (hx.glb x hg) hm ?_ hdb)
  refine PySem.W.callWith_K (h₀ := X.base) I.ok.mod.kin hk (thn (h σ H S pos pins s I) fun us s1 ⟨vs, H1, I1, r, ds, m1, hm1, l1, r1, q1⟩ => ⟨I1.kIn, ?_⟩) he hpl
  exact F.run (hx.room.mono hj) I1 r hm1 r1 q1 fun _ _ p => p.from l1
theorem AE.call0 {Q : QD} (F : AFn X.prog X.w X.K X.mg X.base j f asp) (hx : XF X fb k) (hj : j ≤ k) (hg : fb.glb x = true) (hm : X.mg x = some (.ref f)) (hk : PySem.W.keepIn X.K (.ref f) = true) (h : asp [] m Q)
    (hdb : (x == ("__debug__" : Str)) = false := by decide +kernel) : AE X (.Call (.Name x p) [] [] pos) ρ m Q := .mk fun σ H S pins s I => by
  refine wpAny_Call_Name_kw (ld_glob I (hx.glb x hg) hm ?_ hdb)
  exact PySem.W.callWith_K0 I.kIn hk (F.run (hx.room.mono hj) I .nil S.hm .nil h fun _ _ p => p)
/-- o.m(e, ..) of an instance of C -/
theorem AE.meth {Q : QD} {pl : Sem Bool} (c : Cls X.K C) (hm : Meth X.K C nm f) (F : AFn X.prog X.w X.K X.mg X.base j f asp) (hx : XF X fb k) (hj : j ≤ k)
    (h : AE X o ρ m fun d m1 => ∃ fs, IsI m1 d C fs ∧ fs.lookup nm = none ∧ AA X (e :: es) ρ m1 fun ds m2 => asp (d :: ds) m2 Q)
    (hst : starEach (e :: es) X.env = (false, eval e X.env) :: starEach es X.env := by rfl) (hpl : (backTo pos (starEach es X.env)).any (·.1) = false := by rfl)
    (ht : eval (.Call (.Attribute o nm apos) (e :: es) [] pos) X.env = (do let ov ← eval o X.env; standAt apos.atName; let (f, first) ← holding [ov] (getMethod ov nm pl); callWith pos f first (backTo pos (starEach (e :: es) X.env)) (backToKw pos (keywordEach [] X.env))) := by rfl) :
    AE X (.Call (.Attribute o nm apos) (e :: es) [] pos) ρ m Q := .mk fun σ H S pins s I => by
  refine PySem.W.methodCall_KW (pl := pl) (thn (h σ H S pins s I) fun u s1 ⟨x, H1, I1, rx, d, m1, hm1, l1, r1, fs, hi, hl, q1⟩ => ?_) ht
  obtain ⟨a, dx, gs, ex, ea, eg, rg⟩ := hi.at hm1 r1
  subst ex
  obtain rfl : u = Value.ref a := rx
  refine getmeth_ok I1 ea c hm (lookup_no eg hl) ?_
  refine PySem.W.callWith_K (first := [.ref a]) (h₀ := X.base) I.ok.mod.kin hm.kp (thn (q1 σ H1 (S.later hm1 l1) pos pins s1 I1) fun us s2 ⟨vs, H2, I2, r, ds, m2, hm2, l2, r2, q2⟩ => ⟨I2.kIn, ?_⟩) hst hpl
  exact F.run (us := .ref a :: us) (vs := .ref a :: vs) (hx.room.mono hj) I2 (.cons rfl r) hm2 (.cons (l2.rep r1) r2) q2 fun _ _ p => p.from (l1.trans l2)
theorem AE.meth0 {Q : QD} {pl : Sem Bool} (c : Cls X.K C) (hm : Meth X.K C nm f) (F : AFn X.prog X.w X.K X.mg X.base j f asp) (hx : XF X fb k) (hj : j ≤ k)
    (h : AE X o ρ m fun d m1 => ∃ fs, IsI m1 d C fs ∧ fs.lookup nm = none ∧ asp [d] m1 Q)
    (ht : eval (.Call (.Attribute o nm apos) [] [] pos) X.env = (do let ov ← eval o X.env; standAt apos.atName; let (f, first) ← holding [ov] (getMethod ov nm pl); callWith pos f first (backTo pos (starEach [] X.env)) (backToKw pos (keywordEach [] X.env))) := by rfl) :
    AE X (.Call (.Attribute o nm apos) [] [] pos) ρ m Q := .mk fun σ H S pins s I => by
  refine PySem.W.methodCall_KW (pl := pl) (thn (h σ H S pins s I) fun u s1 ⟨x, H1, I1, rx, d, m1, hm1, l1, r1, fs, hi, hl, q1⟩ => ?_) ht
  obtain ⟨a, dx, gs, ex, ea, eg, rg⟩ := hi.at hm1 r1
  subst ex
  obtain rfl : u = Value.ref a := rx
  refine getmeth_ok I1 ea c hm (lookup_no eg hl) ?_
  exact PySem.W.callWith_K0 (first := [.ref a]) I1.kIn hm.kp (F.run (us := [.ref a]) (vs := [.ref a]) (hx.room.mono hj) I1 (.cons rfl .nil) hm1 (.cons r1 .nil) q1 fun _ _ p => p.from l1)
/-- e.f, a field -/
theorem AE.fld {Q : QD} (h : AE X e ρ m fun d m1 => ∃ C fs v, IsI m1 d C fs ∧ Cls X.K C ∧ NoAttr X.K C nm ∧ fs.lookup nm = some v ∧ Q v m1) (hb : attributeBase e nm X.env (eval e X.env) = eval e X.env := by rfl) : AE X (.Attribute e nm pos) ρ m Q := .mk fun σ H S => by
  refine WE.of (pe_fld peW hb) ((h σ H S).mono fun x H1 ⟨d, m1, hm1, l1, r1, C, fs, v, hi, c, n, l, q⟩ => ?_)
  obtain ⟨a, dx, gs, ex, ea, eg, rg⟩ := hi.at hm1 r1
  obtain ⟨u, hu, ru⟩ := lookup_at eg (fun i d h => rg.get h) l
  exact ⟨a, C, dx, gs, u, ex, ea, c, n, hu, v, m1, hm1, l1, ru, q⟩
/-- e.f, a property of C -/
theorem AE.prop {Q : QD} {pa : Addr} {fd : FuncData} {ps : List Str} (c : Cls X.K C) (hp : PropOf X.K C nm pa f) (F : AFd X.prog X.w X.K X.mg X.base j f fd ps asp) (hb : Binds X.K fd ps []) (hx : XF X fb k) (hj : j + 1 ≤ k)
    (h : AE X e ρ m fun d m1 => ∃ fs, IsI m1 d C fs ∧ asp [d] m1 Q) (hab : attributeBase e nm X.env (eval e X.env) = eval e X.env := by rfl) : AE X (.Attribute e nm pos) ρ m Q := .mk fun σ H S => by
  refine WE.of (pe_prop peW c hp F.ok (hx.room.mono hj) hb .nil pass0 (E := E0) hab) ((h σ H S).mono fun x H1 ⟨d, m1, hm1, l1, r1, fs, hi, q⟩ => ?_)
  obtain ⟨a, dx, gs, ex, ea, eg, rg⟩ := hi.at hm1 r1
  subst ex
  exact ⟨a, dx, gs, rfl, ea, [d], m1, Q, hm1, .cons r1 .nil, q, fun d' m' v H' a b c e => Post.from l1 ⟨d', m', a, b, c, e⟩⟩
/-! ### instances -/
def putD (f : Str) (v : D) : List (Str × D) → List (Str × D)
  | [] => [(f, v)]
  | (g, u) :: r => if g = f then (g, v) :: r else (g, u) :: putD f v r
theorem putF_fst (f : Str) (v : V) (d : D) : ∀ {gs : List (Str × V)} {fs : List (Str × D)}, gs.map (·.1) = fs.map (·.1) → (putF f v gs).map (·.1) = (putD f d fs).map (·.1)
  | [], [], _ => rfl
  | [], _ :: _, e => by cases e
  | _ :: _, [], e => by cases e
  | (g, u) :: gs, (g', u') :: fs, e => by
    simp only [List.map_cons, List.cons.injEq] at e
    obtain ⟨e1, e2⟩ := e
    subst e1
    unfold putF putD
    split
    · simp [e2]
    · simp [putF_fst f v d e2]
theorem putF_snd {K : PySem.W.Frag} {M : Addr → Prop} {H : Hp} {f : Str} {v : V} {d : D} (r : Rep K M H d v) : ∀ {gs : List (Str × V)} {fs : List (Str × D)}, gs.map (·.1) = fs.map (·.1) → Reps K M H (fs.map (·.2)) (gs.map (·.2)) → Reps K M H ((putD f d fs).map (·.2)) ((putF f v gs).map (·.2))
  | [], [], _, _ => .cons r .nil
  | [], _ :: _, e, _ => by cases e
  | _ :: _, [], e, _ => by cases e
  | (g, u) :: gs, (g', u') :: fs, e, t => by
    simp only [List.map_cons, List.cons.injEq] at e
    obtain ⟨e1, e2⟩ := e
    subst e1
    cases t with
    | cons h t =>
      unfold putF putD
      split
      · exact .cons r t
      · exact .cons h (putF_snd r e2 t)
theorem fs_len {gs : List (Str × V)} {fs : List (Str × D)} (e : gs.map (·.1) = fs.map (·.1)) : gs.length = fs.length := by
  have := congrArg List.length e; simpa using this
/-- o.f = e -/
theorem AS.fld {value : Expr} {pos' : Pos} {D' : AEnds} (h : AE X value ρ m fun d m1 => AE X o ρ m1 fun q m2 => ∃ a C fs, q = .ref a ∧ m2 a = some (.ins C fs) ∧ Cls X.K C ∧ NoAttr X.K C nm ∧ fs.length < 1000 ∧ D'.nx ρ (updM m2 a (.ins C (putD nm d fs))))
    (hs : swapsWith value (some (.Attribute o nm pos')) pos.line X.env = pure false := by rfl) : AS X (.Assign [.Attribute o nm pos'] value pos) ρ m D' := .mk fun σ H S => by
  refine WS.of (ps_fld peW peW hs) ((h σ H S).mono fun v H1 ⟨d, m1, hm1, l1, r1, q1⟩ => ?_)
  refine (q1 σ H1 (S.later hm1 l1)).mono fun x H2 ⟨q, m2, hm2, l2, r2, a, C, fs, e, ea, c, n, hz, hn⟩ => ?_
  subst e
  cases r2
  obtain ⟨dx, gs, z, eg, rg⟩ := hm2 _ _ ea
  have dm : dom m2 a := by unfold dom; rw [ea]; simp
  have lw : Later m2 H2 (updM m2 a (.ins C (putD nm d fs))) (upd H2 a (.ins C dx (putF nm v gs))) := Later.write dm
  refine ⟨a, C, dx, gs, rfl, z, c, n, by rw [fs_len eg]; exact hz, ρ, _, hm2.put (u := .ins C (putD nm d fs)) (.inr dm) ⟨dx, _, upd_same, putF_fst _ _ _ eg, putF_snd (lw.rep (l2.rep r1)) eg (lw.reps rg)⟩, l1.trans (l2.trans lw), S.rs.later (l1.trans (l2.trans lw)), hn⟩
/-- a new instance, its __init__ by its promise -/
theorem make_ready {m : Mu} {H : Hp} {x dx C : Addr} (K : PySem.W.Frag) (hm : HM K m H) (nx : H x = none) (nd : H dx = none) (ne : dx ≠ x) :
    HM K (updM m x (.ins C [])) (upd (upd H dx (.own x)) x (.ins C dx [])) ∧ Later m H (updM m x (.ins C [])) (upd (upd H dx (.own x)) x (.ins C dx [])) := by
  have nx' : upd H dx (.own x) x = none := by rw [upd_ne (Ne.symm ne)]; exact nx
  have h1 := hm.same (same_upd (o := .own x) nd)
  exact ⟨h1.put (u := .ins C []) (.inl nx') ⟨dx, [], upd_same, rfl, .nil⟩, (Later.same (same_upd nd)).trans (Later.new nx')⟩
theorem AE.make {Q : QD} (M : Mk X.K C f) (F : AFn X.prog X.w X.K X.mg X.base j f asp) (hx : XF X fb k) (hj : j + 1 ≤ k) (hg : fb.glb x = true) (hm : X.mg x = some (.ref C))
    (h : AA X (e :: es) ρ m fun ds m1 => ∀ a, m1 a = none → asp (.ref a :: ds) (updM m1 a (.ins C [])) fun d m2 => d = .non ∧ Q (.ref a) m2)
    (hdb : (x == ("__debug__" : Str)) = false := by decide +kernel) (he : starEach (e :: es) X.env = (false, eval e X.env) :: starEach es X.env := by rfl) (hpl : (backTo pos (starEach es X.env)).any (·.1) = false := by rfl) : AE X (.Call (.Name x p) (e :: es) [] pos) ρ m Q := .mk fun σ H S => by
  refine WE.of (StX.pe_makeR M (E := E0) F (hx.room.mono hj) (hx.glb x hg) hm pass0 paW hdb he hpl) ((h σ H S).mono fun vs H1 ⟨ds, m1, hm1, l1, r1, q1⟩ a dx na nd ne => ?_)
  obtain ⟨h2, l2⟩ := make_ready (C := C) X.K hm1 na nd ne
  exact ⟨.ref a :: ds, _, _, h2, .cons .ref (l2.reps r1), q1 a (hm1.fresh na), fun d m' v H' a b c ⟨e, q⟩ => by subst e; cases c; exact ⟨rfl, _, m', a, l1.trans (l2.trans b), .ref, q⟩⟩
/-- keywords: the values, from the left -/
def WK (X : Cx) (kws : List Keyword) : TA := fun σ H Q => ∀ (pos : Pos) pins s, Inv X pins σ H s → wpAny (model X.prog X.w) X.A (evalAll ((backToKw pos (keywordEach kws X.env)).map (·.2))) (AP X pins σ Q) X.xe s
structure AK (X : Cx) (kws : List Keyword) (ρ : Rho) (m : Mu) (Q : List D → Mu → Prop) : Prop where
  run : ∀ σ H, SR X.K ρ m σ H → WK X kws σ H (PostA X.K m H Q)
instance {X : Cx} {kws : List Keyword} {ρ : Rho} {m : Mu} {Q : List D → Mu → Prop} : CoeFun (AK X kws ρ m Q) (fun _ => ∀ σ H, SR X.K ρ m σ H → WK X kws σ H (PostA X.K m H Q)) := ⟨AK.run⟩
theorem pkW {kws : List Keyword} : PK X kws (WK X kws) := ⟨fun pos pins s _ _ _ I h => h pos pins s I⟩
theorem WK.mono {kws : List Keyword} {σ : St} {H : Hp} {Q Q' : List V → Hp → Prop} (h : WK X kws σ H Q) (w : ∀ v H', Q v H' → Q' v H') : WK X kws σ H Q' := fun pos pins s I =>
  thn (h pos pins s I) fun _ _ ⟨v, H', I', r, q⟩ => ⟨v, H', I', r, w _ _ q⟩
theorem AK.nil {Q : List D → Mu → Prop} (q : Q [] m) : AK X [] ρ m Q := .mk fun σ H S pos pins s I => pk_nil.run pos pins s σ H _ I ⟨[], m, S.hm, Later.refl, .nil, q⟩
theorem AK.cons {Q : List D → Mu → Prop} {kws : List Keyword} {kn : Option Str} {kp : Pos} (h : AE X e ρ m fun d m1 => AK X kws ρ m1 fun ds m2 => Q (d :: ds) m2) : AK X (⟨kn, e, kp⟩ :: kws) ρ m Q := .mk fun σ H S pos pins s I => by
  refine (pk_cons peW pkW).run pos pins s σ H _ I ((h σ H S).mono fun v H1 ⟨d, m1, hm1, l1, r1, q1⟩ => ?_)
  refine WK.mono (X := X) (q1 σ H1 (S.later hm1 l1)) fun vs H2 ⟨ds, m2, hm2, l2, r2, q2⟩ => ?_
  exact ⟨d :: ds, m2, hm2, l1.trans l2, .cons (l2.rep r1) r2, q2⟩
/-- C(e, .., k = v, ..): the keywords are the last parameters, in their order -/
theorem AE.makeK {Q : QD} {fd : FuncData} {ps ks : List Str} {kws : List Keyword} {n : Nat} {g : List Value → List Value → List Value} (M : Mk X.K C f) (F : AFd X.prog X.w X.K X.mg X.base j f fd ps asp) (hx : XF X fb k) (hj : j + 1 ≤ k) (hg : fb.glb x = true) (hm : X.mg x = some (.ref C)) (hb : KBn X.K fd ps (n + 1) ks g (fun vs zs => vs ++ zs))
    (h : AA X (e :: es) ρ m fun ds m1 => AK X kws ρ m1 fun zs m2 => ds.length = n ∧ zs.length = ks.length ∧ ∀ a, m2 a = none → asp (.ref a :: (ds ++ zs)) (updM m2 a (.ins C [])) fun d m3 => d = .non ∧ Q (.ref a) m3)
    (hall : (backToKw pos (keywordEach kws X.env)).all (·.1.isSome) = true := by rfl) (hks : (backToKw pos (keywordEach kws X.env)).filterMap (·.1) = ks := by rfl) (hdb : (x == ("__debug__" : Str)) = false := by decide +kernel)
    (he : starEach (e :: es) X.env = (false, eval e X.env) :: starEach es X.env := by rfl) (hpl : ((backTo pos (starEach (e :: es) X.env)).any (·.1) || (backToKw pos (keywordEach kws X.env)).any (·.1.isNone)) = false := by rfl) : AE X (.Call (.Name x p) (e :: es) kws pos) ρ m Q := .mk fun σ H S => by
  refine WE.of (pe_makeK M F.ok (hx.room.mono hj) (hx.glb x hg) hm hb (E := E0) pass0 paW pkW hall hks hdb he hpl) ((h σ H S).mono fun vs H1 ⟨ds, m1, hm1, l1, r1, q1⟩ => ?_)
  refine WK.mono (X := X) (q1 σ H1 (S.later hm1 l1)) fun us H2 ⟨zs, m2, hm2, l2, r2, n1, n2, q2⟩ => ?_
  refine ⟨by rw [← r1.length]; exact n1, by rw [← r2.length]; exact n2, fun a dx na nd ne => ?_⟩
  obtain ⟨h2, l3⟩ := make_ready (C := C) X.K hm2 na nd ne
  exact ⟨.ref a :: (ds ++ zs), _, _, h2, .cons .ref (l3.reps ((l2.reps r1).append r2)), q2 a (hm2.fresh na), fun d m' v H' a b c ⟨e, q⟩ => by subst e; cases c; exact ⟨rfl, _, m', a, l1.trans (l2.trans (l3.trans b)), .ref, q⟩⟩
theorem AE.make0 {Q : QD} (M : Mk X.K C f) (F : AFn X.prog X.w X.K X.mg X.base j f asp) (hx : XF X fb k) (hj : j + 1 ≤ k) (hg : fb.glb x = true) (hm : X.mg x = some (.ref C))
    (h : ∀ a, m a = none → asp [.ref a] (updM m a (.ins C [])) fun d m2 => d = .non ∧ Q (.ref a) m2) (hdb : (x == ("__debug__" : Str)) = false := by decide +kernel) : AE X (.Call (.Name x p) [] [] pos) ρ m Q := .mk fun σ H S pins s I => by
  refine wpAny_Call_Name_kw (ld_glob I (hx.glb x hg) hm ?_ hdb)
  refine PySem.W.callWith_K0 I.kIn M.kp (StX.run_makeR (us := []) (E := E0) M F (hx.room.mono hj) pass0 I .nil fun a dx na nd ne => ?_)
  obtain ⟨h2, l2⟩ := make_ready (C := C) X.K S.hm na nd ne
  exact ⟨[.ref a], _, _, h2, .cons .ref .nil, h a (S.hm.fresh na), fun d m' v H' a b c ⟨e, q⟩ => by subst e; cases c; exact ⟨rfl, _, m', a, l2.trans b, .ref, q⟩⟩
/-- *e in arguments -/
theorem AA.star {Q : List D → Mu → Prop} {sp_ : Pos} (h : AE X e ρ m fun d m1 => ∃ ds, IsQ m1 d ds ∧ AA X es ρ m1 fun zs m2 => Q (ds ++ zs) m2) (hs : starEach (.Starred e sp_ :: es) X.env = (true, eval e X.env) :: starEach es X.env := by rfl) : AA X (.Starred e sp_ :: es) ρ m Q := .mk fun σ H S => by
  refine WA.of (StX.pa_star peW paW hs) ((h σ H S).mono fun v H1 ⟨d, m1, hm1, l1, r1, ds, hi, q1⟩ => ?_)
  obtain ⟨a, vs, ev, sq, rs⟩ := hi.at hm1 r1
  refine ⟨a, vs, ev, sq.symm, WA.mono (X := X) (q1 σ H1 (S.later hm1 l1)) fun us H2 ⟨zs, m2, hm2, l2, r2, q2⟩ => ?_⟩
  exact ⟨ds ++ zs, m2, hm2, l1.trans l2, (l2.reps rs).append r2, q2⟩
end
end Ab
/-! A3: walks, loops, comprehensions. -/
namespace Ab
open L2 PySem PySem.Spec PyProof.Rows

/-! ### what is walked -/
/-- J hands out ds as long as G stands -/
def JOk (K : PySem.W.Frag) (J : It) (ds : List D) (G : Mu → Prop) (m0 : Mu) (H0 : Hp) : Prop := ∀ i m H, HM K m H → Later m0 H0 m H → G m →
  (∀ d, ds[i]? = some d → J.go i H ∧ ∀ x H', J.yld i H x H' → HM K m H' ∧ Later m H m H' ∧ Rep K (dom m) H' d x) ∧ (ds.length ≤ i → J.stop i H)
section
variable (X : Cx)
def WI (tg iter : Expr) : TI := fun σ H R => ∀ pins s, Inv X pins σ H s → wpAny (model X.prog X.w) X.A (eval iter X.env) (fun v s1 => wpAny (model X.prog X.w) X.A (pyIter v) (PIE X pins σ tg R) X.xe s1) X.xe s
structure AI (tg iter : Expr) (ρ : Rho) (m : Mu) (R : List D → (Mu → Prop) → Mu → Prop) : Prop where
  run : ∀ σ H, SR X.K ρ m σ H → WI X tg iter σ H fun J H' => ∃ ds G m', HM X.K m' H' ∧ Later m H m' H' ∧ JOk X.K J ds G m' H' ∧ R ds G m'
end
section
variable {X : Cx} {fb : FB} {k : Nat} {ρ : Rho} {m : Mu} {tg iter e : Expr} {pos p : Pos}
instance {R : List D → (Mu → Prop) → Mu → Prop} : CoeFun (AI X tg iter ρ m R) (fun _ => ∀ σ H, SR X.K ρ m σ H → WI X tg iter σ H fun J H' => ∃ ds G m', HM X.K m' H' ∧ Later m H m' H' ∧ JOk X.K J ds G m' H' ∧ R ds G m') := ⟨AI.run⟩
theorem piW : PI X tg iter (WI X tg iter) := ⟨fun pins s _ _ _ I h => h pins s I⟩
theorem WI.of {wi : TI} {σ : St} {H : Hp} {R : It → Hp → Prop} (h : PI X tg iter wi) (q : wi σ H R) : WI X tg iter σ H R := fun pins s I => h.run pins s σ H R I q
theorem WI.mono {σ : St} {H : Hp} {R R' : It → Hp → Prop} (h : WI X tg iter σ H R) (w : ∀ J H', R J H' → R' J H') : WI X tg iter σ H R' := fun pins s I =>
  thn (h pins s I) fun v s1 h1 => thn h1 fun it s2 ⟨a, fp, tn, J, H', e, I', T, t0, f, q⟩ => ⟨a, fp, tn, J, H', e, I', T, t0, f, w _ _ q⟩
/-- a list -/
theorem AI.list {R : List D → (Mu → Prop) → Mu → Prop} (h : AE X iter ρ m fun d m1 => ∃ ds, IsL m1 d ds ∧ R ds (fun m2 => IsL m2 d ds) m1) : AI X tg iter ρ m R := .mk fun σ H S => by
  refine WI.of (pi_list peW) ((h σ H S).mono fun v H1 ⟨d, m1, hm1, l1, r1, ds, hi, q⟩ => ?_)
  obtain ⟨a, vs, ev, sq, rs⟩ := hi.at hm1 r1
  refine ⟨a, ev, ⟨vs, sq⟩, ds, _, m1, hm1, l1, fun i m2 H2 hm2 l2 hi2 => ⟨fun x hx => ?_, fun hl => ?_⟩, q⟩
  · obtain ⟨a', vs', e', sq', rs'⟩ := hi2.at hm2 (l2.rep r1)
    rw [ev] at e'; cases e'
    obtain ⟨u, hu, ru⟩ := rs'.get hx
    refine ⟨⟨vs', u, sq', hu⟩, fun y H' ⟨eH, hy⟩ => ?_⟩
    subst eH
    have e2 := hy vs' sq'
    rw [hu] at e2; cases e2
    exact ⟨hm2, Later.refl, ru⟩
  · obtain ⟨a', vs', e', sq', rs'⟩ := hi2.at hm2 (l2.rep r1)
    rw [ev] at e'; cases e'
    exact ⟨vs', sq', by rw [← rs'.length]; exact hl⟩
/-- a tuple -/
theorem AI.tup {R : List D → (Mu → Prop) → Mu → Prop} (h : AE X iter ρ m fun d m1 => ∃ ds, d = .tup ds ∧ R ds (fun _ => True) m1) : AI X tg iter ρ m R := .mk fun σ H S => by
  refine WI.of (pi_tup peW) ((h σ H S).mono fun v H1 ⟨d, m1, hm1, l1, r1, ds, hi, q⟩ => ?_)
  subst hi
  obtain ⟨a, vs, ev, sq, rs⟩ := IsT.im.at hm1 r1
  refine ⟨a, ev, ⟨vs, sq⟩, ds, _, m1, hm1, l1, fun i m2 H2 hm2 l2 hi2 => ⟨fun x hx => ?_, fun hl => ?_⟩, q⟩
  · obtain ⟨a', vs', e', sq', rs'⟩ := IsT.im.at hm2 (l2.rep r1)
    rw [ev] at e'; cases e'
    obtain ⟨u, hu, ru⟩ := rs'.get hx
    refine ⟨⟨vs', u, sq', hu⟩, fun y H' ⟨eH, hy⟩ => ?_⟩
    subst eH
    have e2 := hy vs' sq'
    rw [hu] at e2; cases e2
    exact ⟨hm2, Later.refl, ru⟩
  · obtain ⟨a', vs', e', sq', rs'⟩ := IsT.im.at hm2 (l2.rep r1)
    rw [ev] at e'; cases e'
    exact ⟨vs', sq', by rw [← rs'.length]; exact hl⟩
/-- the signs of a text -/
def signs (x : Str) : List D := x.cps.toList.map fun c => D.str ⟨#[c]⟩
theorem AI.str {R : List D → (Mu → Prop) → Mu → Prop} (h : AE X iter ρ m fun d m1 => ∃ x, d = .str x ∧ R (signs x) (fun _ => True) m1) : AI X tg iter ρ m R := .mk fun σ H S => by
  refine WI.of (pi_str peW) ((h σ H S).mono fun v H1 ⟨d, m1, hm1, l1, r1, x, e, q⟩ => ?_)
  subst e
  cases r1
  refine ⟨x, rfl, signs x, _, m1, hm1, l1, fun i m2 H2 hm2 l2 hi2 => ⟨fun d hd => ?_, fun hl => ?_⟩, q⟩
  · unfold signs at hd
    rw [List.getElem?_map] at hd
    cases hc : x.cps.toList[i]? with
    | none => rw [hc] at hd; cases hd
    | some c =>
      rw [hc] at hd; cases hd
      have hc2 : x.cps[i]? = some c := by simpa using hc
      refine ⟨(Array.getElem?_eq_some_iff.mp hc2).1, fun y H' ⟨eH, c', h1, h2⟩ => ?_⟩
      subst eH h2
      rw [hc2] at h1; cases h1
      exact ⟨hm2, Later.refl, .str⟩
  · show x.cps.size ≤ i
    simpa [signs] using hl
/-- a range -/
def irange (lo : Int) (n : Nat) : List D := (List.range n).map fun i => D.int (lo + (i : Nat))
theorem jok_range {K : PySem.W.Frag} {lo : Int} {n : Nat} {m1 : Mu} {H1 : Hp} : JOk K (Itr lo n) (irange lo n) (fun _ => True) m1 H1 := fun i m2 H2 hm2 l2 _ => by
  refine ⟨fun d hd => ?_, fun hl => by show n ≤ i; simpa [irange] using hl⟩
  unfold irange at hd
  rw [List.getElem?_map] at hd
  have hi : i < n := by
    cases q : (List.range n)[i]? with
    | none => rw [q] at hd; cases hd
    | some j => simpa using (List.getElem?_eq_some_iff.mp q).1
  refine ⟨hi, fun y H' ⟨eH, ey⟩ => ?_⟩
  subst eH ey
  rw [List.getElem?_range hi] at hd; cases hd
  exact ⟨hm2, Later.refl, .int⟩
variable {a b : Expr}
theorem AI.range1 {R : List D → (Mu → Prop) → Mu → Prop} (hx : XF X fb k) (hg : fb.glb "range" = true) (hm : X.mg "range" = none) (h : AE X a ρ m fun d m1 => ∃ j : Int, d = .int j ∧ -(2 ^ 62) ≤ j ∧ j < 2 ^ 62 ∧ R (irange 0 j.toNat) (fun _ => True) m1)
    (hs : starEach [a] X.env = [(false, eval a X.env)] := by rfl) (hs1 : starEach (a :: []) X.env = (false, eval a X.env) :: starEach [] X.env := by rfl) : AI X tg (.Call (.Name "range" p) [a] [] pos) ρ m R := .mk fun σ H S => by
  refine WI.of (pi_range1 (hx.glb _ hg) hm paW hs) ?_
  refine WA.mono (X := X) ((AA.cons (Q := fun ds m1 => ∃ j : Int, ds = [.int j] ∧ -(2 ^ 62) ≤ j ∧ j < 2 ^ 62 ∧ R (irange 0 j.toNat) (fun _ => True) m1) (h.imp fun d m1 ⟨j, e, h1, h2, q⟩ => AA.nil ⟨j, by rw [e], h1, h2, q⟩) hs1) σ H S) ?_
  rintro vs H1 ⟨ds, m1, hm1, l1, r1, j, e, h1, h2, q⟩
  subst e
  cases r1 with
  | cons r t =>
    cases r; cases t
    exact ⟨j, rfl, h1, h2, _, _, m1, hm1, l1, jok_range, q⟩
theorem AI.range2 {R : List D → (Mu → Prop) → Mu → Prop} (hx : XF X fb k) (hg : fb.glb "range" = true) (hm : X.mg "range" = none) (h : AE X a ρ m fun d m1 => AE X b ρ m1 fun d2 m2 => ∃ i j : Int, d = .int i ∧ d2 = .int j ∧ (-(2 ^ 62) ≤ i ∧ i < 2 ^ 62 ∧ -(2 ^ 62) ≤ j ∧ j < 2 ^ 62) ∧ R (irange i (j - i).toNat) (fun _ => True) m2)
    (hs : starEach [a, b] X.env = [(false, eval a X.env), (false, eval b X.env)] := by rfl) (hs2 : starEach [b] X.env = [(false, eval b X.env)] := by rfl) (hs1 : starEach (a :: [b]) X.env = (false, eval a X.env) :: starEach [b] X.env := by rfl) (hs3 : starEach (b :: []) X.env = (false, eval b X.env) :: starEach [] X.env := by rfl) : AI X tg (.Call (.Name "range" p) [a, b] [] pos) ρ m R := .mk fun σ H S => by
  refine WI.of (pi_range2 (hx.glb _ hg) hm paW hs hs2) ?_
  refine WA.mono (X := X) ((AA.cons (Q := fun ds m1 => ∃ i j : Int, ds = [.int i, .int j] ∧ (-(2 ^ 62) ≤ i ∧ i < 2 ^ 62 ∧ -(2 ^ 62) ≤ j ∧ j < 2 ^ 62) ∧ R (irange i (j - i).toNat) (fun _ => True) m1) (h.imp fun d m1 h => AA.cons (h.imp fun d2 m2 ⟨i, j, e, e2, h1, q⟩ => AA.nil ⟨i, j, by rw [e, e2], h1, q⟩) hs3) hs1) σ H S) ?_
  rintro vs H1 ⟨ds, m1, hm1, l1, r1, i, j, e, h1, q⟩
  subst e
  cases r1 with
  | cons r t =>
    cases r
    cases t with
    | cons r t =>
      cases r; cases t
      exact ⟨i, j, rfl, h1, _, _, m1, hm1, l1, jok_range, q⟩

/-! ### for -/
theorem AS.for {body : List Stmt} {D' : AEnds} (hp : PassesOwn (model X.prog X.w) X.A X.env X.xe) (hx : XF X fb k)
    (h : AI X tg iter ρ m fun ds G m1 => ∃ I : Nat → Rho → Mu → Prop, I 0 ρ m1 ∧ (∀ i ρ' m', i ≤ ds.length → I i ρ' m' → G m') ∧
      (∀ i d ρ' m', ds[i]? = some d → I i ρ' m' → AG X tg d ρ' m' fun ρ2 m2 => ASs X body ρ2 m2 { D' with nx := I (i + 1), ct := I (i + 1), bk := D'.nx }) ∧ ∀ ρ' m', I ds.length ρ' m' → D'.nx ρ' m')
    (hs : ∀ x, foldedSetIterable iter X.env x = pure x := by intro _; rfl) : AS X (.For tg iter body [] pos) ρ m D' := .mk fun σ H S => by
  refine WS.of (ps_for hp hx.calm piW pgW pssW hs) (WI.mono (X := X) (h σ H S) ?_)
  rintro J H1 ⟨ds, G, m1, hm1, l1, jok, I, i0, iG, turn, fin⟩
  refine ⟨fun i n σ2 H2 => n = ds.length - i ∧ i ≤ ds.length ∧ ∃ ρ' m', HM X.K m' H2 ∧ Later m1 H1 m' H2 ∧ RS X.K (dom m') H2 ρ' σ2 ∧ I i ρ' m', ⟨_, rfl, Nat.zero_le _, ρ, m1, hm1, Later.refl, S.rs.later l1, i0⟩, ?_⟩
  rintro i n σ2 H2 ⟨rfl, hi, ρ', m', hm', l', rs', q⟩
  obtain ⟨j1, j2⟩ := jok i m' H2 hm' l' (iG i ρ' m' hi q)
  by_cases hlt : i < ds.length
  · obtain ⟨go, y⟩ := j1 ds[i] (by simp [hlt])
    refine .inr ⟨go, fun σ3 H3 => ∃ ρ3 m3, HM X.K m3 H3 ∧ Later m1 H1 m3 H3 ∧ RS X.K (dom m3) H3 ρ3 σ3 ∧ I (i + 1) ρ3 m3, fun σ3 H3 h3 => ⟨ds.length - (i + 1), by omega, rfl, hlt, h3⟩, fun x H' hy => ?_⟩
    obtain ⟨hm2, l2, r2⟩ := y x H' hy
    refine WG.mono (X := X) (turn i ds[i] ρ' m' (by simp [hlt]) q x σ2 H' ⟨hm2, rs'.later l2⟩ r2) ?_
    rintro σ4 H4 ⟨ρ4, m4, hm4, l4, rs4, q4⟩
    refine (q4 σ4 H4 ⟨hm4, rs4⟩).mono ?_ ?_ ?_ ?_
    · rintro σ5 H5 ⟨ρ5, m5, hm5, l5, rs5, q5⟩
      exact ⟨ρ5, m5, hm5, l'.trans (l2.trans (l4.trans l5)), rs5, q5⟩
    · exact fun _ _ p => p.from (l1.trans (l'.trans (l2.trans l4)))
    · exact fun _ _ p => PostS.from (l1.trans (l'.trans (l2.trans l4))) p
    · rintro σ5 H5 ⟨ρ5, m5, hm5, l5, rs5, q5⟩
      exact ⟨ρ5, m5, hm5, l'.trans (l2.trans (l4.trans l5)), rs5, q5⟩
  · have e : i = ds.length := by omega
    subst e
    exact .inl ⟨j2 (Nat.le_refl _), ρ', m', hm', l1.trans l', rs', fin ρ' m' q⟩
/-- over data xs, the invariant by what has been taken -/
theorem forL {α : Type} {f : α → D} {xs : List α} {G : Mu → Prop} {ρ : Rho} {m : Mu} {body : List Stmt} {D' : AEnds} (I : List α → Rho → Mu → Prop) (h0 : I [] ρ m) (hG : ∀ pre ρ' m', I pre ρ' m' → G m')
    (hs : ∀ pre x post ρ' m', xs = pre ++ x :: post → I pre ρ' m' → AG X tg (f x) ρ' m' fun ρ2 m2 => ASs X body ρ2 m2 { D' with nx := I (pre ++ [x]), ct := I (pre ++ [x]), bk := D'.nx }) (hd : ∀ ρ' m', I xs ρ' m' → D'.nx ρ' m') :
    ∃ I : Nat → Rho → Mu → Prop, I 0 ρ m ∧ (∀ i ρ' m', i ≤ (xs.map f).length → I i ρ' m' → G m') ∧
      (∀ i d ρ' m', (xs.map f)[i]? = some d → I i ρ' m' → AG X tg d ρ' m' fun ρ2 m2 => ASs X body ρ2 m2 { D' with nx := I (i + 1), ct := I (i + 1), bk := D'.nx }) ∧ ∀ ρ' m', I (xs.map f).length ρ' m' → D'.nx ρ' m' := by
  refine ⟨fun i => I (xs.take i), by simpa using h0, fun i ρ' m' _ q => hG _ ρ' m' q, fun i d ρ' m' hd' q => ?_, fun ρ' m' q => hd ρ' m' (by simpa using q)⟩
  rw [List.getElem?_map] at hd'
  cases hx : xs[i]? with
  | none => rw [hx] at hd'; cases hd'
  | some x =>
    rw [hx] at hd'; cases hd'
    obtain ⟨hlt, ex⟩ := List.getElem?_eq_some_iff.mp hx
    have e1 : xs = xs.take i ++ x :: xs.drop (i + 1) := by rw [← ex, List.getElem_cons_drop_succ_eq_drop, List.take_append_drop]
    have e2 : xs.take (i + 1) = xs.take i ++ [x] := by rw [List.take_succ, hx]; rfl
    have z := hs (xs.take i) x (xs.drop (i + 1)) ρ' m' e1 q
    rw [← e2] at z
    exact z

/-! ### comprehensions -/
def ownB (scope : Scope) (x : Str) : Bool := match scope.names.lookup x with
  | some .local => true
  | some .cell => true
  | _ => false
/-- the names of a comprehension's block -/
abbrev fbBlk (fb : FB) (scope sc : Scope) : FB := ⟨fb.N, visB (relS scope sc), ownB scope, glbB (relS scope sc)⟩
theorem xf_blk {sc scope : Scope} {s : Shared} {H : Hp} {cl : List (Str × Addr)} {C : Addr} {fp : List Addr} (hx : XF X fb k) (hsc : X.env.scope = sc) : XF (X.blk s H scope (compEnvC scope cl C X.env) fp) (fbBlk fb scope sc) k where
  nN := hx.nN
  nd := hx.nd
  calm := hx.calm
  room := hx.room
  vis := fun x h => visB_ok (by subst hsc; exact h)
  sto := fun x h => by
    have h2 : ownB scope x = true := h
    have es : (X.blk s H scope (compEnvC scope cl C X.env) fp).env.scope.names = (relS scope X.env.scope).names := rfl
    unfold ownB at h2
    split at h2
    · rename_i q
      have z := lookup_relS_keep (sc := X.env.scope) (by decide) q
      exact ⟨.inl z, .inr z⟩
    · rename_i q
      have z := lookup_relS_keep (sc := X.env.scope) (by decide) q
      exact ⟨.inr z, .inl (by show (scope.names.lookup x == some .cell) = true; rw [q]; rfl)⟩
    · cases h2
  glb := fun x h => glbB_ok (by subst hsc; exact h)
/-- slots forgotten -/
def wipeR (ρ : Rho) : List Nat → Rho
  | [] => ρ
  | v :: vs => (wipeR ρ vs).set v none
theorem wipe_rs {K : PySem.W.Frag} {m : Mu} {H : Hp} {ρ : Rho} {σ : St} (h : RS K (dom m) H ρ σ) : ∀ vs : List Nat, RS K (dom m) H (wipeR ρ vs) (wipe σ vs)
  | [] => h
  | v :: vs => by
    have ih := wipe_rs h vs
    refine ⟨by simp [wipeR, wipe, ih.len], fun i d e => ?_⟩
    unfold wipeR at e
    unfold wipe
    by_cases hv : v = i
    · subst hv
      by_cases hl : v < (wipeR ρ vs).length
      · rw [List.getElem?_set_self hl] at e; cases e
      · rw [List.getElem?_eq_none (by simpa using hl)] at e; cases e
    · rw [List.getElem?_set_ne hv] at e ⊢
      exact ih.get i d e
theorem wipe_set {σ : St} {v : Option V} : ∀ {vs : List Nat} {i : Nat}, i ∈ vs → wipe (σ.set i v) vs = wipe σ vs
  | w :: vs, i, h => by
    unfold wipe
    by_cases hi : i ∈ vs
    · rw [wipe_set hi]
    · have e : i = w := (List.mem_cons.mp h).resolve_right hi
      subst e
      have : ∀ {us : List Nat}, i ∉ us → wipe (σ.set i v) us = (wipe σ us).set i v := by
        intro us
        induction us with
        | nil => intro _; rfl
        | cons u us ih =>
          intro hn
          unfold wipe
          rw [ih fun z => hn (List.mem_cons_of_mem _ z), List.set_comm _ _ (fun z => hn (by rw [z]; exact List.mem_cons_self))]
      rw [this hi, List.set_set]
theorem wipe_wipe {σ : St} : ∀ {vs us : List Nat}, (∀ v ∈ us, v ∈ vs) → wipe (wipe σ us) vs = wipe σ vs
  | vs, [], _ => rfl
  | vs, u :: us, h => by
    show wipe ((wipe σ us).set u none) vs = _
    rw [wipe_set (h u List.mem_cons_self), wipe_wipe fun v hv => h v (List.mem_cons_of_mem _ hv)]
/-- what agrees with m but for new objects -/
def Ext (m m' : Mu) : Prop := ∀ a o, m a = some o → m' a = some o
theorem Ext.refl : Ext m m := fun _ _ e => e
variable {elt : Expr} {ifs : List Expr} {scope sc : Scope}
/-- the target of a comprehension: how its slots are filled -/
structure CTg (X : Cx) (tg : Expr) (scope : Scope) (own : List (Str × Nat)) (g : TG) (gr : D → Rho → Mu → (Rho → Prop) → Prop) : Prop where
  pg : ∀ (s : Shared) (H : Hp) (C : Addr) (cl : List (Str × Addr)) (fp : List Addr), PG (X.blk s H scope (compEnvC scope cl C X.env) fp) tg g
  run : ∀ (d : D) (v : V) (ρ : Rho) (m : Mu) (σ : St) (H : Hp) (Q : Rho → Prop) (R : St → Hp → Prop), HM X.K m H → RS X.K (dom m) H ρ σ → Rep X.K (dom m) H d v → gr d ρ m Q → wipe σ (own.map (·.2)) = σ →
    (∀ ρ' σ', RS X.K (dom m) H ρ' σ' → wipe σ' (own.map (·.2)) = σ → Q ρ' → R σ' H) → g v σ H R
theorem ctg_name {x : Str} {i : Nat} {pos : Pos} (hx : XF X fb k) (hN : Nth fb.N i x) (ho : ownB scope x = true) : CTg X (.Name x pos) scope [(x, i)] (gName i) fun d ρ m Q => ∃ ρ', SetR i d ρ ρ' ∧ Q ρ' where
  pg := fun s H C cl fp => by
    have z := (xf_blk (scope := scope) (s := s) (H := H) (cl := cl) (C := C) (fp := fp) hx rfl).sto x ho
    exact pg_name hx.nd (by show X.N[i]? = _; rw [hx.nN]; exact hN.at) z.1 z.2
  run := fun d v ρ m σ H Q R hm rs r ⟨ρ', e, q⟩ hw h => by
    rw [e.eq] at q
    refine h _ _ (rs.set i r) ?_ q
    show wipe (σ.set i (some v)) [i] = σ
    rw [wipe_set List.mem_cons_self]
    exact hw
/-- a, b, ..: the slots is of the names xs -/
inductive SetRs : List Nat → List D → Rho → Rho → Prop
  | nil {ρ : Rho} : SetRs [] [] ρ ρ
  | cons {i : Nat} {is : List Nat} {d : D} {ds : List D} {ρ ρ1 ρ2 : Rho} (h : SetR i d ρ ρ1) (t : SetRs is ds ρ1 ρ2) : SetRs (i :: is) (d :: ds) ρ ρ2
def gNames : List Nat → TGs
  | [] => gNil
  | i :: is => gCons (gName i) (gNames is)
theorem gNames_run {K : PySem.W.Frag} {m : Mu} {H : Hp} {R : St → Hp → Prop} {own : List Nat} {σ0 : St} : ∀ {is : List Nat} {ds : List D} {vs : List V} {ρ ρ' : Rho} {σ : St}, SetRs is ds ρ ρ' → Reps K (dom m) H ds vs → RS K (dom m) H ρ σ → (∀ i ∈ is, i ∈ own) → wipe σ own = σ0 →
    (∀ σ', RS K (dom m) H ρ' σ' → wipe σ' own = σ0 → R σ' H) → gNames is vs σ H R
  | _, _, _, _, _, _, .nil, .nil, rs, _, hw, h => ⟨rfl, h _ rs hw⟩
  | _, _, _, _, _, σ, .cons (i := i) e t, .cons (v := v) r rr, rs, ho, hw, h => by
    refine ⟨_, _, rfl, ?_⟩
    have rs2 := rs.set i r
    rw [← e.eq] at rs2
    refine gNames_run (σ := σ.set i (some v)) t rr rs2 (fun j hj => ho j (List.mem_cons_of_mem _ hj)) ?_ h
    rw [wipe_set (ho i List.mem_cons_self)]
    exact hw
theorem ctg_tup {ts : List Expr} {kk : Nat} {pos : Pos} {is : List Nat} {own : List (Str × Nat)} (hx : XF X fb k) (hpg : ∀ (s : Shared) (H : Hp) (C : Addr) (cl : List (Str × Addr)) (fp : List Addr), PGs (X.blk s H scope (compEnvC scope cl C X.env) fp) ts (gNames is)) (hi : ∀ i ∈ is, i ∈ own.map (·.2))
    (hn : ∀ env : Env, (assignEach ts env).length = is.length := by intro _; rfl) (hst : ∀ env : Env, (assignEach ts env).findIdx? (·.1) = none := by intro _; rfl) : CTg X (.Tuple ts kk pos) scope own (gTup X.K is.length (gNames is)) fun d ρ m Q => ∃ ds ρ', d = .tup ds ∧ SetRs is ds ρ ρ' ∧ Q ρ' where
  pg := fun s H C cl fp => pg_tup hx.calm (hpg s H C cl fp) (hn _) (hst _)
  run := fun d v ρ m σ H Q R hm rs r ⟨ds, ρ', e, st, q⟩ hw h => by
    subst e
    obtain ⟨a, vs, ev, sq, rr⟩ := IsT.im.at hm r
    refine ⟨a, vs, ev, sq, ?_, gNames_run st rr rs hi hw fun σ' a b => h ρ' σ' a b q⟩
    rw [← rr.length]
    clear rr hw h q r hpg hi hn hst rs
    rename_i x_
    clear x_
    induction st with
    | nil => rfl
    | cons _ _ ih => simp [ih]
/-- an expression, a clause's test in the block of a comprehension -/
def ABE (X : Cx) (scope : Scope) (e : Expr) (ρ : Rho) (m : Mu) (Q : QD) : Prop := ∀ (s : Shared) (H : Hp) (C : Addr) (cl : List (Str × Addr)) (fp : List Addr), AE (X.blk s H scope (compEnvC scope cl C X.env) fp) e ρ m Q
def ABT (X : Cx) (scope : Scope) (ifs : List Expr) (ρ : Rho) (m : Mu) (Q : Bool → Mu → Prop) : Prop := match ifs with
  | [] => Q true m
  | [c] => ∀ (s : Shared) (H : Hp) (C : Addr) (cl : List (Str × Addr)) (fp : List Addr), AT (X.blk s H scope (compEnvC scope cl C X.env) fp) c ρ m Q
  | _ => False
/-- their weakest readings -/
def WBE (X : Cx) (scope : Scope) (e : Expr) : TE := fun σ H Q => ∀ (s : Shared) (H0 : Hp) (C : Addr) (cl : List (Str × Addr)) (fp : List Addr), WE (X.blk s H0 scope (compEnvC scope cl C X.env) fp) e σ H Q
def WBT (X : Cx) (scope : Scope) (ifs : List Expr) : TT := match ifs with
  | [] => tYes
  | [c] => fun σ H Q => ∀ (s : Shared) (H0 : Hp) (C : Addr) (cl : List (Str × Addr)) (fp : List Addr), WT (X.blk s H0 scope (compEnvC scope cl C X.env) fp) c σ H Q
  | _ => fun _ _ _ => False
theorem peB {s : Shared} {H : Hp} {C : Addr} {cl : List (Str × Addr)} {fp : List Addr} : PE (X.blk s H scope (compEnvC scope cl C X.env) fp) e (WBE X scope e) := ⟨fun pins t _ _ _ I h => h s H C cl fp pins t I⟩
theorem ptB {s : Shared} {H : Hp} {C : Addr} {cl : List (Str × Addr)} {fp : List Addr} : PTs (X.blk s H scope (compEnvC scope cl C X.env) fp) ifs (WBT X scope ifs) := by
  match ifs with
  | [] => exact pts_nil
  | [c] => exact pts_one ⟨fun pins t _ _ _ I h => h s H C cl fp pins t I⟩
  | _ :: _ :: _ => exact ⟨fun pins t _ _ _ I h => h.elim⟩
theorem WBE.mono {σ : St} {H : Hp} {Q Q' : VK} (h : WBE X scope e σ H Q) (w : ∀ v H', Q v H' → Q' v H') : WBE X scope e σ H Q' := fun s H0 C cl fp => (h s H0 C cl fp).mono w
theorem abe_w {Q : QD} {σ : St} {H : Hp} (h : ABE X scope e ρ m Q) (S : SR X.K ρ m σ H) : WBE X scope e σ H (Post X.K m H Q) := fun s H0 C cl fp => h s H0 C cl fp σ H S
theorem abt_w {Q : Bool → Mu → Prop} {σ : St} {H : Hp} {R : Bool → Hp → Prop} (h : ABT X scope ifs ρ m Q) (S : SR X.K ρ m σ H) (w : ∀ b H', PostB X.K m H Q b H' → R b H') : WBT X scope ifs σ H R := by
  match ifs with
  | [] => exact w true H (PostB.now S.hm h)
  | [c] => exact fun s H0 C cl fp => (h s H0 C cl fp σ H S).mono w
  | _ :: _ :: _ => exact h.elim
/-- the turn of a comprehension; D: where the new list stands -/
theorem lc_at {own : List (Str × Nat)} {g : TG} {gr : D → Rho → Mu → (Rho → Prop) → Prop} (T : CTg X tg scope own g gr) {Q : QD} {Q' : VK}
    (h : AI X tg iter ρ m fun ds G m1 => ∃ I : Nat → List D → Mu → Prop, I 0 [] m1 ∧ (∀ i out mi a o, I i out mi → mi a = none → G (updM mi a o)) ∧
      (∀ i d out mi a, ds[i]? = some d → I i out mi → mi a = none → gr d (wipeR ρ (own.map (·.2))) (updM mi a (.lst out)) fun ρ2 => ABT X scope ifs ρ2 (updM mi a (.lst out)) fun b m3 =>
        (b = true → ABE X scope elt ρ2 m3 fun r m4 => out.length < sizeLine ∧ ∃ mj, m4 = updM mj a (.lst out) ∧ mj a = none ∧ I (i + 1) (out ++ [r]) mj) ∧ (b = false → ∃ mj, m3 = updM mj a (.lst out) ∧ mj a = none ∧ I (i + 1) out mj)) ∧
      ∀ out mj a, mj a = none → I ds.length out mj → Q (.ref a) (updM mj a (.lst out))) {σ : St} {H : Hp} (S : SR X.K ρ m σ H) (w : ∀ v H', Post X.K m H Q v H' → Q' v H') :
    tLc (WI X tg iter) g (WBT X scope ifs) (WBE X scope elt) (own.map (·.2)) σ H Q' := by
  refine WI.mono (X := X) (h σ H S) ?_
  rintro J H1 ⟨ds, G, m1, hm1, l1, jok, I, i0, iG, turn, fin⟩ a na
  have na1 : m1 a = none := hm1.fresh na
  have n0 : HM X.K (updM m1 a (.lst [])) (upd H1 a (.lst [])) := hm1.put (u := .lst []) (.inl na) ⟨[], upd_same, .nil⟩
  have ln : Later m1 H1 (updM m1 a (.lst [])) (upd H1 a (.lst [])) := Later.new na
  refine ⟨fun i n H2 => n = ds.length - i ∧ i ≤ ds.length ∧ ∃ mi out, HM X.K (updM mi a (.lst out)) H2 ∧ Later m1 H1 (updM mi a (.lst out)) H2 ∧ mi a = none ∧ I i out mi, ⟨_, rfl, Nat.zero_le _, m1, [], n0, ln, na1, i0⟩, ?_⟩
  rintro i n H2 ⟨rfl, hi, mi, out, hm', l', nai, q⟩
  obtain ⟨j1, j2⟩ := jok i (updM mi a (.lst out)) H2 hm' l' (iG i out mi a _ q nai)
  by_cases hlt : i < ds.length
  · obtain ⟨go, y⟩ := j1 ds[i] (by simp [hlt])
    refine .inr ⟨go, fun H3 => ∃ mj out', HM X.K (updM mj a (.lst out')) H3 ∧ Later m1 H1 (updM mj a (.lst out')) H3 ∧ mj a = none ∧ I (i + 1) out' mj, fun H3 h3 => ⟨ds.length - (i + 1), by omega, rfl, hlt, h3⟩, fun x H' hy => ?_⟩
    obtain ⟨hm2, l2, r2⟩ := y x H' hy
    refine T.run ds[i] x _ (updM mi a (.lst out)) _ H' _ _ hm2 (wipe_rs (S.rs.later (l1.trans (l'.trans l2))) _) r2 (turn i ds[i] out mi a (by simp [hlt]) q nai) (wipe_wipe fun _ h => h) fun ρ2 σ2 rs2 ew q2 => ⟨ew, ?_⟩
    refine abt_w q2 ⟨hm2, rs2⟩ ?_
    rintro b H3 ⟨m3, hm3, l3, q3, q4⟩
    cases b with
    | false =>
      rw [if_neg Bool.false_ne_true]
      obtain ⟨mj, e, nj, qj⟩ := q4 rfl
      subst e
      exact ⟨mj, out, hm3, l'.trans (l2.trans l3), nj, qj⟩
    | true =>
      rw [if_pos rfl]
      refine WBE.mono (abe_w (q3 rfl) ⟨hm3, rs2.later l3⟩) ?_
      rintro v H4 ⟨r, m4, hm4, l4, rr, z, mj, e, nj, qj⟩
      subst e
      obtain ⟨vs, hv, rv⟩ := hm4 a (.lst out) updM_same
      have dm : dom (updM mj a (.lst out)) a := by unfold dom; rw [updM_same]; simp
      have lw : Later (updM mj a (.lst out)) H4 (updM (updM mj a (.lst out)) a (.lst (out ++ [r]))) (upd H4 a (.lst (vs ++ [v]))) := Later.write dm
      have hw := hm4.put (u := .lst (out ++ [r])) (o := .lst (vs ++ [v])) (.inr dm) ⟨_, upd_same, (lw.reps rv).append (.cons (lw.rep rr) .nil)⟩
      rw [updM_updM] at lw hw
      exact ⟨vs, hv, by rw [← rv.length]; exact z, mj, out ++ [r], hw, l'.trans (l2.trans (l3.trans (l4.trans lw))), nj, qj⟩
  · have e : i = ds.length := by omega
    subst e
    refine .inl ⟨j2 (Nat.le_refl _), w _ _ ⟨.ref a, updM mi a (.lst out), hm', l1.trans l', .ref, fin out mi a nai q⟩⟩
/-- [elt for tg in iter if ..], a changing list -/
theorem AE.lcM {own : List (Str × Nat)} {g : TG} {gr : D → Rho → Mu → (Rho → Prop) → Prop} (hx : XF X fb k) (hok : BlkOk X.N X.env.scope scope own) (T : CTg X tg scope own g gr) {Q : QD}
    (h : AI X tg iter ρ m fun ds G m1 => ∃ I : Nat → List D → Mu → Prop, I 0 [] m1 ∧ (∀ i out mi a o, I i out mi → mi a = none → G (updM mi a o)) ∧
      (∀ i d out mi a, ds[i]? = some d → I i out mi → mi a = none → gr d (wipeR ρ (own.map (·.2))) (updM mi a (.lst out)) fun ρ2 => ABT X scope ifs ρ2 (updM mi a (.lst out)) fun b m3 =>
        (b = true → ABE X scope elt ρ2 m3 fun r m4 => out.length < sizeLine ∧ ∃ mj, m4 = updM mj a (.lst out) ∧ mj a = none ∧ I (i + 1) (out ++ [r]) mj) ∧ (b = false → ∃ mj, m3 = updM mj a (.lst out) ∧ mj a = none ∧ I (i + 1) out mj)) ∧
      ∀ out mj a, mj a = none → I ds.length out mj → Q (.ref a) (updM mj a (.lst out))) (hs : ∀ x, foldedSetIterable iter X.env x = pure x := by intro _; rfl) : AE X (.ListComp elt [⟨tg, iter, ifs, 0⟩] scope pos) ρ m Q := .mk fun σ H S =>
  WE.of (pe_lc hx.calm hx.nd piW hok T.pg (fun _ _ _ _ _ => ptB) (fun _ _ _ _ _ => peB) hs) (lc_at T h S fun _ _ p => p)
/-- y = [..] -/
theorem AS.setLcM {own : List (Str × Nat)} {g : TG} {gr : D → Rho → Mu → (Rho → Prop) → Prop} {D' : AEnds} {i : Nat} {y : Str} {py spos : Pos} (hx : XF X fb k) (hok : BlkOk X.N X.env.scope scope own) (T : CTg X tg scope own g gr) (hy : Nth fb.N i y) (hl : X.env.scope.names.lookup y = some .local)
    (hsw : swapsWith (.ListComp elt [⟨tg, iter, ifs, 0⟩] scope pos) (some (.Name y py)) spos.line X.env = pure true)
    (h : AI X tg iter ρ m fun ds G m1 => ∃ I : Nat → List D → Mu → Prop, I 0 [] m1 ∧ (∀ i out mi a o, I i out mi → mi a = none → G (updM mi a o)) ∧
      (∀ i d out mi a, ds[i]? = some d → I i out mi → mi a = none → gr d (wipeR ρ (own.map (·.2))) (updM mi a (.lst out)) fun ρ2 => ABT X scope ifs ρ2 (updM mi a (.lst out)) fun b m3 =>
        (b = true → ABE X scope elt ρ2 m3 fun r m4 => out.length < sizeLine ∧ ∃ mj, m4 = updM mj a (.lst out) ∧ mj a = none ∧ I (i + 1) (out ++ [r]) mj) ∧ (b = false → ∃ mj, m3 = updM mj a (.lst out) ∧ mj a = none ∧ I (i + 1) out mj)) ∧
      ∀ out mj a, mj a = none → I ds.length out mj → ∃ ρ', SetR i (.ref a) ρ ρ' ∧ D'.nx ρ' (updM mj a (.lst out))) (hs : ∀ x, foldedSetIterable iter X.env x = pure x := by intro _; rfl) : AS X (.Assign [.Name y py] (.ListComp elt [⟨tg, iter, ifs, 0⟩] scope pos) spos) ρ m D' := .mk fun σ H S =>
  WS.of (ps_setLc hx.calm hx.nd (by rw [hx.nN]; exact hy.at) hl hsw piW hok T.pg (fun _ _ _ _ _ => ptB) (fun _ _ _ _ _ => peB) hs)
    (lc_at (Q := fun d m1 => ∃ ρ', SetR i d ρ ρ' ∧ D'.nx ρ' m1) T h S fun v H' ⟨d, m1, hm1, l1, r1, ρ', e, q⟩ => by rw [e.eq] at q; exact ⟨_, m1, hm1, l1, (S.rs.later l1).set i r1, q⟩)
theorem IsL.ext {m m' : Mu} {d : D} {ds : List D} (h : IsL m d ds) (x : Ext m m') : IsL m' d ds := by
  cases h with
  | im => exact .im
  | mu e => exact .mu (x _ _ e)
theorem ext_upd {a : Addr} {o : MO} (h : m a = none) : Ext m (updM m a o) := fun b u e => by
  rw [updM_ne (neM e h)]; exact e
/-- without effects, over data xs: sel gives what is kept of an item -/
theorem lcPure {α : Type} {f : α → D} {xs : List α} {G : Mu → Prop} {own : List (Str × Nat)} {gr : D → Rho → Mu → (Rho → Prop) → Prop} {R : List D → Mu → Addr → Prop} (sel : α → Option D) (hz : xs.length < sizeLine) (hG : ∀ m', Ext m m' → G m')
    (ht : ∀ x, x ∈ xs → ∀ m', Ext m m' → gr (f x) (wipeR ρ (own.map (·.2))) m' fun ρ2 => ABT X scope ifs ρ2 m' fun b m3 => m3 = m' ∧ (b = true → ABE X scope elt ρ2 m' fun r m4 => m4 = m' ∧ sel x = some r) ∧ (b = false → sel x = none))
    (hgr : ∀ d ρ m' Q Q', (∀ ρ, Q ρ → Q' ρ) → gr d ρ m' Q → gr d ρ m' Q')
    (hd : ∀ a, m a = none → R (xs.filterMap sel) m a) :
    ∃ I : Nat → List D → Mu → Prop, I 0 [] m ∧ (∀ i out mi a o, I i out mi → mi a = none → G (updM mi a o)) ∧
      (∀ i d out mi a, (xs.map f)[i]? = some d → I i out mi → mi a = none → gr d (wipeR ρ (own.map (·.2))) (updM mi a (.lst out)) fun ρ2 => ABT X scope ifs ρ2 (updM mi a (.lst out)) fun b m3 =>
        (b = true → ABE X scope elt ρ2 m3 fun r m4 => out.length < sizeLine ∧ ∃ mj, m4 = updM mj a (.lst out) ∧ mj a = none ∧ I (i + 1) (out ++ [r]) mj) ∧ (b = false → ∃ mj, m3 = updM mj a (.lst out) ∧ mj a = none ∧ I (i + 1) out mj)) ∧
      ∀ out mj a, mj a = none → I (xs.map f).length out mj → R out mj a := by
  refine ⟨fun i out mi => mi = m ∧ out = (xs.take i).filterMap sel, ⟨rfl, by simp⟩, fun i out mi a o ⟨e, _⟩ n => hG _ (by subst e; exact ext_upd n), fun i d out mi a hd' ⟨e, eo⟩ n => ?_, fun out mj a n ⟨e, eo⟩ => ?_⟩
  · subst e
    rw [List.getElem?_map] at hd'
    cases hx : xs[i]? with
    | none => rw [hx] at hd'; cases hd'
    | some x =>
      rw [hx] at hd'; cases hd'
      have e2 : (xs.take (i + 1)).filterMap sel = out ++ (sel x).toList := by
        rw [List.take_succ, hx, eo, List.filterMap_append]
        cases hs : sel x <;> simp [hs]
      have lo : out.length < sizeLine := by
        rw [eo]
        refine Nat.lt_of_le_of_lt (List.length_filterMap_le _ _) (Nat.lt_of_le_of_lt ?_ hz)
        rw [List.length_take]; exact Nat.min_le_right _ _
      refine hgr _ _ _ _ _ (fun ρ2 q => ?_) (ht x (List.mem_of_getElem? hx) _ (ext_upd n))
      have fin : ∀ b m3, (m3 = updM mi a (.lst out) ∧ (b = true → ABE X scope elt ρ2 (updM mi a (.lst out)) fun r m4 => m4 = updM mi a (.lst out) ∧ sel x = some r) ∧ (b = false → sel x = none)) →
          (b = true → ABE X scope elt ρ2 m3 fun r m4 => out.length < sizeLine ∧ ∃ mj, m4 = updM mj a (.lst out) ∧ mj a = none ∧ mj = mi ∧ out ++ [r] = (xs.take (i + 1)).filterMap sel) ∧ (b = false → ∃ mj, m3 = updM mj a (.lst out) ∧ mj a = none ∧ mj = mi ∧ out = (xs.take (i + 1)).filterMap sel) := by
        rintro b m3 ⟨e3, h1, h2⟩
        subst e3
        refine ⟨fun hb s H C cl fp => (h1 hb s H C cl fp).imp fun r m4 ⟨e4, es⟩ => ⟨lo, mi, e4, n, rfl, by rw [e2, es]; rfl⟩, fun hb => ⟨mi, rfl, n, rfl, by rw [e2, h2 hb]; simp⟩⟩
      match ifs, q with
      | [], q => exact fin _ _ q
      | [c], q => exact fun s H C cl fp => (q s H C cl fp).imp fin
      | _ :: _ :: _, q => exact q.elim
  · subst e
    rw [List.length_map, List.take_length] at eo
    subst eo
    exact hd a n
end
end Ab
/-! A4: lists, tuples, dicts, built-ins. -/
namespace Ab
open L2 PySem PySem.Spec PyProof.Rows

section
variable {X : Cx} {fb : FB} {k : Nat} {ρ : Rho} {m : Mu} {e o a b : Expr} {es : List Expr} {x nm : Str} {p pos apos cpos : Pos} {id T : String}
/-! ### built-in functions by values -/
abbrev RDs := List D → Mu → QD → Prop
def WC (X : Cx) (f : Value) : List V → Hp → VK → Prop := fun vs H Q => ∀ pins s σ us, Inv X pins σ H s → Vals vs us → wpAny (model X.prog X.w) X.A (call f us) (EP X pins σ Q) X.xe s
theorem wcW {f : Value} : CallR X f (WC X f) := fun pins s σ H xs us Q I r h => h pins s σ us I r
theorem WC.mono {f : Value} {vs : List V} {H : Hp} {Q Q' : VK} (h : WC X f vs H Q) (w : ∀ v H', Q v H' → Q' v H') : WC X f vs H Q' := fun pins s σ us I r =>
  thn (h pins s σ us I r) fun _ _ ⟨v, H', I', r, q⟩ => ⟨v, H', I', r, w _ _ q⟩
def CallA (X : Cx) (f : Value) (rd : RDs) : Prop := ∀ ds m vs H (Q : QD), HM X.K m H → Reps X.K (dom m) H ds vs → rd ds m Q → WC X f vs H (Post X.K m H Q)
theorem callA {f : Value} {r : List V → Hp → VK → Prop} {rd : RDs} (h : CallR X f r) (g : ∀ ds m vs H (Q : QD), HM X.K m H → Reps X.K (dom m) H ds vs → rd ds m Q → r vs H (Post X.K m H Q)) : CallA X f rd :=
  fun ds m vs H Q hm rs q pins s σ us I rv => h pins s σ H vs us _ I rv (g ds m vs H Q hm rs q)
theorem CallA.or {f : Value} {rd rd' : RDs} (h : CallA X f rd) (h' : CallA X f rd') : CallA X f fun ds m Q => rd ds m Q ∨ rd' ds m Q := fun ds m vs H Q hm rs q => q.elim (h ds m vs H Q hm rs) (h' ds m vs H Q hm rs)
theorem AE.callB {Q : QD} {rd : RDs} (hc : CallA X (.builtin id) rd) (hx : XF X fb k) (hg : fb.glb x = true) (hm : X.mg x = none) (hv : bootBuiltins x = some (.builtin id)) (h : AA X (e :: es) ρ m fun ds m1 => rd ds m1 Q)
    (hn : x ≠ "__name__" := by decide +kernel) (hdb : (x == ("__debug__" : Str)) = false := by decide +kernel) (he : starEach (e :: es) X.env = (false, eval e X.env) :: starEach es X.env := by rfl) (hpl : (backTo pos (starEach es X.env)).any (·.1) = false := by rfl) : AE X (.Call (.Name x p) (e :: es) [] pos) ρ m Q := .mk fun σ H S =>
  WE.of (pe_callB wcW (hx.glb x hg) hm hv paW hn hdb he hpl) ((h σ H S).mono fun vs H1 ⟨ds, m1, hm1, l1, r1, q⟩ => (hc ds m1 vs H1 Q hm1 r1 q).mono fun _ _ p => p.from l1)
theorem AE.callT {Q : QD} {rd : RDs} (hc : CallA X (.type T) rd) (hx : XF X fb k) (hg : fb.glb x = true) (hm : X.mg x = none) (hv : bootBuiltins x = some (.type T)) (h : AA X (e :: es) ρ m fun ds m1 => rd ds m1 Q)
    (hn : x ≠ "__name__" := by decide +kernel) (hdb : (x == ("__debug__" : Str)) = false := by decide +kernel) (he : starEach (e :: es) X.env = (false, eval e X.env) :: starEach es X.env := by rfl) (hpl : (backTo pos (starEach es X.env)).any (·.1) = false := by rfl) : AE X (.Call (.Name x p) (e :: es) [] pos) ρ m Q := .mk fun σ H S =>
  WE.of (pe_callTy wcW (hx.glb x hg) hm hv paW hn hdb he hpl) ((h σ H S).mono fun vs H1 ⟨ds, m1, hm1, l1, r1, q⟩ => (hc ds m1 vs H1 Q hm1 r1 q).mono fun _ _ p => p.from l1)
/-! ### built-in methods -/
def WM (X : Cx) (id : String) : V → List V → Hp → VK → Prop := fun x vs H Q => ∀ pins s σ v us, Inv X pins σ H s → RelV x v → Vals vs us → wpAny (model X.prog X.w) X.A (call (.builtin id) (v :: us)) (EP X pins σ Q) X.xe s
theorem wmW : MtR X id (WM X id) := fun pins s σ H x xs v us Q I rx r h => h pins s σ v us I rx r
theorem WM.mono {x : V} {vs : List V} {H : Hp} {Q Q' : VK} (h : WM X id x vs H Q) (w : ∀ v H', Q v H' → Q' v H') : WM X id x vs H Q' := fun pins s σ v us I rx r =>
  thn (h pins s σ v us I rx r) fun _ _ ⟨v, H', I', r, q⟩ => ⟨v, H', I', r, w _ _ q⟩
abbrev RDm := D → List D → Mu → QD → Prop
def MethA (X : Cx) (id : String) (rd : RDm) : Prop := ∀ d ds m x vs H (Q : QD), HM X.K m H → Rep X.K (dom m) H d x → Reps X.K (dom m) H ds vs → rd d ds m Q → WM X id x vs H (Post X.K m H Q)
theorem methA {r : V → List V → Hp → VK → Prop} {rd : RDm} (h : MtR X id r) (g : ∀ d ds m x vs H (Q : QD), HM X.K m H → Rep X.K (dom m) H d x → Reps X.K (dom m) H ds vs → rd d ds m Q → r x vs H (Post X.K m H Q)) : MethA X id rd :=
  fun d ds m x vs H Q hm rx rs q pins s σ v us I rv r => h pins s σ H x vs v us _ I rv r (g d ds m x vs H Q hm rx rs q)
/-- of what built-in type a datum is -/
inductive IsTy (m : Mu) : String → D → Prop
  | str {x : Str} : IsTy m "str" (.str x)
  | list {d : D} {ds : List D} (h : IsL m d ds) : IsTy m "list" d
  | dict {d : D} {ks : List (Key × D)} (h : IsD m d ks) : IsTy m "dict" d
theorem IsTy.at {K : PySem.W.Frag} {H : Hp} {d : D} {v : V} (h : IsTy m T d) (hm : HM K m H) (r : Rep K (dom m) H d v) : tyV K T v H := by
  cases h with
  | str => cases r; rfl
  | list h => obtain ⟨a, vs, e, q, _⟩ := h.at hm r; subst e; exact .inl ⟨rfl, vs, q⟩
  | dict h => obtain ⟨a, vs, e, q, _⟩ := h.at hm r; subst e; exact .inr (.inr (.inl ⟨rfl, .inl ⟨vs, q⟩⟩))
theorem AE.bm {Q : QD} {rd : RDm} (pa : PlainAttrs T) (slot : Slot T nm id) (hty : typeOf (.builtin id) = pure (.type "method_descriptor")) (hc : MethA X id rd) (h : AE X o ρ m fun d m1 => IsTy m1 T d ∧ AA X (e :: es) ρ m1 fun ds m2 => rd d ds m2 Q)
    (hbase : attributeBase o nm X.env (eval o X.env) = eval o X.env := by rfl)
    (hfew : ((backTo cpos (starEach (e :: es) X.env)).all (fun x => !x.1) && (backToKw cpos (keywordEach [] X.env)).all (fun x => x.1.isSome) && decide ((e :: es).length + ([] : List Keyword).length + (if ([] : List Keyword).isEmpty then 0 else 1) < 30)) = true := by rfl)
    (hline : (apos.endLine == cpos.line) = true := by rfl) (hs : starEach (e :: es) X.env = (false, eval e X.env) :: starEach es X.env := by rfl) (hplain : (backTo cpos (starEach es X.env)).any (·.1) = false := by rfl) : AE X (.Call (.Attribute o nm apos) (e :: es) [] cpos) ρ m Q := .mk fun σ H S =>
  WE.of (pe_bm pa slot hty wmW peW paW hbase hfew hline hs hplain) ((h σ H S).mono fun x H1 ⟨d, m1, hm1, l1, r1, ty, q⟩ => ⟨ty.at hm1 r1,
    WA.mono (X := X) (q σ H1 (S.later hm1 l1)) fun vs H2 ⟨ds, m2, hm2, l2, r2, q2⟩ => (hc d ds m2 x vs H2 Q hm2 (l2.rep r1) r2 q2).mono fun _ _ p => p.from (l1.trans l2)⟩)
theorem AE.bm0 {Q : QD} {rd : RDm} (pa : PlainAttrs T) (slot : Slot T nm id) (hty : typeOf (.builtin id) = pure (.type "method_descriptor")) (hc : MethA X id rd) (h : AE X o ρ m fun d m1 => IsTy m1 T d ∧ rd d [] m1 Q)
    (hbase : attributeBase o nm X.env (eval o X.env) = eval o X.env := by rfl) (hline : (apos.endLine == cpos.line) = true := by rfl) : AE X (.Call (.Attribute o nm apos) [] [] cpos) ρ m Q := .mk fun σ H S =>
  WE.of (pe_bm0 pa slot hty wmW peW hbase hline) ((h σ H S).mono fun x H1 ⟨d, m1, hm1, l1, r1, ty, q⟩ => ⟨ty.at hm1 r1, (hc d [] m1 x [] H1 Q hm1 r1 .nil q).mono fun _ _ p => p.from l1⟩)

/-! ### subscripts -/
def WX2 (X : Cx) : R2 := fun x y H Q => ∀ (value slice : Expr) pins s σ v u, Inv X pins σ H s → RelV x v → RelV y u → subscripted slice false v u = operate [v, u] (getItem v u) → wpAny (model X.prog X.w) X.A (subscriptTail value slice v u) (EP X pins σ Q) X.xe s
theorem wixW : IxR X (WX2 X) := fun value slice pins s σ H x y v u Q I rx ry h hs => h value slice pins s σ v u I rx ry hs
theorem WX2.mono : Mono2 (WX2 X) := fun x y H Q Q' w h value slice pins s σ v u I rx ry hs => thn (h value slice pins s σ v u I rx ry hs) fun _ _ ⟨v, H', I', r, q⟩ => ⟨v, H', I', r, w _ _ q⟩
def IxA (X : Cx) (rd : RD2) : Prop := ∀ da db x y m H (Q : QD), HM X.K m H → Rep X.K (dom m) H da x → Rep X.K (dom m) H db y → rd da db m Q → WX2 X x y H (Post X.K m H Q)
theorem ixA {r : R2} {rd : RD2} (h : IxR X r) (g : ∀ da db x y m H (Q : QD), HM X.K m H → Rep X.K (dom m) H da x → Rep X.K (dom m) H db y → rd da db m Q → r x y H (Post X.K m H Q)) : IxA X rd :=
  fun da db x y m H Q hm ra rb q value slice pins s σ v u I rx ry hs => h value slice pins s σ H x y v u _ I rx ry (g da db x y m H Q hm ra rb q) hs
theorem AE.ix {Q : QD} {rd : RD2} (hc : IxA X rd) (h : AE X a ρ m fun da m1 => AE X b ρ m1 fun db m2 => rd da db m2 Q) (hs : PlainIx b := by intro _ _; rfl) : AE X (.Subscript a b pos) ρ m Q := .mk fun σ H S =>
  WE.of (pe_ix wixW peW peW hs) (bin2 hc h S WX2.mono)
theorem atI_rep {K : PySem.W.Frag} {M : Addr → Prop} {H : Hp} {ds : List D} {vs : List V} {i : Int} {d : D} (r : Reps K M H ds vs) (h : atI ds i = some d) : ∃ v, atI vs i = some v ∧ Rep K M H d v := by
  unfold atI at h ⊢
  rw [← r.length]
  cases q : ixN ds.length i with
  | none => rw [q] at h; cases h
  | some j => rw [q] at h; exact r.get h
theorem ixa_list : IxA X fun da db m Q => ∃ ds i d, IsL m da ds ∧ db = .int i ∧ atI ds i = some d ∧ Q d m := ixA ix_list fun da db x y m H Q hm ra rb ⟨ds, i, d, hl, e, ha, q⟩ => by
  obtain ⟨c, vs, ev, sq, rs⟩ := hl.at hm ra
  subst e
  cases rb
  obtain ⟨v, hv, rv⟩ := atI_rep rs ha
  exact ⟨c, vs, i, v, ev, rfl, sq, hv, .now hm rv q⟩
theorem ixa_tup : IxA X fun da db m Q => ∃ ds i d, da = .tup ds ∧ db = .int i ∧ atI ds i = some d ∧ Q d m := ixA ix_tup fun da db x y m H Q hm ra rb ⟨ds, i, d, hl, e, ha, q⟩ => by
  subst hl
  obtain ⟨c, vs, ev, sq, rs⟩ := IsT.im.at hm ra
  subst e
  cases rb
  obtain ⟨v, hv, rv⟩ := atI_rep rs ha
  exact ⟨c, vs, i, v, ev, rfl, sq, hv, .now hm rv q⟩
/-- o[i] = e -/
theorem AG.setL {Q : Rho → Mu → Prop} {d : D} (h : AE X a ρ m fun da m1 => AE X b ρ m1 fun db m2 => ∃ c ds i j, da = .ref c ∧ m2 c = some (.lst ds) ∧ db = .int i ∧ ixN ds.length i = some j ∧ Q ρ (updM m2 c (.lst (ds.set j d))))
    (ha : ∀ v, assign (.Subscript a b pos) X.env v = (do let ov ← holding [v] (eval a X.env); let iv ← holding [v, ov] (eval b X.env); standAt pos; holding [v, ov, iv] (setItem ov iv v); release [v, ov, iv] []) := by intro _; rfl) : AG X (.Subscript a b pos) d ρ m Q := .mk fun v σ H S r pins s u I rv => by
  refine (pg_sub peW peW set_list ha).run pins s σ H v u _ I rv ?_
  refine (h σ H S).mono fun x H1 ⟨da, m1, hm1, l1, r1, q1⟩ => ?_
  refine (q1 σ H1 (S.later hm1 l1)).mono fun y H2 ⟨db, m2, hm2, l2, r2, c, ds, i, j, e1, hc, e2, hj, q⟩ => ?_
  subst e1 e2
  have r1' := l2.rep r1
  cases r1'
  cases r2
  obtain ⟨vs, z, rs⟩ := hm2 _ _ hc
  have dm : dom m2 c := by unfold dom; rw [hc]; simp
  have lw : Later m2 H2 (updM m2 c (.lst (ds.set j d))) (upd H2 c (.lst (vs.set j v))) := Later.write dm
  refine ⟨c, vs, i, j, rfl, rfl, z, by rw [← rs.length]; exact hj, ρ, _, hm2.put (u := .lst (ds.set j d)) (.inr dm) ⟨_, upd_same, (lw.reps rs).set j (lw.rep ((l1.trans l2).rep r))⟩, l1.trans (l2.trans lw), S.rs.later (l1.trans (l2.trans lw)), q⟩
/-! ### slices -/
def AO (X : Cx) (e : Option Expr) (ρ : Rho) (m : Mu) (Q : Option Int → Mu → Prop) : Prop := match e with
  | none => Q none m
  | some e => AE X e ρ m fun d m1 => ∃ i, d = .int i ∧ Q (some i) m1
def WOp (X : Cx) (e : Option Expr) : TO := match e with
  | none => tNoPart
  | some e => tPart (WE X e)
theorem poW : ∀ {e : Option Expr}, PO X e (WOp X e)
  | none => po_none
  | some _ => po_some peW
theorem ao_w {e : Option Expr} {Q : Option Int → Mu → Prop} {σ : St} {H : Hp} {R : Option Int → Hp → Prop} (h : AO X e ρ m Q) (S : SR X.K ρ m σ H) (w : ∀ i m' H', HM X.K m' H' → Later m H m' H' → Q i m' → R i H') : WOp X e σ H R := by
  cases e with
  | none => exact w none m H S.hm Later.refl h
  | some e => exact (AE.run h σ H S).mono fun v H1 ⟨d, m1, hm1, l1, r1, i, e, q⟩ => by subst e; cases r1; exact ⟨i, rfl, w _ _ _ hm1 l1 q⟩
def cutD (ds : List D) (lo hi : Option Int) : List D := (ds.drop (HT.sIx ds.length 0 lo)).take (HT.sIx ds.length ds.length hi - HT.sIx ds.length 0 lo)
theorem cut_rep {K : PySem.W.Frag} {M : Addr → Prop} {H : Hp} {ds : List D} {vs : List V} {lo hi : Option Int} (r : Reps K M H ds vs) : Reps K M H (cutD ds lo hi) (cutV vs lo hi) := by
  unfold cutD cutV
  rw [← r.length]
  exact (r.drop _).take _
theorem AE.slice {Q : QD} {lo hi : Option Expr} {p2 : Pos} (h : AE X e ρ m fun d m1 => AO X lo ρ m1 fun i m2 => AO X hi ρ m2 fun j m3 => ∃ ds, IsL m3 d ds ∧ Q (.lst (cutD ds i j)) m3) : AE X (.Subscript e (.Slice lo hi none p2) pos) ρ m Q := .mk fun σ H S => by
  refine WE.of (pe_slice sl_list peW poW poW) ((h σ H S).mono fun v H1 ⟨d, m1, hm1, l1, r1, q1⟩ => ?_)
  refine ao_w q1 (S.later hm1 l1) fun i m2 H2 hm2 l2 q2 => ao_w q2 (S.later hm2 (l1.trans l2)) fun j m3 H3 hm3 l3 ⟨ds, hl, q⟩ => ?_
  obtain ⟨c, vs, ev, sq, rs⟩ := hl.at hm3 ((l2.trans l3).rep r1)
  refine ⟨c, vs, ev, sq, fun q' hq => ?_⟩
  exact (Post.new hm3 hq (.lst (notdom hm3 hq) (.inl upd_same) (cut_rep (rs.same (same_upd hq)))) q).from (l1.trans (l2.trans l3))
/-- a list, one of K's too -/
inductive IsLK (m : Mu) : D → List D → Prop
  | l {d : D} {ds : List D} (h : IsL m d ds) : IsLK m d ds
  | k {ds : List D} : IsLK m (.kl ds) ds
theorem IsLK.at {K : PySem.W.Frag} {m : Mu} {H : Hp} {d : D} {v : V} {ds : List D} (s : IsLK m d ds) (h : HM K m H) (r : Rep K (dom m) H d v) : ∃ a vs, v = .ref a ∧ SqL K H a vs ∧ Reps K (dom m) H ds vs := by
  cases s with
  | l s => exact s.at h r
  | k => cases r with
    | kl h r => exact ⟨_, _, rfl, sqK h, r⟩
theorem AE.sliceK {Q : QD} {lo hi : Option Expr} {p2 : Pos} (h : AE X e ρ m fun d m1 => AO X lo ρ m1 fun i m2 => AO X hi ρ m2 fun j m3 => ∃ ds, IsLK m3 d ds ∧ Q (.lst (cutD ds i j)) m3) : AE X (.Subscript e (.Slice lo hi none p2) pos) ρ m Q := .mk fun σ H S => by
  refine WE.of (pe_slice sl_list peW poW poW) ((h σ H S).mono fun v H1 ⟨d, m1, hm1, l1, r1, q1⟩ => ?_)
  refine ao_w q1 (S.later hm1 l1) fun i m2 H2 hm2 l2 q2 => ao_w q2 (S.later hm2 (l1.trans l2)) fun j m3 H3 hm3 l3 ⟨ds, hl, q⟩ => ?_
  obtain ⟨c, vs, ev, sq, rs⟩ := hl.at hm3 ((l2.trans l3).rep r1)
  refine ⟨c, vs, ev, sq, fun q' hq => ?_⟩
  exact (Post.new hm3 hq (.lst (notdom hm3 hq) (.inl upd_same) (cut_rep (rs.same (same_upd hq)))) q).from (l1.trans (l2.trans l3))
/-! ### lists -/
theorem post_lst {K : PySem.W.Frag} {m : Mu} {H : Hp} {Q : QD} {ds : List D} {vs : List V} {p : Addr} (hm : HM K m H) (hp : H p = none) (r : Reps K (dom m) H ds vs) (q : Q (.lst ds) m) : Post K m H Q (.ref p) (upd H p (.lst vs)) :=
  .new hm hp (.lst (notdom hm hp) (.inl upd_same) (r.same (same_upd hp))) q
theorem post_tup {K : PySem.W.Frag} {m : Mu} {H : Hp} {Q : QD} {ds : List D} {vs : List V} {p : Addr} (hm : HM K m H) (hp : H p = none) (r : Reps K (dom m) H ds vs) (q : Q (.tup ds) m) : Post K m H Q (.ref p) (upd H p (.tup vs)) :=
  .new hm hp (.tup (notdom hm hp) upd_same (r.same (same_upd hp))) q
theorem ca_len : CallA X (.builtin "len") fun ds m Q => (∃ d es, ds = [d] ∧ IsQ m d es ∧ Q (.int es.length) m) ∨ (∃ s, ds = [.str s] ∧ s.length ≤ sizeLine ∧ Q (.int s.length) m) :=
  (callA call_len_seq fun ds m vs H Q hm rs ⟨d, es, e, hq, q⟩ => by
    subst e
    cases rs with
    | cons r t =>
      cases t
      obtain ⟨c, us, ev, sq, r2⟩ := hq.at hm r
      subst ev
      exact ⟨c, us, rfl, sq, .now hm .int (by rw [← r2.length]; exact q)⟩).or
  (callA call_len_str fun ds m vs H Q hm rs ⟨s, e, hs, q⟩ => by
    subst e
    cases rs with
    | cons r t => cases t; cases r; exact ⟨s, rfl, hs, .now hm .int q⟩)
end
end Ab
/-! A5: more of lists, dicts, built-ins. -/
namespace Ab
open L2 PySem PySem.Spec PyProof.Rows

/-! ### dicts as data -/
def getK (ks : List (Key × D)) (k : Key) : Option D := (ks.find? fun p => decide (p.1 = k)).map (·.2)
def putKD (ks : List (Key × D)) (k : Key) (d : D) : List (Key × D) := if ks.any (fun p => decide (p.1 = k)) then ks.map fun p => if p.1 = k then (p.1, d) else p else ks ++ [(k, d)]
def dropKD (ks : List (Key × D)) (k : Key) : List (Key × D) := ks.filter fun p => decide (p.1 ≠ k)
/-- a datum as a key -/
def keyD : D → Option Key
  | .int i => some (.inl i)
  | .str x => some (.inr x)
  | _ => none
theorem keyD_rep {K : PySem.W.Frag} {M : Addr → Prop} {H : Hp} {d : D} {v : V} {k : Key} (r : Rep K M H d v) (h : keyD d = some k) : v = kV k := by
  cases r <;> simp [keyD] at h <;> subst h <;> rfl
section
variable {K : PySem.W.Frag} {M : Addr → Prop} {H : Hp}
theorem getK_rep : ∀ {ks : List (Key × D)} {kvs : List (Key × V)} {k : Key}, kvs.map (·.1) = ks.map (·.1) → Reps K M H (ks.map (·.2)) (kvs.map (·.2)) →
    (∀ d, getK ks k = some d → ∃ v, valV kvs k = some v ∧ Rep K M H d v) ∧ (getK ks k = none → valV kvs k = none)
  | [], [], _, _, _ => ⟨fun d e => absurd e (by simp [getK]), fun _ => rfl⟩
  | [], _ :: _, _, e, _ => by cases e
  | _ :: _, [], _, e, _ => by cases e
  | (k1, d1) :: ks, (k2, v2) :: kvs, k, e, r => by
    simp only [List.map_cons, List.cons.injEq] at e
    obtain ⟨e1, e2⟩ := e
    subst e1
    cases r with
    | cons r t =>
      have ih := getK_rep (k := k) e2 t
      by_cases h : k2 = k
      · subst h
        rw [valV_pos rfl]
        exact ⟨fun d q => by simp [getK] at q; subst q; exact ⟨v2, rfl, r⟩, fun q => by simp [getK] at q⟩
      · rw [valV_neg h]
        have g : getK ((k2, d1) :: ks) k = getK ks k := by simp [getK, h]
        rw [g]
        exact ih
theorem any_keys : ∀ {ks : List (Key × D)} {kvs : List (Key × V)} {k : Key}, kvs.map (·.1) = ks.map (·.1) → (kvs.any fun kv => decide (kv.1 = k)) = (ks.any fun p => decide (p.1 = k))
  | [], [], _, _ => rfl
  | [], _ :: _, _, e => by cases e
  | _ :: _, [], _, e => by cases e
  | (k1, d1) :: ks, (k2, v2) :: kvs, k, e => by
    simp only [List.map_cons, List.cons.injEq] at e
    rw [List.any_cons, List.any_cons, any_keys e.2, e.1]
theorem putK_fst {k : Key} {v : V} {d : D} {ks : List (Key × D)} {kvs : List (Key × V)} (e : kvs.map (·.1) = ks.map (·.1)) : (putK kvs k v).map (·.1) = (putKD ks k d).map (·.1) := by
  unfold putK putKD
  rw [any_keys e]
  split
  · have h : ∀ {ks : List (Key × D)} {kvs : List (Key × V)}, kvs.map (·.1) = ks.map (·.1) → (kvs.map fun kv => if kv.1 = k then (kv.1, v) else kv).map (·.1) = (ks.map fun p => if p.1 = k then (p.1, d) else p).map (·.1) := by
      intro ks kvs e
      rw [List.map_map, List.map_map]
      have h1 : ((fun x : Key × V => x.1) ∘ fun kv => if kv.1 = k then (kv.1, v) else kv) = fun kv => kv.1 := by funext kv; simp only [Function.comp]; split <;> rfl
      have h2 : ((fun x : Key × D => x.1) ∘ fun kv => if kv.1 = k then (kv.1, d) else kv) = fun kv => kv.1 := by funext kv; simp only [Function.comp]; split <;> rfl
      rw [h1, h2]; exact e
    exact h e
  · simp [e]
theorem putK_snd {k : Key} {v : V} {d : D} (r : Rep K M H d v) {ks : List (Key × D)} {kvs : List (Key × V)} (e : kvs.map (·.1) = ks.map (·.1)) (t : Reps K M H (ks.map (·.2)) (kvs.map (·.2))) : Reps K M H ((putKD ks k d).map (·.2)) ((putK kvs k v).map (·.2)) := by
  unfold putK putKD
  rw [any_keys e]
  split
  · have h : ∀ {ks : List (Key × D)} {kvs : List (Key × V)}, kvs.map (·.1) = ks.map (·.1) → Reps K M H (ks.map (·.2)) (kvs.map (·.2)) → Reps K M H ((ks.map fun p => if p.1 = k then (p.1, d) else p).map (·.2)) ((kvs.map fun kv => if kv.1 = k then (kv.1, v) else kv).map (·.2)) := by
      intro ks
      induction ks with
      | nil => intro kvs e t; cases kvs with
        | nil => exact .nil
        | cons _ _ => cases e
      | cons p ks ih => intro kvs e t; cases kvs with
        | nil => cases e
        | cons q kvs =>
          simp only [List.map_cons, List.cons.injEq] at e
          cases t with
          | cons r1 t =>
            simp only [List.map_cons]
            refine .cons ?_ (ih e.2 t)
            rw [e.1]
            split
            · exact r
            · exact r1
    exact h e t
  · rw [List.map_append, List.map_append]
    exact t.append (.cons r .nil)
theorem dropK_rep {k : Key} : ∀ {ks : List (Key × D)} {kvs : List (Key × V)}, kvs.map (·.1) = ks.map (·.1) → Reps K M H (ks.map (·.2)) (kvs.map (·.2)) → (dropK kvs k).map (·.1) = (dropKD ks k).map (·.1) ∧ Reps K M H ((dropKD ks k).map (·.2)) ((dropK kvs k).map (·.2))
  | [], [], _, _ => ⟨rfl, .nil⟩
  | [], _ :: _, e, _ => by cases e
  | _ :: _, [], e, _ => by cases e
  | (k1, d1) :: ks, (k2, v2) :: kvs, e, r => by
    simp only [List.map_cons, List.cons.injEq] at e
    obtain ⟨e1, e2⟩ := e
    subst e1
    cases r with
    | cons r t =>
      obtain ⟨h1, h2⟩ := dropK_rep (k := k) e2 t
      unfold dropK dropKD at h1 h2 ⊢
      by_cases h : k2 = k
      · simp only [List.filter_cons, h, ne_eq, not_true_eq_false, decide_false, Bool.false_eq_true, if_false]
        exact ⟨h1, h2⟩
      · simp only [List.filter_cons, h, ne_eq, not_false_eq_true, decide_true, if_true, List.map_cons, List.cons.injEq, true_and]
        exact ⟨h1, .cons r h2⟩
end
section
variable {X : Cx} {fb : FB} {k : Nat} {ρ : Rho} {m : Mu} {e o a b i : Expr} {es : List Expr} {x nm : Str} {p pos apos cpos pos' : Pos}
/-- d[k] -/
theorem AE.dget {Q : QD} (hx : XF X fb k) (h : AE X o ρ m fun d m1 => AE X i ρ m1 fun y m2 => ∃ ks kk v, IsD m2 d ks ∧ keyD y = some kk ∧ getK ks kk = some v ∧ Q v m2) (hs : NoSl i := by intro _ _; rfl) : AE X (.Subscript o i pos) ρ m Q := .mk fun σ H S => by
  refine WE.of (pe_dget hx.hu peW peW hs) ((h σ H S).mono fun v H1 ⟨d, m1, hm1, l1, r1, q1⟩ => ?_)
  refine (q1 σ H1 (S.later hm1 l1)).mono fun u H2 ⟨y, m2, hm2, l2, r2, ks, kk, w, hd, hk, hg, q⟩ => ?_
  obtain ⟨c, kvs, ev, z, ek, rs⟩ := hd.at hm2 (l2.rep r1)
  obtain ⟨v', hv, rv⟩ := (getK_rep (k := kk) ek rs).1 w hg
  refine ⟨c, v', ev, ?_, (Post.now hm2 rv q).from (l1.trans l2)⟩
  rw [keyD_rep r2 hk, ← hv]
  exact DGet.k z
/-- k in d -/
theorem din_at {Q : QD} (neg : Bool) (h : AE X i ρ m fun y m1 => AE X o ρ m1 fun d m2 => ∃ ks kk, IsD m2 d ks ∧ keyD y = some kk ∧ Q (.bl (if neg then !(getK ks kk).isSome else (getK ks kk).isSome)) m2) {σ : St} {H : Hp} (S : SR X.K ρ m σ H) :
    WE X i σ H fun y H1 => WE X o σ H1 fun x H2 => ∃ a o, x = .ref a ∧ DGet H2 a y o ∧ Post X.K m H Q (.bl (if neg then !o.isSome else o.isSome)) H2 := by
  refine (h σ H S).mono fun v H1 ⟨y, m1, hm1, l1, r1, q1⟩ => ?_
  refine (q1 σ H1 (S.later hm1 l1)).mono fun u H2 ⟨d, m2, hm2, l2, r2, ks, kk, hd, hk, q⟩ => ?_
  obtain ⟨c, kvs, ev, z, ek, rs⟩ := hd.at hm2 r2
  refine ⟨c, valV kvs kk, ev, by rw [keyD_rep (l2.rep r1) hk]; exact DGet.k z, ?_⟩
  have es : (valV kvs kk).isSome = (getK ks kk).isSome := by
    obtain ⟨g1, g2⟩ := getK_rep (k := kk) ek rs
    cases hg : getK ks kk with
    | none => rw [g2 hg]; rfl
    | some w => obtain ⟨v', hv, _⟩ := g1 w hg; rw [hv]; rfl
  rw [es]
  exact (Post.now hm2 .bl q).from (l1.trans l2)
theorem AE.din {Q : QD} (hx : XF X fb k) (h : AE X i ρ m fun y m1 => AE X o ρ m1 fun d m2 => ∃ ks kk, IsD m2 d ks ∧ keyD y = some kk ∧ Q (.bl (getK ks kk).isSome) m2) (h1 : behindInMarks .In o = false := by rfl) : AE X (.Compare i [.In] [o] pos) ρ m Q := .mk fun σ H S =>
  WE.of (pe_cmp (pc_din hx.hu peW peW) h1) (din_at false h S)
theorem AE.dnotin {Q : QD} (hx : XF X fb k) (h : AE X i ρ m fun y m1 => AE X o ρ m1 fun d m2 => ∃ ks kk, IsD m2 d ks ∧ keyD y = some kk ∧ Q (.bl (!(getK ks kk).isSome)) m2) (h1 : behindInMarks .NotIn o = false := by rfl) : AE X (.Compare i [.NotIn] [o] pos) ρ m Q := .mk fun σ H S =>
  WE.of (pe_cmp (pc_dnotin hx.hu peW peW) h1) (din_at true h S)
theorem AT.din {Q : Bool → Mu → Prop} (hx : XF X fb k) (h : AE X i ρ m fun y m1 => AE X o ρ m1 fun d m2 => ∃ ks kk, IsD m2 d ks ∧ keyD y = some kk ∧ Q (getK ks kk).isSome m2) (h1 : behindInMarks .In o = false := by rfl) : AT X (.Compare i [.In] [o] pos) ρ m Q := .mk fun σ H S =>
  WT.of (pt_cmp (pc_din hx.hu peW peW) h1) (WE.mono (X := X) (din_at (Q := fun d m1 => ∃ c, d = .bl c ∧ Q c m1) false (h.imp fun _ _ g => g.imp fun _ _ ⟨ks, kk, h1, h2, q⟩ => ⟨ks, kk, h1, h2, _, rfl, q⟩) S) fun _ _ g => WE.mono (X := X) g fun _ _ ⟨c, w, e, dg, d, m', hm', l, r, c', e', q⟩ => ⟨c, w, e, dg, by subst e'; cases r; exact ⟨_, rfl, m', hm', l, q⟩⟩)
theorem AT.dnotin {Q : Bool → Mu → Prop} (hx : XF X fb k) (h : AE X i ρ m fun y m1 => AE X o ρ m1 fun d m2 => ∃ ks kk, IsD m2 d ks ∧ keyD y = some kk ∧ Q (!(getK ks kk).isSome) m2) (h1 : behindInMarks .NotIn o = false := by rfl) : AT X (.Compare i [.NotIn] [o] pos) ρ m Q := .mk fun σ H S =>
  WT.of (pt_cmp (pc_dnotin hx.hu peW peW) h1) (WE.mono (X := X) (din_at (Q := fun d m1 => ∃ c, d = .bl c ∧ Q c m1) true (h.imp fun _ _ g => g.imp fun _ _ ⟨ks, kk, h1, h2, q⟩ => ⟨ks, kk, h1, h2, _, rfl, q⟩) S) fun _ _ g => WE.mono (X := X) g fun _ _ ⟨c, w, e, dg, d, m', hm', l, r, c', e', q⟩ => ⟨c, w, e, dg, by subst e'; cases r; exact ⟨_, rfl, m', hm', l, q⟩⟩)
/-- d[k] = v -/
theorem AS.dput {value : Expr} {D' : AEnds} (hx : XF X fb k) (h : AE X value ρ m fun d m1 => AE X o ρ m1 fun q m2 => AE X i ρ m2 fun y m3 => ∃ c ks kk, q = .ref c ∧ m3 c = some (.dic ks) ∧ keyD y = some kk ∧ ks.length < sizeLine ∧ D'.nx ρ (updM m3 c (.dic (putKD ks kk d))))
    (hs : swapsWith value (some (.Subscript o i pos')) pos.line X.env = pure false := by rfl) : AS X (.Assign [.Subscript o i pos'] value pos) ρ m D' := .mk fun σ H S => by
  refine WS.of (ps_dput hx.hu peW peW peW hs) ((h σ H S).mono fun v H1 ⟨d, m1, hm1, l1, r1, q1⟩ => ?_)
  refine (q1 σ H1 (S.later hm1 l1)).mono fun x H2 ⟨q, m2, hm2, l2, r2, q2⟩ => ?_
  refine (q2 σ H2 (S.later hm2 (l1.trans l2))).mono fun y' H3 ⟨y, m3, hm3, l3, r3, c, ks, kk, e, hc, hk, hz, hn⟩ => ?_
  subst e
  cases r2
  obtain ⟨kvs, z, ek, rs⟩ := hm3 _ _ hc
  have dm : dom m3 c := by unfold dom; rw [hc]; simp
  have lw : Later m3 H3 (updM m3 c (.dic (putKD ks kk d))) (upd H3 c (.dK (putK kvs kk v))) := Later.write dm
  have le : kvs.length = ks.length := by have := congrArg List.length ek; simpa using this
  refine ⟨c, _, rfl, by rw [keyD_rep r3 hk]; exact DPut.k z (by rw [le]; exact hz), ρ, _, hm3.put (u := .dic (putKD ks kk d)) (.inr dm) ⟨_, upd_same, putK_fst ek, putK_snd (lw.rep ((l2.trans l3).rep r1)) ek (lw.reps rs)⟩, l1.trans (l2.trans (l3.trans lw)), S.rs.later (l1.trans (l2.trans (l3.trans lw))), hn⟩
/-- dict(d) -/
theorem ca_dictcopy : CallA X (.type "dict") fun ds m Q => ∃ d ks, ds = [d] ∧ IsD m d ks ∧ ∀ p, m p = none → Q (.ref p) (updM m p (.dic ks)) := callA (r := fun xs H Q => ∃ a kvs, xs = [.ref a] ∧ Rd H a (.dK kvs) ∧ ∀ p, H p = none → Q (.ref p) (upd H p (.dK kvs)))
  (fun pins s σ H xs us Q I r ⟨a, kvs, e, h1, h2⟩ => by
    subst e
    rw [Vals.ref1 r]
    exact d_copyOf I h1 fun p s' n I' => ⟨.ref p, _, I', rfl, h2 p n⟩)
  fun ds m vs H Q hm rs ⟨d, ks, e, hd, q⟩ => by
    subst e
    cases rs with
    | cons r t =>
      cases t
      obtain ⟨c, kvs, ev, z, ek, r2⟩ := hd.at hm r
      subst ev
      exact ⟨c, kvs, rfl, .inl z, fun p n => Post.newM (u := .dic ks) hm n ⟨kvs, upd_same, ek, (Later.new n).reps r2⟩ q⟩
/-! ### lists -/
theorem oa_cat : OpA X (binaryOp .Add) fun da db m Q => ∃ xs ys, IsL m da xs ∧ IsL m db ys ∧ xs.length + ys.length ≤ sizeLine ∧ Q (.lst (xs ++ ys)) m := ⟨fun x y H Q => ∃ l b xs zs, x = .ref l ∧ y = .ref b ∧ Rd H l (.lst xs) ∧ Rd H b (.lst zs) ∧ xs.length + zs.length ≤ sizeLine ∧ ∀ p, H p = none → Q (.ref p) (upd H p (.lst (xs ++ zs))),
  fun pins s σ H x y v u Q I rx ry ⟨l, b, xs, zs, e1, e2, h1, h2, hz, q⟩ => by
    subst e1 e2
    cases rx; cases ry
    obtain ⟨z1, its1, n1, rv1, g1⟩ := h1.ok I.hok
    obtain ⟨z2, its2, n2, rv2, g2⟩ := h2.ok I.hok
    have w1 := rv1.length
    have w2 := rv2.length
    refine PySem.P.add_list g1 g2 ?_ (by simp only [List.size_toArray]; omega)
    rw [show its1.toArray ++ its2.toArray = (its1 ++ its2).toArray by simp]
    exact ⟨.ref _, _, I.lnew (t' := s.toks) (rv1.append rv2) (by simp only [List.length_append]; omega), rfl, q _ I.fresh⟩,
  fun da db x y m H Q hm ra rb ⟨xs, ys, h1, h2, hz, q⟩ => by
    obtain ⟨c1, v1, e1, s1, r1⟩ := h1.rd hm ra
    obtain ⟨c2, v2, e2, s2, r2⟩ := h2.rd hm rb
    exact ⟨c1, c2, v1, v2, e1, e2, s1, s2, by rw [← r1.length, ← r2.length]; exact hz, fun p hp => post_lst hm hp (r1.append r2) q⟩⟩
/-- xs.append(y) -/
theorem ma_append : MethA X "list.append" fun d ds m Q => ∃ c es y, d = .ref c ∧ ds = [y] ∧ m c = some (.lst es) ∧ es.length < sizeLine ∧ Q .non (updM m c (.lst (es ++ [y]))) := methA mt_append fun d ds m x vs H Q hm rx rs ⟨c, es, y, e1, e2, hc, hz, q⟩ => by
  subst e1 e2
  cases rx
  cases rs with
  | @cons _ v0 _ _ r t =>
    cases t
    obtain ⟨us, z, r2⟩ := hm _ _ hc
    have dm : dom m c := by unfold dom; rw [hc]; simp
    have lw : Later m H (updM m c (.lst (es ++ [y]))) (upd H c (.lst (us ++ [v0]))) := Later.write dm
    exact ⟨c, us, _, rfl, rfl, z, by rw [← r2.length]; exact hz, .non, _, hm.put (u := .lst (es ++ [y])) (.inr dm) ⟨_, upd_same, (lw.reps r2).append (.cons (lw.rep r) .nil)⟩, lw, .non, q⟩
theorem ma_pop0 : MethA X "list.pop" fun d ds m Q => ∃ c es i j y, d = .ref c ∧ ds = [.int i] ∧ m c = some (.lst es) ∧ -(2 ^ 63) ≤ i ∧ i < 2 ^ 63 ∧ seqIndex? i es.length = some j ∧ es[j]? = some y ∧ Q y (updM m c (.lst (es.eraseIdx j))) := methA mt_popAt fun d ds m x vs H Q hm rx rs ⟨c, es, i, j, y, e1, e2, hc, h1, h2, hj, hy, q⟩ => by
  subst e1 e2
  cases rx
  cases rs with
  | cons r t =>
    cases t; cases r
    obtain ⟨us, z, r2⟩ := hm _ _ hc
    have dm : dom m c := by unfold dom; rw [hc]; simp
    obtain ⟨u, hu, ru⟩ := r2.get hy
    have lw : Later m H (updM m c (.lst (es.eraseIdx j))) (upd H c (.lst (us.eraseIdx j))) := Later.write dm
    exact ⟨c, us, i, j, u, rfl, rfl, z, h1, h2, by rw [← r2.length]; exact hj, hu, y, _, hm.put (u := .lst (es.eraseIdx j)) (.inr dm) ⟨_, upd_same, (lw.reps r2).eraseIdx j⟩, lw, lw.rep ru, q⟩
/-! ### all, any, sum, max, min -/
theorem reps_bls {K : PySem.W.Frag} {M : Addr → Prop} {H : Hp} : ∀ {bs : List Bool} {vs : List V}, Reps K M H (bs.map D.bl) vs → vs = bs.map V.bl
  | [], _, .nil => rfl
  | _ :: _, _, .cons r t => by cases r; rw [reps_bls t]; rfl
theorem reps_ints {K : PySem.W.Frag} {M : Addr → Prop} {H : Hp} : ∀ {bs : List Int} {vs : List V}, Reps K M H (bs.map D.int) vs → vs = bs.map V.int
  | [], _, .nil => rfl
  | _ :: _, _, .cons r t => by cases r; rw [reps_ints t]; rfl
theorem reps_strs {K : PySem.W.Frag} {M : Addr → Prop} {H : Hp} : ∀ {bs : List Str} {vs : List V}, Reps K M H (bs.map D.str) vs → vs = bs.map V.str
  | [], _, .nil => rfl
  | _ :: _, _, .cons r t => by cases r; rw [reps_strs t]; rfl
theorem to_ints {K : PySem.W.Frag} {M : Addr → Prop} {H : Hp} : ∀ {bs : List Int}, Reps K M H (bs.map D.int) (bs.map V.int)
  | [] => .nil
  | _ :: _ => .cons .int to_ints
theorem to_strs {K : PySem.W.Frag} {M : Addr → Prop} {H : Hp} : ∀ {bs : List Str}, Reps K M H (bs.map D.str) (bs.map V.str)
  | [] => .nil
  | _ :: _ => .cons .str to_strs
theorem ca_all (hc : X.calm = true) : CallA X (.builtin "all") fun ds m Q => ∃ d, ∃ bs : List Bool, ds = [d] ∧ IsL m d (bs.map D.bl) ∧ Q (.bl (bs.all id)) m := callA (cr_all hc) fun ds m vs H Q hm rs ⟨d, bs, e, hl, q⟩ => by
  subst e
  cases rs with
  | cons r t =>
    cases t
    obtain ⟨c, us, ev, s, r2⟩ := hl.at hm r
    subst ev
    rw [reps_bls r2] at s
    exact ⟨c, bs, rfl, s, .now hm .bl q⟩
theorem ca_any (hc : X.calm = true) : CallA X (.builtin "any") fun ds m Q => ∃ d, ∃ bs : List Bool, ds = [d] ∧ IsL m d (bs.map D.bl) ∧ Q (.bl (bs.any id)) m := callA (cr_any hc) fun ds m vs H Q hm rs ⟨d, bs, e, hl, q⟩ => by
  subst e
  cases rs with
  | cons r t =>
    cases t
    obtain ⟨c, us, ev, s, r2⟩ := hl.at hm r
    subst ev
    rw [reps_bls r2] at s
    exact ⟨c, bs, rfl, s, .now hm .bl q⟩
theorem ca_sum (hc : X.calm = true) : CallA X (.builtin "sum") fun ds m Q => ∃ d, ∃ ns : List Int, ds = [d] ∧ IsL m d (ns.map D.int) ∧ Q (.int ns.sum) m := callA (cr_sum hc) fun ds m vs H Q hm rs ⟨d, bs, e, hl, q⟩ => by
  subst e
  cases rs with
  | cons r t =>
    cases t
    obtain ⟨c, us, ev, s, r2⟩ := hl.at hm r
    subst ev
    rw [reps_ints r2] at s
    exact ⟨c, bs, rfl, s, .now hm .int q⟩
theorem ca_max2 (hc : X.calm = true) : CallA X (.builtin "max") fun ds m Q => ∃ i j, ds = [.int i, .int j] ∧ Q (.int (max i j)) m := callA (call_max2 hc) fun ds m vs H Q hm rs ⟨i, j, e, q⟩ => by
  subst e
  cases rs with
  | cons r t => cases t with
    | cons r2 t =>
      cases t; cases r; cases r2
      have e : (if j > i then j else i) = max i j := by rw [Int.max_def]; split <;> split <;> omega
      exact ⟨i, j, rfl, by rw [e]; exact .now hm .int q⟩
theorem ca_min2 (hc : X.calm = true) : CallA X (.builtin "min") fun ds m Q => ∃ i j, ds = [.int i, .int j] ∧ Q (.int (min i j)) m := callA (call_min2 hc) fun ds m vs H Q hm rs ⟨i, j, e, q⟩ => by
  subst e
  cases rs with
  | cons r t => cases t with
    | cons r2 t =>
      cases t; cases r; cases r2
      have e : (if j < i then j else i) = min i j := by rw [Int.min_def]; split <;> split <;> omega
      exact ⟨i, j, rfl, by rw [e]; exact .now hm .int q⟩
/-! ### sorted -/
theorem ca_sortS : CallA X (.builtin "sorted") fun ds m Q => ∃ d, ∃ ss : List Str, ds = [d] ∧ IsL m d (ss.map D.str) ∧ ss.length < 64 ∧ ∀ ys : List Str, ys.Perm ss → sortedS ys = true → Q (.lst (ys.map D.str)) m := callA cr_sortedS fun ds m vs H Q hm rs ⟨d, bs, e, hl, hz, q⟩ => by
  subst e
  cases rs with
  | cons r t =>
    cases t
    obtain ⟨c, us, ev, s, r2⟩ := hl.at hm r
    subst ev
    rw [reps_strs r2] at s
    exact ⟨c, bs, rfl, s, hz, fun ys p h1 h2 hp => post_lst hm hp to_strs (q ys h1 h2)⟩
theorem ca_sortI64 : CallA X (.builtin "sorted") fun ds m Q => ∃ d, ∃ ns : List Int, ds = [d] ∧ IsL m d (ns.map D.int) ∧ ns.length < 64 ∧ ∀ ys : List Int, ys.Perm ns → ys.Pairwise (· ≤ ·) → Q (.lst (ys.map D.int)) m := callA cr_sorted fun ds m vs H Q hm rs ⟨d, bs, e, hl, hz, q⟩ => by
  subst e
  cases rs with
  | cons r t =>
    cases t
    obtain ⟨c, us, ev, s, r2⟩ := hl.at hm r
    subst ev
    rw [reps_ints r2] at s
    exact ⟨c, bs, rfl, s, hz, fun ys p h1 h2 hp => post_lst hm hp to_ints (q ys h1 h2)⟩
theorem ca_sortD (hc : X.calm = true) : CallA X (.builtin "sorted") fun ds m Q => ∃ d ks, ∃ ss : List Str, ds = [d] ∧ IsD m d ks ∧ ks.map (·.1) = ss.map Sum.inr ∧ ss.length < 64 ∧ ∀ ys : List Str, ys.Perm ss → sortedS ys = true → Q (.lst (ys.map D.str)) m := callA (call_sortedD hc) fun ds m vs H Q hm rs ⟨d, ks, ss, e, hd, hk, hz, q⟩ => by
  subst e
  cases rs with
  | cons r t =>
    cases t
    obtain ⟨c, kvs, ev, s, ek, r2⟩ := hd.at hm r
    subst ev
    exact ⟨c, kvs, ss, rfl, .inl s, ek.trans hk, hz, fun ys p h1 h2 hp => post_lst hm hp to_strs (q ys h1 h2)⟩
/-! ### isinstance -/
structure InsTy (K : PySem.W.Frag) (C : Addr) : Prop where
  cl : Cls K C
  ha : PySem.W.findIn K (.ref C) "__class__" = some (some (.builtin "object.__class__"))
  hn : PySem.W.specialIn K (.builtin "object.__class__") "__get__" = some (some (.builtin "getset_descriptor.__get__"))
  tk : PySem.W.takesIn K (.builtin "object.__class__") = some true
  hm : PySem.W.mroIn K C (.type "object") = some true
inductive TyD (K : PySem.W.Frag) (m : Mu) : D → Value → Prop
  | non : TyD K m .non (.type "NoneType")
  | bl {b : Bool} : TyD K m (.bl b) (.type "bool")
  | int {i : Int} : TyD K m (.int i) (.type "int")
  | str {x : Str} : TyD K m (.str x) (.type "str")
  | lst {d : D} {ds : List D} (h : IsL m d ds) : TyD K m d (.type "list")
  | tup {ds : List D} : TyD K m (.tup ds) (.type "tuple")
  | dic {d : D} {ks : List (Key × D)} (h : IsD m d ks) : TyD K m d (.type "dict")
  | ins {d : D} {C : Addr} {fs : List (Str × D)} (h : IsI m d C fs) (t : InsTy K C) : TyD K m d (.ref C)
theorem TyD.at {K : PySem.W.Frag} {H : Hp} {d : D} {v : V} {t : Value} (h : TyD K m d t) (hm : HM K m H) (r : Rep K (dom m) H d v) : TyX K H v t := by
  cases h with
  | non => cases r; exact .base .non
  | bl => cases r; exact .base (.bl _)
  | int => cases r; exact .base (.int _)
  | str => cases r; exact .base (.str _)
  | lst h =>
    obtain ⟨a, vs, e, q, _⟩ := h.rd hm r
    subst e
    rcases q with q | ⟨o, q⟩
    · exact .base (.lst q)
    · exact .base (.frz q)
  | tup =>
    cases r with
    | tup n q _ => exact .base (.tup q)
    | tupK q _ =>
      rcases q with (q | ⟨o, q⟩) | ⟨o, its, n, q, c, _⟩
      · cases q
      · cases q
      · exact .kTuple q c
  | dic h =>
    obtain ⟨a, vs, e, q, _⟩ := h.at hm r
    subst e
    exact .base (.dK q)
  | ins h t =>
    obtain ⟨a, dx, gs, e, q, _⟩ := h.at hm r
    subst e
    exact .base (.ins q t.cl t.ha t.hn t.tk t.hm)
/-- a class as a datum -/
inductive ClD : D → Value → Prop
  | ty {n : String} : ClD (.ty n) (.type n)
  | own {C : Addr} : ClD (.ref C) (.ref C)
theorem ClD.at {K : PySem.W.Frag} {M : Addr → Prop} {H : Hp} {d : D} {v : V} {u : Value} (h : ClD d u) (r : Rep K M H d v) : ClsV v u := by
  cases h <;> cases r
  · exact .ty _
  · exact .own _
theorem ca_isi : CallA X (.builtin "isinstance") fun ds m Q => ∃ d c t u b, ds = [d, c] ∧ TyD X.K m d t ∧ ClD c u ∧ PySem.W.kitOne X.K t u = some b ∧ Q (.bl b) m := callA call_isi fun ds m vs H Q hm rs ⟨d, c, t, u, b, e, ht, hc, hk, q⟩ => by
  subst e
  cases rs with
  | cons r t => cases t with
    | cons r2 t =>
      cases t
      exact ⟨_, _, _, u, b, rfl, hc.at r2, ht.at hm r, hk, .now hm .bl q⟩
theorem ca_isiT : CallA X (.builtin "isinstance") fun ds m Q => ∃ d c1 c2 t u1 u2 b, ds = [d, .tup [c1, c2]] ∧ TyD X.K m d t ∧ ClD c1 u1 ∧ ClD c2 u2 ∧ PySem.W.kitAny X.K t [u1, u2] = some b ∧ Q (.bl b) m :=
  fun ds m vs H Q hm rs ⟨d, c1, c2, t, u1, u2, b, e, ht, h1, h2, hk, q⟩ pins s σ us I rv => by
  subst e
  cases rs with
  | cons r t => cases t with
    | cons r2 t =>
      cases t
      cases r2 with
      | tup n hq rr =>
        cases rr with
        | cons a1 rr => cases rr with
          | cons a2 rr =>
            cases rr
            exact call_isiT pins s σ H _ us _ I rv ⟨_, _, _, _, [u1, u2], b, rfl, hq, .cons (h1.at a1) (.cons (h2.at a2) .nil), ht.at hm r, hk, .now hm .bl q⟩
      | tupK hq rr =>
        rcases hq with (q' | ⟨o, q'⟩) | ⟨o, its, n, ho, hc, hd, hz, rvs⟩
        · cases q'
        · cases q'
        · cases rr with
          | cons a1 rr => cases rr with
            | cons a2 rr =>
              cases rr
              have e : its.toList = [u1, u2] := ClsV.all (.cons (h1.at a1) (.cons (h2.at a2) .nil)) rvs
              obtain ⟨oc, od, dt, sl⟩ := o
              simp only at hc hd
              subst hc hd
              exact call_isiK pins s σ H _ us _ I rv ⟨_, _, od, [u1, u2], n, sl, _, b, rfl, by rw [← e]; simpa using ho, ht.at hm r, hk, .now hm .bl q⟩
end
end Ab
/-! A6: operators by their signs; equality of data; membership. -/
namespace Ab
open L2 PySem PySem.Spec PyProof.Rows
/-! ### data without objects of one's own -/
mutual
def dP : D → PyData
  | .bl b => .bool b
  | .int i => .int i
  | .str x => .str x
  | .lst ds => .list (dPs ds)
  | .tup ds => .tuple (dPs ds)
  | _ => .none
def dPs : List D → List PyData
  | [] => []
  | d :: ds => dP d :: dPs ds
end
mutual
/-- data that == of lists and tuples knows -/
def isP : D → Bool
  | .non => true
  | .bl _ => true
  | .int _ => true
  | .str x => PyData.canLay0 (.str x)
  | .lst ds => isPs ds
  | .tup ds => isPs ds
  | _ => false
def isPs : List D → Bool
  | [] => true
  | d :: ds => isP d && isPs ds
end
section
variable {K : PySem.W.Frag} {M : Addr → Prop} {H : Hp}
mutual
theorem dP_rep : ∀ (d : D) {v : V}, isP d = true → Rep K M H d v → Dp K H v (dP d)
  | .non, _, _, r => by cases r; exact .non
  | .bl b, _, _, r => by cases r; exact .bl b
  | .int i, _, _, r => by cases r; exact .int i
  | .str x, _, _, r => by cases r; exact .str x
  | .lst ds, _, h, r => by
    cases r with
    | lst n q rs => exact .lst (.inl q) (dPs_rep ds (by simpa [isP] using h) rs)
  | .tup ds, _, h, r => by
    cases r with
    | tup n q rs => exact .tup (.of q) (dPs_rep ds (by simpa [isP] using h) rs)
    | tupK q rs => exact .tup (sqKT q) (dPs_rep ds (by simpa [isP] using h) rs)
  | .ty _, _, h, _ => by simp [isP] at h
  | .ref _, _, h, _ => by simp [isP] at h
  | .dic _, _, h, _ => by simp [isP] at h
  | .ins _ _, _, h, _ => by simp [isP] at h
  | .kl _, _, h, _ => by simp [isP] at h
theorem dPs_rep : ∀ (ds : List D) {vs : List V}, isPs ds = true → Reps K M H ds vs → DpAll K H vs (dPs ds)
  | [], _, _, r => by cases r; exact .nil
  | d :: ds, _, h, r => by
    cases r with
    | cons r t =>
      have h' : isP d = true ∧ isPs ds = true := by simpa [isPs] using h
      exact .cons (dP_rep d h'.1 r) (dPs_rep ds h'.2 t)
end
end
mutual
theorem canLay_of_isP : ∀ d : D, isP d = true → (dP d).canLay0 = true
  | .non, _ => rfl
  | .bl _, _ => rfl
  | .int _, _ => rfl
  | .str _, h => by simpa [isP, dP] using h
  | .lst ds, h => by simpa [dP, PyData.canLay0] using canLays_of_isPs ds (by simpa [isP] using h)
  | .tup ds, h => by simpa [dP, PyData.canLay0] using canLays_of_isPs ds (by simpa [isP] using h)
  | .ty _, h => by simp [isP] at h
  | .ref _, h => by simp [isP] at h
  | .dic _, h => by simp [isP] at h
  | .ins _ _, h => by simp [isP] at h
  | .kl _, h => by simp [isP] at h
theorem canLays_of_isPs : ∀ ds : List D, isPs ds = true → PyData.canLayAll0 (dPs ds) = true
  | [], _ => rfl
  | d :: ds, h => by
    have h' : isP d = true ∧ isPs ds = true := by simpa [isPs] using h
    simp [dPs, PyData.canLayAll0, canLay_of_isP d h'.1, canLays_of_isPs ds h'.2]
end
theorem shaped_of {d : D} (h : isP d = true) (hd : (dP d).depth ≤ 64) : SeqAt.shaped (dP d) = true := by
  unfold SeqAt.shaped
  rw [canLay_of_isP d h, decide_eq_true hd]; rfl
theorem dPs_map {α : Type} (f : α → D) : ∀ xs : List α, dPs (xs.map f) = xs.map fun x => dP (f x)
  | [] => rfl
  | x :: xs => by rw [List.map_cons, List.map_cons, dPs, dPs_map f xs]
theorem isPs_map {α : Type} {f : α → D} : ∀ {xs : List α}, (∀ x ∈ xs, isP (f x) = true) → isPs (xs.map f) = true
  | [], _ => rfl
  | x :: xs, h => by rw [List.map_cons, isPs, h x List.mem_cons_self, isPs_map fun y hy => h y (List.mem_cons_of_mem _ hy)]; rfl
theorem depthAll_map {α : Type} {f : α → PyData} {n : Nat} : ∀ {xs : List α}, (∀ x ∈ xs, (f x).depth ≤ n) → PyData.depthAll (xs.map f) ≤ n
  | [], _ => Nat.zero_le _
  | x :: xs, h => by
    rw [List.map_cons, PyData.depthAll]
    have h1 := h x List.mem_cons_self
    have h2 := depthAll_map fun y hy => h y (List.mem_cons_of_mem x hy)
    omega
/-- a kind of data whose == is its equality: how it is laid, how deep it is -/
structure EqK {α : Type} (f : α → D) (ok : α → Prop) (n : Nat) : Prop where
  isP : ∀ x, ok x → isP (f x) = true
  dep : ∀ x, ok x → (dP (f x)).depth ≤ n
  eqv : ∀ x y, PyData.eqv (dP (f x)) (dP (f y)) = true ↔ x = y
theorem eqK_int : EqK D.int (fun _ => True) 0 := ⟨fun _ _ => rfl, fun _ _ => Nat.le_refl _, fun x y => by simp [dP, PyData.eqv]⟩
theorem eqK_str : EqK D.str (fun x => PyData.canLay0 (.str x) = true) 0 := ⟨fun _ h => by simpa [isP] using h, fun _ _ => Nat.le_refl _, fun x y => by simp [dP, PyData.eqv]⟩
theorem eqvAll_map {α : Type} {f : α → D} (h : ∀ x y, PyData.eqv (dP (f x)) (dP (f y)) = true ↔ x = y) : ∀ xs ys : List α, PyData.eqvAll (dPs (xs.map f)) (dPs (ys.map f)) = true ↔ xs = ys
  | [], [] => by simp [dPs, PyData.eqvAll]
  | [], _ :: _ => by simp [dPs, PyData.eqvAll]
  | _ :: _, [] => by simp [dPs, PyData.eqvAll]
  | x :: xs, y :: ys => by simp [dPs, PyData.eqvAll, h, eqvAll_map h xs ys]
theorem EqK.list {α : Type} {f : α → D} {ok : α → Prop} {n : Nat} (e : EqK f ok n) : EqK (fun xs : List α => .lst (xs.map f)) (fun xs => ∀ x ∈ xs, ok x) (n + 1) where
  isP := fun xs h => by show isPs (xs.map f) = true; exact isPs_map fun x hx => e.isP x (h x hx)
  dep := fun xs h => by
    show PyData.depth (.list (dPs (xs.map f))) ≤ n + 1
    rw [PyData.depth, dPs_map]
    have := depthAll_map (f := fun x => dP (f x)) (n := n) (xs := xs) fun x hx => e.dep x (h x hx)
    omega
  eqv := fun xs ys => by show PyData.eqv (.list (dPs (xs.map f))) (.list (dPs (ys.map f))) = true ↔ _; rw [PyData.eqv]; exact eqvAll_map e.eqv xs ys
section
variable {X : Cx} {fb : FB} {k : Nat} {ρ : Rho} {m : Mu} {e o a b c : Expr} {pos : Pos}
/-- a datum, wherever it stands: as such, or a changing list -/
inductive IsV (m : Mu) : D → D → Prop
  | im {d : D} : IsV m d d
  | mu {a : Addr} {ds : List D} (h : m a = some (.lst ds)) : IsV m (.ref a) (.lst ds)
theorem IsV.dp {K : PySem.W.Frag} {H : Hp} {d d' : D} {v : V} (h : IsV m d d') (hm : HM K m H) (r : Rep K (dom m) H d v) (p : isP d' = true) : Dp K H v (dP d') := by
  cases h with
  | im => exact dP_rep d p r
  | @mu a ds e =>
    cases r
    obtain ⟨vs, z, rs⟩ := hm _ _ e
    exact .lst (.of z) (dPs_rep ds (by simpa [isP] using p) rs)
theorem oa_eqD (hx : XF X fb k) {α : Type} {f : α → D} {ok : α → Prop} {n : Nat} [DecidableEq α] (E : EqK f ok n) (hn : n ≤ 64) : OpA X (compareOp .Eq) fun da db m Q => ∃ x y, IsV m da (f x) ∧ IsV m db (f y) ∧ ok x ∧ ok y ∧ Q (.bl (decide (x = y))) m := ⟨_, op_eqD hx.room.units, fun da db u v m H Q hm ra rb ⟨x, y, h1, h2, o1, o2, q⟩ => by
  refine ⟨_, _, h1.dp hm ra (E.isP x o1), h2.dp hm rb (E.isP y o2), shaped_of (E.isP x o1) (Nat.le_trans (E.dep x o1) hn), shaped_of (E.isP y o2) (Nat.le_trans (E.dep y o2) hn), ?_⟩
  have e : PyData.eqv (dP (f x)) (dP (f y)) = decide (x = y) := by
    by_cases h : x = y
    · rw [decide_eq_true h]; exact (E.eqv x y).mpr h
    · rw [decide_eq_false h]; exact Bool.eq_false_iff.mpr fun z => h ((E.eqv x y).mp z)
  rw [e]; exact .now hm .bl q⟩
theorem oa_neD (hx : XF X fb k) {α : Type} {f : α → D} {ok : α → Prop} {n : Nat} [DecidableEq α] (E : EqK f ok n) (hn : n ≤ 64) : OpA X (compareOp .NotEq) fun da db m Q => ∃ x y, IsV m da (f x) ∧ IsV m db (f y) ∧ ok x ∧ ok y ∧ Q (.bl (!decide (x = y))) m := ⟨_, op_neD hx.room.units, fun da db u v m H Q hm ra rb ⟨x, y, h1, h2, o1, o2, q⟩ => by
  refine ⟨_, _, h1.dp hm ra (E.isP x o1), h2.dp hm rb (E.isP y o2), shaped_of (E.isP x o1) (Nat.le_trans (E.dep x o1) hn), shaped_of (E.isP y o2) (Nat.le_trans (E.dep y o2) hn), ?_⟩
  have e : PyData.eqv (dP (f x)) (dP (f y)) = decide (x = y) := by
    by_cases h : x = y
    · rw [decide_eq_true h]; exact (E.eqv x y).mpr h
    · rw [decide_eq_false h]; exact Bool.eq_false_iff.mpr fun z => h ((E.eqv x y).mp z)
  rw [e]; exact .now hm .bl q⟩
/-! ### + -/
inductive AddR (m : Mu) : D → D → D → Prop
  | int {i j : Int} : AddR m (.int i) (.int j) (.int (i + j))
  | str {x y : Str} (h : x.length + y.length ≤ sizeLine) : AddR m (.str x) (.str y) (.str (x ++ y))
  | cat {da db : D} {xs ys : List D} (h1 : IsL m da xs) (h2 : IsL m db ys) (h : xs.length + ys.length ≤ sizeLine) : AddR m da db (.lst (xs ++ ys))
theorem oa_addS : OpA X (binaryOp .Add) fun da db m Q => ∃ x y, da = .str x ∧ db = .str y ∧ x.length + y.length ≤ sizeLine ∧ Q (.str (x ++ y)) m := ⟨_, op_add_str, fun da db u v m H Q hm ra rb ⟨x, y, e1, e2, h, q⟩ => by
  subst e1 e2; cases ra; cases rb; exact ⟨x, y, rfl, rfl, h, .now hm .str q⟩⟩
theorem AE.add {Q : QD} (h : AE X a ρ m fun da m1 => AE X b ρ m1 fun db m2 => ∃ d, AddR m2 da db d ∧ Q d m2) : AE X (.BinOp a .Add b pos) ρ m Q :=
  AE.op (oa_add.or (oa_addS.or oa_cat)) (h.imp fun da m1 g => g.imp fun db m2 ⟨d, r, q⟩ => by
    cases r with
    | int => exact .inl ⟨_, _, rfl, rfl, q⟩
    | str h => exact .inr (.inl ⟨_, _, rfl, rfl, h, q⟩)
    | cat h1 h2 h => exact .inr (.inr ⟨_, _, h1, h2, h, q⟩))
theorem AE.sub {Q : QD} (h : AE X a ρ m fun da m1 => AE X b ρ m1 fun db m2 => ∃ i j, da = .int i ∧ db = .int j ∧ Q (.int (i - j)) m2) : AE X (.BinOp a .Sub b pos) ρ m Q := AE.op oa_sub h
theorem AE.mul {Q : QD} (h : AE X a ρ m fun da m1 => AE X b ρ m1 fun db m2 => ∃ i j, da = .int i ∧ db = .int j ∧ CMul i j ∧ Q (.int (i * j)) m2) : AE X (.BinOp a .Mult b pos) ρ m Q := AE.op oa_mul h
theorem AE.mod {Q : QD} (h : AE X a ρ m fun da m1 => AE X b ρ m1 fun db m2 => ∃ i j, da = .int i ∧ db = .int j ∧ 0 < j ∧ Q (.int (i % j)) m2) : AE X (.BinOp a .Mod b pos) ρ m Q := AE.op oa_mod h
theorem AE.fdiv {Q : QD} (h : AE X a ρ m fun da m1 => AE X b ρ m1 fun db m2 => ∃ i j, da = .int i ∧ db = .int j ∧ CDiv i j ∧ Q (.int (i / j)) m2) : AE X (.BinOp a .FloorDiv b pos) ρ m Q := AE.op oa_fdiv h
theorem AE.pow {Q : QD} (h : AE X a ρ m fun da m1 => AE X b ρ m1 fun db m2 => ∃ i j, da = .int i ∧ db = .int j ∧ CPow i j ∧ Q (.int (i ^ j.toNat)) m2) : AE X (.BinOp a .Pow b pos) ρ m Q := AE.op oa_pow h
abbrev RI (p : Int → Int → Bool) : D → D → Mu → QD → Prop := fun da db m Q => ∃ i j, da = .int i ∧ db = .int j ∧ Q (.bl (p i j)) m
theorem AE.lt {Q : QD} (h : AE X a ρ m fun da m1 => AE X b ρ m1 fun db m2 => RI (fun i j => decide (i < j)) da db m2 Q) (hm : behindInMarks .Lt b = false := by rfl) : AE X (.Compare a [.Lt] [b] pos) ρ m Q := AE.cmp oa_lt h hm
theorem AE.le {Q : QD} (h : AE X a ρ m fun da m1 => AE X b ρ m1 fun db m2 => RI (fun i j => decide (i ≤ j)) da db m2 Q) (hm : behindInMarks .LtE b = false := by rfl) : AE X (.Compare a [.LtE] [b] pos) ρ m Q := AE.cmp oa_le h hm
theorem AE.gt {Q : QD} (h : AE X a ρ m fun da m1 => AE X b ρ m1 fun db m2 => RI (fun i j => decide (j < i)) da db m2 Q) (hm : behindInMarks .Gt b = false := by rfl) : AE X (.Compare a [.Gt] [b] pos) ρ m Q := AE.cmp oa_gt h hm
theorem AE.ge {Q : QD} (h : AE X a ρ m fun da m1 => AE X b ρ m1 fun db m2 => RI (fun i j => decide (j ≤ i)) da db m2 Q) (hm : behindInMarks .GtE b = false := by rfl) : AE X (.Compare a [.GtE] [b] pos) ρ m Q := AE.cmp oa_ge h hm
abbrev QB (Q : Bool → Mu → Prop) : QD := fun d m => ∃ c, d = .bl c ∧ Q c m
theorem AT.lt {Q : Bool → Mu → Prop} (h : AE X a ρ m fun da m1 => AE X b ρ m1 fun db m2 => ∃ i j, da = .int i ∧ db = .int j ∧ Q (decide (i < j)) m2) (hm : behindInMarks .Lt b = false := by rfl) : AT X (.Compare a [.Lt] [b] pos) ρ m Q := AT.cmp oa_lt (h.imp fun _ _ g => g.imp fun _ _ ⟨i, j, e, f, q⟩ => ⟨i, j, e, f, _, rfl, q⟩) hm
theorem AT.le {Q : Bool → Mu → Prop} (h : AE X a ρ m fun da m1 => AE X b ρ m1 fun db m2 => ∃ i j, da = .int i ∧ db = .int j ∧ Q (decide (i ≤ j)) m2) (hm : behindInMarks .LtE b = false := by rfl) : AT X (.Compare a [.LtE] [b] pos) ρ m Q := AT.cmp oa_le (h.imp fun _ _ g => g.imp fun _ _ ⟨i, j, e, f, q⟩ => ⟨i, j, e, f, _, rfl, q⟩) hm
theorem AT.gt {Q : Bool → Mu → Prop} (h : AE X a ρ m fun da m1 => AE X b ρ m1 fun db m2 => ∃ i j, da = .int i ∧ db = .int j ∧ Q (decide (j < i)) m2) (hm : behindInMarks .Gt b = false := by rfl) : AT X (.Compare a [.Gt] [b] pos) ρ m Q := AT.cmp oa_gt (h.imp fun _ _ g => g.imp fun _ _ ⟨i, j, e, f, q⟩ => ⟨i, j, e, f, _, rfl, q⟩) hm
theorem AT.ge {Q : Bool → Mu → Prop} (h : AE X a ρ m fun da m1 => AE X b ρ m1 fun db m2 => ∃ i j, da = .int i ∧ db = .int j ∧ Q (decide (j ≤ i)) m2) (hm : behindInMarks .GtE b = false := by rfl) : AT X (.Compare a [.GtE] [b] pos) ρ m Q := AT.cmp oa_ge (h.imp fun _ _ g => g.imp fun _ _ ⟨i, j, e, f, q⟩ => ⟨i, j, e, f, _, rfl, q⟩) hm
theorem AE.isN {Q : QD} {j pos'} (h : AE X a ρ m fun da m1 => Q (.bl (dNon da)) m1) (hm : behindInMarks .Is (.Constant .none j pos') = false := by rfl) : AE X (.Compare a [.Is] [.Constant .none j pos'] pos) ρ m Q := AE.cmp oa_isN (h.imp fun _ _ q => AE.non ⟨rfl, q⟩) hm
theorem AE.notN {Q : QD} {j pos'} (h : AE X a ρ m fun da m1 => Q (.bl (!dNon da)) m1) (hm : behindInMarks .IsNot (.Constant .none j pos') = false := by rfl) : AE X (.Compare a [.IsNot] [.Constant .none j pos'] pos) ρ m Q := AE.cmp oa_notN (h.imp fun _ _ q => AE.non ⟨rfl, q⟩) hm
theorem AT.isN {Q : Bool → Mu → Prop} {j pos'} (h : AE X a ρ m fun da m1 => Q (dNon da) m1) (hm : behindInMarks .Is (.Constant .none j pos') = false := by rfl) : AT X (.Compare a [.Is] [.Constant .none j pos'] pos) ρ m Q := AT.cmp oa_isN (h.imp fun _ _ q => AE.non ⟨rfl, _, rfl, q⟩) hm
theorem AT.notN {Q : Bool → Mu → Prop} {j pos'} (h : AE X a ρ m fun da m1 => Q (!dNon da) m1) (hm : behindInMarks .IsNot (.Constant .none j pos') = false := by rfl) : AT X (.Compare a [.IsNot] [.Constant .none j pos'] pos) ρ m Q := AT.cmp oa_notN (h.imp fun _ _ q => AE.non ⟨rfl, _, rfl, q⟩) hm
theorem AE.eqS {Q : QD} (h : AE X a ρ m fun da m1 => AE X b ρ m1 fun db m2 => ∃ x y, scD da = some x ∧ scD db = some y ∧ scal x y = true ∧ Q (.bl (decide (x = y))) m2) (hm : behindInMarks .Eq b = false := by rfl) : AE X (.Compare a [.Eq] [b] pos) ρ m Q := AE.cmp oa_eq h hm
theorem AE.neS {Q : QD} (h : AE X a ρ m fun da m1 => AE X b ρ m1 fun db m2 => ∃ x y, scD da = some x ∧ scD db = some y ∧ scal x y = true ∧ Q (.bl (!decide (x = y))) m2) (hm : behindInMarks .NotEq b = false := by rfl) : AE X (.Compare a [.NotEq] [b] pos) ρ m Q := AE.cmp oa_ne h hm
theorem AT.eqS {Q : Bool → Mu → Prop} (h : AE X a ρ m fun da m1 => AE X b ρ m1 fun db m2 => ∃ x y, scD da = some x ∧ scD db = some y ∧ scal x y = true ∧ Q (decide (x = y)) m2) (hm : behindInMarks .Eq b = false := by rfl) : AT X (.Compare a [.Eq] [b] pos) ρ m Q := AT.cmp oa_eq (h.imp fun _ _ g => g.imp fun _ _ ⟨x, y, e1, e2, s, q⟩ => ⟨x, y, e1, e2, s, _, rfl, q⟩) hm
theorem AT.neS {Q : Bool → Mu → Prop} (h : AE X a ρ m fun da m1 => AE X b ρ m1 fun db m2 => ∃ x y, scD da = some x ∧ scD db = some y ∧ scal x y = true ∧ Q (!decide (x = y)) m2) (hm : behindInMarks .NotEq b = false := by rfl) : AT X (.Compare a [.NotEq] [b] pos) ρ m Q := AT.cmp oa_ne (h.imp fun _ _ g => g.imp fun _ _ ⟨x, y, e1, e2, s, q⟩ => ⟨x, y, e1, e2, s, _, rfl, q⟩) hm
theorem AE.eqD {Q : QD} {α : Type} {f : α → D} {ok : α → Prop} {n : Nat} [DecidableEq α] (E : EqK f ok n) (hx : XF X fb k) (hn : n ≤ 64) (h : AE X a ρ m fun da m1 => AE X b ρ m1 fun db m2 => ∃ x y, IsV m2 da (f x) ∧ IsV m2 db (f y) ∧ ok x ∧ ok y ∧ Q (.bl (decide (x = y))) m2) (hm : behindInMarks .Eq b = false := by rfl) : AE X (.Compare a [.Eq] [b] pos) ρ m Q := AE.cmp (oa_eqD hx E hn) h hm
theorem AE.neD {Q : QD} {α : Type} {f : α → D} {ok : α → Prop} {n : Nat} [DecidableEq α] (E : EqK f ok n) (hx : XF X fb k) (hn : n ≤ 64) (h : AE X a ρ m fun da m1 => AE X b ρ m1 fun db m2 => ∃ x y, IsV m2 da (f x) ∧ IsV m2 db (f y) ∧ ok x ∧ ok y ∧ Q (.bl (!decide (x = y))) m2) (hm : behindInMarks .NotEq b = false := by rfl) : AE X (.Compare a [.NotEq] [b] pos) ρ m Q := AE.cmp (oa_neD hx E hn) h hm
theorem AT.eqD {Q : Bool → Mu → Prop} {α : Type} {f : α → D} {ok : α → Prop} {n : Nat} [DecidableEq α] (E : EqK f ok n) (hx : XF X fb k) (hn : n ≤ 64) (h : AE X a ρ m fun da m1 => AE X b ρ m1 fun db m2 => ∃ x y, IsV m2 da (f x) ∧ IsV m2 db (f y) ∧ ok x ∧ ok y ∧ Q (decide (x = y)) m2) (hm : behindInMarks .Eq b = false := by rfl) : AT X (.Compare a [.Eq] [b] pos) ρ m Q := AT.cmp (oa_eqD hx E hn) (h.imp fun _ _ g => g.imp fun _ _ ⟨x, y, e1, e2, o1, o2, q⟩ => ⟨x, y, e1, e2, o1, o2, _, rfl, q⟩) hm
theorem AT.neD {Q : Bool → Mu → Prop} {α : Type} {f : α → D} {ok : α → Prop} {n : Nat} [DecidableEq α] (E : EqK f ok n) (hx : XF X fb k) (hn : n ≤ 64) (h : AE X a ρ m fun da m1 => AE X b ρ m1 fun db m2 => ∃ x y, IsV m2 da (f x) ∧ IsV m2 db (f y) ∧ ok x ∧ ok y ∧ Q (!decide (x = y)) m2) (hm : behindInMarks .NotEq b = false := by rfl) : AT X (.Compare a [.NotEq] [b] pos) ρ m Q := AT.cmp (oa_neD hx E hn) (h.imp fun _ _ g => g.imp fun _ _ ⟨x, y, e1, e2, o1, o2, q⟩ => ⟨x, y, e1, e2, o1, o2, _, rfl, q⟩) hm
end
end Ab
/-! B1: == and in of lists, tuples and dicts of any depth, the answer either way, within one model. -/
namespace Ab
open L2 PySem PySem.Spec PyProof.Rows
open AutoSeq1 (wpAny_loadPart')
open MeetsSeq MeetsSeq2 MeetsSeq3 SeqRoads2 SeqAt
section
variable {P : Program} {w : World}
abbrev lo_ (dd : Option Addr) (xs : Array Value) (n : Nat) (sl : Array (Option Value)) : Obj := { cls := .type "list", dict := dd, data := .seq xs n, slots := sl }
abbrev to_ (dd : Option Addr) (xs : Array Value) (n : Nat) (sl : Array (Option Value)) : Obj := { cls := .type "tuple", dict := dd, data := .seq xs n, slots := sl }
theorem inLoopP (l : Addr) (xs : Array Value) (n : Nat) (dd : Option Addr) (sl : Array (Option Value)) (x : Value) (e : Nat → Bool) (k : Nat) :
    ∀ i : Nat, xs.size - i = k → MeetsIn P w (Builtin.«list.__contains__.loop» ⟨[.ref l, x, rawInt i], []⟩)
      (fun A R s => s.heap.get? l = some (lo_ dd xs n sl) ∧ (∀ j (h1 : j < xs.size), EqP P w A.in1 s xs[j] x (e j)) ∧ R (.ok (.ret (.bool (((List.range xs.size).drop i).any e)))) s) := by
  induction k with
  | zero =>
    intro i hk A R s hh
    obtain ⟨hp, g, d, tk, os⟩ := s; obtain ⟨g1, ge, hq⟩ := hh
    wp_walk using wpAny_loadPart' g1
    have a1 : xs[((i : Nat) : Int).toNat]? = none := by simp; omega
    have a2 : (List.range xs.size).drop i = [] := by simp; omega
    rw [a2] at hq; rw [a1]
    wp_walk
    exact hq
  | succ k ih =>
    intro i hk A R s hh
    obtain ⟨hp, g, d, tk, os⟩ := s; obtain ⟨g1, ge, hq⟩ := hh
    wp_walk using wpAny_loadPart' g1
    have lt : i < xs.size := by omega
    have a1 : xs[((i : Nat) : Int).toNat]? = some xs[i] := by simp [lt]
    have a2 : (List.range xs.size).drop i = i :: (List.range xs.size).drop (i + 1) := by simp [List.drop_eq_getElem_cons, lt]
    have a3 : ((i : Int) + 1) = ((i + 1 : Nat) : Int) := by push_cast; rfl
    rw [a2, List.any_cons] at hq; rw [a1]
    refine wpAny_bind (ge i lt _ _ ?_)
    cases eb : e i with
    | true => rw [eb] at hq; wp_walk; exact hq
    | false =>
      rw [eb] at hq
      wp_walk
      rw [a3]
      exact ⟨plainId_quiet plain_contains_loop _, codeAny_builtin entry_contains_loop (by rw [Around.under_plainId plain_contains_loop _]; exact ih (i + 1) (by omega) A R _ ⟨g1, ge, by simpa using hq⟩)⟩
theorem inListM (l : Addr) (xs : Array Value) (n : Nat) (dd : Option Addr) (sl : Array (Option Value)) (x : Value) (e : Nat → Bool) :
    MeetsIn P w (Builtin.«list.__contains__» ⟨[.ref l, x], []⟩)
      (fun A R s => s.heap.get? l = some (lo_ dd xs n sl) ∧ (∀ j (h1 : j < xs.size), EqP P w A.in1 s xs[j] x (e j)) ∧ R (.ok (.ret (.bool ((List.range xs.size).any e)))) s) := by
  intro A R s hh
  obtain ⟨hp, g, d, tk, os⟩ := s; obtain ⟨g1, ge, hq⟩ := hh
  wp_walk using wpAny_loadPart' g1
  exact ⟨plainId_quiet plain_contains_loop _, codeAny_builtin entry_contains_loop (by rw [Around.under_plainId plain_contains_loop _]; exact inLoopP l xs n dd sl x e _ 0 rfl A R _ ⟨g1, ge, by simpa using hq⟩)⟩
theorem eqTupM (l b : Addr) (xs ys : Array Value) (n n2 : Nat) (dd dd2 : Option Addr) (sl sl2 : Array (Option Value)) (e : Nat → Bool) :
    MeetsIn P w (Builtin.«tuple.__eq__» ⟨[.ref l, .ref b], []⟩)
      (fun A R s => s.heap.get? l = some (to_ dd xs n sl) ∧ s.heap.get? b = some (to_ dd2 ys n2 sl2) ∧ (∀ j (h1 : j < xs.size) (h2 : j < ys.size), EqP P w A.in1 s xs[j] ys[j] (e j)) ∧
        R (.ok (.ret (.bool ((List.range (min xs.size ys.size)).all e && xs.size == ys.size)))) s) :=
  .of_wp fun A R s hh => by
    obtain ⟨hp, g, d, tk, os⟩ := s; obtain ⟨g1, g2, ge, hq⟩ := hh
    have f2 := AutoSeq1.sub_tuple_tuple
    have zl : (xs.toList.zip ys.toList).length = min xs.size ys.size := by simp
    wp_walk using wpAny_loadPart' g1, wpAny_loadPart' g2, wpAny_forIn_list _ (fun rest b s' => b.1 = none ∧ s' = ⟨hp, g, d, tk, os⟩ ∧ ∃ i, rest = (xs.toList.zip ys.toList).drop i ∧ R (.ok (.ret (.bool (((List.range (min xs.size ys.size)).drop i).all e && xs.size == ys.size)))) ⟨hp, g, d, tk, os⟩) _
    case turn =>
      rintro ⟨y, x⟩ rest b s' ⟨hb', rfl, i, hz, hR⟩
      have lt : i < (xs.toList.zip ys.toList).length := by
        rcases Nat.lt_or_ge i (xs.toList.zip ys.toList).length with k | k
        · exact k
        · rw [List.drop_of_length_le k] at hz; cases hz
      have hm : i < min xs.size ys.size := zl ▸ lt
      have h1 : i < xs.size := Nat.lt_of_lt_of_le hm (Nat.min_le_left _ _)
      have h2 : i < ys.size := Nat.lt_of_lt_of_le hm (Nat.min_le_right _ _)
      rw [List.drop_eq_getElem_cons lt] at hz
      injection hz with e1 e2
      have hy : y = xs[i] := by have := congrArg Prod.fst e1; simpa using this
      have hx : x = ys[i] := by have := congrArg Prod.snd e1; simpa using this
      subst hy hx
      have a2 : (List.range (min xs.size ys.size)).drop i = i :: (List.range (min xs.size ys.size)).drop (i + 1) := by simp [List.drop_eq_getElem_cons, hm]
      rw [a2, List.all_cons] at hR
      refine wpAny_bind (ge i h1 h2 _ _ ?_)
      cases eb : e i with
      | true => rw [eb] at hR; wp_walk; exact ⟨rfl, rfl, i + 1, e2, by simpa using hR⟩
      | false => rw [eb] at hR; wp_walk; exact ⟨_, rfl, by simpa using hR⟩
    case fin =>
      rintro ⟨b1, b2⟩ s' ⟨hb', rfl, i, hz, hR⟩
      simp only at hb'
      subst hb'
      have ge' : min xs.size ys.size ≤ i := by
        rcases Nat.lt_or_ge i (xs.toList.zip ys.toList).length with k | k
        · rw [List.drop_eq_getElem_cons k] at hz; cases hz
        · exact zl ▸ k
      rw [List.drop_of_length_le (by simpa using ge')] at hR
      wp_walk
      exact ⟨_, rfl, by simpa [Builtin.Tuple.tupleCompareSizes] using hR⟩
    case h => exact ⟨rfl, rfl, 0, rfl, by simpa using hq⟩
theorem inTupM (l : Addr) (xs : Array Value) (n : Nat) (dd : Option Addr) (sl : Array (Option Value)) (x : Value) (e : Nat → Bool) :
    MeetsIn P w (Builtin.«tuple.__contains__» ⟨[.ref l, x], []⟩)
      (fun A R s => s.heap.get? l = some (to_ dd xs n sl) ∧ (∀ j (h1 : j < xs.size), EqP P w A.in1 s xs[j] x (e j)) ∧ R (.ok (.ret (.bool ((List.range xs.size).any e)))) s) :=
  .of_wp fun A R s hh => by
    obtain ⟨hp, g, d, tk, os⟩ := s; obtain ⟨g1, ge, hq⟩ := hh
    wp_walk using wpAny_loadPart' g1, wpAny_forIn_array _ (fun rest b s' => b.1 = none ∧ s' = ⟨hp, g, d, tk, os⟩ ∧ ∃ i, rest = xs.toList.drop i ∧ R (.ok (.ret (.bool (((List.range xs.size).drop i).any e)))) ⟨hp, g, d, tk, os⟩) _
    case turn =>
      rintro y rest b s' ⟨hb, rfl, i, hz, hR⟩
      have lt : i < xs.toList.length := by
        rcases Nat.lt_or_ge i xs.toList.length with k | k
        · exact k
        · rw [List.drop_of_length_le k] at hz; cases hz
      have h1 : i < xs.size := by simpa using lt
      rw [List.drop_eq_getElem_cons lt] at hz
      injection hz with e1 e2
      have hy : y = xs[i] := by simpa using e1
      subst hy
      have a2 : (List.range xs.size).drop i = i :: (List.range xs.size).drop (i + 1) := by simp [List.drop_eq_getElem_cons, h1]
      rw [a2, List.any_cons] at hR
      refine wpAny_bind (ge i h1 _ _ ?_)
      cases eb : e i with
      | true => rw [eb] at hR; wp_walk; exact ⟨_, rfl, by simpa using hR⟩
      | false => rw [eb] at hR; wp_walk; exact ⟨rfl, rfl, i + 1, e2, by simpa using hR⟩
    case fin =>
      rintro ⟨b1, b2⟩ s' ⟨hb, rfl, i, hz, hR⟩
      simp only at hb
      subst hb
      have ge' : xs.size ≤ i := by
        rcases Nat.lt_or_ge i xs.toList.length with k | k
        · rw [List.drop_eq_getElem_cons k] at hz; cases hz
        · simpa using k
      rw [List.drop_of_length_le (by simpa using ge')] at hR
      wp_walk
      exact ⟨_, rfl, by simpa using hR⟩
    case h => exact ⟨rfl, rfl, 0, by simp, by simpa using hq⟩
end
section
variable {P : Program} {w : World} {A : Around} {E : Value → Shared → Prop} {s : Shared} {l b : Addr} {xs ys : Array Value} {x : Value} {e : Nat → Bool}
theorem rcP_tups (g1 : s.heap.IsTuple l xs) (g2 : s.heap.IsTuple b ys) (hu : A.units < cLine) (he : ∀ j (h1 : j < xs.size) (h2 : j < ys.size), EqP P w A.in1 s xs[j] ys[j] (e j)) (E Q : Value → Shared → Prop)
    (h : Q (.bool ((List.range (min xs.size ys.size)).all e && xs.size == ys.size)) s) : wpAny (model P w) A (richCompare .Eq (.ref l) (.ref b)) Q E s := by
  obtain ⟨⟨c1, d1, da1, s1⟩, o1, e1, n1, f1⟩ := id g1
  obtain ⟨⟨c2, d2, da2, s2⟩, o2, e2, n2, f2⟩ := id g2
  simp only at e1 f1 e2 f2
  subst e1 f1 e2 f2
  have ta : s.TypeIs (.ref l) "tuple" := ⟨_, o1, rfl⟩
  have tb : s.TypeIs (.ref b) "tuple" := ⟨_, o2, rfl⟩
  exact wpAny_richCompare_same_room (op := .Eq) ta tb F.slot_tuple_eq (call_meetsIn F.slot_tuple_eq ta F.entry_tuple_eq (F.args_tuple_eq_2 _ _) (eqTupM l b xs ys n1 n2 d1 d2 s1 s2 e)
    ⟨o1, o2, he, show Value.bool ((List.range (min xs.size ys.size)).all e && xs.size == ys.size) ≠ Value.notImplemented ∧ Q (.bool ((List.range (min xs.size ys.size)).all e && xs.size == ys.size)) s from ⟨(fun z => nomatch z), h⟩⟩) hu
theorem containsP {T id : String} {B : Builtin} {c : Value} {S : _root_.PySem.Spec} {Q : Bool → Shared → Prop} (hT : s.TypeIs c T) (slot : Slot T "__contains__" id) (entry : entryFor table id = some B) (args : argsOk id ⟨[c, x], []⟩) (g : MeetsIn P w (B ⟨[c, x], []⟩) S)
    (h : S A (wants (fun v s' => ∃ r, v = .bool r ∧ Q r s') E) s) : wpAny (model P w) A (contains c x) Q E s := by
  refine wpAny_contains_slot hT slot (wpAny_mono (call_meetsIn slot hT entry args g h) (fun v s' hv => ?_) fun _ _ z => z)
  obtain ⟨r, rfl, hq⟩ := hv
  exact wpAny_truthy_bool hq
theorem inListP {Q : Bool → Shared → Prop} (g1 : s.heap.IsList l xs) (he : ∀ j (h1 : j < xs.size), EqP P w A.in1 s xs[j] x (e j)) (h : Q ((List.range xs.size).any e) s) : wpAny (model P w) A (contains (.ref l) x) Q E s := by
  obtain ⟨⟨c1, d1, da1, s1⟩, o1, e1, n1, f1⟩ := id g1
  simp only at e1 f1
  subst e1 f1
  exact containsP ⟨_, o1, rfl⟩ F.slot_list_contains F.entry_list_contains (F.args_list_contains_2 _ _) (inListM l xs n1 d1 s1 x e) ⟨o1, he, _, rfl, h⟩
theorem inTupP {Q : Bool → Shared → Prop} (g1 : s.heap.IsTuple l xs) (he : ∀ j (h1 : j < xs.size), EqP P w A.in1 s xs[j] x (e j)) (h : Q ((List.range xs.size).any e) s) : wpAny (model P w) A (contains (.ref l) x) Q E s := by
  obtain ⟨⟨c1, d1, da1, s1⟩, o1, e1, n1, f1⟩ := id g1
  simp only at e1 f1
  subst e1 f1
  exact containsP ⟨_, o1, rfl⟩ F.slot_tuple_contains F.entry_tuple_contains (F.args_tuple_contains_2 _ _) (inTupM l xs n1 d1 s1 x e) ⟨o1, he, _, rfl, h⟩
end
end Ab
/-! B2: == and in of data. -/
namespace Ab
open PySem PySem.Spec PyProof.Rows L2 SeqAt
/-- == of data answers b; n bounds the nesting -/
inductive EqD (m : Mu) : Nat → D → D → Bool → Prop
  | flat {n : Nat} {d d' : D} {x y : V} (h : scD d = some x) (h' : scD d' = some y) : EqD m n d d' (eqV x y)
  | lst {n : Nat} {d d' : D} {xs ys : List D} {e : Nat → Bool} (hx : IsL m d xs) (hy : IsL m d' ys) (l : xs.length = ys.length) (h : ∀ i a b, xs[i]? = some a → ys[i]? = some b → EqD m n a b (e i)) : EqD m (n + 1) d d' ((List.range xs.length).all e)
  | lstN {n : Nat} {d d' : D} {xs ys : List D} (hx : IsL m d xs) (hy : IsL m d' ys) (l : xs.length ≠ ys.length) : EqD m n d d' false
  | tup {n : Nat} {xs ys : List D} {e : Nat → Bool} (h : ∀ i a b, xs[i]? = some a → ys[i]? = some b → EqD m n a b (e i)) : EqD m (n + 1) (.tup xs) (.tup ys) ((List.range (min xs.length ys.length)).all e && xs.length == ys.length)
  | dic {n : Nat} {d d' : D} {ks ls : List (Key × D)} {e : Key → Bool} (hx : IsD m d ks) (hy : IsD m d' ls) (h : ∀ k a b, (k, a) ∈ ks → getK ls k = some b → EqD m n a b (e k)) :
      EqD m (n + 1) d d' (ks.length == ls.length && ks.all fun p => (getK ls p.1).isSome && e p.1)
theorem eqV_refl : ∀ {x : V}, flatV x = true → eqV x x = true
  | .non, _ => rfl
  | .bl b, _ => by simp [eqV]
  | .int i, _ => by simp [eqV]
  | .str i, _ => by simp [eqV]
theorem scD_flat {d : D} {x : V} (h : scD d = some x) : flatV x = true := by
  cases d <;> simp [scD] at h <;> subst h <;> rfl
def unV : Value → V
  | .none => .non
  | .bool b => .bl b
  | .int i _ => .int i
  | .str x _ => .str x
  | .bytes b _ => .byt b
  | .float b _ => .flt b
  | .ref a => .ref a
  | .type n => .ty n
  | _ => .non
theorem unV_of : ∀ {x : V} {v : Value}, L2.RelV x v → unV v = x
  | .non, _, h => by cases h; rfl
  | .bl _, _, h => by cases h; rfl
  | .int _, _, h => by obtain ⟨t, rfl⟩ := h; rfl
  | .str _, _, h => by obtain ⟨t, rfl⟩ := h; rfl
  | .byt _, _, h => by obtain ⟨t, rfl⟩ := h; rfl
  | .flt _, _, h => by obtain ⟨t, rfl⟩ := h; rfl
  | .ref _, _, h => by cases h; rfl
  | .ty _, _, h => by cases h; rfl
theorem relV_fun {x y : V} {v : Value} (rx : L2.RelV x v) (ry : L2.RelV y v) : x = y := by rw [← unV_of rx, unV_of ry]
theorem vals_fun : ∀ {xs ys : List V} {us : List Value}, Vals xs us → Vals ys us → xs = ys
  | _, _, _, .nil, .nil => rfl
  | _, _, _, .cons r t, .cons r' t' => by rw [relV_fun r r', vals_fun t t']
section
variable {X : Cx} {pins : List (Addr × Obj)} {σ : L2.St} {H : Hp} {s : Shared} {m : Mu}
theorem dkeys {a : Addr} {kvs : List (Key × V)} (I : Inv X pins σ H s) (h : H a = some (.dK kvs)) : (kvs.map (·.1)).Nodup := by
  have k := I.hok a _ h
  obtain ⟨_, _, vs, kv, _, _, _, _, _, _, _, _, nd⟩ := k
  have e : ∀ {kvs : List (Key × V)} {vs : List (Key × Value)}, KV kvs vs → kvs.map (·.1) = vs.map (·.1) := by
    intro kvs vs kv
    unfold KV at kv
    induction kv with
    | nil => rfl
    | cons h _ ih => simp [h.1, ih]
  rw [e kv]; exact nd
theorem getK_mem {k : Key} {d : D} : ∀ {ks : List (Key × D)}, (ks.map (·.1)).Nodup → (k, d) ∈ ks → getK ks k = some d
  | (k', d') :: ks, nd, h => by
    simp only [List.map_cons, List.nodup_cons] at nd
    rcases List.mem_cons.mp h with e | h
    · cases e; simp [getK]
    · have : k' ≠ k := fun e => nd.1 (e ▸ List.mem_map.mpr ⟨_, h, rfl⟩)
      have g : getK ((k', d') :: ks) k = getK ks k := by simp [getK, this]
      rw [g]; exact getK_mem nd.2 h
theorem lst_one {a : Addr} {xs ys : List V} (h : Rd H a (.lst xs)) (h' : Rd H a (.lst ys)) : xs = ys := by
  rcases h with h | ⟨o, h⟩ <;> rcases h' with h' | ⟨o', h'⟩ <;> rw [h] at h' <;> cases h' <;> rfl
theorem tup_one (I : Inv X pins σ H s) {a : Addr} {xs ys : List V} (h : SqT X.K H a xs) (h' : SqT X.K H a ys) : xs = ys := by
  obtain ⟨us, k1, p1, _⟩ := I.tuple h
  obtain ⟨ws, k2, p2, _⟩ := I.tuple h'
  have eu : us = ws := by
    obtain ⟨o, h1, _, _, h3⟩ := p1
    obtain ⟨o', h1', _, _, h3'⟩ := p2
    rw [h1] at h1'; cases h1'
    rw [h3] at h3'; injection h3' with h4
    exact congrArg Array.toList h4
  subst eu
  exact vals_fun k1 k2
/-- of one and the same object the answer is True -/
theorem EqD.same (I : Inv X pins σ H s) (hm : HM X.K m H) {n : Nat} {d d' : D} {b : Bool} (h : EqD m n d d' b) : ∀ {x : V}, Rep X.K (dom m) H d x → Rep X.K (dom m) H d' x → b = true := by
  induction h with
  | flat h h' =>
    intro x r r'
    rw [← scD_rep r h, ← scD_rep r' h']
    exact eqV_refl (by rw [scD_rep r h]; exact scD_flat h)
  | @lst n d d' xs ys e hx hy l h ih =>
    intro x r r'
    obtain ⟨a1, v1, e1, s1, q1⟩ := hx.rd hm r
    obtain ⟨a2, v2, e2, s2, q2⟩ := hy.rd hm r'
    rw [e1] at e2; cases e2
    cases lst_one s1 s2
    refine List.all_eq_true.mpr fun i hi => ?_
    have hi : i < xs.length := by simpa using hi
    obtain ⟨w1, hw1, r1⟩ := q1.get (List.getElem?_eq_getElem hi)
    obtain ⟨c2, hc2, r2⟩ := q2.getV hw1
    exact ih i _ c2 (List.getElem?_eq_getElem hi) hc2 r1 r2
  | @lstN n d d' xs ys hx hy l =>
    intro x r r'
    obtain ⟨a1, v1, e1, s1, q1⟩ := hx.rd hm r
    obtain ⟨a2, v2, e2, s2, q2⟩ := hy.rd hm r'
    rw [e1] at e2; cases e2
    cases lst_one s1 s2
    exact absurd (by rw [q1.length, q2.length]) l
  | @tup n xs ys e h ih =>
    intro x r r'
    obtain ⟨a1, v1, e1, s1, q1⟩ := IsT.im.at hm r
    obtain ⟨a2, v2, e2, s2, q2⟩ := IsT.im.at hm r'
    rw [e1] at e2; cases e2
    cases tup_one I s1 s2
    have el : xs.length = ys.length := by rw [q1.length, q2.length]
    rw [el, Nat.min_self, beq_self_eq_true, Bool.and_true]
    refine List.all_eq_true.mpr fun i hi => ?_
    have hi : i < xs.length := by rw [el]; simpa using hi
    obtain ⟨w1, hw1, r1⟩ := q1.get (List.getElem?_eq_getElem hi)
    obtain ⟨c2, hc2, r2⟩ := q2.getV hw1
    exact ih i _ c2 (List.getElem?_eq_getElem hi) hc2 r1 r2
  | @dic n d d' ks ls e hx hy h ih =>
    intro x r r'
    obtain ⟨a1, v1, e1, s1, z1, q1⟩ := hx.at hm r
    obtain ⟨a2, v2, e2, s2, z2, q2⟩ := hy.at hm r'
    rw [e1] at e2; cases e2
    rw [s1] at s2; cases s2
    have nd := dkeys I s1
    have ek : ks.map (·.1) = ls.map (·.1) := by rw [← z1, z2]
    have el : ks.length = ls.length := by have := congrArg List.length ek; simpa using this
    rw [el, beq_self_eq_true, Bool.true_and]
    refine List.all_eq_true.mpr fun p hp => ?_
    obtain ⟨i, hi, ei⟩ := List.mem_iff_getElem.mp hp
    have hl : i < ls.length := by rw [← el]; exact hi
    have kk : ks[i].1 = ls[i].1 := by
      have := congrArg (fun l => l[i]?) ek
      simpa [hi, hl] using this
    have g : getK ls p.1 = some ls[i].2 := by
      refine getK_mem (by rw [← z2]; exact nd) ?_
      rw [← ei, kk]
      exact List.getElem_mem hl
    obtain ⟨w1, hw1, r1⟩ := q1.get (i := i) (d := ks[i].2) (by simp [hi])
    obtain ⟨w2, hw2, r2⟩ := q2.get (i := i) (d := ls[i].2) (by simp [hl])
    rw [hw1] at hw2; cases hw2
    rw [g, show (some ls[i].2).isSome = true from rfl, Bool.true_and, ← ei]
    exact ih ks[i].1 ks[i].2 ls[i].2 (List.getElem_mem hi) (by rw [ei]; exact g) r1 r2
theorem keq_run {P : Program} {w : World} {A : Around} {K : PySem.W.Frag} {ls : List (Key × D)} {lv : List (Key × V)} {vb : List (Key × Value)} {e : Key → Bool} (zb : lv.map (·.1) = ls.map (·.1)) (rb : Reps K (dom m) H (ls.map (·.2)) (lv.map (·.2))) (kb : KV lv vb) :
    ∀ {ks : List (Key × D)} {kv : List (Key × V)} {va : List (Key × Value)}, kv.map (·.1) = ks.map (·.1) → Reps K (dom m) H (ks.map (·.2)) (kv.map (·.2)) → KV kv va →
    (∀ k a b x y u v, (k, a) ∈ ks → getK ls k = some b → Rep K (dom m) H a x → Rep K (dom m) H b y → L2.RelV x u → L2.RelV y v → EqP P w A s u v (e k)) → PySem.W.KeqHitsP P w A s vb va (ks.all fun p => (getK ls p.1).isSome && e p.1)
  | [], [], _, _, _, .nil, _ => .nil
  | [], _ :: _, _, z, _, _, _ => by cases z
  | _ :: _, [], _, z, _, _, _ => by cases z
  | (k1, d1) :: ks, (k2, v2) :: kv, (k3, u3) :: va, z, r, .cons ⟨e1, rv⟩ t, h => by
    simp only [List.map_cons, List.cons.injEq] at z
    obtain ⟨z1, z2⟩ := z
    simp only at e1 rv
    subst z1 e1
    cases r with
    | cons r rr =>
      rw [List.all_cons]
      obtain ⟨g1, g2⟩ := getK_rep (k := k2) zb rb
      have vv := kb.val k2
      cases hg : getK ls k2 with
      | none =>
        rw [g2 hg] at vv
        rw [show (none : Option D).isSome = false from rfl, Bool.false_and, Bool.false_and]
        exact .miss vv.none_of
      | some b =>
        obtain ⟨y, hy, ry⟩ := g1 b hg
        rw [hy] at vv
        obtain ⟨v, hv, rv'⟩ := vv.some_of
        rw [show (some b).isSome = true from rfl, Bool.true_and]
        exact .hit hv (h k2 d1 b v2 y u3 v List.mem_cons_self hg r ry rv rv') (keq_run zb rb kb z2 rr t fun k a b x y u v hm => h k a b x y u v (List.mem_cons_of_mem _ hm))
/-- the answer of == inside a builtin -/
def RunAt (X : Cx) (s : Shared) (m : Mu) (H : Hp) (n : Nat) : Prop := ∀ d d' b, EqD m n d d' b → ∀ (A : Around) (x y : V) (u v : Value), A.units + n < cLine → Rep X.K (dom m) H d x → Rep X.K (dom m) H d' y → L2.RelV x u → L2.RelV y v → EqP X.prog X.w A s u v b
/-- .. of ==, of two objects -/
theorem EqD.rc (I : Inv X pins σ H s) (hm : HM X.K m H) {n : Nat} (ih : ∀ n', n = n' + 1 → RunAt X s m H n') {d d' : D} {b : Bool} (h : EqD m n d d' b) (nf : scD d = none) {A : Around} {x y : V} {u v : Value} (hu : A.units + n < cLine)
    (r : Rep X.K (dom m) H d x) (r' : Rep X.K (dom m) H d' y) (rx : L2.RelV x u) (ry : L2.RelV y v) (E Q : Value → Shared → Prop) (hq : Q (.bool b) s) : wpAny (model X.prog X.w) A (richCompare .Eq u v) Q E s := by
  cases h with
  | flat h h' => rw [h] at nf; cases nf
  | @lst n d d' xs ys e hx hy l h =>
    obtain ⟨a1, v1, e1, s1, q1⟩ := hx.at hm r
    obtain ⟨a2, v2, e2, s2, q2⟩ := hy.at hm r'
    subst e1 e2; cases rx; cases ry
    obtain ⟨us, k1, p1, _⟩ := I.list s1
    obtain ⟨ws, k2, p2, _⟩ := I.list s2
    have n1 : xs.length = us.length := by rw [q1.length, k1.length]
    have n2 : ys.length = ws.length := by rw [q2.length, k2.length]
    refine rcP_lists (e := e) p1.isList p2.isList (by simp; omega) (by omega) (fun j h1 h2 => ?_) E Q (by rw [List.size_toArray, ← n1]; exact hq)
    have j1 : j < xs.length := by simpa [n1] using h1
    have j2 : j < ys.length := by omega
    obtain ⟨w1, g1, r1⟩ := q1.get (List.getElem?_eq_getElem j1)
    obtain ⟨w2, g2, r2⟩ := q2.get (List.getElem?_eq_getElem j2)
    obtain ⟨t1, f1, o1⟩ := Vals.get k1 g1
    obtain ⟨t2, f2, o2⟩ := Vals.get k2 g2
    have z := ih n rfl _ _ _ (h j _ _ (List.getElem?_eq_getElem j1) (List.getElem?_eq_getElem j2)) A.in1 _ _ _ _ (by show A.units + 1 + n < cLine; omega) r1 r2 o1 o2
    have i1 : us.toArray[j] = t1 := by have := (List.getElem?_eq_some_iff.mp f1).2; simpa using this
    have i2 : ws.toArray[j] = t2 := by have := (List.getElem?_eq_some_iff.mp f2).2; simpa using this
    rw [i1, i2]; exact z
  | @lstN n d d' xs ys hx hy l =>
    obtain ⟨a1, v1, e1, s1, q1⟩ := hx.at hm r
    obtain ⟨a2, v2, e2, s2, q2⟩ := hy.at hm r'
    subst e1 e2; cases rx; cases ry
    obtain ⟨us, k1, p1, _⟩ := I.list s1
    obtain ⟨ws, k2, p2, _⟩ := I.list s2
    have n1 : xs.length = us.length := by rw [q1.length, k1.length]
    have n2 : ys.length = ws.length := by rw [q2.length, k2.length]
    exact RcAt.lists_lengths p1.isList p2.isList (by simp; omega) (by omega) X.prog X.w E Q hq
  | @tup n xs ys e h =>
    obtain ⟨a1, v1, e1, s1, q1⟩ := IsT.im.at hm r
    obtain ⟨a2, v2, e2, s2, q2⟩ := IsT.im.at hm r'
    subst e1 e2; cases rx; cases ry
    obtain ⟨us, k1, p1, _⟩ := I.tuple s1
    obtain ⟨ws, k2, p2, _⟩ := I.tuple s2
    have n1 : xs.length = us.length := by rw [q1.length, k1.length]
    have n2 : ys.length = ws.length := by rw [q2.length, k2.length]
    refine rcP_tups (e := e) p1 p2 (by omega) (fun j h1 h2 => ?_) E Q (by rw [List.size_toArray, List.size_toArray, ← n1, ← n2]; exact hq)
    have j1 : j < xs.length := by simpa [n1] using h1
    have j2 : j < ys.length := by simpa [n2] using h2
    obtain ⟨w1, g1, r1⟩ := q1.get (List.getElem?_eq_getElem j1)
    obtain ⟨w2, g2, r2⟩ := q2.get (List.getElem?_eq_getElem j2)
    obtain ⟨t1, f1, o1⟩ := Vals.get k1 g1
    obtain ⟨t2, f2, o2⟩ := Vals.get k2 g2
    have z := ih n rfl _ _ _ (h j _ _ (List.getElem?_eq_getElem j1) (List.getElem?_eq_getElem j2)) A.in1 _ _ _ _ (by show A.units + 1 + n < cLine; omega) r1 r2 o1 o2
    have i1 : us.toArray[j] = t1 := by have := (List.getElem?_eq_some_iff.mp f1).2; simpa using this
    have i2 : ws.toArray[j] = t2 := by have := (List.getElem?_eq_some_iff.mp f2).2; simpa using this
    rw [i1, i2]; exact z
  | @dic n d d' ks ls e hx hy h =>
    obtain ⟨a1, v1, e1, s1, z1, q1⟩ := hx.at hm r
    obtain ⟨a2, v2, e2, s2, z2, q2⟩ := hy.at hm r'
    subst e1 e2; cases rx; cases ry
    obtain ⟨_, y1, va, ra, d1⟩ := (show ObjOk X.prog X.w H s.heap a1 (.dK v1) from I.hok a1 _ s1)
    obtain ⟨_, y2, vb, rb, d2⟩ := (show ObjOk X.prog X.w H s.heap a2 (.dK v2) from I.hok a2 _ s2)
    have n1 : ks.length = va.length := by rw [← ra.length]; have := congrArg List.length z1; simpa using this.symm
    have n2 : ls.length = vb.length := by rw [← rb.length]; have := congrArg List.length z2; simpa using this.symm
    refine PySem.W.rcP_dicts (knd := mixKind X.prog X.w) (r := ks.all fun p => (getK ls p.1).isSome && e p.1) y1 y2 d1 d2 (by omega) (fun _ => ?_) E Q (by rw [← n1, ← n2]; exact hq)
    exact keq_run z2 q2 rb z1 q1 ra fun k a b x y u v hk hg r1 r2 o1 o2 => ih n rfl _ _ _ (h k a b hk hg) A.in1 _ _ _ _ (by show A.units + 1 + n < cLine; omega) r1 r2 o1 o2
theorem EqD.obj (hm : HM X.K m H) {n : Nat} {d d' : D} {b : Bool} (h : EqD m n d d' b) (nf : scD d = none) {x y : V} (r : Rep X.K (dom m) H d x) (r' : Rep X.K (dom m) H d' y) : ∃ a1 a2, x = .ref a1 ∧ y = .ref a2 := by
  cases h with
  | flat h h' => rw [h] at nf; cases nf
  | lst hx hy l h =>
    obtain ⟨a1, v1, e1, _⟩ := hx.at hm r
    obtain ⟨a2, v2, e2, _⟩ := hy.at hm r'
    exact ⟨a1, a2, e1, e2⟩
  | lstN hx hy l =>
    obtain ⟨a1, v1, e1, _⟩ := hx.at hm r
    obtain ⟨a2, v2, e2, _⟩ := hy.at hm r'
    exact ⟨a1, a2, e1, e2⟩
  | tup h =>
    obtain ⟨a1, v1, e1, _⟩ := IsT.im.at hm r
    obtain ⟨a2, v2, e2, _⟩ := IsT.im.at hm r'
    exact ⟨a1, a2, e1, e2⟩
  | dic hx hy h =>
    obtain ⟨a1, v1, e1, _⟩ := hx.at hm r
    obtain ⟨a2, v2, e2, _⟩ := hy.at hm r'
    exact ⟨a1, a2, e1, e2⟩
theorem runAt (I : Inv X pins σ H s) (hm : HM X.K m H) (n : Nat) : RunAt X s m H n := by
  induction n with
  | zero =>
    intro d d' b h A x y u v hu r r' rx ry
    by_cases nf : scD d = none
    · obtain ⟨a1, a2, e1, e2⟩ := h.obj hm nf r r'
      by_cases ea : a1 = a2
      · subst ea
        rw [h.same I hm r (by rw [e1, ← e2]; exact r')]; subst e1 e2; cases rx; cases ry
        exact (SeqAt.EqAt.same _).eqP
      · subst e1 e2; cases rx; cases ry
        exact eqP_refs ea (h.rc I hm (fun n' e => absurd e (by omega)) nf hu r r' rfl rfl)
    · cases h with
      | flat h h' => rw [scD_rep r h] at rx; rw [scD_rep r' h'] at ry; exact (eqAt_V rx ry (scD_flat h) (scD_flat h')).eqP
      | lstN hx hy l => cases hx <;> exact absurd rfl nf
  | succ n ih =>
    intro d d' b h A x y u v hu r r' rx ry
    by_cases nf : scD d = none
    · obtain ⟨a1, a2, e1, e2⟩ := h.obj hm nf r r'
      by_cases ea : a1 = a2
      · subst ea
        rw [h.same I hm r (by rw [e1, ← e2]; exact r')]; subst e1 e2; cases rx; cases ry
        exact (SeqAt.EqAt.same _).eqP
      · subst e1 e2; cases rx; cases ry
        exact eqP_refs ea (h.rc I hm (fun n' e => by cases e; exact ih) nf hu r r' rfl rfl)
    · cases h with
      | flat h h' => rw [scD_rep r h] at rx; rw [scD_rep r' h'] at ry; exact (eqAt_V rx ry (scD_flat h) (scD_flat h')).eqP
      | lst hx hy l h => cases hx <;> exact absurd rfl nf
      | lstN hx hy l => cases hx <;> exact absurd rfl nf
      | tup h => exact absurd rfl nf
      | dic hx hy h => cases hx <;> exact absurd rfl nf
end
section
variable {X : Cx} {fb : FB} {k : Nat} {ρ : Rho} {m : Mu} {e o a b c : Expr} {pos : Pos}
/-- a == b, of objects -/
theorem oa_eqG (hx : XF X fb k) : OpA X (compareOp .Eq) fun da db m Q => ∃ n r, n ≤ 60 ∧ EqD m n da db r ∧ scD da = none ∧ Q (.bl r) m := ⟨fun x y H Q => ∃ da db m n r, n ≤ 60 ∧ EqD m n da db r ∧ scD da = none ∧ HM X.K m H ∧ Rep X.K (dom m) H da x ∧ Rep X.K (dom m) H db y ∧ Q (.bl r) H,
  fun pins s σ H x y v u Q I rx ry ⟨da, db, m, n, r, hn, h, nf, hm, ra, rb, q⟩ => by
    have hu := hx.room.units
    exact h.rc I hm (fun n' _ => runAt I hm n') nf (by omega) ra rb rx ry _ _ ⟨.bl r, H, I, rfl, q⟩,
  fun da db x y m H Q hm ra rb ⟨n, r, hn, h, nf, q⟩ => ⟨da, db, m, n, r, hn, h, nf, hm, ra, rb, .now hm .bl q⟩⟩
theorem in_at {pins : List (Addr × Obj)} {σ : L2.St} {H : Hp} {s : Shared} {n : Nat} {xs : List D} {da db : D} {e : Nat → Bool} {x y : V} {v u : Value} (I : Inv X pins σ H s) (hm : HM X.K m H) (hu : X.A.units + n + 1 < cLine) (hq : IsQ m db xs) (he : ∀ i a, xs[i]? = some a → EqD m n a da (e i))
    (ra : Rep X.K (dom m) H da x) (rb : Rep X.K (dom m) H db y) (rx : L2.RelV x v) (ry : L2.RelV y u) {E : Value → Shared → Prop} {Q : Bool → Shared → Prop} (q : Q ((List.range xs.length).any e) s) : wpAny (model X.prog X.w) X.A (contains u v) Q E s := by
  obtain ⟨a, vs, ev, sq, rs⟩ := hq.at hm rb
  subst ev
  cases ry
  have item : ∀ (us : List Value), Vals vs us → ∀ j (h1 : j < us.toArray.size), EqP X.prog X.w X.A.in1 s us.toArray[j] v (e j) := fun us k1 j h1 => by
    have j1 : j < us.length := by simpa using h1
    have j2 : j < xs.length := by rw [rs.length, k1.length]; exact j1
    obtain ⟨w1, g1, r1⟩ := rs.get (List.getElem?_eq_getElem j2)
    obtain ⟨t1, f1, o1⟩ := Vals.get k1 g1
    have z := runAt I hm n _ _ _ (he j _ (List.getElem?_eq_getElem j2)) X.A.in1 _ _ _ _ (by show X.A.units + 1 + n < cLine; omega) r1 ra o1 rx
    have i1 : us.toArray[j] = t1 := by have := (List.getElem?_eq_some_iff.mp f1).2; simpa using this
    rw [i1]; exact z
  rcases sq with sq | sq
  · obtain ⟨us, k1, p1, _⟩ := I.list sq
    have n1 : xs.length = us.toArray.size := by rw [rs.length, k1.length, List.size_toArray]
    exact inListP p1.isList (item us k1) (by rw [← n1]; exact q)
  · obtain ⟨us, k1, p1, _⟩ := I.tuple sq
    have n1 : xs.length = us.toArray.size := by rw [rs.length, k1.length, List.size_toArray]
    exact inTupP p1 (item us k1) (by rw [← n1]; exact q)
theorem oa_inG (hx : XF X fb k) : OpA X (compareOp .In) fun da db m Q => ∃ n xs e, n ≤ 60 ∧ IsQ m db xs ∧ (∀ i a, xs[i]? = some a → EqD m n a da (e i)) ∧ Q (.bl ((List.range xs.length).any e)) m :=
  ⟨fun x y H Q => ∃ da db m n xs e, n ≤ 60 ∧ IsQ m db xs ∧ (∀ i a, xs[i]? = some a → EqD m n a da (e i)) ∧ HM X.K m H ∧ Rep X.K (dom m) H da x ∧ Rep X.K (dom m) H db y ∧ Q (.bl ((List.range xs.length).any e)) H,
  fun pins s σ H x y v u Q I rx ry ⟨da, db, m, n, xs, e, hn, hq, he, hm, ra, rb, q⟩ => by
    have hu := hx.room.units
    show wpAny _ _ ((contains u v) >>= fun r => pure (Value.bool r)) _ _ s
    exact wpAny_bind (in_at I hm (by omega) hq he ra rb rx ry (wpAny_pure ⟨.bl _, H, I, rfl, q⟩)),
  fun da db x y m H Q hm ra rb ⟨n, xs, e, hn, hq, he, q⟩ => ⟨da, db, m, n, xs, e, hn, hq, he, hm, ra, rb, .now hm .bl q⟩⟩
theorem oa_notInG (hx : XF X fb k) : OpA X (compareOp .NotIn) fun da db m Q => ∃ n xs e, n ≤ 60 ∧ IsQ m db xs ∧ (∀ i a, xs[i]? = some a → EqD m n a da (e i)) ∧ Q (.bl (!(List.range xs.length).any e)) m :=
  ⟨fun x y H Q => ∃ da db m n xs e, n ≤ 60 ∧ IsQ m db xs ∧ (∀ i a, xs[i]? = some a → EqD m n a da (e i)) ∧ HM X.K m H ∧ Rep X.K (dom m) H da x ∧ Rep X.K (dom m) H db y ∧ Q (.bl (!(List.range xs.length).any e)) H,
  fun pins s σ H x y v u Q I rx ry ⟨da, db, m, n, xs, e, hn, hq, he, hm, ra, rb, q⟩ => by
    have hu := hx.room.units
    show wpAny _ _ ((contains u v) >>= fun r => pure (Value.bool (!r))) _ _ s
    exact wpAny_bind (in_at I hm (by omega) hq he ra rb rx ry (wpAny_pure ⟨.bl _, H, I, rfl, q⟩)),
  fun da db x y m H Q hm ra rb ⟨n, xs, e, hn, hq, he, q⟩ => ⟨da, db, m, n, xs, e, hn, hq, he, hm, ra, rb, .now hm .bl q⟩⟩
theorem AE.eqG {Q : QD} (hx : XF X fb k) (h : AE X a ρ m fun da m1 => AE X b ρ m1 fun db m2 => ∃ n r, n ≤ 60 ∧ EqD m2 n da db r ∧ scD da = none ∧ Q (.bl r) m2) (hm : behindInMarks .Eq b = false := by rfl) : AE X (.Compare a [.Eq] [b] pos) ρ m Q := AE.cmp (oa_eqG hx) h hm
theorem AT.eqG {Q : Bool → Mu → Prop} (hx : XF X fb k) (h : AE X a ρ m fun da m1 => AE X b ρ m1 fun db m2 => ∃ n r, n ≤ 60 ∧ EqD m2 n da db r ∧ scD da = none ∧ Q r m2) (hm : behindInMarks .Eq b = false := by rfl) : AT X (.Compare a [.Eq] [b] pos) ρ m Q := AT.cmp (oa_eqG hx) (h.imp fun _ _ g => g.imp fun _ _ ⟨n, r, h1, h2, h3, q⟩ => ⟨n, r, h1, h2, h3, _, rfl, q⟩) hm
theorem AT.inG {Q : Bool → Mu → Prop} (hx : XF X fb k) (h : AE X a ρ m fun da m1 => AE X b ρ m1 fun db m2 => ∃ n xs e, n ≤ 60 ∧ IsQ m2 db xs ∧ (∀ i a, xs[i]? = some a → EqD m2 n a da (e i)) ∧ Q ((List.range xs.length).any e) m2) (hm : behindInMarks .In b = false := by rfl) : AT X (.Compare a [.In] [b] pos) ρ m Q :=
  AT.cmp (oa_inG hx) (h.imp fun _ _ g => g.imp fun _ _ ⟨n, xs, e, h1, h2, h3, q⟩ => ⟨n, xs, e, h1, h2, h3, _, rfl, q⟩) hm
theorem AT.notinG {Q : Bool → Mu → Prop} (hx : XF X fb k) (h : AE X a ρ m fun da m1 => AE X b ρ m1 fun db m2 => ∃ n xs e, n ≤ 60 ∧ IsQ m2 db xs ∧ (∀ i a, xs[i]? = some a → EqD m2 n a da (e i)) ∧ Q (!(List.range xs.length).any e) m2) (hm : behindInMarks .NotIn b = false := by rfl) : AT X (.Compare a [.NotIn] [b] pos) ρ m Q :=
  AT.cmp (oa_notInG hx) (h.imp fun _ _ g => g.imp fun _ _ ⟨n, xs, e, h1, h2, h3, q⟩ => ⟨n, xs, e, h1, h2, h3, _, rfl, q⟩) hm
/-- data whose == is the equality of what they stand for -/
structure EqF {α : Type} [DecidableEq α] (f : α → D) (n : Nat) : Prop where
  run : ∀ m x y, EqD m n (f x) (f y) (decide (x = y))
theorem eqF_int : EqF D.int 0 := ⟨fun m x y => by
  have h : EqD m 0 (.int x) (.int y) (eqV (.int x) (.int y)) := .flat rfl rfl
  rw [show decide (x = y) = eqV (.int x) (.int y) from rfl]; exact h⟩
theorem eqF_str : EqF D.str 0 := ⟨fun m x y => by
  have h : EqD m 0 (.str x) (.str y) (eqV (.str x) (.str y)) := .flat rfl rfl
  rw [show decide (x = y) = eqV (.str x) (.str y) by simp [eqV]; by_cases e : x = y <;> simp [e]]; exact h⟩
theorem all_eq_iff {α : Type} [DecidableEq α] {xs ys : List α} (l : xs.length = ys.length) : ((List.range xs.length).all fun i => decide (xs[i]? = ys[i]?)) = decide (xs = ys) := by
  rw [Bool.eq_iff_iff, List.all_eq_true, decide_eq_true_iff]
  constructor
  · intro h
    refine List.ext_getElem? fun i => ?_
    by_cases hi : i < xs.length
    · simpa using h i (by simpa using hi)
    · rw [List.getElem?_eq_none (by omega), List.getElem?_eq_none (by omega)]
  · intro h i _; rw [h]; simp
theorem EqF.lstM {α : Type} [DecidableEq α] {f : α → D} {n : Nat} (F : EqF f n) {m : Mu} {d d' : D} {xs ys : List α} (hx : IsL m d (xs.map f)) (hy : IsL m d' (ys.map f)) : EqD m (n + 1) d d' (decide (xs = ys)) := by
  by_cases l : xs.length = ys.length
  · have h : EqD m (n + 1) d d' ((List.range (xs.map f).length).all fun i => decide (xs[i]? = ys[i]?)) := .lst hx hy (by simpa using l) fun i a b ha hb => by
      rw [List.getElem?_map] at ha hb
      cases h1 : xs[i]? with
      | none => rw [h1] at ha; cases ha
      | some u =>
        cases h2 : ys[i]? with
        | none => rw [h2] at hb; cases hb
        | some v => rw [h1] at ha; rw [h2] at hb; cases ha; cases hb; rw [show decide (some u = some v) = decide (u = v) by simp]; exact F.run m u v
    rw [List.length_map, all_eq_iff l] at h
    exact h
  · rw [decide_eq_false fun e => l (by rw [e])]
    exact .lstN hx hy (by simpa using l)
theorem EqF.list {α : Type} [DecidableEq α] {f : α → D} {n : Nat} (F : EqF f n) : EqF (fun xs : List α => .lst (xs.map f)) (n + 1) := ⟨fun m xs ys => F.lstM .im .im⟩
theorem EqF.pair {α β : Type} [DecidableEq α] [DecidableEq β] {f : α → D} {g : β → D} {n : Nat} (F : EqF f n) (G : EqF g n) : EqF (fun x : α × β => .tup [f x.1, g x.2]) (n + 1) := ⟨fun m x y => by
  have h : EqD m (n + 1) (.tup [f x.1, g x.2]) (.tup [f y.1, g y.2]) ((List.range (min [f x.1, g x.2].length [f y.1, g y.2].length)).all (fun i => if i = 0 then decide (x.1 = y.1) else decide (x.2 = y.2)) && [f x.1, g x.2].length == [f y.1, g y.2].length) := .tup fun i a b ha hb => by
    match i with
    | 0 => simp at ha hb; subst ha hb; simpa using F.run m x.1 y.1
    | 1 => simp at ha hb; subst ha hb; simpa using G.run m x.2 y.2
    | i + 2 => simp at ha
  rw [show decide (x = y) = ((List.range (min [f x.1, g x.2].length [f y.1, g y.2].length)).all (fun i => if i = 0 then decide (x.1 = y.1) else decide (x.2 = y.2)) && [f x.1, g x.2].length == [f y.1, g y.2].length) by
    simp [List.range, List.range.loop, Prod.ext_iff, Bool.decide_and]]
  exact h⟩
theorem any_mem {α : Type} [DecidableEq α] {xs : List α} {x : α} : ((List.range xs.length).any fun i => decide (xs[i]? = some x)) = decide (x ∈ xs) := by
  rw [Bool.eq_iff_iff, List.any_eq_true, decide_eq_true_iff, List.mem_iff_getElem?]
  constructor
  · rintro ⟨i, _, h⟩; exact ⟨i, by simpa using h⟩
  · rintro ⟨i, h⟩; exact ⟨i, by simpa using (List.getElem?_eq_some_iff.mp h).1, by simpa using h⟩
theorem EqF.mem {α : Type} [DecidableEq α] {f : α → D} {n : Nat} (F : EqF f n) {m : Mu} {xs : List α} {x : α} : ∀ (i : Nat) (a : D), (xs.map f)[i]? = some a → EqD m n a (f x) (decide (xs[i]? = some x)) := fun i a h => by
  rw [List.getElem?_map] at h
  cases h1 : xs[i]? with
  | none => rw [h1] at h; cases h
  | some u => rw [h1] at h; cases h; rw [show decide (some u = some x) = decide (u = x) by simp]; exact F.run m u x
end
end Ab
/-! B3: class attributes, starred calls, pairs, dict comprehensions, slices with a step. -/
namespace Ab
open L2 PySem PySem.Spec PyProof.Rows
/-- K's words of a staticmethod of C: its def at g -/
structure SMet (K : PySem.W.Frag) (C : Addr) (mc : Value) (m : Str) (p g : Addr) : Prop where
  rd : ClX.CRead K C mc
  at_ : PySem.W.findCls K (.ref C) mc m = some (.get (.builtin "staticmethod.__get__") (.ref p) .none (.ref C))
  rc : ∃ rest, PySem.W.recIn K p "staticmethod" = some (.ref g :: rest)
  kp : PySem.W.keepIn K (.ref g) = true
theorem scRep {K : PySem.W.Frag} {M : Addr → Prop} {H : Hp} {d : D} {v : V} (e : scD d = some v) : Rep K M H d v := by
  cases d <;> simp [scD] at e <;> subst e <;> constructor
section
variable {X : Cx} {fb : FB} {k j : Nat} {ρ : Rho} {m : Mu} {e o a b : Expr} {es : List Expr} {x y nm : Str} {p pos apos sp_ : Pos} {f C : Addr} {asp : ASp}
/-- C.m(e, ..), m a staticmethod -/
theorem AE.sm {Q : QD} {pl : Sem Bool} {mc : Value} {pp : Addr} (c : SMet X.K C mc nm pp f) (F : AFn X.prog X.w X.K X.mg X.base j f asp) (hx : XF X fb k) (hj : j ≤ k)
    (h : AE X o ρ m fun d m1 => d = .ref C ∧ AA X (e :: es) ρ m1 fun ds m2 => asp ds m2 Q)
    (hst : starEach (e :: es) X.env = (false, eval e X.env) :: starEach es X.env := by rfl) (hpl : (backTo pos (starEach es X.env)).any (·.1) = false := by rfl)
    (ht : eval (.Call (.Attribute o nm apos) (e :: es) [] pos) X.env = (do let ov ← eval o X.env; standAt apos.atName; let (f, first) ← holding [ov] (getMethod ov nm pl); callWith pos f first (backTo pos (starEach (e :: es) X.env)) (backToKw pos (keywordEach [] X.env))) := by rfl) :
    AE X (.Call (.Attribute o nm apos) (e :: es) [] pos) ρ m Q := .mk fun σ H S pins s I => by
  refine PySem.W.methodCall_KW (pl := pl) (thn (h σ H S pins s I) fun u s1 ⟨x, H1, I1, rx, d, m1, hm1, l1, r1, ed, q1⟩ => ?_) ht
  subst ed
  cases r1
  obtain rfl : u = Value.ref C := rx
  obtain ⟨rest, hp⟩ := c.rc
  refine PySem.W.method_cls I1.kIn c.rd.ga (PySem.W.cls_bind I1.kIn c.rd.rd c.at_ (wpAny_call (PySem.W.sm_get (s := { s1 with toks := s1.toks + 1 }) I1.kIn hp (PySem.W.handed_on rfl ?_))))
  have I1' := I1.tok (s1.toks + 1)
  refine PySem.W.callWith_K (first := []) (h₀ := X.base) I1'.ok.mod.kin c.kp (thn (q1 σ H1 (S.later hm1 l1) pos pins _ I1') fun us s2 ⟨vs, H2, I2, r, ds, m2, hm2, l2, r2, q2⟩ => ⟨I2.kIn, ?_⟩) hst hpl
  exact F.run (hx.room.mono hj) I2 r hm2 r2 q2 fun _ _ p => p.from (l1.trans l2)
/-- C.m(e, ..), m a classmethod -/
theorem AE.cm {Q : QD} {pl : Sem Bool} {mc : Value} {pp : Addr} (rd : ClX.CRead X.K C mc) (c : ClX.CMet X.K C mc nm pp f) (F : AFn X.prog X.w X.K X.mg X.base j f asp) (hx : XF X fb k) (hj : j ≤ k)
    (h : AE X o ρ m fun d m1 => d = .ref C ∧ AA X (e :: es) ρ m1 fun ds m2 => asp (.ref C :: ds) m2 Q)
    (hst : starEach (e :: es) X.env = (false, eval e X.env) :: starEach es X.env := by rfl) (hpl : (backTo pos (starEach es X.env)).any (·.1) = false := by rfl)
    (ht : eval (.Call (.Attribute o nm apos) (e :: es) [] pos) X.env = (do let ov ← eval o X.env; standAt apos.atName; let (f, first) ← holding [ov] (getMethod ov nm pl); callWith pos f first (backTo pos (starEach (e :: es) X.env)) (backToKw pos (keywordEach [] X.env))) := by rfl) :
    AE X (.Call (.Attribute o nm apos) (e :: es) [] pos) ρ m Q := .mk fun σ H S => by
  refine WE.of (ClX.pe_cmeth (pl := pl) (E := E0) peW rd c F (hx.room.mono hj) pass0 paW hst hpl ht) ((h σ H S).mono fun x H1 ⟨d, m1, hm1, l1, r1, ed, q1⟩ => ?_)
  subst ed
  cases r1
  refine ⟨rfl, WA.mono (X := X) (q1 σ H1 (S.later hm1 l1)) fun vs H2 ⟨ds, m2, hm2, l2, r2, q2⟩ => ?_⟩
  exact ⟨.ref C :: ds, m2, Q, hm2, .cons .ref r2, q2, fun d m' v H' a b c e => Post.from (l1.trans l2) ⟨d, m', a, b, c, e⟩⟩
/-- C.f, a constant -/
theorem AE.cval {Q : QD} (h : AE X e ρ m fun d m1 => ∃ C mc v u dv, d = .ref C ∧ ClX.CRead X.K C mc ∧ ClX.CVal X.K C mc nm v u ∧ scD dv = some v ∧ Q dv m1) (hb : attributeBase e nm X.env (eval e X.env) = eval e X.env := by rfl) : AE X (.Attribute e nm pos) ρ m Q := .mk fun σ H S =>
  WE.of (ClX.pe_cval peW hb) ((h σ H S).mono fun x H1 ⟨d, m1, hm1, l1, r1, C, mc, v, u, dv, ed, c1, c2, hs, q⟩ => by
    subst ed
    cases r1
    exact ⟨C, mc, v, u, rfl, c1, c2, (Post.now hm1 (scRep hs) q).from l1⟩)
/-- c(*e), c a name that holds the class -/
theorem AE.clsStar {Q : QD} (M : Mk X.K C f) (F : AFn X.prog X.w X.K X.mg X.base j f asp) (hx : XF X fb k) (hj : j + 1 ≤ k) (hN : AE X (.Name x p) ρ m fun d m1 => d = .ref C ∧ AE X e ρ m1 fun d m2 => ∃ ds, IsQ m2 d ds ∧ ∀ a, m2 a = none → asp (.ref a :: ds) (updM m2 a (.ins C [])) fun d m3 => d = .non ∧ Q (.ref a) m3)
    (hst : starEach [.Starred e sp_] X.env = [(true, eval e X.env)] := by rfl) : AE X (.Call (.Name x p) [.Starred e sp_] [] pos) ρ m Q := .mk fun σ H S pins s I => by
  refine wpAny_Call_Name_kw (thn (hN σ H S pins s I) fun u s1 ⟨v, H1, I1, rv, d, m1, hm1, l1, r1, ed, h⟩ => ?_)
  subst ed
  cases r1
  obtain rfl : u = Value.ref C := rv
  refine PySem.W.callWith_S (h₀ := X.base) I1.ok.mod.kin M.kp (thn (h σ H1 (S.later hm1 l1) pins s1 I1) fun v s2 ⟨y, H2, I2, ry, d, m2, hm2, l2, r2, ds, hq, q⟩ => ?_) hst
  obtain ⟨a, vs, ev, sq, rs⟩ := hq.at hm2 r2
  subst ev
  obtain rfl : v = Value.ref a := ry
  refine StX.star_any I2 sq.symm fun us s3 I3 rv => ⟨I3.kIn, ?_⟩
  refine StX.run_makeR (E := E0) M F (hx.room.mono hj) pass0 I3 rv fun a dx na nd ne => ?_
  obtain ⟨h2, l3⟩ := make_ready (C := C) X.K hm2 na nd ne
  exact ⟨.ref a :: ds, _, _, h2, .cons .ref (l3.reps rs), q a (hm2.fresh na), fun d m' v H' a b c ⟨e, q⟩ => by subst e; cases c; exact ⟨rfl, _, m', a, l1.trans (l2.trans (l3.trans b)), .ref, q⟩⟩
/-- o.m(*e): as a method of an instance -/
theorem AS.par {D' : AEnds} {i j : Nat} {px py pt : Pos} {kt k2 pt2} (hx : XF X fb k) (hi : Nth fb.N i x) (hj : Nth fb.N j y) (hij : i ≠ j) (hlx : X.env.scope.names.lookup x = some .local) (hly : X.env.scope.names.lookup y = some .local)
    (hw : swappedStores [.Tuple [.Name x px, .Name y py] kt pt] (.Tuple [a, b] k2 pt2) X.env = pure (some [x, y]))
    (h : AA X [a, b] ρ m fun ds m1 => ∃ d1 d2 ρ1 ρ2, ds = [d1, d2] ∧ SetR i d1 ρ ρ1 ∧ SetR j d2 ρ1 ρ2 ∧ D'.nx ρ2 m1)
    (hs : swapsWithSole [.Tuple [.Name x px, .Name y py] kt pt] (.Tuple [a, b] k2 pt2) pos.line X.env = pure false := by rfl) : AS X (.Assign [.Tuple [.Name x px, .Name y py] kt pt] (.Tuple [a, b] k2 pt2) pos) ρ m D' := .mk fun σ H S => by
  refine WS.of (ps_par hx.calm hx.nd (by rw [hx.nN]; exact hi.at) (by rw [hx.nN]; exact hj.at) hij hlx hly paW hw hs) (WA.mono (X := X) (h σ H S) fun vs H1 ⟨ds, m1, hm1, l1, r1, d1, d2, ρ1, ρ2, e, s1, s2, q⟩ => ?_)
  subst e
  cases r1 with
  | cons r t => cases t with
    | cons r2 t =>
      cases t
      have z := ((S.rs.later l1).set i r).set j r2
      rw [← s1.eq, ← s2.eq] at z
      exact ⟨_, _, rfl, ρ2, m1, hm1, l1, z, q⟩
/-- slices with a step -/
def pickD (ds : List D) (lo hi : Option Int) (st : Int) : List D := (sliceRange (sliceBounds lo hi (some st) ds.length).1 (sliceBounds lo hi (some st) ds.length).2.1 (sliceBounds lo hi (some st) ds.length).2.2).filterMap (ds[·]?)
theorem reps_pick {K : PySem.W.Frag} {M : Addr → Prop} {H : Hp} {ds : List D} {vs : List V} (r : Reps K M H ds vs) : ∀ is : List Nat, Reps K M H (is.filterMap (ds[·]?)) (is.filterMap (vs[·]?))
  | [] => .nil
  | i :: is => by
    have ih := reps_pick r is
    rw [List.filterMap_cons, List.filterMap_cons]
    cases h : ds[i]? with
    | none =>
      have : vs[i]? = none := by rw [List.getElem?_eq_none_iff] at h ⊢; rw [← r.length]; exact h
      rw [this]; exact ih
    | some d =>
      obtain ⟨v, hv, rv⟩ := r.get h
      rw [hv]; exact .cons rv ih
theorem vals_pick {vs : List V} {us : List Value} (r : Vals vs us) : ∀ is : List Nat, Vals (is.filterMap (vs[·]?)) (is.filterMap (us[·]?))
  | [] => .nil
  | i :: is => by
    have ih := vals_pick r is
    rw [List.filterMap_cons, List.filterMap_cons]
    cases h : vs[i]? with
    | none =>
      have : us[i]? = none := by rw [List.getElem?_eq_none_iff] at h ⊢; rw [← r.length]; exact h
      rw [this]; exact ih
    | some d =>
      obtain ⟨v, hv, rv⟩ := Vals.get r h
      rw [hv]; exact .cons rv ih
theorem bounds_size {lo hi st : Option Int} {n m : Nat} (h : n = m) : sliceBounds lo hi st n = sliceBounds lo hi st m := by rw [h]
theorem AE.sliceBy {Q : QD} {lo hi : Option Expr} {ste : Expr} {st : Int} {p2 : Pos} (h0 : st ≠ 0) (h : AE X e ρ m fun d m1 => AO X lo ρ m1 fun i m2 => AO X hi ρ m2 fun j m3 => AE X ste ρ m3 fun dst m4 => dst = .int st ∧ ∃ ds, IsL m4 d ds ∧ Q (.lst (pickD ds i j st)) m4) : AE X (.Subscript e (.Slice lo hi (some ste) p2) pos) ρ m Q := .mk fun σ H S pins s I => by
  refine Subscript_ (thn (h σ H S pins s I) fun v s1 ⟨x, H1, I1, rx, d, m1, hm1, l1, r1, q1⟩ => ?_)
  have w1 := ao_w (R := fun i H2 => ∃ m2, HM X.K m2 H2 ∧ Later m1 H1 m2 H2 ∧ AO X hi ρ m2 fun j m3 => AE X ste ρ m3 fun dst m4 => dst = .int st ∧ ∃ ds, IsL m4 d ds ∧ Q (.lst (pickD ds i j st)) m4) q1 (S.later hm1 l1) fun i m2 H2 hm2 l2 q => ⟨m2, hm2, l2, q⟩
  refine wpAny_Slice (thn (poW.run pins s1 σ H1 _ I1 w1) fun vl s2 ⟨i, H2, I2, pl, m2, hm2, l2, q2⟩ => ?_)
  have w2 := ao_w (R := fun j H3 => ∃ m3, HM X.K m3 H3 ∧ Later m2 H2 m3 H3 ∧ AE X ste ρ m3 fun dst m4 => dst = .int st ∧ ∃ ds, IsL m4 d ds ∧ Q (.lst (pickD ds i j st)) m4) q2 (S.later hm2 (l1.trans l2)) fun j m3 H3 hm3 l3 q => ⟨m3, hm3, l3, q⟩
  refine thn (poW.run pins s2 σ H2 _ I2 w2) fun vu s3 ⟨j, H3, I3, pu, m3, hm3, l3, q3⟩ => ?_
  rw [evalPart_some]
  refine thn (q3 σ H3 (S.later hm3 (l1.trans (l2.trans l3))) pins s3 I3) fun vt s4 ⟨y, H4, I4, ry, d4, m4, hm4, l4, r4, ed, ds, hl, q⟩ => ?_
  subst ed
  cases r4
  obtain ⟨tk, et⟩ := ry
  subst et
  have I5 : Inv X pins σ H4 { s4 with heap := s4.heap.push { cls := .type "slice", data := .fields #[vl, vu, Value.int st tk] } } := I4.kept (t' := s4.toks) fun b ob q => Heap.get?_push_of_some _ q
  have rd := (l2.trans (l3.trans l4)).rep r1
  obtain ⟨a, vs, ev, sq, rs⟩ := hl.at hm4 rd
  subst ev
  obtain rfl : v = Value.ref a := rx
  obtain ⟨its, rv, pl', hz⟩ := I5.list sq
  have n1 : ds.length = its.length := by rw [rs.length, rv.length]
  have n2 : ds.length = vs.length := rs.length
  show wpAny (model X.prog X.w) X.A (subscriptTail e (.Slice lo hi (some ste) p2) (.ref a) (.ref s4.heap.objs.size)) _ X.xe { s4 with heap := s4.heap.push { cls := .type "slice", data := .fields #[vl, vu, Value.int st tk] } }
  refine tail_any (ops := [.ref a, .ref s4.heap.objs.size]) pl'.isList.typeIs (PySem.slot_list_getitem.lookup) ?_ (by with_unfolding_all rfl)
  refine wpAny_getItem_list_slice pl'.isList (Heap.IsSliceOf.new _ vl vu _) pl pu (.int st tk) (by simpa using h0) ?_ (by rw [List.size_toArray, ← n1, n2]; exact hz)
  have ep : slicePick its.toArray i j (some st) = ((sliceRange (sliceBounds i j (some st) vs.length).1 (sliceBounds i j (some st) vs.length).2.1 (sliceBounds i j (some st) vs.length).2.2).filterMap (its[·]?)).toArray := by
    unfold slicePick
    rw [List.size_toArray, ← n1, n2]
    simp
  rw [ep]
  refine ⟨.ref _, _, I5.laid (t' := s4.toks) (o := .lst ((sliceRange (sliceBounds i j (some st) vs.length).1 (sliceBounds i j (some st) vs.length).2.1 (sliceBounds i j (some st) vs.length).2.2).filterMap (vs[·]?))) (fun b ob q => Heap.get?_push_of_some _ q) (Nat.le_refl _) ?_, rfl, ?_⟩
  · have z := slicePick_size_le its.toArray i j (some st)
    rw [ep, List.size_toArray, List.size_toArray, ← (vals_pick rv _).length, ← rv.length] at z
    refine ⟨Nat.le_trans z hz, _, 0, vals_pick rv _, Heap.get?_push_size _ rfl⟩
  · have hp := I5.hok.fresh (Nat.le_refl _)
    refine (post_lst hm4 hp (ds := pickD ds i j st) ?_ q).from (l1.trans (l2.trans (l3.trans l4)))
    unfold pickD
    rw [n2]
    exact reps_pick rs _
end
end Ab
/-! B4: dict comprehensions, items, pairs, index, enumerate, defs with a star. -/
namespace Ab
open L2 PySem PySem.Spec PyProof.Rows
section
variable {X : Cx} {fb : FB} {k j : Nat} {ρ : Rho} {m : Mu} {e o a b : Expr} {es : List Expr} {x y nm : Str} {p pos apos cpos sp_ : Pos} {f C : Addr} {asp : ASp} {tg iter elt kx vx : Expr} {ifs : List Expr} {scope : Scope}
/-- {kx: vx for tg in iter if ..}, a changing dict -/
theorem AE.dcM {own : List (Str × Nat)} {g : TG} {gr : D → Rho → Mu → (Rho → Prop) → Prop} (hx : XF X fb k) (hok : BlkOk X.N X.env.scope scope own) (T : CTg X tg scope own g gr) {Q : QD}
    (h : AI X tg iter ρ m fun ds G m1 => ∃ I : Nat → List (Key × D) → Mu → Prop, I 0 [] m1 ∧ (∀ i out mi a o, I i out mi → mi a = none → G (updM mi a o)) ∧
      (∀ i d out mi a, ds[i]? = some d → I i out mi → mi a = none → gr d (wipeR ρ (own.map (·.2))) (updM mi a (.dic out)) fun ρ2 => ABT X scope ifs ρ2 (updM mi a (.dic out)) fun b m3 =>
        (b = true → ABE X scope kx ρ2 m3 fun y m4 => ABE X scope vx ρ2 m4 fun r m5 => ∃ kk, keyD y = some kk ∧ out.length < sizeLine ∧ ∃ mj, m5 = updM mj a (.dic out) ∧ mj a = none ∧ I (i + 1) (putKD out kk r) mj) ∧ (b = false → ∃ mj, m3 = updM mj a (.dic out) ∧ mj a = none ∧ I (i + 1) out mj)) ∧
      ∀ out mj a, mj a = none → I ds.length out mj → Q (.ref a) (updM mj a (.dic out))) (hs : ∀ x, foldedSetIterable iter X.env x = pure x := by intro _; rfl) : AE X (.DictComp kx vx [⟨tg, iter, ifs, 0⟩] scope pos) ρ m Q := .mk fun σ H S => by
  refine WE.of (pe_dc hx.calm hx.nd piW hok T.pg (fun _ _ _ _ _ => ptB) (fun _ _ _ _ _ => peB) (fun _ _ _ _ _ => peB) hs) ?_
  refine WI.mono (X := X) (h σ H S) ?_
  rintro J H1 ⟨ds, G, m1, hm1, l1, jok, I, i0, iG, turn, fin⟩ a na
  have na1 : m1 a = none := hm1.fresh na
  have n0 : HM X.K (updM m1 a (.dic [])) (upd H1 a (.dK [])) := hm1.put (u := .dic []) (.inl na) ⟨[], upd_same, rfl, .nil⟩
  have ln : Later m1 H1 (updM m1 a (.dic [])) (upd H1 a (.dK [])) := Later.new na
  refine ⟨fun i n H2 => n = ds.length - i ∧ i ≤ ds.length ∧ ∃ mi out, HM X.K (updM mi a (.dic out)) H2 ∧ Later m1 H1 (updM mi a (.dic out)) H2 ∧ mi a = none ∧ I i out mi, ⟨_, rfl, Nat.zero_le _, m1, [], n0, ln, na1, i0⟩, ?_⟩
  rintro i n H2 ⟨rfl, hi, mi, out, hm', l', nai, q⟩
  obtain ⟨j1, j2⟩ := jok i (updM mi a (.dic out)) H2 hm' l' (iG i out mi a _ q nai)
  by_cases hlt : i < ds.length
  · obtain ⟨go, y⟩ := j1 ds[i] (by simp [hlt])
    refine .inr ⟨go, fun H3 => ∃ mj out', HM X.K (updM mj a (.dic out')) H3 ∧ Later m1 H1 (updM mj a (.dic out')) H3 ∧ mj a = none ∧ I (i + 1) out' mj, fun H3 h3 => ⟨ds.length - (i + 1), by omega, rfl, hlt, h3⟩, fun x H' hy => ?_⟩
    obtain ⟨hm2, l2, r2⟩ := y x H' hy
    refine T.run ds[i] x _ (updM mi a (.dic out)) _ H' _ _ hm2 (wipe_rs (S.rs.later (l1.trans (l'.trans l2))) _) r2 (turn i ds[i] out mi a (by simp [hlt]) q nai) (wipe_wipe fun _ h => h) fun ρ2 σ2 rs2 ew q2 => ⟨ew, ?_⟩
    refine abt_w q2 ⟨hm2, rs2⟩ ?_
    rintro b H3 ⟨m3, hm3, l3, q3, q4⟩
    cases b with
    | false =>
      rw [if_neg Bool.false_ne_true]
      obtain ⟨mj, e, nj, qj⟩ := q4 rfl
      subst e
      exact ⟨mj, out, hm3, l'.trans (l2.trans l3), nj, qj⟩
    | true =>
      rw [if_pos rfl]
      refine WBE.mono (abe_w (q3 rfl) ⟨hm3, rs2.later l3⟩) ?_
      rintro ky H4 ⟨dk, m4, hm4, l4, rk, q5⟩
      refine WBE.mono (abe_w q5 ⟨hm4, (rs2.later l3).later l4⟩) ?_
      rintro v H5 ⟨r, m5, hm5, l5, rr, kk, ek, z, mj, e, nj, qj⟩
      subst e
      obtain ⟨vs, hv, ev, rv⟩ := hm5 a (.dic out) updM_same
      have dm : dom (updM mj a (.dic out)) a := by unfold dom; rw [updM_same]; simp
      have lw : Later (updM mj a (.dic out)) H5 (updM (updM mj a (.dic out)) a (.dic (putKD out kk r))) (upd H5 a (.dK (putK vs kk v))) := Later.write dm
      have hw := hm5.put (u := .dic (putKD out kk r)) (o := .dK (putK vs kk v)) (.inr dm) ⟨_, upd_same, putK_fst ev, putK_snd (lw.rep rr) ev (lw.reps rv)⟩
      rw [updM_updM] at lw hw
      have le : vs.length = out.length := by have := congrArg List.length ev; simpa using this
      exact ⟨vs, kk, keyD_rep rk ek, hv, by rw [le]; exact z, mj, _, hw, l'.trans (l2.trans (l3.trans (l4.trans (l5.trans lw)))), nj, qj⟩
  · have e : i = ds.length := by omega
    subst e
    exact .inl ⟨j2 (Nat.le_refl _), .ref a, updM mi a (.dic out), hm', l1.trans l', .ref, fin out mi a nai q⟩
/-- a pair of a dict as data -/
def kD : Key → D
  | .inl i => .int i
  | .inr x => .str x
theorem kD_rep {K : PySem.W.Frag} {M : Addr → Prop} {H : Hp} : ∀ k : Key, Rep K M H (kD k) (kV k)
  | .inl _ => .int
  | .inr _ => .str
/-- list(e.items()) -/
theorem AE.items {Q : QD} (hx : XF X fb k) (hg : fb.glb "list" = true) (hm : X.mg "list" = none) (hv : bootBuiltins "list" = some (.type "list")) (h : AE X e ρ m fun d m1 => ∃ ks, IsD m1 d ks ∧ Q (.lst (ks.map fun p => .tup [kD p.1, p.2])) m1)
    (hbase : attributeBase e "items" X.env (eval e X.env) = eval e X.env := by rfl) (hline : (apos.endLine == cpos.line) = true := by rfl)
    (hs : starEach [.Call (.Attribute e "items" apos) [] [] cpos] X.env = (false, eval (.Call (.Attribute e "items" apos) [] [] cpos) X.env) :: starEach [] X.env := by rfl) :
    AE X (.Call (.Name "list" p) [.Call (.Attribute e "items" apos) [] [] cpos] [] pos) ρ m Q := .mk fun σ H S => by
  refine WE.of (LiI.pe_listItems hx.calm peW (hx.glb _ hg) hm hv hbase hline hs) ((h σ H S).mono fun v H1 ⟨d, m1, hm1, l1, r1, ks, hd, q⟩ => ?_)
  obtain ⟨c, kvs, ev, z, ek, rs⟩ := hd.at hm1 r1
  refine ⟨c, kvs, ev, z, fun H' p ts keep np nts npt hp hts => ?_⟩
  have sm : Same H1 H' := keep
  refine (Post.now (d := .lst (ks.map fun p => .tup [kD p.1, p.2])) (hm1.same sm) (.lst (notdom hm1 np) (.inl hp) ?_) q).from (l1.trans (Later.same sm))
  have rs' := Reps.same rs sm
  clear q z keep npt hp hd
  have key : ∀ {ts : List Addr} {kvs : List (Key × V)} {ks : List (Key × D)}, (∀ t ∈ ts, H1 t = none) → kvs.map (·.1) = ks.map (·.1) → Reps X.K (dom m1) H' (ks.map (·.2)) (kvs.map (·.2)) → Paired (fun (t : Addr) (q : Key × V) => H' t = some (.tup [kV q.1, q.2])) ts kvs → Reps X.K (dom m1) H' (ks.map fun p => .tup [kD p.1, p.2]) (ts.map V.ref) := by
    intro ts
    induction ts with
    | nil => intro kvs ks _ e _ h; cases h; cases ks with
      | nil => exact .nil
      | cons _ _ => cases e
    | cons t ts ih => intro kvs ks hn e r h; cases h with
      | @cons _ q _ qs hh ht =>
        cases ks with
        | nil => cases e
        | cons k ks =>
          simp only [List.map_cons, List.cons.injEq] at e
          cases r with
          | cons r rr =>
            refine .cons (.tup (notdom hm1 (hn t List.mem_cons_self)) hh (.cons ?_ (.cons r .nil))) (ih (fun t ht => hn t (List.mem_cons_of_mem _ ht)) e.2 rr ht)
            rw [e.1]; exact kD_rep _
  exact key nts ek rs' hts
/-- dict(xs), xs a list of pairs -/
def mergeD (ks more : List (Key × D)) : List (Key × D) := more.foldl (fun acc kv => putKD acc kv.1 kv.2) ks
theorem merge_rep {K : PySem.W.Frag} {M : Addr → Prop} {H : Hp} : ∀ {more : List (Key × D)} {mv : List (Key × V)} {ks : List (Key × D)} {kv : List (Key × V)}, mv.map (·.1) = more.map (·.1) → Reps K M H (more.map (·.2)) (mv.map (·.2)) → kv.map (·.1) = ks.map (·.1) → Reps K M H (ks.map (·.2)) (kv.map (·.2)) →
    (mergeK kv mv).map (·.1) = (mergeD ks more).map (·.1) ∧ Reps K M H ((mergeD ks more).map (·.2)) ((mergeK kv mv).map (·.2))
  | [], [], _, _, _, _, e, r => ⟨e, r⟩
  | [], _ :: _, _, _, z, _, _, _ => by cases z
  | _ :: _, [], _, _, z, _, _, _ => by cases z
  | (k1, d1) :: more, (k2, v2) :: mv, ks, kv, z, rr, e, r => by
    simp only [List.map_cons, List.cons.injEq] at z
    obtain ⟨z1, z2⟩ := z
    subst z1
    cases rr with
    | cons r1 rr => exact merge_rep (ks := putKD ks k2 d1) (kv := putK kv k2 v2) z2 rr (putK_fst e) (putK_snd r1 e r)
theorem ca_dictP (hc : X.calm = true) : CallA X (.type "dict") fun ds m Q => ∃ d ks, ds = [d] ∧ IsL m d (ks.map fun p => .tup [kD p.1, p.2]) ∧ ∀ p, m p = none → Q (.ref p) (updM m p (.dic (mergeD [] ks))) := callA (call_dictP hc) fun ds m vs H Q hm rs ⟨d, ks, e, hl, q⟩ => by
  subst e
  cases rs with
  | cons r t =>
    cases t
    obtain ⟨c, us, ev, s, r2⟩ := hl.at hm r
    subst ev
    have key : ∀ {ks : List (Key × D)} {us : List V}, Reps X.K (dom m) H (ks.map fun p => .tup [kD p.1, p.2]) us → ∃ (ps : List Addr) (kvs : List (Key × V)), us = ps.map V.ref ∧ Paired (fun p kv => SqT X.K H p [kV kv.1, kv.2]) ps kvs ∧ kvs.map (·.1) = ks.map (·.1) ∧ Reps X.K (dom m) H (ks.map (·.2)) (kvs.map (·.2)) := by
      intro ks
      induction ks with
      | nil => intro us r; cases r; exact ⟨[], [], rfl, .nil, rfl, .nil⟩
      | cons k ks ih => intro us r; cases r with
        | cons r t =>
          obtain ⟨ps, kvs, e1, e2, e3, e4⟩ := ih t
          obtain ⟨a, vs, ea, sq, rr⟩ := IsT.im.at hm r
          cases rr with
          | cons rk rr => cases rr with
            | @cons _ v _ _ rv rr =>
              cases rr
              have ek : ∀ {v : V}, Rep X.K (dom m) H (kD k.1) v → v = kV k.1 := by
                intro v h
                cases hk : k.1 <;> rw [hk] at h <;> cases h <;> rfl
              rw [ek rk] at sq
              refine ⟨a :: ps, (k.1, v) :: kvs, by rw [ea, e1]; rfl, .cons sq e2, by simp [e3], .cons rv e4⟩
    obtain ⟨ps, kvs, e1, e2, e3, e4⟩ := key r2
    subst e1
    obtain ⟨m1, m2⟩ := merge_rep (ks := []) (kv := []) e3 e4 rfl .nil
    exact ⟨c, ps, kvs, rfl, s, e2, fun p n => Post.newM (u := .dic (mergeD [] ks)) hm n ⟨_, upd_same, m1, (Later.new n).reps m2⟩ q⟩
/-- xs.index(y), texts -/
theorem ma_indexS : MethA X "list.index" fun d ds m Q => ∃ (ss : List Str) (z : Str) (i : Nat), IsQ m d (ss.map D.str) ∧ IsL m d (ss.map D.str) ∧ ds = [.str z] ∧ ss[i]? = some z ∧ (∀ i', i' < i → ss[i']? ≠ some z) ∧ Q (.int (i : Nat)) m := methA mt_index fun d ds m x vs H Q hm rx rs ⟨ss, z, i, _, hl, e, hi, hno, q⟩ => by
  subst e
  cases rs with
  | cons r t =>
    cases t; cases r
    obtain ⟨c, us, ev, s, r2⟩ := hl.at hm rx
    rw [reps_strs r2] at s
    refine ⟨c, _, .str z, i, .str z, ev, rfl, s, rfl, by simp [flatV], by simp [hi], by simp [eqV], fun i' z' hi' hz' => ?_, .now hm .int q⟩
    rw [List.getElem?_map] at hz'
    cases h : ss[i']? with
    | none => rw [h] at hz'; cases hz'
    | some u =>
      rw [h] at hz'; cases hz'
      simp only [eqV]
      exact beq_eq_false_iff_ne.mpr fun eu => hno i' hi' (by rw [h, eu])
/-- c in s, c one sign -/
theorem oa_inSign : OpA X (compareOp .In) fun da db m Q => ∃ (c : Nat) (z : Str), da = .str ⟨#[c]⟩ ∧ db = .str z ∧ Q (.bl (decide (c ∈ z.cps.toList))) m := ⟨_, op_in_sign, fun da db x y m H Q hm ra rb ⟨c, z, e1, e2, q⟩ => by
  subst e1 e2; cases ra; cases rb; exact ⟨c, z, rfl, rfl, .now hm .bl q⟩⟩
theorem Reps.split {K : PySem.W.Frag} {M : Addr → Prop} {H : Hp} : ∀ {ds es : List D} {vs : List V}, Reps K M H (ds ++ es) vs → ∃ v1 v2, vs = v1 ++ v2 ∧ Reps K M H ds v1 ∧ Reps K M H es v2
  | [], _, vs, r => ⟨[], vs, rfl, .nil, r⟩
  | _ :: ds, es, _, .cons h t => by
    obtain ⟨v1, v2, e, r1, r2⟩ := Reps.split (ds := ds) t
    exact ⟨_ :: v1, v2, by rw [e]; rfl, .cons h r1, r2⟩
theorem cxup0 : StX.CXUp CX0 := fun _ _ _ _ _ _ _ _ _ _ _ h => h
/-- def f(a, .., *v): the tuple of what is left over -/
theorem afn_star {P : Program} {w : World} {K : PySem.W.Frag} {mg : Str → Option Value} {base : Heap} {qual : Str} {params : Arguments} {body : List Stmt} {scope : Scope} {dvs : List V} {kws : List (Str × V)} {N ps : List Str} {pv : Str} {fd : FuncData} (F : FunD K x qual params body scope dvs kws f fd) (S : FnScope N (ps ++ [pv]) scope)
    (hb : ∀ us rest : List Value, us.length = ps.length → bindArgs fd ⟨us ++ rest, []⟩ = (newTuple rest >>= fun t => pure (ps.zip us ++ [(pv, t)])))
    (h : ∀ X : Cx, XG P w K mg base X → XF X (fbOf N scope) k → X.xe = (fun _ _ => False) → X.env.scope = scope → ∀ ds m Q, asp ds m Q → ASs X body (startR N ds) m { nx := fun _ m' => Q .non m', rt := Q }) :
    AFn P w K mg base (k + 1) f (fun ds m Q => ∃ ws rest, ds = ws ++ rest ∧ ws.length = ps.length ∧ rest.length ≤ sizeLine ∧ asp (ws ++ [.tup rest]) m Q) := by
  obtain ⟨oc, od, dV, kV, doc, pm, an, cdv, ct, osl, rfl, lk, hcd, _, _⟩ := F.ex
  refine FnR.imp (StX.fn_star (sp := liftSp K asp) lk hcd S cxup0 hb fun A outer s H vs Q E hr ⟨ds, m, Q', hm, r, q, fin⟩ => ?_) fun vs H Q E ⟨ds, m, Q', hm, r, ⟨ws, rest, e, hl, hz, q⟩, fin⟩ => ?_
  · refine ⟨WSs (cxOf CX0 P w K mg base N qual scope f cdv A outer s H E).nox body, pssW.nox, ?_⟩
    refine WSs.mono ((h (cxOf CX0 P w K mg base N qual scope f cdv A outer s H E).nox ⟨rfl, rfl, rfl, rfl, rfl⟩ (xf_start S hr) rfl rfl ds m Q' q).run _ _ ⟨hm, startR_ok r⟩) ?_ ?_ ?_ ?_
    · rintro σ' H' ⟨ρ', m', hm', l, rs, q'⟩
      exact fin .non m' .non H' hm' l .non q'
    · rintro v H' ⟨d, m', hm', l, rd, q'⟩
      exact fin d m' v H' hm' l rd q'
    · rintro σ' H' ⟨ρ', m', hm', l, rs, q'⟩
      exact q'
    · rintro σ' H' ⟨ρ', m', hm', l, rs, q'⟩
      exact q'
  · subst e
    obtain ⟨v1, v2, ev, r1, r2⟩ := r.split
    subst ev
    refine ⟨v1, v2, rfl, by rw [← r1.length]; exact hl, by rw [← r2.length]; exact hz, fun p hp => ?_⟩
    have sm : Same H (upd H p (.tup v2)) := same_upd hp
    exact ⟨ws ++ [.tup rest], m, Q', hm.same sm, (r1.same sm).append (.cons (.tup (notdom hm hp) upd_same (r2.same sm)) .nil), q, fun d m' v H' a b c e => fin d m' v H' a ((Later.same sm).trans b) c e⟩
end
end Ab
/-! B5: bundles of facts; objects that change no more. -/
namespace Ab
open L2 PySem PySem.Spec PyProof.Rows
section
variable (P : Program) (w : World) (K : PySem.W.Frag) (mg : Str → Option Value) (base : Heap)
/-- a def that may be called by its name -/
structure Cal (j : Nat) (x : Str) (asp : ASp) : Prop where
  ex : ∃ f, AFn P w K mg base j f asp ∧ mg x = some (.ref f) ∧ PySem.W.keepIn K (.ref f) = true
/-- a class that is made by its name -/
structure Mkc (j : Nat) (x : Str) (C : Addr) (asp : ASp) : Prop where
  ex : ∃ f, Mk K C f ∧ AFn P w K mg base j f asp
  gl : mg x = some (.ref C)
structure Prp (j : Nat) (C : Addr) (nm : Str) (asp : ASp) : Prop where
  ex : ∃ pa f fd ps, Cls K C ∧ PropOf K C nm pa f ∧ AFd P w K mg base j f fd ps asp ∧ Binds K fd ps []
structure Mth (j : Nat) (C : Addr) (nm : Str) (asp : ASp) : Prop where
  ex : ∃ f, Cls K C ∧ Meth K C nm f ∧ AFn P w K mg base j f asp
structure Stm (j : Nat) (C : Addr) (nm : Str) (asp : ASp) : Prop where
  ex : ∃ mc p g, SMet K C mc nm p g ∧ AFn P w K mg base j g asp
structure Clm (j : Nat) (C : Addr) (nm : Str) (asp : ASp) : Prop where
  ex : ∃ mc p g, ClX.CRead K C mc ∧ ClX.CMet K C mc nm p g ∧ AFn P w K mg base j g asp
end
section
variable {X : Cx} {fb : FB} {k j : Nat} {ρ : Rho} {m : Mu} {e o : Expr} {es : List Expr} {x nm : Str} {p pos apos sp_ : Pos} {C : Addr} {asp : ASp} {Q : QD}
theorem AE.callC (c : Cal X.prog X.w X.K X.mg X.base j x asp) (hx : XF X fb k) (hj : j ≤ k) (hg : fb.glb x = true) (h : AA X (e :: es) ρ m fun ds m1 => asp ds m1 Q)
    (hdb : (x == ("__debug__" : Str)) = false := by decide +kernel) (he : starEach (e :: es) X.env = (false, eval e X.env) :: starEach es X.env := by rfl) (hpl : (backTo pos (starEach es X.env)).any (·.1) = false := by rfl) : AE X (.Call (.Name x p) (e :: es) [] pos) ρ m Q := by
  obtain ⟨f, F, gm, gk⟩ := c.ex
  exact AE.call F hx hj hg gm gk h hdb he hpl
theorem AE.callC0 (c : Cal X.prog X.w X.K X.mg X.base j x asp) (hx : XF X fb k) (hj : j ≤ k) (hg : fb.glb x = true) (h : asp [] m Q) (hdb : (x == ("__debug__" : Str)) = false := by decide +kernel) : AE X (.Call (.Name x p) [] [] pos) ρ m Q := by
  obtain ⟨f, F, gm, gk⟩ := c.ex
  exact AE.call0 F hx hj hg gm gk h hdb
theorem AE.mkC (c : Mkc X.prog X.w X.K X.mg X.base j x C asp) (hx : XF X fb k) (hj : j + 1 ≤ k) (hg : fb.glb x = true) (h : AA X (e :: es) ρ m fun ds m1 => ∀ a, m1 a = none → asp (.ref a :: ds) (updM m1 a (.ins C [])) fun d m2 => d = .non ∧ Q (.ref a) m2)
    (hdb : (x == ("__debug__" : Str)) = false := by decide +kernel) (he : starEach (e :: es) X.env = (false, eval e X.env) :: starEach es X.env := by rfl) (hpl : (backTo pos (starEach es X.env)).any (·.1) = false := by rfl) : AE X (.Call (.Name x p) (e :: es) [] pos) ρ m Q := by
  obtain ⟨f, M, F⟩ := c.ex
  exact AE.make M F hx hj hg c.gl h hdb he hpl
theorem AE.mkC0 (c : Mkc X.prog X.w X.K X.mg X.base j x C asp) (hx : XF X fb k) (hj : j + 1 ≤ k) (hg : fb.glb x = true) (h : ∀ a, m a = none → asp [.ref a] (updM m a (.ins C [])) fun d m2 => d = .non ∧ Q (.ref a) m2)
    (hdb : (x == ("__debug__" : Str)) = false := by decide +kernel) : AE X (.Call (.Name x p) [] [] pos) ρ m Q := by
  obtain ⟨f, M, F⟩ := c.ex
  exact AE.make0 M F hx hj hg c.gl h hdb
theorem AE.prp (c : Prp X.prog X.w X.K X.mg X.base j C nm asp) (hx : XF X fb k) (hj : j + 1 ≤ k) (h : AE X e ρ m fun d m1 => ∃ fs, IsI m1 d C fs ∧ asp [d] m1 Q) (hab : attributeBase e nm X.env (eval e X.env) = eval e X.env := by rfl) : AE X (.Attribute e nm pos) ρ m Q := by
  obtain ⟨pa, f, fd, ps, c1, c2, F, hb⟩ := c.ex
  exact AE.prop c1 c2 F hb hx hj h hab
theorem AE.mth {pl : Sem Bool} (c : Mth X.prog X.w X.K X.mg X.base j C nm asp) (hx : XF X fb k) (hj : j ≤ k)
    (h : AE X o ρ m fun d m1 => ∃ fs, IsI m1 d C fs ∧ fs.lookup nm = none ∧ AA X (e :: es) ρ m1 fun ds m2 => asp (d :: ds) m2 Q)
    (hst : starEach (e :: es) X.env = (false, eval e X.env) :: starEach es X.env := by rfl) (hpl : (backTo pos (starEach es X.env)).any (·.1) = false := by rfl)
    (ht : eval (.Call (.Attribute o nm apos) (e :: es) [] pos) X.env = (do let ov ← eval o X.env; standAt apos.atName; let (f, first) ← holding [ov] (getMethod ov nm pl); callWith pos f first (backTo pos (starEach (e :: es) X.env)) (backToKw pos (keywordEach [] X.env))) := by rfl) :
    AE X (.Call (.Attribute o nm apos) (e :: es) [] pos) ρ m Q := by
  obtain ⟨f, c1, c2, F⟩ := c.ex
  exact AE.meth c1 c2 F hx hj h hst hpl ht
theorem AE.mth0 {pl : Sem Bool} (c : Mth X.prog X.w X.K X.mg X.base j C nm asp) (hx : XF X fb k) (hj : j ≤ k) (h : AE X o ρ m fun d m1 => ∃ fs, IsI m1 d C fs ∧ fs.lookup nm = none ∧ asp [d] m1 Q)
    (ht : eval (.Call (.Attribute o nm apos) [] [] pos) X.env = (do let ov ← eval o X.env; standAt apos.atName; let (f, first) ← holding [ov] (getMethod ov nm pl); callWith pos f first (backTo pos (starEach [] X.env)) (backToKw pos (keywordEach [] X.env))) := by rfl) :
    AE X (.Call (.Attribute o nm apos) [] [] pos) ρ m Q := by
  obtain ⟨f, c1, c2, F⟩ := c.ex
  exact AE.meth0 c1 c2 F hx hj h ht
theorem AE.stm {pl : Sem Bool} (c : Stm X.prog X.w X.K X.mg X.base j C nm asp) (hx : XF X fb k) (hj : j ≤ k)
    (h : AE X o ρ m fun d m1 => d = .ref C ∧ AA X (e :: es) ρ m1 fun ds m2 => asp ds m2 Q)
    (hst : starEach (e :: es) X.env = (false, eval e X.env) :: starEach es X.env := by rfl) (hpl : (backTo pos (starEach es X.env)).any (·.1) = false := by rfl)
    (ht : eval (.Call (.Attribute o nm apos) (e :: es) [] pos) X.env = (do let ov ← eval o X.env; standAt apos.atName; let (f, first) ← holding [ov] (getMethod ov nm pl); callWith pos f first (backTo pos (starEach (e :: es) X.env)) (backToKw pos (keywordEach [] X.env))) := by rfl) :
    AE X (.Call (.Attribute o nm apos) (e :: es) [] pos) ρ m Q := by
  obtain ⟨mc, pp, g, c1, F⟩ := c.ex
  exact AE.sm c1 F hx hj h hst hpl ht
theorem AE.clm {pl : Sem Bool} (c : Clm X.prog X.w X.K X.mg X.base j C nm asp) (hx : XF X fb k) (hj : j ≤ k)
    (h : AE X o ρ m fun d m1 => d = .ref C ∧ AA X (e :: es) ρ m1 fun ds m2 => asp (.ref C :: ds) m2 Q)
    (hst : starEach (e :: es) X.env = (false, eval e X.env) :: starEach es X.env := by rfl) (hpl : (backTo pos (starEach es X.env)).any (·.1) = false := by rfl)
    (ht : eval (.Call (.Attribute o nm apos) (e :: es) [] pos) X.env = (do let ov ← eval o X.env; standAt apos.atName; let (f, first) ← holding [ov] (getMethod ov nm pl); callWith pos f first (backTo pos (starEach (e :: es) X.env)) (backToKw pos (keywordEach [] X.env))) := by rfl) :
    AE X (.Call (.Attribute o nm apos) (e :: es) [] pos) ρ m Q := by
  obtain ⟨mc, pp, g, c1, c2, F⟩ := c.ex
  exact AE.cm c1 c2 F hx hj h hst hpl ht
end
/-! ### the store -/
theorem updM_comm {m : Mu} {a b : Addr} {o u : MO} (h : a ≠ b) : updM (updM m a o) b u = updM (updM m b u) a o := by
  funext c; unfold updM
  by_cases h1 : c = a
  · subst h1; rw [if_neg h, if_pos rfl, if_pos rfl]
  · by_cases h2 : c = b
    · subst h2; rw [if_pos rfl, if_neg h1, if_pos rfl]
    · rw [if_neg h2, if_neg h1, if_neg h1, if_neg h2]
theorem updM_id {m : Mu} {a : Addr} {o : MO} (h : m a = some o) : updM m a o = m := by
  funext c; unfold updM; split
  · rename_i e; rw [e, h]
  · rfl
theorem delM_updM2 {m : Mu} {a b : Addr} {o : MO} (h : a ≠ b) : delM (updM m b o) a = updM (delM m a) b o := by
  funext c
  show (if c = a then none else if c = b then some o else m c) = (if c = b then some o else if c = a then none else m c)
  by_cases h1 : c = a
  · subst h1; rw [if_pos rfl, if_neg h, if_pos rfl]
  · rw [if_neg h1, if_neg h1]
theorem delM_id {m : Mu} {a : Addr} (h : m a = none) : delM m a = m := by
  funext c; unfold delM; split
  · rename_i e; rw [e, h]
  · rfl
theorem updM_none {m : Mu} {a b : Addr} {o : MO} (h : updM m a o b = none) : b ≠ a ∧ m b = none := by
  unfold updM at h
  by_cases e : b = a
  · rw [if_pos e] at h; cases h
  · rw [if_neg e] at h; exact ⟨e, h⟩
/-! ### what changes no more -/
def imD : MO → D
  | .lst ds => .lst ds
  | .dic ks => .dic ks
  | .ins C fs => .ins C fs
theorem MOk.im {K : PySem.W.Frag} {m : Mu} {H : Hp} {a : Addr} {o : MO} (h : MOk K (dom m) H a o) : Rep K (dom (delM m a)) H (imD o) (.ref a) := by
  cases o with
  | lst ds => obtain ⟨vs, z, r⟩ := h; exact .lst nodel (.inl z) (Later.del.reps r)
  | dic ks => obtain ⟨vs, z, e, r⟩ := h; exact .dic nodel z e (Later.del.reps r)
  | ins C fs => obtain ⟨dx, gs, z, e, r⟩ := h; exact .ins nodel z e (Later.del.reps r)
/-- d in the store m is d' in the store m' -/
def VW (K : PySem.W.Frag) (m m' : Mu) (d d' : D) : Prop := ∀ H v, HM K m H → Rep K (dom m) H d v → HM K m' H ∧ Later m H m' H ∧ Rep K (dom m') H d' v
section
variable {K : PySem.W.Frag} {m m' m2 : Mu} {d d' d2 : D} {a b C : Addr} {fs : List (Str × D)} {f : Str} {u : MO}
theorem VW.refl : VW K m m d d := fun H v h r => ⟨h, Later.refl, r⟩
theorem VW.trans (x : VW K m m' d d') (y : VW K m' m2 d' d2) : VW K m m2 d d2 := fun H v h r =>
  let ⟨h1, l1, r1⟩ := x H v h r
  let ⟨h2, l2, r2⟩ := y H v h1 r1
  ⟨h2, l1.trans l2, r2⟩
theorem VW.frz (h : m a = some u) : VW K m (delM m a) (.ref a) (imD u) := fun H v hm r => by
  cases r
  exact ⟨hm.del, Later.del, (hm _ _ h).im⟩
theorem putD_rep {M : Addr → Prop} {H : Hp} : ∀ {fs : List (Str × D)} {gs : List (Str × V)}, gs.map (·.1) = fs.map (·.1) → Reps K M H (fs.map (·.2)) (gs.map (·.2)) → (∃ d1, fs.lookup f = some d1 ∧ ∀ v, Rep K M H d1 v → Rep K M H d' v) → gs.map (·.1) = (putD f d' fs).map (·.1) ∧ Reps K M H ((putD f d' fs).map (·.2)) (gs.map (·.2))
  | [], _, _, _, ⟨_, e, _⟩ => by cases e
  | _ :: _, [], e, _, _ => by cases e
  | (g, u) :: fs, (g', v) :: gs, e, r, ⟨d1, l, w⟩ => by
    simp only [List.map_cons, List.cons.injEq] at e
    cases r with
    | cons r t =>
      unfold putD
      by_cases h : g = f
      · subst h
        rw [List.lookup_cons_self] at l; cases l
        rw [if_pos rfl]
        exact ⟨by simp [e], .cons (w _ r) t⟩
      · rw [if_neg h]
        have l' : fs.lookup f = some d1 := by
          rw [List.lookup_cons] at l
          have : (f == g) = false := by simpa using fun z : f = g => h z.symm
          rw [this] at l; exact l
        obtain ⟨h1, h2⟩ := putD_rep e.2 t ⟨d1, l', w⟩
        exact ⟨by simp [e.1, h1], .cons r h2⟩
theorem dom_write {o : MO} (d : dom m a) : ∀ c, dom (updM m a o) c ↔ dom m c := fun c => by
  rw [dom_upd]; exact ⟨fun z => z.elim (fun e => e ▸ d) id, .inr⟩
/-- a field's object changes no more -/
theorem VW.inn (h : m a = some (.ins C fs)) (l : fs.lookup f = some (.ref b)) (hb : m b = some u) (ne : a ≠ b) : VW K m (updM (delM m b) a (.ins C (putD f (imD u) fs))) d d := fun H v hm r => by
  have h1 := hm.del (a := b)
  have l1 : Later m H (delM m b) H := Later.del
  have ha : delM m b a = some (.ins C fs) := by unfold delM; rw [if_neg ne]; exact h
  have da : dom (delM m b) a := by unfold dom; rw [ha]; simp
  obtain ⟨dx, gs, z, e, rr⟩ := h1 _ _ ha
  have ib := (hm _ _ hb).im
  have l2 : Later (delM m b) H (updM (delM m b) a (.ins C (putD f (imD u) fs))) H := fun c o n e => ⟨e, fun z => n ((dom_write da c).mp z)⟩
  obtain ⟨p1, p2⟩ := putD_rep e rr ⟨_, l, fun v r => by cases r; exact ib⟩
  refine ⟨fun c o ec => ?_, l1.trans l2, l2.rep (l1.rep r)⟩
  by_cases hc : c = a
  · subst hc
    rw [updM_same] at ec; cases ec
    exact ⟨dx, gs, z, p1, l2.reps p2⟩
  · rw [updM_ne hc] at ec
    exact (h1 c o ec).later l2 rfl
end
section
variable {X : Cx} {ρ : Rho} {m m' : Mu} {e : Expr} {Q : QD} {sts : List Stmt}
theorem AE.vw (h : AE X e ρ m fun d m1 => ∃ d' m2, VW X.K m1 m2 d d' ∧ Q d' m2) : AE X e ρ m Q := .mk fun σ H S =>
  (h σ H S).mono fun v H1 ⟨d, m1, hm1, l1, r1, d', m2, w, q⟩ =>
    let ⟨h2, l2, r2⟩ := w _ _ hm1 r1
    ⟨d', m2, h2, l1.trans l2, r2, q⟩
theorem ASs.vw {D' : AEnds} (w : VW X.K m m' .non .non) (h : ASs X sts ρ m' D') : ASs X sts ρ m D' := .mk fun σ H S => by
  obtain ⟨h2, l2, _⟩ := w _ _ S.hm .non
  exact WSs.from l2 (h σ H (S.later h2 l2))
end
/-! ### enumerate -/
def enumD : Nat → List D → List D
  | _, [] => []
  | n, d :: ds => .tup [.int (n : Int), d] :: enumD (n + 1) ds
theorem enumD_get : ∀ {ds : List D} {n i : Nat}, (enumD n ds)[i]? = (ds[i]?).map fun d => D.tup [.int ((n + i : Nat) : Int), d]
  | [], _, _ => by simp [enumD]
  | _ :: _, n, 0 => by simp [enumD]
  | _ :: ds, n, i + 1 => by
    rw [enumD, List.getElem?_cons_succ, List.getElem?_cons_succ, enumD_get, show n + 1 + i = n + (i + 1) by omega]
theorem AI.enum {X : Cx} {fb : FB} {k : Nat} {ρ : Rho} {m : Mu} {e : Expr} {elts : List Expr} {kk : Nat} {p pos tpos : Pos} {R : List D → (Mu → Prop) → Mu → Prop} (hx : XF X fb k) (hg : fb.glb "enumerate" = true) (hm : X.mg "enumerate" = none)
    (h : AE X e ρ m fun d m1 => ∃ ds, IsL m1 d ds ∧ R (enumD 0 ds) (fun m2 => IsL m2 d ds) m1) (hs : starEach [e] X.env = [(false, eval e X.env)] := by rfl) (hs1 : starEach (e :: []) X.env = (false, eval e X.env) :: starEach [] X.env := by rfl) :
    AI X (.Tuple elts kk tpos) (.Call (.Name "enumerate" p) [e] [] pos) ρ m R := .mk fun σ H S => by
  refine WI.of (pi_enum (hx.glb _ hg) hm paW hs) ?_
  refine WA.mono (X := X) ((AA.cons (Q := fun ds m1 => ∃ d, ∃ es, ds = [d] ∧ IsL m1 d es ∧ R (enumD 0 es) (fun m2 => IsL m2 d es) m1) (h.imp fun d m1 ⟨es, hi, q⟩ => AA.nil ⟨d, es, rfl, hi, q⟩) hs1) σ H S) ?_
  rintro vs H1 ⟨ds, m1, hm1, l1, r1, d, es, e, hi, q⟩
  subst e
  cases r1 with
  | cons r t =>
    cases t
    obtain ⟨a, us, ev, sq, rs⟩ := hi.at hm1 r
    subst ev
    refine ⟨a, us, rfl, sq, enumD 0 es, _, m1, hm1, l1, fun i m2 H2 hm2 l2 hi2 => ⟨fun x hx => ?_, fun hl => ?_⟩, q⟩
    · obtain ⟨a', us', e', sq', rs'⟩ := hi2.at hm2 (l2.rep r)
      cases e'
      rw [enumD_get] at hx
      cases hd : es[i]? with
      | none => rw [hd] at hx; cases hx
      | some d' =>
        rw [hd] at hx; cases hx
        obtain ⟨u, hu, ru⟩ := rs'.get hd
        refine ⟨⟨us', u, sq', hu⟩, fun y H' hy => ?_⟩
        obtain ⟨T, x', eT, hT, eH, hy⟩ := hy
        have e2 := hy us' sq'
        rw [hu] at e2; cases e2
        subst eT eH
        have sm : Same H2 (upd H2 T (.tup [.int (i : Nat), u])) := same_upd hT
        refine ⟨hm2.same sm, Later.same sm, .tup (notdom hm2 hT) upd_same (.cons ?_ (.cons ((Later.same sm).rep ru) .nil))⟩
        rw [Nat.zero_add]; exact .int
    · obtain ⟨a', us', e', sq', rs'⟩ := hi2.at hm2 (l2.rep r)
      cases e'
      refine ⟨us', sq', ?_⟩
      rw [← rs'.length]
      have : ∀ {ds : List D} {n : Nat}, (enumD n ds).length = ds.length := by
        intro ds
        induction ds with
        | nil => intro n; rfl
        | cons d ds ih => intro n; simp [enumD, ih]
      rw [this] at hl
      exact hl
end Ab
/-! B6: comprehensions and loops over data, ready to use. -/
namespace Ab
open L2 PySem PySem.Spec PyProof.Rows
section
variable {X : Cx} {fb : FB} {k j : Nat} {ρ : Rho} {m : Mu} {e o elt iter kx vx tg : Expr} {ifs : List Expr} {scope sc : Scope} {es : List Expr} {x y nm : Str} {p pos apos px py spos : Pos} {C : Addr} {Q : QD} {i : Nat}
theorem ext_trans {m m' m'' : Mu} (a : Ext m m') (b : Ext m' m'') : Ext m m'' := fun c o e => b c o (a c o e)
/-- what a comprehension without effects needs: of each item of xs, kept as sel says -/
def LcT (X : Cx) (scope : Scope) (ifs : List Expr) (elt : Expr) (is : List Nat) (set : D → Rho → Rho → Prop) {α : Type} (f : α → D) (xs : List α) (sel : α → Option D) (ρ : Rho) (m : Mu) : Prop :=
  ∀ x, x ∈ xs → ∀ m', Ext m m' → ∃ ρ2, set (f x) (wipeR ρ is) ρ2 ∧ ABT X scope ifs ρ2 m' fun b m3 => m3 = m' ∧ (b = true → ABE X scope elt ρ2 m' fun r m4 => m4 = m' ∧ sel x = some r) ∧ (b = false → sel x = none)
/-- [elt for x in iter if ..], no effects, the result as data -/
theorem AE.lcP {α : Type} (f : α → D) (hx : XF X fb k) (hsc : X.env.scope = sc) (hN : Nth fb.N i x) (ho : ownB scope x = true)
    (h : AI X (.Name x px) iter ρ m fun ds G m1 => ∃ (xs : List α) (sel : α → Option D), ds = xs.map f ∧ xs.length < sizeLine ∧ (∀ m', Ext m1 m' → G m') ∧ LcT X scope ifs elt [i] (SetR i) f xs sel ρ m1 ∧ Q (.lst (xs.filterMap sel)) m1)
    (hb : blkC fb.N sc scope [(x, i)] = true := by decide +kernel) (hs : ∀ x, foldedSetIterable iter X.env x = pure x := by intro _; rfl) : AE X (.ListComp elt [⟨.Name x px, iter, ifs, 0⟩] scope pos) ρ m Q :=
  AE.frz (AE.lcM (own := [(x, i)]) hx (by rw [hx.nN, hsc]; exact blkOk_by hb) (ctg_name hx hN ho) (.mk fun σ H S => WI.mono (X := X) (h σ H S) fun J H' ⟨ds, G, m1, hm, l, jk, xs, sel, e, hz, hG, ht, q⟩ => ⟨ds, G, m1, hm, l, jk, by
    subst e
    refine lcPure (gr := fun d ρ m Q => ∃ ρ', SetR i d ρ ρ' ∧ Q ρ') (own := [(x, i)]) (R := fun out mj a => ∃ a' ds', D.ref a = .ref a' ∧ updM mj a (.lst out) a' = some (.lst ds') ∧ Q (.lst ds') (delM (updM mj a (.lst out)) a')) sel hz hG (fun y hy m' hm' => ht y hy m' hm') (fun d ρ m' Q Q' w ⟨ρ', e, q⟩ => ⟨ρ', e, w _ q⟩) (fun a na => ⟨a, _, rfl, updM_same, ?_⟩)
    rw [delM_updM na]; exact q⟩) hs)
/-- y = [..] where the name is local: the result as data -/
theorem AS.setLcP {α : Type} {D' : AEnds} {v : Nat} (f : α → D) (hx : XF X fb k) (hsc : X.env.scope = sc) (hN : Nth fb.N i x) (ho : ownB scope x = true) (hy : Nth fb.N v y) (hl : sc.names.lookup y = some .local)
    (hsw : swapsWith (.ListComp elt [⟨.Name x px, iter, ifs, 0⟩] scope pos) (some (.Name y py)) spos.line X.env = pure true)
    (h : AI X (.Name x px) iter ρ m fun ds G m1 => ∃ (xs : List α) (sel : α → Option D), ds = xs.map f ∧ xs.length < sizeLine ∧ (∀ m', Ext m1 m' → G m') ∧ LcT X scope ifs elt [i] (SetR i) f xs sel ρ m1 ∧ ∃ ρ', SetR v (.lst (xs.filterMap sel)) ρ ρ' ∧ D'.nx ρ' m1)
    (hb : blkC fb.N sc scope [(x, i)] = true := by decide +kernel) (hs : ∀ x, foldedSetIterable iter X.env x = pure x := by intro _; rfl) : AS X (.Assign [.Name y py] (.ListComp elt [⟨.Name x px, iter, ifs, 0⟩] scope pos) spos) ρ m D' := .mk fun σ H S => by
  refine WS.of (ps_setLc hx.calm hx.nd (by rw [hx.nN]; exact hy.at) (by rw [hsc]; exact hl) hsw piW (by rw [hx.nN, hsc]; exact blkOk_by hb) (ctg_name (scope := scope) (pos := px) hx hN ho).pg (fun _ _ _ _ _ => ptB) (fun _ _ _ _ _ => peB) hs) ?_
  refine lc_at (Q := fun d m1 => ∃ a ds, d = .ref a ∧ m1 a = some (.lst ds) ∧ ∃ ρ', SetR v (.lst ds) ρ ρ' ∧ D'.nx ρ' (delM m1 a)) (ctg_name (scope := scope) (pos := px) hx hN ho) (.mk fun σ H S => WI.mono (X := X) (h σ H S) fun J H' ⟨ds, G, m1, hm, l, jk, xs, sel, e, hz, hG, ht, q⟩ => ⟨ds, G, m1, hm, l, jk, ?_⟩) S ?_
  · subst e
    refine lcPure (gr := fun d ρ m Q => ∃ ρ', SetR i d ρ ρ' ∧ Q ρ') (own := [(x, i)]) (R := fun out mj a => ∃ a' ds', D.ref a = .ref a' ∧ updM mj a (.lst out) a' = some (.lst ds') ∧ ∃ ρ', SetR v (.lst ds') ρ ρ' ∧ D'.nx ρ' (delM (updM mj a (.lst out)) a')) sel hz hG (fun y hy m' hm' => ht y hy m' hm') (fun d ρ m' Q Q' w ⟨ρ', e, q⟩ => ⟨ρ', e, w _ q⟩) (fun a na => ⟨a, _, rfl, updM_same, ?_⟩)
    rw [delM_updM na]; exact q
  · rintro v' H' ⟨d, m1, hm1, l1, r1, a, ds, e1, e2, ρ', st, q⟩
    subst e1
    cases r1
    obtain ⟨vs, z, r⟩ := hm1 _ _ e2
    have l2 : Later m1 H' (delM m1 a) H' := Later.del
    rw [st.eq] at q
    exact ⟨_, delM m1 a, hm1.del, l1.trans l2, (S.rs.later (l1.trans l2)).set v (.lst nodel (.inl z) (l2.reps r)), q⟩
/-- for over data: the invariant by what has been taken -/
theorem AS.forT {α : Type} {body : List Stmt} {D' : AEnds} (f : α → D) (hxe : X.xe = fun _ _ => False) (hx : XF X fb k)
    (h : AI X tg iter ρ m fun ds G m1 => ∃ (xs : List α) (I : List α → Rho → Mu → Prop), ds = xs.map f ∧ I [] ρ m1 ∧ (∀ pre ρ' m', I pre ρ' m' → G m') ∧
      (∀ pre x post ρ' m', xs = pre ++ x :: post → I pre ρ' m' → AG X tg (f x) ρ' m' fun ρ2 m2 => ASs X body ρ2 m2 { D' with nx := I (pre ++ [x]), ct := I (pre ++ [x]), bk := D'.nx }) ∧ ∀ ρ' m', I xs ρ' m' → D'.nx ρ' m')
    (hs : ∀ x, foldedSetIterable iter X.env x = pure x := by intro _; rfl) : AS X (.For tg iter body [] pos) ρ m D' :=
  AS.for (by rw [hxe]; exact PassesOwn.never) hx (.mk fun σ H S => WI.mono (X := X) (h σ H S) fun J H' ⟨ds, G, m1, hm, l, jk, xs, I, e, i0, iG, turn, fin⟩ => ⟨ds, G, m1, hm, l, jk, by
    subst e
    exact forL I i0 iG turn fin⟩) hs
/-- {kx: vx for x in iter}, no effects, the result as data -/
theorem AE.dcP {α : Type} (f : α → D) (hx : XF X fb k) (hsc : X.env.scope = sc) (hN : Nth fb.N i x) (ho : ownB scope x = true)
    (h : AI X (.Name x px) iter ρ m fun ds G m1 => ∃ (xs : List α) (sel : α → Key × D), ds = xs.map f ∧ xs.length < sizeLine ∧ (∀ m', Ext m1 m' → G m') ∧ (∀ x, x ∈ xs → ∀ m', Ext m1 m' → ∃ ρ2, SetR i (f x) (wipeR ρ [i]) ρ2 ∧ ABE X scope kx ρ2 m' fun dk m3 => m3 = m' ∧ keyD dk = some (sel x).1 ∧ ABE X scope vx ρ2 m' fun r m4 => m4 = m' ∧ r = (sel x).2) ∧ Q (.dic (mergeD [] (xs.map sel))) m1)
    (hb : blkC fb.N sc scope [(x, i)] = true := by decide +kernel) (hs : ∀ x, foldedSetIterable iter X.env x = pure x := by intro _; rfl) : AE X (.DictComp kx vx [⟨.Name x px, iter, [], 0⟩] scope pos) ρ m Q := by
  refine AE.frzD (AE.dcM (own := [(x, i)]) hx (by rw [hx.nN, hsc]; exact blkOk_by hb) (ctg_name hx hN ho) (.mk fun σ H S => WI.mono (X := X) (h σ H S) fun J H' ⟨ds, G, m1, hm, l, jk, xs, sel, e, hz, hG, ht, q⟩ => ⟨ds, G, m1, hm, l, jk, ?_⟩) hs)
  subst e
  have ml : ∀ (ys ks : List (Key × D)), (mergeD ks ys).length ≤ ks.length + ys.length := by
    intro ys
    induction ys with
    | nil => intro ks; exact Nat.le_refl _
    | cons y ys ih =>
      intro ks
      refine Nat.le_trans (ih _) ?_
      have : (putKD ks y.1 y.2).length ≤ ks.length + 1 := by unfold putKD; split <;> simp
      simp only [List.length_cons]; omega
  refine ⟨fun n out mi => mi = m1 ∧ out = mergeD [] ((xs.take n).map sel), ⟨rfl, rfl⟩, fun n out mi a o ⟨e, _⟩ na => hG _ (by subst e; exact ext_upd na), fun n d out mi a hd ⟨e, eo⟩ na => ?_, fun out mj a na ⟨e, eo⟩ => ⟨a, _, rfl, updM_same, ?_⟩⟩
  · subst e
    rw [List.getElem?_map] at hd
    cases hxn : xs[n]? with
    | none => rw [hxn] at hd; cases hd
    | some u =>
      rw [hxn] at hd; cases hd
      obtain ⟨ρ2, st, hk⟩ := ht u (List.mem_of_getElem? hxn) _ (ext_upd na)
      refine ⟨ρ2, st, fun _ => ?_, fun e => nomatch e⟩
      refine fun s H C cl fp => (hk s H C cl fp).imp fun dk m4 ⟨e4, ek, hv⟩ => ?_
      subst e4
      refine fun s H C cl fp => (hv s H C cl fp).imp fun r m5 ⟨e5, er⟩ => ?_
      subst e5 er
      refine ⟨_, ek, ?_, mi, rfl, na, rfl, ?_⟩
      · rw [eo]
        refine Nat.lt_of_le_of_lt (ml _ _) (Nat.lt_of_le_of_lt ?_ hz)
        simp [Nat.min_le_right]
      · rw [List.take_succ, hxn, eo]
        simp [mergeD, List.foldl_append]
  · subst e
    rw [List.length_map, List.take_length] at eo
    subst eo
    rw [delM_updM na]; exact q
theorem blk_sc {s : Shared} {H : Hp} {cl : List (Str × Addr)} {fp : List Addr} (h : X.env.scope = sc) : (X.blk s H scope (compEnvC scope cl C X.env) fp).env.scope = relS scope sc := by rw [← h]; rfl
theorem AT.call {Q : Bool → Mu → Prop} (h : AE X e ρ m fun d m1 => ∃ c, d = .bl c ∧ Q c m1) (he : ∀ whole, isTrue e X.env whole = (do let v ← whole; standAt e.pos; holding [v] (truthy v)) := by intro _; rfl) : AT X e ρ m Q := AT.val h he
theorem ABE.of (hx : XF X fb k) (hs : X.env.scope = sc) (h : ∀ (s : Shared) (H : Hp) (C : Addr) (cl : List (Str × Addr)) (fp : List Addr), XF (X.blk s H scope (compEnvC scope cl C X.env) fp) (fbBlk fb scope sc) k → (X.blk s H scope (compEnvC scope cl C X.env) fp).env.scope = relS scope sc → AE (X.blk s H scope (compEnvC scope cl C X.env) fp) e ρ m Q) : ABE X scope e ρ m Q :=
  fun s H C cl fp => h s H C cl fp (xf_blk hx hs) (blk_sc hs)
theorem ABT.of {Q : Bool → Mu → Prop} (hx : XF X fb k) (hs : X.env.scope = sc) (h : ∀ (s : Shared) (H : Hp) (C : Addr) (cl : List (Str × Addr)) (fp : List Addr), XF (X.blk s H scope (compEnvC scope cl C X.env) fp) (fbBlk fb scope sc) k → (X.blk s H scope (compEnvC scope cl C X.env) fp).env.scope = relS scope sc → AT (X.blk s H scope (compEnvC scope cl C X.env) fp) e ρ m Q) : ABT X scope [e] ρ m Q :=
  fun s H C cl fp => h s H C cl fp (xf_blk hx hs) (blk_sc hs)
end
end Ab
/-! B7: small things. -/
namespace Ab
open L2 PySem PySem.Spec PyProof.Rows
theorem strs_ext {x y : Str} (h : x.cps.toList = y.cps.toList) : x = y := by
  cases x; cases y; simp at h; cases h; rfl
theorem rising_pw : ∀ (l : List Str) (p : Str), risingS p l = true → (∀ y ∈ l, p.cps.toList ≤ y.cps.toList) ∧ l.Pairwise (fun a b => a.cps.toList ≤ b.cps.toList)
  | [], _, _ => ⟨fun _ h => by simp at h, .nil⟩
  | x :: r, p, h => by
    unfold risingS at h
    rw [Bool.and_eq_true] at h
    have h1 : p.cps.toList ≤ x.cps.toList := by
      have := h.1
      rw [ltCps_eq] at this
      simpa using this
    obtain ⟨a, b⟩ := rising_pw r x h.2
    refine ⟨fun y hy => ?_, List.pairwise_cons.mpr ⟨a, b⟩⟩
    rcases List.mem_cons.mp hy with rfl | hy
    · exact h1
    · exact List.le_trans h1 (a y hy)
theorem sorted_pw {l : List Str} (h : sortedS l = true) : l.Pairwise (fun a b => a.cps.toList ≤ b.cps.toList) := by
  cases l with
  | nil => exact .nil
  | cons x r => obtain ⟨a, b⟩ := rising_pw r x h; exact List.pairwise_cons.mpr ⟨a, b⟩
theorem sortedS_unique {ys zs : List Str} (h : ys.Perm zs) (h1 : sortedS ys = true) (h2 : sortedS zs = true) : ys = zs :=
  List.Perm.eq_of_pairwise (fun a b _ _ x y => strs_ext (List.le_antisymm x y)) (sorted_pw h1) (sorted_pw h2) h
theorem sortedI_unique {ys zs : List Int} (h : ys.Perm zs) (h1 : ys.Pairwise (· ≤ ·)) (h2 : zs.Pairwise (· ≤ ·)) : ys = zs :=
  List.Perm.eq_of_pairwise (fun a b _ _ x y => Int.le_antisymm x y) h1 h2 h
theorem putKD_new {ks : List (Key × D)} {k : Key} {d : D} (h : k ∉ ks.map (·.1)) : putKD ks k d = ks ++ [(k, d)] := by
  unfold putKD
  rw [if_neg]
  intro z
  rw [List.any_eq_true] at z
  obtain ⟨u, hu, e⟩ := z
  exact h (List.mem_map.mpr ⟨u, hu, by simpa using e⟩)
theorem mergeD_new : ∀ {xs ks : List (Key × D)}, ((ks ++ xs).map (·.1)).Nodup → mergeD ks xs = ks ++ xs
  | [], ks, _ => by simp [mergeD]
  | (k, d) :: xs, ks, h => by
    have hk : k ∉ ks.map (·.1) := by
      intro z
      rw [List.map_append, List.nodup_append] at h
      exact h.2.2 k z k (by simp) rfl
    show mergeD (putKD ks k d) xs = _
    rw [putKD_new hk, mergeD_new (by rw [List.append_assoc]; exact h), List.append_assoc]; rfl
theorem cutD_take {α : Type} (f : α → D) (xs : List α) {n : Nat} (h : n ≤ xs.length) : cutD (xs.map f) none (some (n : Int)) = (xs.take n).map f := by
  unfold cutD
  rw [HT.sIx_none, HT.sIx_nat, List.length_map, List.drop_zero, Nat.sub_zero, Nat.min_eq_left h, List.map_take]
theorem cutD_drop {α : Type} (f : α → D) (xs : List α) {n : Nat} (h : n ≤ xs.length) : cutD (xs.map f) (some (n : Int)) none = (xs.drop n).map f := by
  unfold cutD
  rw [HT.sIx_none, HT.sIx_nat, List.length_map, Nat.min_eq_left h, List.take_of_length_le (by simp), List.map_drop]
section
variable {K : PySem.W.Frag} {m : Mu} {d : D} {a : Addr}
theorem VW.drop : VW K m (delM m a) d d := fun H v hm r => ⟨hm.del, Later.del, Later.del.rep r⟩
end
section
variable {X : Cx} {fb : FB} {k j n : Nat} {ρ : Rho} {m : Mu} {a e : Expr} {es : List Expr} {kws : List Keyword} {x : Str} {p pos : Pos} {C : Addr} {Q : QD} {asp : ASp} {ks : List Str}
theorem AO.no {Q : Option Int → Mu → Prop} (q : Q none m) : AO X none ρ m Q := q
theorem AO.at {Q : Option Int → Mu → Prop} (h : AE X e ρ m fun d m1 => ∃ i : Int, d = .int i ∧ Q (some i) m1) : AO X (some e) ρ m Q := h
theorem AE.neg (h : AE X a ρ m fun d m1 => ∃ i : Int, d = .int i ∧ Q (.int (-i)) m1) : AE X (.UnaryOp .USub a pos) ρ m Q := .mk fun σ H S =>
  WE.of (pe_un un_neg peW) ((h σ H S).mono fun v H1 ⟨d, m1, hm1, l1, r1, i, e, q⟩ => by
    subst e
    cases r1
    exact ⟨i, rfl, (Post.now hm1 .int q).from l1⟩)
/-- a class that is made by its name with keywords -/
structure Mkk (P : Program) (w : World) (K : PySem.W.Frag) (mg : Str → Option Value) (base : Heap) (j n : Nat) (ks : List Str) (x : Str) (C : Addr) (asp : ASp) : Prop where
  ex : ∃ f fd ps, ∃ g : List Value → List Value → List Value, Mk K C f ∧ AFd P w K mg base j f fd ps asp ∧ KBn K fd ps (n + 1) ks g (fun vs zs => vs ++ zs)
  gl : mg x = some (.ref C)
theorem AE.mkk (c : Mkk X.prog X.w X.K X.mg X.base j n ks x C asp) (hx : XF X fb k) (hj : j + 1 ≤ k) (hg : fb.glb x = true)
    (h : AA X (e :: es) ρ m fun ds m1 => AK X kws ρ m1 fun zs m2 => ds.length = n ∧ zs.length = ks.length ∧ ∀ a, m2 a = none → asp (.ref a :: (ds ++ zs)) (updM m2 a (.ins C [])) fun d m3 => d = .non ∧ Q (.ref a) m3)
    (hall : (backToKw pos (keywordEach kws X.env)).all (·.1.isSome) = true := by rfl) (hks : (backToKw pos (keywordEach kws X.env)).filterMap (·.1) = ks := by rfl) (hdb : (x == ("__debug__" : Str)) = false := by decide +kernel)
    (he : starEach (e :: es) X.env = (false, eval e X.env) :: starEach es X.env := by rfl) (hpl : ((backTo pos (starEach (e :: es) X.env)).any (·.1) || (backToKw pos (keywordEach kws X.env)).any (·.1.isNone)) = false := by rfl) : AE X (.Call (.Name x p) (e :: es) kws pos) ρ m Q := by
  obtain ⟨f, fd, ps, g, M, F, hb⟩ := c.ex
  exact AE.makeK M F hx hj hg c.gl hb h hall hks hdb he hpl
end
end Ab
/-! B8: the head's facts, functions behind properties, staticmethods and classmethods too. -/
namespace Ab
open PySem PySem.Spec PyProof.Rows L2 He
open He5 (wf wrapB wrapB_ok)
/-- where a function stands -/
inductive Loc where
  | glo (x : Str) | meth (C m : Str) | prop (C m : Str) | stat (C m : Str) | clsm (C m : Str)
def Loc.ad (K : PySem.W.Frag) : Loc → Addr
  | .glo x => ga K x
  | .meth C m => ma K (ga K C) m
  | .prop C m => wf K (ga K C) "property" m
  | .stat C m => wf K (ga K C) "staticmethod" m
  | .clsm C m => wf K (ga K C) "classmethod" m
structure DefL where
  at_ : Loc
  name : Str
  qual : Str
  st : Stmt
  kwd : List (Str × Dv) := []
def fnL (K : PySem.W.Frag) (p : Loc) : FnW := match K.lookup (p.ad K) with
  | some ⟨_, _, .func d, _⟩ => some (d.name, d.qualname, d.params, d.body, d.scope, d.globals, d.closure, d.builtins)
  | _ => none
def DefL.want (d : DefL) : FnW := some (d.name, d.qual, defArgs d.st, .stmts (defBody d.st), defScope d.st, mainGlobals, [], builtinsNs)
def DefL.kws (K : PySem.W.Frag) (d : DefL) : List (Str × V) := d.kwd.map fun q => (q.1, q.2.v K)
def DefL.good (K : PySem.W.Frag) (d : DefL) : Bool := PySem.W.keepIn K (.ref (d.at_.ad K)) && (match K.lookup (d.at_.ad K) with
  | some ⟨_, _, .func z, _⟩ => PySem.W.codeIn K z.code d.qual && (dflB K z.defaults [] && kwdB K z.kwdefaults (d.kws K))
  | _ => false)
theorem DefL.funD {K : PySem.W.Frag} {d : DefL} (e : fnL K d.at_ = d.want) (c : d.good K = true) : ∃ fd, FunD K d.name d.qual (defArgs d.st) (defBody d.st) (defScope d.st) [] (d.kws K) (d.at_.ad K) fd := by
  obtain ⟨kp, c2⟩ := ba c
  unfold fnL at e
  cases q : K.lookup (d.at_.ad K) with
  | none => rw [q] at c2; cases c2
  | some o =>
    obtain ⟨oc, od, dt, os⟩ := o
    rw [q] at c2 e
    cases dt with
    | func fd =>
      obtain ⟨a1, a2, a3, a4, a5, a6, a7, a8, a9, b1, b2, b3, b4, b5, b6⟩ := fd
      have z : (some (a1, a2, a3, a4, a5, a6, a7, b6) : FnW) = d.want := e
      unfold DefL.want at z
      simp only [Option.some.injEq, Prod.mk.injEq] at z
      obtain ⟨z1, z2, z3, z4, z5, z6, z7, z8⟩ := z
      subst z1 z2 z3 z4 z5 z6 z7 z8
      obtain ⟨k1, k2⟩ := ba (show (PySem.W.codeIn K b4 d.qual && (dflB K a8 [] && kwdB K a9 (d.kws K))) = true from c2)
      obtain ⟨k3, k4⟩ := ba k2
      exact ⟨_, ⟨oc, od, a8, a9, b1, b2, b3, b4, b5, os, rfl, q, k1, dflB_ok k3, kwdB_ok k4⟩, kp⟩
    | _ => cases c2
/-- facts of my own -/
inductive Fx where
  | prop (C m : Str) | cread (C : Str) | stat (C m : Str) | clsm (C m : Str) | cint (C f : Str) (i : Int) | insty (C : Str) | kit (C : Str)
def Fx.ok (K : PySem.W.Frag) : Fx → Bool
  | .prop C m => eqO (PySem.W.findIn K (.ref (ga K C)) m) (some (some (.ref (ma K (ga K C) m)))) && (eqO (PySem.W.specialIn K (.ref (ma K (ga K C) m)) "__get__") (some (some (.builtin "property.__get__"))) && (decide (PySem.W.takesIn K (.ref (ma K (ga K C) m)) = some true) && (match PySem.W.recIn K (ma K (ga K C) m) "property" with
    | some (.ref _ :: _) => true
    | _ => false)))
  | .cread C => PySem.W.readsIn K (ga K C) (.type "type") && eqO (PySem.W.specialIn K (.ref (ga K C)) "__getattribute__") (some (some (.builtin "type.__getattribute__")))
  | .stat C m => wrapB K (ga K C) "staticmethod" "staticmethod.__get__" m
  | .clsm C m => wrapB K (ga K C) "classmethod" "classmethod.__get__" m && PySem.W.fnIn K (wf K (ga K C) "classmethod" m)
  | .cint C f i => (match PySem.W.findCls K (.ref (ga K C)) (.type "type") f with
    | some (.val (.int j _)) => decide (j = i)
    | _ => false)
  | .insty C => eqO (PySem.W.findIn K (.ref (ga K C)) "__class__") (some (some (.builtin "object.__class__"))) && (eqO (PySem.W.specialIn K (.builtin "object.__class__") "__get__") (some (some (.builtin "getset_descriptor.__get__"))) && (decide (PySem.W.takesIn K (.builtin "object.__class__") = some true) && decide (PySem.W.mroIn K (ga K C) (.type "object") = some true)))
  | .kit C => decide (PySem.W.kitOne K (.ref (ga K C)) (.ref (ga K C)) = some true)
section
variable {K : PySem.W.Frag} {C m f : Str}
theorem fx_prop (c : (Fx.prop C m).ok K = true) : PropOf K (ga K C) m (ma K (ga K C) m) (wf K (ga K C) "property" m) := by
  obtain ⟨c1, c⟩ := ba c
  obtain ⟨c2, c⟩ := ba c
  obtain ⟨c3, c4⟩ := ba c
  refine ⟨eqO_ok c1, eqO_ok c2, of_decide_eq_true c3, ?_⟩
  unfold wf
  split at c4
  · rename_i g r e
    exact ⟨r, by rw [e]⟩
  · cases c4
theorem fx_cread (c : (Fx.cread C).ok K = true) : ClX.CRead K (ga K C) (.type "type") := by
  obtain ⟨c1, c2⟩ := ba c
  exact ⟨c1, eqO_ok c2⟩
theorem fx_stat (c : (Fx.stat C m).ok K = true) (r : ClX.CRead K (ga K C) (.type "type")) (k : PySem.W.keepIn K (.ref (wf K (ga K C) "staticmethod" m)) = true) : SMet K (ga K C) (.type "type") m (ma K (ga K C) m) (wf K (ga K C) "staticmethod" m) := by
  obtain ⟨h1, h2⟩ := wrapB_ok c
  exact ⟨r, h1, h2, k⟩
theorem fx_clsm (c : (Fx.clsm C m).ok K = true) : ClX.CMet K (ga K C) (.type "type") m (ma K (ga K C) m) (wf K (ga K C) "classmethod" m) := by
  obtain ⟨c1, c2⟩ := ba c
  obtain ⟨h1, h2⟩ := wrapB_ok c1
  exact ⟨h1, h2, c2⟩
theorem fx_cint {i : Int} (c : (Fx.cint C f i).ok K = true) : ∃ u, ClX.CVal K (ga K C) (.type "type") f (.int i) u := by
  have c2 : (match PySem.W.findCls K (.ref (ga K C)) (.type "type") f with
    | some (.val (.int j _)) => decide (j = i)
    | _ => false) = true := c
  split at c2
  · rename_i j t e
    have z := of_decide_eq_true c2
    subst z
    exact ⟨_, e, t, rfl⟩
  · cases c2
theorem fx_insty (c : (Fx.insty C).ok K = true) (cl : Cls K (ga K C)) : InsTy K (ga K C) := by
  obtain ⟨c1, c⟩ := ba c
  obtain ⟨c2, c⟩ := ba c
  obtain ⟨c3, c4⟩ := ba c
  exact ⟨cl, eqO_ok c1, eqO_ok c2, of_decide_eq_true c3, of_decide_eq_true c4⟩
theorem fx_kit (c : (Fx.kit C).ok K = true) : PySem.W.kitOne K (.ref (ga K C)) (.ref (ga K C)) = some true := of_decide_eq_true c
end
/-! ### the hook -/
def obsL (fa : List Fa) (fx : List Fx) (fn : List DefL) (K : PySem.W.Frag) : Bool × List FnW := ((fa.all fun f => f.ok K) && ((fx.all fun f => f.ok K) && fn.all fun d => d.good K), fn.map fun d => fnL K d.at_)
def wantL (fn : List DefL) : Bool × List FnW := (true, fn.map DefL.want)
def SaysL (fa : List Fa) (fx : List Fx) (fn : List DefL) (K : PySem.W.Frag) : Prop := obsL fa fx fn K = wantL fn
def obsLG (n : Nat) (fa : List Fa) (fx : List Fx) (fn : List DefL) (g : Addr → Option Obj) : Bool × List FnW := obsL fa fx fn (frG g (cStatics :: asD g n))
def hookL (n : Nat) (fa : List Fa) (fx : List Fx) (fn : List DefL) : PySem.W.Hook where
  α := Bool × List FnW
  obs := fun s => obsLG n fa fx fn s.heap.get?
  val := fun _ => wantL fn
  says := fun _ h => ∃ K : PySem.W.Frag, K.In h ∧ SaysL fa fx fn K
  of := fun _ _ e => ⟨_, frG_in, e⟩
  keeps := fun _ _ _ ⟨K, hK, c⟩ k => ⟨K, hK.keeps k, c⟩
theorem obsLG_eq {n : Nat} {fa : List Fa} {fx : List Fx} {fn : List DefL} {g : Addr → Option Obj} {s : Shared} (h : ∀ a, g a = s.heap.get? a) : obsLG n fa fx fn g = (hookL n fa fx fn).obs s := by
  rw [show g = s.heap.get? from funext h] <;> rfl
section
variable {fa : List Fa} {fx : List Fx} {fn : List DefL} {K : PySem.W.Frag}
theorem SaysL.fact (c : SaysL fa fx fn K) {f : Fa} (h : f ∈ fa) : f.ok K = true :=
  List.all_eq_true.mp (ba (congrArg Prod.fst c : ((fa.all fun f => f.ok K) && ((fx.all fun f => f.ok K) && fn.all fun d => d.good K)) = true)).1 f h
theorem SaysL.own (c : SaysL fa fx fn K) {f : Fx} (h : f ∈ fx) : f.ok K = true :=
  List.all_eq_true.mp (ba (ba (congrArg Prod.fst c : ((fa.all fun f => f.ok K) && ((fx.all fun f => f.ok K) && fn.all fun d => d.good K)) = true)).2).1 f h
theorem SaysL.def_ (c : SaysL fa fx fn K) (i : Nat) {d : DefL} (h : fn[i]? = some d := by rfl) : ∃ fd, FunD K d.name d.qual (defArgs d.st) (defBody d.st) (defScope d.st) [] (d.kws K) (d.at_.ad K) fd := by
  have c2 := (ba (ba (congrArg Prod.fst c : ((fa.all fun f => f.ok K) && ((fx.all fun f => f.ok K) && fn.all fun d => d.good K)) = true)).2).2
  have e : (fn.map fun d => fnL K d.at_)[i]? = (fn.map DefL.want)[i]? := by rw [show (fn.map fun d => fnL K d.at_) = fn.map DefL.want from congrArg Prod.snd c]
  rw [List.getElem?_map, List.getElem?_map, h] at e
  exact DefL.funD (Option.some.inj e) (List.all_eq_true.mp c2 d (List.mem_of_getElem? h))
end
/-! ### from defs to promises -/
section
variable {P : Program} {w : World} {K : PySem.W.Frag} {mg : Str → Option Value} {base : Heap} {j : Nat} {x : Str} {f C : Addr} {fd : FuncData} {ps : List Str} {asp : ASp}
theorem Cal.of (F : AFd P w K mg base j f fd ps asp) (hb : Binds K fd ps []) (g : mg x = some (.ref f)) (k : PySem.W.keepIn K (.ref f) = true) : Cal P w K mg base j x asp := ⟨f, F.pos hb, g, k⟩
end
end Ab
namespace K76
open PySem PySem.Spec PyProof.Rows L2 Ab
local macro_rules | `(tactic| walk_at "nth") => `(tactic| first | exact .z | exact .s .z | exact .s (.s .z) | exact .s (.s (.s .z)) | exact .s (.s (.s (.s .z))) | exact .s (.s (.s (.s (.s .z)))) | exact .s (.s (.s (.s (.s (.s .z))))) | exact .s (.s (.s (.s (.s (.s (.s .z)))))) | exact .s (.s (.s (.s (.s (.s (.s (.s .z))))))) | exact .s (.s (.s (.s (.s (.s (.s (.s (.s .z)))))))) | exact .s (.s (.s (.s (.s (.s (.s (.s (.s (.s .z))))))))) | exact .s (.s (.s (.s (.s (.s (.s (.s (.s (.s (.s .z)))))))))) | exact .s (.s (.s (.s (.s (.s (.s (.s (.s (.s (.s (.s .z))))))))))) | exact .s (.s (.s (.s (.s (.s (.s (.s (.s (.s (.s (.s (.s .z)))))))))))) | exact .s (.s (.s (.s (.s (.s (.s (.s (.s (.s (.s (.s (.s (.s .z))))))))))))) | exact .s (.s (.s (.s (.s (.s (.s (.s (.s (.s (.s (.s (.s (.s (.s .z)))))))))))))) | exact .s (.s (.s (.s (.s (.s (.s (.s (.s (.s (.s (.s (.s (.s (.s (.s .z))))))))))))))) | exact .s (.s (.s (.s (.s (.s (.s (.s (.s (.s (.s (.s (.s (.s (.s (.s (.s .z)))))))))))))))) | exact .s (.s (.s (.s (.s (.s (.s (.s (.s (.s (.s (.s (.s (.s (.s (.s (.s (.s .z))))))))))))))))) | exact .s (.s (.s (.s (.s (.s (.s (.s (.s (.s (.s (.s (.s (.s (.s (.s (.s (.s (.s .z)))))))))))))))))))
local macro_rules | `(tactic| walk_at "sr") => `(tactic| first | exact .z | exact .s .z | exact .s (.s .z) | exact .s (.s (.s .z)) | exact .s (.s (.s (.s .z))) | exact .s (.s (.s (.s (.s .z)))) | exact .s (.s (.s (.s (.s (.s .z))))) | exact .s (.s (.s (.s (.s (.s (.s .z)))))) | exact .s (.s (.s (.s (.s (.s (.s (.s .z))))))) | exact .s (.s (.s (.s (.s (.s (.s (.s (.s .z)))))))) | exact .s (.s (.s (.s (.s (.s (.s (.s (.s (.s .z))))))))) | exact .s (.s (.s (.s (.s (.s (.s (.s (.s (.s (.s .z)))))))))) | exact .s (.s (.s (.s (.s (.s (.s (.s (.s (.s (.s (.s .z))))))))))) | exact .s (.s (.s (.s (.s (.s (.s (.s (.s (.s (.s (.s (.s .z)))))))))))) | exact .s (.s (.s (.s (.s (.s (.s (.s (.s (.s (.s (.s (.s (.s .z))))))))))))) | exact .s (.s (.s (.s (.s (.s (.s (.s (.s (.s (.s (.s (.s (.s (.s .z)))))))))))))) | exact .s (.s (.s (.s (.s (.s (.s (.s (.s (.s (.s (.s (.s (.s (.s (.s .z))))))))))))))) | exact .s (.s (.s (.s (.s (.s (.s (.s (.s (.s (.s (.s (.s (.s (.s (.s (.s .z)))))))))))))))) | exact .s (.s (.s (.s (.s (.s (.s (.s (.s (.s (.s (.s (.s (.s (.s (.s (.s (.s .z))))))))))))))))) | exact .s (.s (.s (.s (.s (.s (.s (.s (.s (.s (.s (.s (.s (.s (.s (.s (.s (.s (.s .z)))))))))))))))))))
local macro_rules | `(tactic| walk_at "mu") => `(tactic| first | exact updM_same | assumption | (rw [updM_ne (by first | assumption | (apply Ne.symm; assumption))]; walk_at "mu"))
local macro_rules | `(tactic| walk_at "isl") => `(tactic| first | exact .im | exact .mu (by walk_at "mu"))
local macro_rules | `(tactic| walk_at "isi") => `(tactic| first | exact .im | exact .mu (by walk_at "mu"))
local macro_rules | `(tactic| walk_at "isq") => `(tactic| first | exact .im | exact .tup | exact .mu (by walk_at "mu"))
local macro_rules | `(tactic| walk_at "e") => `(tactic| first
  | refine AE.name (by assumption) (by with_reducible (walk_at "nth")) (by decide +kernel) rfl ?_
  | refine AE.int ?_ | refine AE.str ?_ | refine AE.bl ?_ | refine AE.non ?_
  | refine AE.add ?_ | refine AE.sub ?_ | refine AE.mul ?_ | refine AE.mod ?_ | refine AE.fdiv ?_ | refine AE.pow ?_
  | refine AE.lt ?_ | refine AE.le ?_ | refine AE.gt ?_ | refine AE.ge ?_
  | refine AT.lt ?_ | refine AT.le ?_ | refine AT.gt ?_ | refine AT.ge ?_
  | refine AT.isN ?_ | refine AT.notN ?_ | refine AE.isN ?_ | refine AE.notN ?_
  | refine AT.not ?_
  | refine AA.cons ?_ | refine AA.nil ?_
  | refine ASs.cons ?_ | refine ASs.nil ?_
  | refine AS.ret ?_ | refine AS.ifs ?_ | refine AS.expr ?_ | refine AS.pass ?_ | refine AS.brk ?_
  | refine AS.set (by assumption) (by with_reducible (walk_at "nth")) (by decide +kernel) ?_
  | refine AG.name (by assumption) (by with_reducible (walk_at "nth")) (by decide +kernel) ?_
  | refine ⟨_, .int, ?_⟩
  | refine ⟨_, by (walk_at "sr"), ?_⟩
  | refine ⟨_, _, rfl, rfl, ?_⟩)
local macro_rules | `(tactic| walk_at "es") => `(tactic| repeat (walk_at "e"))
abbrev PW : Program := PySem.Challenge.pw_askranges_k76_whole_orders_and_all_value
def top (i : Nat) : Stmt := PW.main.body.getD i (.Pass ⟨0, 0, 0, 0⟩)
abbrev sPen : Stmt := top 23
abbrev sNext : Stmt := top 24
abbrev sDraw : Stmt := top 25
abbrev nPen : List Str := ["script"]
abbrev nNext : List Str := ["pen", "index", "cell", "low", "mid", "top"]
abbrev nDraw : List Str := ["pen", "below", "digit"]
theorem scPen : FnScope nPen ["script"] (defScope sPen) := ⟨rfl, rfl, rfl, by decide +kernel, rfl, by decide +kernel, by decide +kernel⟩
theorem scNext : FnScope nNext ["pen"] (defScope sNext) := ⟨rfl, rfl, rfl, by decide +kernel, rfl, by decide +kernel, by decide +kernel⟩
theorem scDraw : FnScope nDraw ["pen", "below"] (defScope sDraw) := ⟨rfl, rfl, rfl, by decide +kernel, rfl, by decide +kernel, by decide +kernel⟩
/-- the pen: a list of cells, a count, a number -/
abbrev penO (l : List Int) (i n : Int) : MO := .lst [.lst (l.map D.int), .int i, .int n]
def aPen : ASp := fun ds m Q => ∃ (l : List Int) (d : D), ds = [d] ∧ IsLK m d (l.map D.int) ∧ ∀ a, m a = none → Q (.ref a) (updM m a (penO (l.take 60) 0 0))
def aNext : ASp := fun ds m Q => ∃ a l i n, ds = [.ref a] ∧ m a = some (penO l i n) ∧ 0 ≤ i ∧ i ≤ 1000000 ∧ l.length ≤ 60 ∧ ∀ z, 0 ≤ z → Q (.int z) (updM m a (penO l (i + 1) n))
def aDraw : ASp := fun ds m Q => ∃ a l i n b, ds = [.ref a, .int b] ∧ m a = some (penO l i n) ∧ 0 ≤ i ∧ i ≤ 1000000 ∧ l.length ≤ 60 ∧ 0 ≤ n ∧ 0 < b ∧ b < 1000000 ∧
  ∀ d i' n', 0 ≤ d → d < b → i ≤ i' → i' ≤ i + 1 → 0 ≤ n' → Q (.int d) (updM m a (penO l i' n'))
theorem body_draw {X : Cx} {k : Nat} (hx : XF X (fbOf nDraw (defScope sDraw)) k) (hk : 1 ≤ k) (c : Cal X.prog X.w X.K X.mg X.base 1 "_law_next" aNext) (ds : List D) (m : Mu) (Q : QD) (h : aDraw ds m Q) :
    ASs X (defBody sDraw) (startR nDraw ds) m { nx := fun _ m' => Q .non m', rt := Q } := by
  obtain ⟨a, l, i, n, b, rfl, hm, h1, h2, h3, h4, h5, h6, q⟩ := h
  show ASs X (defBody sDraw) [some (.ref a), some (.int b), none] m _
  refine ASs.cut (fun ρ m' => ρ = [some (.ref a), some (.int b), none] ∧ ∃ i' n', i ≤ i' ∧ i' ≤ i + 1 ∧ 0 ≤ n' ∧ m' = updM m a (penO l i' n')) ?_ ?_
  · walk_at "e"; walk_at "e"
    refine AE.ix ixa_list ?_
    walk_at "es"
    refine ⟨_, 2, _, by walk_at "isl", rfl, rfl, ?_⟩
    walk_at "es"
    refine ⟨fun _ => ?_, fun _ => ?_⟩
    · walk_at "e"
      refine AS.asg ?_
      refine AE.callC c hx hk (by decide +kernel) ?_
      walk_at "es"
      refine ⟨a, l, i, n, rfl, hm, h1, h2, h3, fun z hz => ?_⟩
      refine AG.setL ?_
      walk_at "es"
      refine ⟨a, _, 2, 2, rfl, updM_same, rfl, rfl, ?_⟩
      walk_at "e"
      refine ⟨rfl, i + 1, z, by omega, by omega, hz, updM_updM⟩
    · walk_at "e"
      refine ⟨rfl, i, n, by omega, by omega, h4, ?_⟩
      funext c; unfold updM; split
      · rename_i e; rw [e, hm]
      · rfl
  · rintro ρ' m' ⟨rfl, i', n', a1, a2, a3, rfl⟩
    walk_at "e"; walk_at "e"; walk_at "e"
    refine AE.ix ixa_list ?_
    walk_at "es"
    refine ⟨_, 2, _, by walk_at "isl", rfl, rfl, ?_⟩
    walk_at "es"
    refine ⟨h5, ?_⟩
    walk_at "es"
    refine AS.asg ?_
    walk_at "e"
    refine AE.ix ixa_list ?_
    walk_at "es"
    refine ⟨_, 2, _, by walk_at "isl", rfl, rfl, ?_⟩
    walk_at "es"
    refine ⟨⟨h5, by omega⟩, ?_⟩
    refine AG.setL ?_
    walk_at "es"
    refine ⟨a, _, 2, 2, rfl, updM_same, rfl, rfl, ?_⟩
    walk_at "es"
    rw [updM_updM]
    exact q _ i' (n' / b) (Int.emod_nonneg _ (by omega)) (Int.emod_lt_of_pos _ h5) a1 a2 (Int.ediv_nonneg a3 (by omega))
end K76
namespace K76
open PySem PySem.Spec PyProof.Rows L2 Ab
local macro_rules | `(tactic| walk_at "nth") => `(tactic| first | exact .z | exact .s .z | exact .s (.s .z) | exact .s (.s (.s .z)) | exact .s (.s (.s (.s .z))) | exact .s (.s (.s (.s (.s .z)))) | exact .s (.s (.s (.s (.s (.s .z))))) | exact .s (.s (.s (.s (.s (.s (.s .z)))))) | exact .s (.s (.s (.s (.s (.s (.s (.s .z))))))) | exact .s (.s (.s (.s (.s (.s (.s (.s (.s .z)))))))) | exact .s (.s (.s (.s (.s (.s (.s (.s (.s (.s .z))))))))) | exact .s (.s (.s (.s (.s (.s (.s (.s (.s (.s (.s .z)))))))))) | exact .s (.s (.s (.s (.s (.s (.s (.s (.s (.s (.s (.s .z))))))))))) | exact .s (.s (.s (.s (.s (.s (.s (.s (.s (.s (.s (.s (.s .z)))))))))))) | exact .s (.s (.s (.s (.s (.s (.s (.s (.s (.s (.s (.s (.s (.s .z))))))))))))) | exact .s (.s (.s (.s (.s (.s (.s (.s (.s (.s (.s (.s (.s (.s (.s .z)))))))))))))) | exact .s (.s (.s (.s (.s (.s (.s (.s (.s (.s (.s (.s (.s (.s (.s (.s .z))))))))))))))) | exact .s (.s (.s (.s (.s (.s (.s (.s (.s (.s (.s (.s (.s (.s (.s (.s (.s .z)))))))))))))))) | exact .s (.s (.s (.s (.s (.s (.s (.s (.s (.s (.s (.s (.s (.s (.s (.s (.s (.s .z))))))))))))))))) | exact .s (.s (.s (.s (.s (.s (.s (.s (.s (.s (.s (.s (.s (.s (.s (.s (.s (.s (.s .z)))))))))))))))))))
local macro_rules | `(tactic| walk_at "sr") => `(tactic| first | exact .z | exact .s .z | exact .s (.s .z) | exact .s (.s (.s .z)) | exact .s (.s (.s (.s .z))) | exact .s (.s (.s (.s (.s .z)))) | exact .s (.s (.s (.s (.s (.s .z))))) | exact .s (.s (.s (.s (.s (.s (.s .z)))))) | exact .s (.s (.s (.s (.s (.s (.s (.s .z))))))) | exact .s (.s (.s (.s (.s (.s (.s (.s (.s .z)))))))) | exact .s (.s (.s (.s (.s (.s (.s (.s (.s (.s .z))))))))) | exact .s (.s (.s (.s (.s (.s (.s (.s (.s (.s (.s .z)))))))))) | exact .s (.s (.s (.s (.s (.s (.s (.s (.s (.s (.s (.s .z))))))))))) | exact .s (.s (.s (.s (.s (.s (.s (.s (.s (.s (.s (.s (.s .z)))))))))))) | exact .s (.s (.s (.s (.s (.s (.s (.s (.s (.s (.s (.s (.s (.s .z))))))))))))) | exact .s (.s (.s (.s (.s (.s (.s (.s (.s (.s (.s (.s (.s (.s (.s .z)))))))))))))) | exact .s (.s (.s (.s (.s (.s (.s (.s (.s (.s (.s (.s (.s (.s (.s (.s .z))))))))))))))) | exact .s (.s (.s (.s (.s (.s (.s (.s (.s (.s (.s (.s (.s (.s (.s (.s (.s .z)))))))))))))))) | exact .s (.s (.s (.s (.s (.s (.s (.s (.s (.s (.s (.s (.s (.s (.s (.s (.s (.s .z))))))))))))))))) | exact .s (.s (.s (.s (.s (.s (.s (.s (.s (.s (.s (.s (.s (.s (.s (.s (.s (.s (.s .z)))))))))))))))))))
local macro_rules | `(tactic| walk_at "mu") => `(tactic| first | exact updM_same | assumption | (rw [updM_ne (by first | assumption | (apply Ne.symm; assumption))]; walk_at "mu"))
local macro_rules | `(tactic| walk_at "isl") => `(tactic| first | exact .im | exact .mu (by walk_at "mu"))
local macro_rules | `(tactic| walk_at "isi") => `(tactic| first | exact .im | exact .mu (by walk_at "mu"))
local macro_rules | `(tactic| walk_at "isq") => `(tactic| first | exact .im | exact .tup | exact .mu (by walk_at "mu"))
local macro_rules | `(tactic| walk_at "e") => `(tactic| first
  | refine AE.name (by assumption) (by with_reducible (walk_at "nth")) (by decide +kernel) rfl ?_
  | refine AE.int ?_ | refine AE.str ?_ | refine AE.bl ?_ | refine AE.non ?_
  | refine AE.add ?_ | refine AE.sub ?_ | refine AE.mul ?_ | refine AE.mod ?_ | refine AE.fdiv ?_ | refine AE.pow ?_
  | refine AE.lt ?_ | refine AE.le ?_ | refine AE.gt ?_ | refine AE.ge ?_
  | refine AT.lt ?_ | refine AT.le ?_ | refine AT.gt ?_ | refine AT.ge ?_
  | refine AT.isN ?_ | refine AT.notN ?_ | refine AE.isN ?_ | refine AE.notN ?_
  | refine AT.not ?_
  | refine AA.cons ?_ | refine AA.nil ?_
  | refine ASs.cons ?_ | refine ASs.nil ?_
  | refine AS.ret ?_ | refine AS.ifs ?_ | refine AS.expr ?_ | refine AS.pass ?_ | refine AS.brk ?_
  | refine AS.set (by assumption) (by with_reducible (walk_at "nth")) (by decide +kernel) ?_
  | refine AG.name (by assumption) (by with_reducible (walk_at "nth")) (by decide +kernel) ?_
  | refine ⟨_, .int, ?_⟩
  | refine ⟨_, by (walk_at "sr"), ?_⟩
  | refine ⟨_, _, rfl, rfl, ?_⟩)
local macro_rules | `(tactic| walk_at "es") => `(tactic| repeat (walk_at "e"))
def cbody : Stmt → List Stmt
  | .ClassDef _ _ _ b .. => b
  | _ => []
def mth (i j : Nat) : Stmt := (cbody (top i)).getD j (.Pass ⟨0, 0, 0, 0⟩)
/-- the built-in names that the program leaves alone -/
def frees : List Str := ["isinstance", "list", "tuple", "all", "sorted", "max", "int", "bool", "str", "len", "range", "dict", "any", "enumerate"]
def itD (CI : Addr) (nm : Str) (lo hi pr : Int) : D := .ins CI [("parts", .tup [.str nm, .int lo, .int hi, .int pr])]
def LETS : Str := "abcdefghijklmnopqrstuvwxyz"
def GoodName (s : Str) : Prop := 1 ≤ s.length ∧ s.length ≤ 8 ∧ ∀ c ∈ s.cps.toList, c ∈ LETS.cps.toList
/-- isinstance of a built-in type -/
theorem kit_int (K : PySem.W.Frag) : PySem.W.kitOne K (.type "int") (.type "int") = some true := by rfl
theorem kit_intb (K : PySem.W.Frag) : PySem.W.kitOne K (.type "int") (.type "bool") = some false := by rfl
theorem kit_str (K : PySem.W.Frag) : PySem.W.kitOne K (.type "str") (.type "str") = some true := by rfl
def aIsInt : ASp := fun ds m Q => ∃ i : Int, ds = [.int i] ∧ Q (.bl true) m
abbrev nIsInt : List Str := ["thing"]
theorem scIsInt : FnScope nIsInt ["thing"] (defScope (top 16)) := ⟨rfl, rfl, rfl, by decide +kernel, rfl, by decide +kernel, by decide +kernel⟩
theorem body_isint {X : Cx} {k : Nat} (hx : XF X (fbOf nIsInt (defScope (top 16))) k) (hf : ∀ x, frees.contains x = true → X.mg x = none) (ds : List D) (m : Mu) (Q : QD) (h : aIsInt ds m Q) :
    ASs X (defBody (top 16)) (startR nIsInt ds) m { nx := fun _ m' => Q .non m', rt := Q } := by
  obtain ⟨i, rfl, q⟩ := h
  show ASs X (defBody (top 16)) [some (.int i)] m _
  walk_at "es"
  refine AE.and ?_
  refine AE.callB ca_isi hx (by decide +kernel) (hf _ (by decide +kernel)) rfl ?_
  walk_at "es"
  refine AE.bty hx (by decide +kernel) (hf _ (by decide +kernel)) rfl ?_
  walk_at "es"
  refine ⟨_, _, _, _, _, rfl, .int, .ty, kit_int _, ?_⟩
  refine ⟨true, rfl, fun _ => ?_, fun e => nomatch e⟩
  refine AE.one ?_
  refine AE.not ?_
  refine AE.callB ca_isi hx (by decide +kernel) (hf _ (by decide +kernel)) rfl ?_
  walk_at "es"
  refine AE.bty hx (by decide +kernel) (hf _ (by decide +kernel)) rfl ?_
  walk_at "es"
  refine ⟨_, _, _, _, _, rfl, .int, .ty, kit_intb _, ?_⟩
  exact ⟨false, rfl, q⟩
/-! ### Item -/
def aIsName : ASp := fun ds m Q => ∃ s : Str, ds = [.str s] ∧ GoodName s ∧ Q (.bl true) m
abbrev nIsName : List Str := ["thing", "sign"]
theorem scIsName : FnScope nIsName ["thing"] (defScope (mth 17 2)) := ⟨rfl, rfl, rfl, by decide +kernel, rfl, by decide +kernel, by decide +kernel⟩
theorem body_isname {X : Cx} {k : Nat} (hx : XF X (fbOf nIsName (defScope (mth 17 2))) k) (hs : X.env.scope = defScope (mth 17 2)) (hf : ∀ x, frees.contains x = true → X.mg x = none) (gM : ∃ t, X.mg "MAX_NAME" = some (.int 8 t)) (gL : ∃ t, X.mg "LETTERS" = some (.str LETS t)) (ds : List D) (m : Mu) (Q : QD) (h : aIsName ds m Q) :
    ASs X (defBody (mth 17 2)) (startR nIsName ds) m { nx := fun _ m' => Q .non m', rt := Q } := by
  obtain ⟨s, rfl, ⟨g1, g2, g3⟩, q⟩ := h
  show ASs X (defBody (mth 17 2)) [some (.str s), none] m _
  walk_at "es"
  refine AE.and ?_
  refine AE.callB ca_isi hx (by decide +kernel) (hf _ (by decide +kernel)) rfl ?_
  walk_at "es"
  refine AE.bty hx (by decide +kernel) (hf _ (by decide +kernel)) rfl ?_
  walk_at "es"
  refine ⟨_, _, _, _, _, rfl, .str, .ty, kit_str _, ?_⟩
  refine ⟨true, rfl, fun _ => ?_, fun e => nomatch e⟩
  refine AE.and ?_
  have sl : s.length ≤ sizeLine := Nat.le_trans g2 (by decide)
  refine AE.chain oa_le oa_le ?_
  walk_at "e"
  refine AE.callB ca_len hx (by decide +kernel) (hf _ (by decide +kernel)) rfl ?_
  walk_at "es"
  refine .inr ⟨s, rfl, sl, ?_⟩
  refine ⟨_, _, rfl, rfl, ?_⟩
  rw [decide_eq_true (show (1 : Int) ≤ (s.length : Int) by omega)]
  refine ⟨true, rfl, fun _ => ?_, fun e => nomatch e⟩
  refine AE.gint hx (by decide +kernel) gM ?_
  refine ⟨_, _, rfl, rfl, ?_⟩
  rw [decide_eq_true (show (s.length : Int) ≤ 8 by omega)]
  refine ⟨true, rfl, fun _ => ?_, fun e => nomatch e⟩
  refine AE.one ?_
  refine AE.callB (ca_all hx.calm) hx (by decide +kernel) (hf _ (by decide +kernel)) rfl ?_
  walk_at "e"
  refine AE.lcP (fun c => D.str ⟨#[c]⟩) hx hs (.s .z) (by decide +kernel) ?_
  refine AI.str ?_
  walk_at "e"
  refine ⟨s, rfl, s.cps.toList, fun c => some (.bl (decide (c ∈ LETS.cps.toList))), rfl, ?_, fun _ _ => trivial, ?_, ?_⟩
  · have : s.cps.toList.length = s.length := by simp [Str.length]
    rw [this]; exact Nat.lt_of_le_of_lt g2 (by decide)
  · intro c hc m' hm'
    refine ⟨_, by walk_at "sr", rfl, fun _ => ?_, fun e => nomatch e⟩
    refine ABE.of hx hs fun s0 H0 C0 cl0 fp0 hb hbs => ?_
    refine AE.cmp oa_inSign ?_
    walk_at "e"
    refine AE.gstr hb (by decide +kernel) gL ?_
    exact ⟨c, _, rfl, rfl, rfl, rfl⟩
  · walk_at "e"
    refine ⟨_, s.cps.toList.map fun c => decide (c ∈ LETS.cps.toList), rfl, ?_, ?_⟩
    · rw [show (s.cps.toList.map fun c => decide (c ∈ LETS.cps.toList)).map D.bl = s.cps.toList.filterMap fun c => some (.bl (decide (c ∈ LETS.cps.toList))) by simp]
      exact .im
    · rw [show (s.cps.toList.map fun c => decide (c ∈ LETS.cps.toList)).all id = true by
        simp only [List.all_map, List.all_eq_true]; intro c hc; simpa using g3 c hc]
      exact q
end K76
namespace K76
open PySem PySem.Spec PyProof.Rows L2 Ab
local macro_rules | `(tactic| walk_at "nth") => `(tactic| first | exact .z | exact .s .z | exact .s (.s .z) | exact .s (.s (.s .z)) | exact .s (.s (.s (.s .z))) | exact .s (.s (.s (.s (.s .z)))) | exact .s (.s (.s (.s (.s (.s .z))))) | exact .s (.s (.s (.s (.s (.s (.s .z)))))) | exact .s (.s (.s (.s (.s (.s (.s (.s .z))))))) | exact .s (.s (.s (.s (.s (.s (.s (.s (.s .z)))))))) | exact .s (.s (.s (.s (.s (.s (.s (.s (.s (.s .z))))))))) | exact .s (.s (.s (.s (.s (.s (.s (.s (.s (.s (.s .z)))))))))) | exact .s (.s (.s (.s (.s (.s (.s (.s (.s (.s (.s (.s .z))))))))))) | exact .s (.s (.s (.s (.s (.s (.s (.s (.s (.s (.s (.s (.s .z)))))))))))) | exact .s (.s (.s (.s (.s (.s (.s (.s (.s (.s (.s (.s (.s (.s .z))))))))))))) | exact .s (.s (.s (.s (.s (.s (.s (.s (.s (.s (.s (.s (.s (.s (.s .z)))))))))))))) | exact .s (.s (.s (.s (.s (.s (.s (.s (.s (.s (.s (.s (.s (.s (.s (.s .z))))))))))))))) | exact .s (.s (.s (.s (.s (.s (.s (.s (.s (.s (.s (.s (.s (.s (.s (.s (.s .z)))))))))))))))) | exact .s (.s (.s (.s (.s (.s (.s (.s (.s (.s (.s (.s (.s (.s (.s (.s (.s (.s .z))))))))))))))))) | exact .s (.s (.s (.s (.s (.s (.s (.s (.s (.s (.s (.s (.s (.s (.s (.s (.s (.s (.s .z)))))))))))))))))))
local macro_rules | `(tactic| walk_at "sr") => `(tactic| first | exact .z | exact .s .z | exact .s (.s .z) | exact .s (.s (.s .z)) | exact .s (.s (.s (.s .z))) | exact .s (.s (.s (.s (.s .z)))) | exact .s (.s (.s (.s (.s (.s .z))))) | exact .s (.s (.s (.s (.s (.s (.s .z)))))) | exact .s (.s (.s (.s (.s (.s (.s (.s .z))))))) | exact .s (.s (.s (.s (.s (.s (.s (.s (.s .z)))))))) | exact .s (.s (.s (.s (.s (.s (.s (.s (.s (.s .z))))))))) | exact .s (.s (.s (.s (.s (.s (.s (.s (.s (.s (.s .z)))))))))) | exact .s (.s (.s (.s (.s (.s (.s (.s (.s (.s (.s (.s .z))))))))))) | exact .s (.s (.s (.s (.s (.s (.s (.s (.s (.s (.s (.s (.s .z)))))))))))) | exact .s (.s (.s (.s (.s (.s (.s (.s (.s (.s (.s (.s (.s (.s .z))))))))))))) | exact .s (.s (.s (.s (.s (.s (.s (.s (.s (.s (.s (.s (.s (.s (.s .z)))))))))))))) | exact .s (.s (.s (.s (.s (.s (.s (.s (.s (.s (.s (.s (.s (.s (.s (.s .z))))))))))))))) | exact .s (.s (.s (.s (.s (.s (.s (.s (.s (.s (.s (.s (.s (.s (.s (.s (.s .z)))))))))))))))) | exact .s (.s (.s (.s (.s (.s (.s (.s (.s (.s (.s (.s (.s (.s (.s (.s (.s (.s .z))))))))))))))))) | exact .s (.s (.s (.s (.s (.s (.s (.s (.s (.s (.s (.s (.s (.s (.s (.s (.s (.s (.s .z)))))))))))))))))))
local macro_rules | `(tactic| walk_at "mu") => `(tactic| first | exact updM_same | assumption | (rw [updM_ne (by first | assumption | (apply Ne.symm; assumption))]; walk_at "mu"))
local macro_rules | `(tactic| walk_at "isl") => `(tactic| first | exact .im | exact .mu (by walk_at "mu"))
local macro_rules | `(tactic| walk_at "isi") => `(tactic| first | exact .im | exact .mu (by walk_at "mu"))
local macro_rules | `(tactic| walk_at "isq") => `(tactic| first | exact .im | exact .tup | exact .mu (by walk_at "mu"))
local macro_rules | `(tactic| walk_at "e") => `(tactic| first
  | refine AE.name (by assumption) (by with_reducible (walk_at "nth")) (by decide +kernel) rfl ?_
  | refine AE.int ?_ | refine AE.str ?_ | refine AE.bl ?_ | refine AE.non ?_
  | refine AE.add ?_ | refine AE.sub ?_ | refine AE.mul ?_ | refine AE.mod ?_ | refine AE.fdiv ?_ | refine AE.pow ?_
  | refine AE.lt ?_ | refine AE.le ?_ | refine AE.gt ?_ | refine AE.ge ?_
  | refine AT.lt ?_ | refine AT.le ?_ | refine AT.gt ?_ | refine AT.ge ?_
  | refine AT.isN ?_ | refine AT.notN ?_ | refine AE.isN ?_ | refine AE.notN ?_
  | refine AT.not ?_
  | refine AA.cons ?_ | refine AA.nil ?_
  | refine ASs.cons ?_ | refine ASs.nil ?_
  | refine AS.ret ?_ | refine AS.ifs ?_ | refine AS.expr ?_ | refine AS.pass ?_ | refine AS.brk ?_
  | refine AS.set (by assumption) (by with_reducible (walk_at "nth")) (by decide +kernel) ?_
  | refine AG.name (by assumption) (by with_reducible (walk_at "nth")) (by decide +kernel) ?_
  | refine ⟨_, .int, ?_⟩
  | refine ⟨_, by (walk_at "sr"), ?_⟩
  | refine ⟨_, _, rfl, rfl, ?_⟩)
local macro_rules | `(tactic| walk_at "es") => `(tactic| repeat (walk_at "e"))
def itF (nm : Str) (lo hi pr : Int) : List (Str × D) := [("parts", .tup [.str nm, .int lo, .int hi, .int pr])]
theorem itD_eq {CI : Addr} {nm : Str} {lo hi pr : Int} : itD CI nm lo hi pr = .ins CI (itF nm lo hi pr) := rfl
def aItem : ASp := fun ds m Q => ∃ a CI nm lo hi pr, ds = [.ref a, .str nm, .int lo, .int hi, .int pr] ∧ m a = some (.ins CI []) ∧ GoodName nm ∧ lo ≤ hi ∧ 1 ≤ pr ∧ pr ≤ 999 ∧ Q .non (updM m a (.ins CI (itF nm lo hi (if lo < hi then pr else 0))))
abbrev nItem : List Str := ["self", "name", "least", "greatest", "price"]
theorem scItem : FnScope nItem nItem (defScope (mth 17 1)) := ⟨rfl, rfl, rfl, by decide +kernel, rfl, by decide +kernel, by decide +kernel⟩
/-- the facts that the walks take -/
structure Fc (P : Program) (w : World) (K : PySem.W.Frag) (mg : Str → Option Value) (base : Heap) (CI CP : Addr) : Prop where
  free : ∀ x, frees.contains x = true → mg x = none
  gI : mg "Item" = some (.ref CI)
  gP : mg "Pool" = some (.ref CP)
  mx : ∃ t, mg "MAX_NAME" = some (.int 8 t)
  le : ∃ t, mg "LETTERS" = some (.str LETS t)
  cI : Cls K CI
  cP : Cls K CP
  tI : InsTy K CI
  kI : PySem.W.kitOne K (.ref CI) (.ref CI) = some true
  nI : NoAttr K CI "parts"
  nP : NoAttr K CP "by_name"
  most : ∃ mc u, ClX.CRead K CI mc ∧ ClX.CVal K CI mc "MOST" (.int 999) u
theorem body_item {X : Cx} {k : Nat} {CP CI : Addr} (hx : XF X (fbOf nItem (defScope (mth 17 1))) k) (hk : 1 ≤ k) (hs : X.env.scope = defScope (mth 17 1)) (hf : Fc X.prog X.w X.K X.mg X.base CI CP) (cN : Stm X.prog X.w X.K X.mg X.base 1 CI "is_name" aIsName) (cI : Cal X.prog X.w X.K X.mg X.base 1 "is_integer" aIsInt) (ds : List D) (m : Mu) (Q : QD)
    (h : ∃ a nm lo hi pr, ds = [.ref a, .str nm, .int lo, .int hi, .int pr] ∧ m a = some (.ins CI []) ∧ GoodName nm ∧ lo ≤ hi ∧ 1 ≤ pr ∧ pr ≤ 999 ∧ Q .non (updM m a (.ins CI (itF nm lo hi (if lo < hi then pr else 0))))) :
    ASs X (defBody (mth 17 1)) (startR nItem ds) m { nx := fun _ m' => Q .non m', rt := Q } := by
  obtain ⟨a, nm, lo, hi, pr, rfl, hm, g, h1, h2, h3, q⟩ := h
  show ASs X (defBody (mth 17 1)) [some (.ref a), some (.str nm), some (.int lo), some (.int hi), some (.int pr)] m _
  walk_at "es"
  refine AT.ofW (AW.or ?_)
  walk_at "e"
  refine AT.val ?_
  refine AE.stm cN hx hk ?_
  refine AE.gref hx (by decide +kernel) hf.gI ?_
  refine ⟨rfl, ?_⟩
  walk_at "es"
  refine ⟨nm, rfl, g, true, rfl, ?_⟩
  refine ⟨fun e => (by cases e), fun _ => ?_⟩
  refine AW.or ?_
  walk_at "e"
  refine AT.val ?_
  refine AE.callC cI hx hk (by decide +kernel) ?_
  walk_at "es"
  refine ⟨lo, rfl, true, rfl, ?_⟩
  refine ⟨fun e => (by cases e), fun _ => ?_⟩
  refine AW.or ?_
  walk_at "e"
  refine AT.val ?_
  refine AE.callC cI hx hk (by decide +kernel) ?_
  walk_at "es"
  refine ⟨hi, rfl, true, rfl, ?_⟩
  refine ⟨fun e => (by cases e), fun _ => ?_⟩
  refine AW.or1 ?_
  walk_at "es"
  rw [decide_eq_true h1]
  refine ⟨fun e => (by cases e), fun _ => ?_⟩
  walk_at "es"
  refine AT.ofW (AW.or ?_)
  walk_at "e"
  refine AT.val ?_
  refine AE.callC cI hx hk (by decide +kernel) ?_
  walk_at "es"
  refine ⟨pr, rfl, true, rfl, ?_⟩
  refine ⟨fun e => (by cases e), fun _ => ?_⟩
  refine AW.or1 ?_
  walk_at "e"
  refine AT.chain oa_le oa_le ?_
  walk_at "es"
  rw [decide_eq_true h2]
  refine ⟨true, rfl, fun _ => ?_, fun e => (by cases e)⟩
  refine AE.cval ?_
  refine AE.gref hx (by decide +kernel) hf.gI ?_
  obtain ⟨mc, u, c1, c2⟩ := hf.most
  refine ⟨CI, mc, _, u, .int 999, rfl, c1, c2, rfl, ?_⟩
  walk_at "es"
  rw [decide_eq_true h3]
  refine ⟨true, rfl, ?_⟩
  refine ⟨fun e => (by cases e), fun _ => ?_⟩
  walk_at "e"; walk_at "e"
  refine AS.fld ?_
  refine AE.tup ?_
  walk_at "es"
  refine AE.ifx ?_
  walk_at "es"
  refine ⟨fun c => ?_, fun c => ?_⟩
  · walk_at "es"
    refine ⟨(show 4 ≤ sizeLine by decide), ?_⟩
    walk_at "es"
    refine ⟨a, CI, _, rfl, hm, hf.cI, hf.nI, by decide, ?_⟩
    walk_at "es"
    rw [if_pos (of_decide_eq_true c)] at q
    exact q
  · walk_at "es"
    refine ⟨(show 4 ≤ sizeLine by decide), ?_⟩
    walk_at "es"
    refine ⟨a, CI, _, rfl, hm, hf.cI, hf.nI, by decide, ?_⟩
    walk_at "es"
    rw [if_neg (of_decide_eq_false c)] at q
    exact q
/-! ### Item's properties -/
def aPart (d : Str → Int → Int → Int → D) : Addr → ASp := fun CI ds m Q => ∃ nm lo hi pr, ds = [itD CI nm lo hi pr] ∧ Q (d nm lo hi pr) m
abbrev nSelf : List Str := ["self"]
theorem scI4 : FnScope nSelf ["self"] (defScope (mth 17 4)) := ⟨rfl, rfl, rfl, by decide +kernel, rfl, by decide +kernel, by decide +kernel⟩
theorem scI5 : FnScope nSelf ["self"] (defScope (mth 17 5)) := ⟨rfl, rfl, rfl, by decide +kernel, rfl, by decide +kernel, by decide +kernel⟩
theorem scI6 : FnScope nSelf ["self"] (defScope (mth 17 6)) := ⟨rfl, rfl, rfl, by decide +kernel, rfl, by decide +kernel, by decide +kernel⟩
abbrev aName : Addr → ASp := aPart fun nm _ _ _ => .str nm
abbrev aLeast : Addr → ASp := aPart fun _ lo _ _ => .int lo
abbrev aGreatest : Addr → ASp := aPart fun _ _ hi _ => .int hi
theorem body_name {X : Cx} {k : Nat} {CP CI : Addr} (hx : XF X (fbOf nSelf (defScope (mth 17 4))) k) (hf : Fc X.prog X.w X.K X.mg X.base CI CP) (ds : List D) (m : Mu) (Q : QD) (h : aName CI ds m Q) :
    ASs X (defBody (mth 17 4)) (startR nSelf ds) m { nx := fun _ m' => Q .non m', rt := Q } := by
  obtain ⟨nm, lo, hi, pr, rfl, q⟩ := h
  show ASs X (defBody (mth 17 4)) [some (itD CI nm lo hi pr)] m _
  walk_at "es"
  refine AE.ix ixa_tup ?_
  refine AE.fld ?_
  walk_at "e"
  refine ⟨CI, _, _, .im, hf.cI, hf.nI, rfl, ?_⟩
  walk_at "es"
  exact ⟨_, _, _, rfl, rfl, rfl, q⟩
theorem body_least {X : Cx} {k : Nat} {CP CI : Addr} (hx : XF X (fbOf nSelf (defScope (mth 17 5))) k) (hf : Fc X.prog X.w X.K X.mg X.base CI CP) (ds : List D) (m : Mu) (Q : QD) (h : aLeast CI ds m Q) :
    ASs X (defBody (mth 17 5)) (startR nSelf ds) m { nx := fun _ m' => Q .non m', rt := Q } := by
  obtain ⟨nm, lo, hi, pr, rfl, q⟩ := h
  show ASs X (defBody (mth 17 5)) [some (itD CI nm lo hi pr)] m _
  walk_at "es"
  refine AE.ix ixa_tup ?_
  refine AE.fld ?_
  walk_at "e"
  refine ⟨CI, _, _, .im, hf.cI, hf.nI, rfl, ?_⟩
  walk_at "es"
  exact ⟨_, _, _, rfl, rfl, rfl, q⟩
theorem body_greatest {X : Cx} {k : Nat} {CP CI : Addr} (hx : XF X (fbOf nSelf (defScope (mth 17 6))) k) (hf : Fc X.prog X.w X.K X.mg X.base CI CP) (ds : List D) (m : Mu) (Q : QD) (h : aGreatest CI ds m Q) :
    ASs X (defBody (mth 17 6)) (startR nSelf ds) m { nx := fun _ m' => Q .non m', rt := Q } := by
  obtain ⟨nm, lo, hi, pr, rfl, q⟩ := h
  show ASs X (defBody (mth 17 6)) [some (itD CI nm lo hi pr)] m _
  walk_at "es"
  refine AE.ix ixa_tup ?_
  refine AE.fld ?_
  walk_at "e"
  refine ⟨CI, _, _, .im, hf.cI, hf.nI, rfl, ?_⟩
  walk_at "es"
  exact ⟨_, _, _, rfl, rfl, rfl, q⟩
def aBefore (CI : Addr) : ASp := fun ds m Q => ∃ n1 l1 h1 p1 n2 l2 h2 p2, ds = [itD CI n1 l1 h1 p1, itD CI n2 l2 h2 p2] ∧ Q (.bl (decide (h1 < l2))) m
abbrev nBefore : List Str := ["self", "other"]
theorem scBefore : FnScope nBefore nBefore (defScope (mth 17 11)) := ⟨rfl, rfl, rfl, by decide +kernel, rfl, by decide +kernel, by decide +kernel⟩
theorem body_before {X : Cx} {k : Nat} {CP CI : Addr} (hx : XF X (fbOf nBefore (defScope (mth 17 11))) k) (hk : 2 ≤ k) (hf : Fc X.prog X.w X.K X.mg X.base CI CP) (c1 : Prp X.prog X.w X.K X.mg X.base 1 CI "greatest" (aGreatest CI)) (c2 : Prp X.prog X.w X.K X.mg X.base 1 CI "least" (aLeast CI)) (ds : List D) (m : Mu) (Q : QD) (h : aBefore CI ds m Q) :
    ASs X (defBody (mth 17 11)) (startR nBefore ds) m { nx := fun _ m' => Q .non m', rt := Q } := by
  obtain ⟨n1, l1, h1, p1, n2, l2, h2, p2, rfl, q⟩ := h
  show ASs X (defBody (mth 17 11)) [some (itD CI n1 l1 h1 p1), some (itD CI n2 l2 h2 p2)] m _
  walk_at "es"
  refine AE.prp c1 hx hk ?_
  walk_at "e"
  refine ⟨_, .im, _, _, _, _, rfl, ?_⟩
  refine AE.prp c2 hx hk ?_
  walk_at "e"
  refine ⟨_, .im, _, _, _, _, rfl, ?_⟩
  exact ⟨_, _, rfl, rfl, q⟩
end K76
namespace K76
open PySem PySem.Spec PyProof.Rows L2 Ab
local macro_rules | `(tactic| walk_at "nth") => `(tactic| first | exact .z | exact .s .z | exact .s (.s .z) | exact .s (.s (.s .z)) | exact .s (.s (.s (.s .z))) | exact .s (.s (.s (.s (.s .z)))) | exact .s (.s (.s (.s (.s (.s .z))))) | exact .s (.s (.s (.s (.s (.s (.s .z)))))) | exact .s (.s (.s (.s (.s (.s (.s (.s .z))))))) | exact .s (.s (.s (.s (.s (.s (.s (.s (.s .z)))))))) | exact .s (.s (.s (.s (.s (.s (.s (.s (.s (.s .z))))))))) | exact .s (.s (.s (.s (.s (.s (.s (.s (.s (.s (.s .z)))))))))) | exact .s (.s (.s (.s (.s (.s (.s (.s (.s (.s (.s (.s .z))))))))))) | exact .s (.s (.s (.s (.s (.s (.s (.s (.s (.s (.s (.s (.s .z)))))))))))) | exact .s (.s (.s (.s (.s (.s (.s (.s (.s (.s (.s (.s (.s (.s .z))))))))))))) | exact .s (.s (.s (.s (.s (.s (.s (.s (.s (.s (.s (.s (.s (.s (.s .z)))))))))))))) | exact .s (.s (.s (.s (.s (.s (.s (.s (.s (.s (.s (.s (.s (.s (.s (.s .z))))))))))))))) | exact .s (.s (.s (.s (.s (.s (.s (.s (.s (.s (.s (.s (.s (.s (.s (.s (.s .z)))))))))))))))) | exact .s (.s (.s (.s (.s (.s (.s (.s (.s (.s (.s (.s (.s (.s (.s (.s (.s (.s .z))))))))))))))))) | exact .s (.s (.s (.s (.s (.s (.s (.s (.s (.s (.s (.s (.s (.s (.s (.s (.s (.s (.s .z)))))))))))))))))))
local macro_rules | `(tactic| walk_at "sr") => `(tactic| first | exact .z | exact .s .z | exact .s (.s .z) | exact .s (.s (.s .z)) | exact .s (.s (.s (.s .z))) | exact .s (.s (.s (.s (.s .z)))) | exact .s (.s (.s (.s (.s (.s .z))))) | exact .s (.s (.s (.s (.s (.s (.s .z)))))) | exact .s (.s (.s (.s (.s (.s (.s (.s .z))))))) | exact .s (.s (.s (.s (.s (.s (.s (.s (.s .z)))))))) | exact .s (.s (.s (.s (.s (.s (.s (.s (.s (.s .z))))))))) | exact .s (.s (.s (.s (.s (.s (.s (.s (.s (.s (.s .z)))))))))) | exact .s (.s (.s (.s (.s (.s (.s (.s (.s (.s (.s (.s .z))))))))))) | exact .s (.s (.s (.s (.s (.s (.s (.s (.s (.s (.s (.s (.s .z)))))))))))) | exact .s (.s (.s (.s (.s (.s (.s (.s (.s (.s (.s (.s (.s (.s .z))))))))))))) | exact .s (.s (.s (.s (.s (.s (.s (.s (.s (.s (.s (.s (.s (.s (.s .z)))))))))))))) | exact .s (.s (.s (.s (.s (.s (.s (.s (.s (.s (.s (.s (.s (.s (.s (.s .z))))))))))))))) | exact .s (.s (.s (.s (.s (.s (.s (.s (.s (.s (.s (.s (.s (.s (.s (.s (.s .z)))))))))))))))) | exact .s (.s (.s (.s (.s (.s (.s (.s (.s (.s (.s (.s (.s (.s (.s (.s (.s (.s .z))))))))))))))))) | exact .s (.s (.s (.s (.s (.s (.s (.s (.s (.s (.s (.s (.s (.s (.s (.s (.s (.s (.s .z)))))))))))))))))))
local macro_rules | `(tactic| walk_at "mu") => `(tactic| first | exact updM_same | assumption | (rw [updM_ne (by first | assumption | (apply Ne.symm; assumption))]; walk_at "mu"))
local macro_rules | `(tactic| walk_at "isl") => `(tactic| first | exact .im | exact .mu (by walk_at "mu"))
local macro_rules | `(tactic| walk_at "isi") => `(tactic| first | exact .im | exact .mu (by walk_at "mu"))
local macro_rules | `(tactic| walk_at "isq") => `(tactic| first | exact .im | exact .tup | exact .mu (by walk_at "mu"))
local macro_rules | `(tactic| walk_at "e") => `(tactic| first
  | refine AE.name (by assumption) (by with_reducible (walk_at "nth")) (by decide +kernel) rfl ?_
  | refine AE.int ?_ | refine AE.str ?_ | refine AE.bl ?_ | refine AE.non ?_
  | refine AE.add ?_ | refine AE.sub ?_ | refine AE.mul ?_ | refine AE.mod ?_ | refine AE.fdiv ?_ | refine AE.pow ?_
  | refine AE.lt ?_ | refine AE.le ?_ | refine AE.gt ?_ | refine AE.ge ?_
  | refine AT.lt ?_ | refine AT.le ?_ | refine AT.gt ?_ | refine AT.ge ?_
  | refine AT.isN ?_ | refine AT.notN ?_ | refine AE.isN ?_ | refine AE.notN ?_
  | refine AT.not ?_
  | refine AA.cons ?_ | refine AA.nil ?_
  | refine ASs.cons ?_ | refine ASs.nil ?_
  | refine AS.ret ?_ | refine AS.ifs ?_ | refine AS.expr ?_ | refine AS.pass ?_ | refine AS.brk ?_
  | refine AS.set (by assumption) (by with_reducible (walk_at "nth")) (by decide +kernel) ?_
  | refine AG.name (by assumption) (by with_reducible (walk_at "nth")) (by decide +kernel) ?_
  | refine ⟨_, .int, ?_⟩
  | refine ⟨_, by (walk_at "sr"), ?_⟩
  | refine ⟨_, _, rfl, rfl, ?_⟩)
local macro_rules | `(tactic| walk_at "es") => `(tactic| repeat (walk_at "e"))
abbrev Itm := Str × Int × Int × Int
def itDr (CI : Addr) (r : Itm) : D := itD CI r.1 r.2.1 r.2.2.1 r.2.2.2
def itK (CI : Addr) (r : Itm) : Key × D := (.inr r.1, itDr CI r)
def poolF (d : D) : List (Str × D) := [("by_name", d)]
def poolR (CP CI : Addr) (rs : List Itm) : D := .ins CP (poolF (.dic (rs.map (itK CI))))
/-! ### Pool() -/
def aInit (CP : Addr) : ASp := fun ds m Q => ∃ a, ds = [.ref a, .tup []] ∧ m a = some (.ins CP []) ∧ Q .non (updM m a (.ins CP (poolF (.dic []))))
abbrev nInit : List Str := ["self", "items", "item"]
theorem scInit : FnScope nInit ["self", "items"] (defScope (mth 21 0)) := ⟨rfl, rfl, rfl, by decide +kernel, rfl, by decide +kernel, by decide +kernel⟩
theorem body_init {X : Cx} {k : Nat} {CP CI : Addr} (hx : XF X (fbOf nInit (defScope (mth 21 0))) k) (hxe : X.xe = fun _ _ => False) (hf : Fc X.prog X.w X.K X.mg X.base CI CP) (ds : List D) (m : Mu) (Q : QD) (h : aInit CP ds m Q) :
    ASs X (defBody (mth 21 0)) (startR nInit ds) m { nx := fun _ m' => Q .non m', rt := Q } := by
  obtain ⟨a, rfl, hm, q⟩ := h
  show ASs X (defBody (mth 21 0)) [some (.ref a), some (.tup []), none] m _
  walk_at "e"
  refine AS.fld ?_
  refine AE.dicM fun b nb => ?_
  walk_at "es"
  have ne : a ≠ b := neM hm nb
  refine ⟨a, CP, _, rfl, by rw [updM_ne ne]; exact hm, hf.cP, hf.nP, (by decide), ?_⟩
  walk_at "e"
  refine AS.forT (α := Unit) (fun _ => .non) hxe hx (AI.tup ?_)
  walk_at "e"
  refine ⟨_, rfl, [], fun _ ρ' m' => ρ' = [some (.ref a), some (.tup []), none] ∧ m' = updM (updM m b (.dic [])) a (.ins CP (poolF (.ref b))), rfl, ⟨rfl, rfl⟩, fun _ _ _ _ => trivial, fun pre x post ρ' m' e => by simp at e, ?_⟩
  rintro ρ' m' ⟨rfl, rfl⟩
  walk_at "e"
  refine AS.forT (α := Unit) (fun _ => .non) hxe hx (AI.tup ?_)
  walk_at "e"
  refine ⟨_, rfl, [], fun _ ρ' m' => ρ' = [some (.ref a), some (.tup []), none] ∧ m' = updM (updM m b (.dic [])) a (.ins CP (poolF (.ref b))), rfl, ⟨rfl, rfl⟩, fun _ _ _ _ => trivial, fun pre x post ρ' m' e => by simp at e, ?_⟩
  rintro ρ' m' ⟨rfl, rfl⟩
  refine ASs.vw (VW.inn (f := "by_name") updM_same rfl (by rw [updM_ne ne.symm, updM_same]) ne) ?_
  walk_at "e"
  rw [delM_updM2 ne.symm, delM_updM nb, updM_updM]
  exact q
/-! ### Pool.read('') -/
def aRead (CP CI : Addr) : ASp := fun ds m Q => ds = [.ref CP, .str Str.empty] ∧ Q (poolR CP CI []) m
def aInit0 (CP : Addr) : ASp := fun ds m Q => ∃ ws rest, ds = ws ++ rest ∧ ws.length = ["self"].length ∧ rest.length ≤ sizeLine ∧ aInit CP (ws ++ [.tup rest]) m Q
theorem aInit0_of {CP : Addr} {a : Addr} {m : Mu} {Q : QD} (h : Q .non (updM m a (.ins CP (poolF (.dic []))))) : aInit0 CP [.ref a] (updM m a (.ins CP [])) Q :=
  ⟨[.ref a], [], rfl, rfl, Nat.zero_le _, a, rfl, updM_same, by rw [updM_updM]; exact h⟩
abbrev nRead : List Str := ["cls", "text", "items", "index", "line", "item"]
theorem scRead : FnScope nRead ["cls", "text"] (defScope (mth 21 1)) := ⟨rfl, rfl, rfl, by decide +kernel, rfl, by decide +kernel, by decide +kernel⟩
theorem body_read {X : Cx} {k : Nat} {CP CI : Addr} (hx : XF X (fbOf nRead (defScope (mth 21 1))) k) (hk : 2 ≤ k) (hxe : X.xe = fun _ _ => False) (hf : Fc X.prog X.w X.K X.mg X.base CI CP) (c : Mkc X.prog X.w X.K X.mg X.base 1 "Pool" CP (aInit0 CP)) (ds : List D) (m : Mu) (Q : QD) (h : aRead CP CI ds m Q) :
    ASs X (defBody (mth 21 1)) (startR nRead ds) m { nx := fun _ m' => Q .non m', rt := Q } := by
  obtain ⟨rfl, q⟩ := h
  show ASs X (defBody (mth 21 1)) [some (.ref CP), some (.str Str.empty), none, none, none, none] m _
  walk_at "e"
  walk_at "e"
  walk_at "e"
  refine AT.val ?_
  refine AE.callB ca_isi hx (by decide +kernel) (hf.free _ (by decide +kernel)) rfl ?_
  walk_at "es"
  refine AE.bty hx (by decide +kernel) (hf.free _ (by decide +kernel)) rfl ?_
  walk_at "es"
  refine ⟨_, _, _, _, _, rfl, .str, .ty, kit_str _, ?_⟩
  refine ⟨true, rfl, ?_⟩
  refine ⟨fun e => (by cases e), fun _ => ?_⟩
  walk_at "e"; walk_at "e"; walk_at "e"
  refine AE.lst ?_
  walk_at "e"
  refine ⟨Nat.zero_le _, ?_⟩
  walk_at "es"
  refine AS.forT (α := Unit) (fun _ => .non) hxe hx (AI.enum hx (by decide +kernel) (hf.free _ (by decide +kernel)) ?_)
  refine AE.ifx ?_
  refine AT.neS ?_
  walk_at "es"
  refine ⟨rfl, ?_⟩
  refine ⟨fun e => (by cases e), fun _ => ?_⟩
  refine AE.lst ?_
  walk_at "e"
  refine ⟨Nat.zero_le _, ?_⟩
  refine ⟨_, .im, [], fun _ ρ' m' => ρ' = [some (.ref CP), some (.str Str.empty), some (.lst []), none, none, none] ∧ m' = m, rfl, ⟨rfl, rfl⟩, fun _ _ _ _ => .im, fun pre x post ρ' m' e => by simp at e, ?_⟩
  rintro ρ' m' ⟨rfl, rfl⟩
  obtain ⟨f, M, F⟩ := c.ex
  walk_at "es"
  refine AE.vw ?_
  refine AE.clsStar M F hx hk ?_
  walk_at "e"
  refine ⟨rfl, ?_⟩
  walk_at "e"
  refine ⟨[], .im, fun a na => aInit0_of ⟨rfl, ?_⟩⟩
  refine ⟨_, _, VW.frz updM_same, ?_⟩
  rw [delM_updM na]
  exact q
/-! ### with_items(item) -/
def aWith (CP CI : Addr) : ASp := fun ds m Q => ∃ rs r, ds = [poolR CP CI rs, .tup [itDr CI r]] ∧ r.1 ∉ rs.map (·.1) ∧ rs.length < 100 ∧ Q (poolR CP CI (rs ++ [r])) m
abbrev nWith : List Str := ["self", "items", "found", "item"]
theorem scWith : FnScope nWith ["self", "items"] (defScope (mth 21 7)) := ⟨rfl, rfl, rfl, by decide +kernel, rfl, by decide +kernel, by decide +kernel⟩
theorem put_new {CI : Addr} {rs : List Itm} {r : Itm} (h : r.1 ∉ rs.map (·.1)) : putKD (rs.map (itK CI)) (.inr r.1) (itDr CI r) = (rs ++ [r]).map (itK CI) := by
  unfold putKD
  rw [if_neg]
  · simp [itK]
  · intro z
    rw [List.any_map, List.any_eq_true] at z
    obtain ⟨u, hu, e⟩ := z
    exact h (List.mem_map.mpr ⟨u, hu, by simpa [itK] using e⟩)
theorem body_with {X : Cx} {k : Nat} {CP CI : Addr} (hx : XF X (fbOf nWith (defScope (mth 21 7))) k) (hk : 2 ≤ k) (hxe : X.xe = fun _ _ => False) (hf : Fc X.prog X.w X.K X.mg X.base CI CP) (c : Mkc X.prog X.w X.K X.mg X.base 1 "Pool" CP (aInit0 CP)) (cn : Prp X.prog X.w X.K X.mg X.base 1 CI "name" (aName CI)) (ds : List D) (m : Mu) (Q : QD) (h : aWith CP CI ds m Q) :
    ASs X (defBody (mth 21 7)) (startR nWith ds) m { nx := fun _ m' => Q .non m', rt := Q } := by
  obtain ⟨rs, r, rfl, h1, h2, q⟩ := h
  show ASs X (defBody (mth 21 7)) [some (poolR CP CI rs), some (.tup [itDr CI r]), none, none] m _
  walk_at "es"
  refine AE.mkC0 c hx hk (by decide +kernel) fun a na => aInit0_of ⟨rfl, ?_⟩
  walk_at "es"
  refine AS.fld ?_
  refine AE.callT ca_dictcopy hx (by decide +kernel) (hf.free _ (by decide +kernel)) rfl ?_
  walk_at "e"
  refine AE.fld ?_
  walk_at "e"
  refine ⟨CP, _, _, .im, hf.cP, hf.nP, rfl, ?_⟩
  walk_at "e"
  refine ⟨_, _, rfl, .im, fun b nb => ?_⟩
  obtain ⟨ne, nb⟩ := updM_none nb
  walk_at "e"
  refine ⟨a, CP, _, rfl, by rw [updM_ne ne.symm, updM_same], hf.cP, hf.nP, (by decide), ?_⟩
  rw [updM_comm ne.symm, updM_updM]
  walk_at "e"
  refine AS.forT (α := Itm) (itDr CI) hxe hx (AI.tup ?_)
  walk_at "e"
  refine ⟨_, rfl, [r], fun pre ρ' m' => (∃ o, ρ' = [some (poolR CP CI rs), some (.tup [itDr CI r]), some (.ref a), o]) ∧ m' = updM (updM m b (.dic ((rs ++ pre).map (itK CI)))) a (.ins CP (poolF (.ref b))), rfl, ⟨⟨_, rfl⟩, by rw [List.append_nil]; rfl⟩, fun _ _ _ _ => trivial, ?_, ?_⟩
  · rintro pre x post ρ' m' e ⟨⟨o, rfl⟩, rfl⟩
    have ep : pre = [] ∧ x = r := by
      cases pre with
      | nil => simp at e; exact ⟨rfl, e.1.symm⟩
      | cons u pre => simp at e
    obtain ⟨rfl, rfl⟩ := ep
    walk_at "es"
    refine AT.val ?_
    refine AE.callB ca_isi hx (by decide +kernel) (hf.free _ (by decide +kernel)) rfl ?_
    walk_at "es"
    refine AE.gref hx (by decide +kernel) hf.gI ?_
    walk_at "es"
    refine ⟨_, _, _, _, _, rfl, .ins .im hf.tI, .own, hf.kI, ?_⟩
    refine ⟨true, rfl, ?_⟩
    refine ⟨fun e => (by cases e), fun _ => ?_⟩
    walk_at "es"
    refine AS.dput hx ?_
    walk_at "e"
    refine AE.fld ?_
    walk_at "e"
    refine ⟨CP, _, _, .mu updM_same, hf.cP, hf.nP, rfl, ?_⟩
    refine AE.prp cn hx hk ?_
    walk_at "e"
    refine ⟨_, .im, _, _, _, _, rfl, ?_⟩
    refine ⟨b, _, _, rfl, by rw [updM_ne ne, updM_same], rfl, by simp; exact Nat.lt_trans h2 (by decide), ?_⟩
    walk_at "e"
    refine ⟨⟨_, rfl⟩, ?_⟩
    rw [List.append_nil, put_new h1, updM_comm ne.symm, updM_updM]
    rfl
  · rintro ρ' m' ⟨⟨o, rfl⟩, rfl⟩
    walk_at "e"; walk_at "e"
    refine AE.vw ?_
    walk_at "e"
    refine ⟨_, _, (VW.inn (f := "by_name") updM_same rfl (by rw [updM_ne ne, updM_same]) ne.symm).trans (VW.frz updM_same), ?_⟩
    rw [delM_updM2 ne, delM_updM nb, updM_updM, delM_updM na]
    exact q
/-! ### names, item -/
def aNames (CP CI : Addr) : ASp := fun ds m Q => ∃ rs, ds = [poolR CP CI rs] ∧ rs.length < 64 ∧ ∀ ys : List Str, ys.Perm (rs.map (·.1)) → sortedS ys = true → Q (.lst (ys.map D.str)) m
theorem scNames : FnScope nSelf ["self"] (defScope (mth 21 2)) := ⟨rfl, rfl, rfl, by decide +kernel, rfl, by decide +kernel, by decide +kernel⟩
theorem body_names {X : Cx} {k : Nat} {CP CI : Addr} (hx : XF X (fbOf nSelf (defScope (mth 21 2))) k) (hf : Fc X.prog X.w X.K X.mg X.base CI CP) (ds : List D) (m : Mu) (Q : QD) (h : aNames CP CI ds m Q) :
    ASs X (defBody (mth 21 2)) (startR nSelf ds) m { nx := fun _ m' => Q .non m', rt := Q } := by
  obtain ⟨rs, rfl, h1, q⟩ := h
  show ASs X (defBody (mth 21 2)) [some (poolR CP CI rs)] m _
  walk_at "es"
  refine AE.callB (ca_sortD hx.calm) hx (by decide +kernel) (hf.free _ (by decide +kernel)) rfl ?_
  walk_at "e"
  refine AE.fld ?_
  walk_at "e"
  refine ⟨CP, _, _, .im, hf.cP, hf.nP, rfl, ?_⟩
  walk_at "e"
  exact ⟨_, _, rs.map (·.1), rfl, .im, by simp [itK, Function.comp_def], by simpa using h1, q⟩
def aItemOf (CP CI : Addr) : ASp := fun ds m Q => ∃ rs nm d, ds = [poolR CP CI rs, .str nm] ∧ getK (rs.map (itK CI)) (.inr nm) = some d ∧ Q d m
abbrev nItemOf : List Str := ["self", "name"]
theorem scItemOf : FnScope nItemOf nItemOf (defScope (mth 21 4)) := ⟨rfl, rfl, rfl, by decide +kernel, rfl, by decide +kernel, by decide +kernel⟩
theorem body_itemof {X : Cx} {k : Nat} {CP CI : Addr} (hx : XF X (fbOf nItemOf (defScope (mth 21 4))) k) (hf : Fc X.prog X.w X.K X.mg X.base CI CP) (ds : List D) (m : Mu) (Q : QD) (h : aItemOf CP CI ds m Q) :
    ASs X (defBody (mth 21 4)) (startR nItemOf ds) m { nx := fun _ m' => Q .non m', rt := Q } := by
  obtain ⟨rs, nm, d, rfl, h1, q⟩ := h
  show ASs X (defBody (mth 21 4)) [some (poolR CP CI rs), some (.str nm)] m _
  walk_at "e"
  walk_at "e"
  refine AT.ofW (AW.or ?_)
  walk_at "e"
  refine AT.val ?_
  refine AE.callB ca_isi hx (by decide +kernel) (hf.free _ (by decide +kernel)) rfl ?_
  walk_at "es"
  refine AE.bty hx (by decide +kernel) (hf.free _ (by decide +kernel)) rfl ?_
  walk_at "es"
  refine ⟨_, _, _, _, _, rfl, .str, .ty, kit_str _, ?_⟩
  refine ⟨true, rfl, ?_⟩
  refine ⟨fun e => (by cases e), fun _ => ?_⟩
  refine AW.or1 (AT.dnotin hx ?_)
  walk_at "e"
  refine AE.fld ?_
  walk_at "e"
  refine ⟨CP, _, _, .im, hf.cP, hf.nP, rfl, ?_⟩
  refine ⟨_, _, .im, rfl, ?_⟩
  rw [h1]
  refine ⟨fun e => (by cases e), fun _ => ?_⟩
  walk_at "es"
  refine AE.dget hx ?_
  refine AE.fld ?_
  walk_at "e"
  refine ⟨CP, _, _, .im, hf.cP, hf.nP, rfl, ?_⟩
  walk_at "e"
  exact ⟨_, _, _, .im, rfl, h1, q⟩
end K76
namespace K76
open PySem PySem.Spec PyProof.Rows L2 Ab
local macro_rules | `(tactic| walk_at "nth") => `(tactic| first | exact .z | exact .s .z | exact .s (.s .z) | exact .s (.s (.s .z)) | exact .s (.s (.s (.s .z))) | exact .s (.s (.s (.s (.s .z)))) | exact .s (.s (.s (.s (.s (.s .z))))) | exact .s (.s (.s (.s (.s (.s (.s .z)))))) | exact .s (.s (.s (.s (.s (.s (.s (.s .z))))))) | exact .s (.s (.s (.s (.s (.s (.s (.s (.s .z)))))))) | exact .s (.s (.s (.s (.s (.s (.s (.s (.s (.s .z))))))))) | exact .s (.s (.s (.s (.s (.s (.s (.s (.s (.s (.s .z)))))))))) | exact .s (.s (.s (.s (.s (.s (.s (.s (.s (.s (.s (.s .z))))))))))) | exact .s (.s (.s (.s (.s (.s (.s (.s (.s (.s (.s (.s (.s .z)))))))))))) | exact .s (.s (.s (.s (.s (.s (.s (.s (.s (.s (.s (.s (.s (.s .z))))))))))))) | exact .s (.s (.s (.s (.s (.s (.s (.s (.s (.s (.s (.s (.s (.s (.s .z)))))))))))))) | exact .s (.s (.s (.s (.s (.s (.s (.s (.s (.s (.s (.s (.s (.s (.s (.s .z))))))))))))))) | exact .s (.s (.s (.s (.s (.s (.s (.s (.s (.s (.s (.s (.s (.s (.s (.s (.s .z)))))))))))))))) | exact .s (.s (.s (.s (.s (.s (.s (.s (.s (.s (.s (.s (.s (.s (.s (.s (.s (.s .z))))))))))))))))) | exact .s (.s (.s (.s (.s (.s (.s (.s (.s (.s (.s (.s (.s (.s (.s (.s (.s (.s (.s .z)))))))))))))))))))
local macro_rules | `(tactic| walk_at "sr") => `(tactic| first | exact .z | exact .s .z | exact .s (.s .z) | exact .s (.s (.s .z)) | exact .s (.s (.s (.s .z))) | exact .s (.s (.s (.s (.s .z)))) | exact .s (.s (.s (.s (.s (.s .z))))) | exact .s (.s (.s (.s (.s (.s (.s .z)))))) | exact .s (.s (.s (.s (.s (.s (.s (.s .z))))))) | exact .s (.s (.s (.s (.s (.s (.s (.s (.s .z)))))))) | exact .s (.s (.s (.s (.s (.s (.s (.s (.s (.s .z))))))))) | exact .s (.s (.s (.s (.s (.s (.s (.s (.s (.s (.s .z)))))))))) | exact .s (.s (.s (.s (.s (.s (.s (.s (.s (.s (.s (.s .z))))))))))) | exact .s (.s (.s (.s (.s (.s (.s (.s (.s (.s (.s (.s (.s .z)))))))))))) | exact .s (.s (.s (.s (.s (.s (.s (.s (.s (.s (.s (.s (.s (.s .z))))))))))))) | exact .s (.s (.s (.s (.s (.s (.s (.s (.s (.s (.s (.s (.s (.s (.s .z)))))))))))))) | exact .s (.s (.s (.s (.s (.s (.s (.s (.s (.s (.s (.s (.s (.s (.s (.s .z))))))))))))))) | exact .s (.s (.s (.s (.s (.s (.s (.s (.s (.s (.s (.s (.s (.s (.s (.s (.s .z)))))))))))))))) | exact .s (.s (.s (.s (.s (.s (.s (.s (.s (.s (.s (.s (.s (.s (.s (.s (.s (.s .z))))))))))))))))) | exact .s (.s (.s (.s (.s (.s (.s (.s (.s (.s (.s (.s (.s (.s (.s (.s (.s (.s (.s .z)))))))))))))))))))
local macro_rules | `(tactic| walk_at "mu") => `(tactic| first | exact updM_same | assumption | (rw [updM_ne (by first | assumption | (apply Ne.symm; assumption))]; walk_at "mu"))
local macro_rules | `(tactic| walk_at "isl") => `(tactic| first | exact .im | exact .mu (by walk_at "mu"))
local macro_rules | `(tactic| walk_at "isi") => `(tactic| first | exact .im | exact .mu (by walk_at "mu"))
local macro_rules | `(tactic| walk_at "isq") => `(tactic| first | exact .im | exact .tup | exact .mu (by walk_at "mu"))
local macro_rules | `(tactic| walk_at "e") => `(tactic| first
  | refine AE.name (by assumption) (by with_reducible (walk_at "nth")) (by decide +kernel) rfl ?_
  | refine AE.int ?_ | refine AE.str ?_ | refine AE.bl ?_ | refine AE.non ?_
  | refine AE.add ?_ | refine AE.sub ?_ | refine AE.mul ?_ | refine AE.mod ?_ | refine AE.fdiv ?_ | refine AE.pow ?_
  | refine AE.lt ?_ | refine AE.le ?_ | refine AE.gt ?_ | refine AE.ge ?_
  | refine AT.lt ?_ | refine AT.le ?_ | refine AT.gt ?_ | refine AT.ge ?_
  | refine AT.isN ?_ | refine AT.notN ?_ | refine AE.isN ?_ | refine AE.notN ?_
  | refine AT.not ?_
  | refine AA.cons ?_ | refine AA.nil ?_
  | refine ASs.cons ?_ | refine ASs.nil ?_
  | refine AS.ret ?_ | refine AS.ifs ?_ | refine AS.expr ?_ | refine AS.pass ?_ | refine AS.brk ?_
  | refine AS.set (by assumption) (by with_reducible (walk_at "nth")) (by decide +kernel) ?_
  | refine AG.name (by assumption) (by with_reducible (walk_at "nth")) (by decide +kernel) ?_
  | refine ⟨_, .int, ?_⟩
  | refine ⟨_, by (walk_at "sr"), ?_⟩
  | refine ⟨_, _, rfl, rfl, ?_⟩)
local macro_rules | `(tactic| walk_at "es") => `(tactic| repeat (walk_at "e"))
/-- the items that a pool holds under these names -/
def Has (CI : Addr) (rs : List Itm) (r : Itm) : Prop := getK (rs.map (itK CI)) (.inr r.1) = some (itDr CI r)
/-! ### may_precede -/
def aMay (CP CI : Addr) : ASp := fun ds m Q => ∃ rs r1 r2, ds = [poolR CP CI rs, .str r1.1, .str r2.1] ∧ Has CI rs r1 ∧ Has CI rs r2 ∧ Q (.bl (decide (r1.1 ≠ r2.1) && !decide (r2.2.2.1 < r1.2.1))) m
abbrev nMay : List Str := ["pool", "first", "second", "one", "other"]
theorem scMay : FnScope nMay ["pool", "first", "second"] (defScope (top 12)) := ⟨rfl, rfl, rfl, by decide +kernel, rfl, by decide +kernel, by decide +kernel⟩
theorem body_may {X : Cx} {k : Nat} {CP CI : Addr} (hx : XF X (fbOf nMay (defScope (top 12))) k) (hk : 3 ≤ k) (hs : X.env.scope = defScope (top 12)) (hf : Fc X.prog X.w X.K X.mg X.base CI CP) (ci : Mth X.prog X.w X.K X.mg X.base 1 CP "item" (aItemOf CP CI)) (cb : Mth X.prog X.w X.K X.mg X.base 3 CI "is_surely_before" (aBefore CI)) (ds : List D) (m : Mu) (Q : QD) (h : aMay CP CI ds m Q) :
    ASs X (defBody (top 12)) (startR nMay ds) m { nx := fun _ m' => Q .non m', rt := Q } := by
  obtain ⟨rs, r1, r2, rfl, h1, h2, q⟩ := h
  show ASs X (defBody (top 12)) [some (poolR CP CI rs), some (.str r1.1), some (.str r2.1), none, none] m _
  walk_at "e"
  refine AS.par (i := 3) (j := 4) hx (.s (.s (.s .z))) (.s (.s (.s (.s .z)))) (by decide) (by rw [hs]; decide +kernel) (by rw [hs]; decide +kernel) (by simp only [swappedStores, Env.blockKind, Env.kindOf, hs]; rfl) ?_
  walk_at "e"
  refine AE.mth ci hx (by omega) ?_
  walk_at "e"
  refine ⟨_, .im, rfl, ?_⟩
  walk_at "es"
  refine ⟨rs, _, _, rfl, h1, ?_⟩
  walk_at "e"
  refine AE.mth ci hx (by omega) ?_
  walk_at "e"
  refine ⟨_, .im, rfl, ?_⟩
  walk_at "es"
  refine ⟨rs, _, _, rfl, h2, ?_⟩
  walk_at "e"
  refine ⟨_, _, _, _, rfl, by walk_at "sr", by walk_at "sr", ?_⟩
  walk_at "es"
  refine AE.and ?_
  refine AE.neS ?_
  walk_at "es"
  refine ⟨rfl, _, rfl, fun e => ?_, fun e => ?_⟩
  · refine AE.one (AE.not ?_)
    refine AE.mth cb hx hk ?_
    walk_at "e"
    refine ⟨_, .im, rfl, ?_⟩
    walk_at "es"
    refine ⟨_, _, _, _, _, _, _, _, rfl, _, rfl, ?_⟩
    rw [decide_eq_true (show r1.1 ≠ r2.1 by intro z; rw [z] at e; simp at e)] at q
    exact q
  · rw [decide_eq_false (show ¬ r1.1 ≠ r2.1 by intro z; simp [z] at e)] at q
    exact q
/-! ### check_order -/
def aCheck (CP CI : Addr) : ASp := fun ds m Q => ∃ rs, ∃ os : List Str, ds = [poolR CP CI rs, .lst (os.map D.str)] ∧ os.Perm (rs.map (·.1)) ∧ rs.length < 64 ∧ (∀ s ∈ os, PyData.canLay0 (.str s) = true) ∧ Q .non m
abbrev nCheck : List Str := ["pool", "order", "name"]
theorem scCheck : FnScope nCheck ["pool", "order"] (defScope (top 10)) := ⟨rfl, rfl, rfl, by decide +kernel, rfl, by decide +kernel, by decide +kernel⟩
theorem kit_lt (K : PySem.W.Frag) : PySem.W.kitAny K (.type "list") [.type "list", .type "tuple"] = some true := by rfl
theorem body_check {X : Cx} {k : Nat} {CP CI : Addr} (hx : XF X (fbOf nCheck (defScope (top 10))) k) (hk : 3 ≤ k) (hs : X.env.scope = defScope (top 10)) (hf : Fc X.prog X.w X.K X.mg X.base CI CP) (cn : Prp X.prog X.w X.K X.mg X.base 1 CP "names" (aNames CP CI)) (ds : List D) (m : Mu) (Q : QD) (h : aCheck CP CI ds m Q) :
    ASs X (defBody (top 10)) (startR nCheck ds) m { nx := fun _ m' => Q .non m', rt := Q } := by
  obtain ⟨rs, os, rfl, h1, h2, h3, q⟩ := h
  have hl : os.length < 64 := by rw [h1.length_eq]; simpa using h2
  show ASs X (defBody (top 10)) [some (poolR CP CI rs), some (.lst (os.map D.str)), none] m _
  walk_at "e"
  walk_at "e"
  refine AT.ofW (AW.or ?_)
  walk_at "e"
  refine AT.val ?_
  refine AE.callB ca_isiT hx (by decide +kernel) (hf.free _ (by decide +kernel)) rfl ?_
  walk_at "es"
  refine AE.tup ?_
  walk_at "e"
  refine AE.bty hx (by decide +kernel) (hf.free _ (by decide +kernel)) rfl ?_
  walk_at "e"
  refine AE.bty hx (by decide +kernel) (hf.free _ (by decide +kernel)) rfl ?_
  walk_at "e"
  refine ⟨(show 2 ≤ sizeLine by decide), ?_⟩
  walk_at "e"
  refine ⟨_, _, _, _, _, _, _, rfl, .lst .im, .ty, .ty, kit_lt _, ?_⟩
  refine ⟨true, rfl, ?_⟩
  refine ⟨fun e => (by cases e), fun _ => ?_⟩
  refine AW.or1 ?_
  walk_at "e"
  refine AT.val ?_
  refine AE.callB (ca_all hx.calm) hx (by decide +kernel) (hf.free _ (by decide +kernel)) rfl ?_
  walk_at "e"
  refine AE.lcP D.str hx hs (.s (.s .z)) (by decide +kernel) ?_
  refine AI.list ?_
  walk_at "e"
  refine ⟨_, .im, os, fun _ => some (.bl true), rfl, Nat.lt_trans hl (by decide), fun _ _ => .im, ?_, ?_⟩
  · intro c hc m' hm'
    refine ⟨_, by walk_at "sr", rfl, fun _ => ?_, fun e => nomatch e⟩
    refine ABE.of hx hs fun s0 H0 C0 cl0 fp0 hb hbs => ?_
    refine AE.callB ca_isi hb (by decide +kernel) (hf.free _ (by decide +kernel)) rfl ?_
    walk_at "es"
    refine AE.bty hb (by decide +kernel) (hf.free _ (by decide +kernel)) rfl ?_
    walk_at "es"
    exact ⟨_, _, _, _, _, rfl, .str, .ty, kit_str _, rfl, rfl⟩
  walk_at "e"
  refine ⟨_, os.map fun _ => true, rfl, ?_, ?_⟩
  · rw [show (os.map fun _ => true).map D.bl = os.filterMap fun _ => some (.bl true) by simp]
    exact .im
  refine ⟨true, by simp, ?_⟩
  refine ⟨fun e => (by cases e), fun _ => ?_⟩
  walk_at "es"
  refine AT.neD (eqK_str.list) hx (by decide) ?_
  refine AE.callB ca_sortS hx (by decide +kernel) (hf.free _ (by decide +kernel)) rfl ?_
  walk_at "es"
  refine ⟨_, os, rfl, .im, hl, fun ys y1 y2 => ?_⟩
  refine AE.prp cn hx (by omega) ?_
  walk_at "e"
  refine ⟨_, .im, rs, rfl, h2, fun zs z1 z2 => ?_⟩
  have e : ys = zs := sortedS_unique (y1.trans (h1.trans z1.symm)) y2 z2
  subst e
  refine ⟨ys, ys, .im, .im, fun s hs => h3 s (y1.mem_iff.mp hs), fun s hs => h3 s (y1.mem_iff.mp hs), ?_⟩
  rw [decide_eq_true rfl]
  refine ⟨fun e => (by cases e), fun _ => ?_⟩
  walk_at "es"
  exact q
end K76
namespace K76
open PySem PySem.Spec PyProof.Rows L2 Ab
local macro_rules | `(tactic| walk_at "nth") => `(tactic| first | exact .z | exact .s .z | exact .s (.s .z) | exact .s (.s (.s .z)) | exact .s (.s (.s (.s .z))) | exact .s (.s (.s (.s (.s .z)))) | exact .s (.s (.s (.s (.s (.s .z))))) | exact .s (.s (.s (.s (.s (.s (.s .z)))))) | exact .s (.s (.s (.s (.s (.s (.s (.s .z))))))) | exact .s (.s (.s (.s (.s (.s (.s (.s (.s .z)))))))) | exact .s (.s (.s (.s (.s (.s (.s (.s (.s (.s .z))))))))) | exact .s (.s (.s (.s (.s (.s (.s (.s (.s (.s (.s .z)))))))))) | exact .s (.s (.s (.s (.s (.s (.s (.s (.s (.s (.s (.s .z))))))))))) | exact .s (.s (.s (.s (.s (.s (.s (.s (.s (.s (.s (.s (.s .z)))))))))))) | exact .s (.s (.s (.s (.s (.s (.s (.s (.s (.s (.s (.s (.s (.s .z))))))))))))) | exact .s (.s (.s (.s (.s (.s (.s (.s (.s (.s (.s (.s (.s (.s (.s .z)))))))))))))) | exact .s (.s (.s (.s (.s (.s (.s (.s (.s (.s (.s (.s (.s (.s (.s (.s .z))))))))))))))) | exact .s (.s (.s (.s (.s (.s (.s (.s (.s (.s (.s (.s (.s (.s (.s (.s (.s .z)))))))))))))))) | exact .s (.s (.s (.s (.s (.s (.s (.s (.s (.s (.s (.s (.s (.s (.s (.s (.s (.s .z))))))))))))))))) | exact .s (.s (.s (.s (.s (.s (.s (.s (.s (.s (.s (.s (.s (.s (.s (.s (.s (.s (.s .z)))))))))))))))))))
local macro_rules | `(tactic| walk_at "sr") => `(tactic| first | exact .z | exact .s .z | exact .s (.s .z) | exact .s (.s (.s .z)) | exact .s (.s (.s (.s .z))) | exact .s (.s (.s (.s (.s .z)))) | exact .s (.s (.s (.s (.s (.s .z))))) | exact .s (.s (.s (.s (.s (.s (.s .z)))))) | exact .s (.s (.s (.s (.s (.s (.s (.s .z))))))) | exact .s (.s (.s (.s (.s (.s (.s (.s (.s .z)))))))) | exact .s (.s (.s (.s (.s (.s (.s (.s (.s (.s .z))))))))) | exact .s (.s (.s (.s (.s (.s (.s (.s (.s (.s (.s .z)))))))))) | exact .s (.s (.s (.s (.s (.s (.s (.s (.s (.s (.s (.s .z))))))))))) | exact .s (.s (.s (.s (.s (.s (.s (.s (.s (.s (.s (.s (.s .z)))))))))))) | exact .s (.s (.s (.s (.s (.s (.s (.s (.s (.s (.s (.s (.s (.s .z))))))))))))) | exact .s (.s (.s (.s (.s (.s (.s (.s (.s (.s (.s (.s (.s (.s (.s .z)))))))))))))) | exact .s (.s (.s (.s (.s (.s (.s (.s (.s (.s (.s (.s (.s (.s (.s (.s .z))))))))))))))) | exact .s (.s (.s (.s (.s (.s (.s (.s (.s (.s (.s (.s (.s (.s (.s (.s (.s .z)))))))))))))))) | exact .s (.s (.s (.s (.s (.s (.s (.s (.s (.s (.s (.s (.s (.s (.s (.s (.s (.s .z))))))))))))))))) | exact .s (.s (.s (.s (.s (.s (.s (.s (.s (.s (.s (.s (.s (.s (.s (.s (.s (.s (.s .z)))))))))))))))))))
local macro_rules | `(tactic| walk_at "mu") => `(tactic| first | exact updM_same | assumption | (rw [updM_ne (by first | assumption | (apply Ne.symm; assumption))]; walk_at "mu"))
local macro_rules | `(tactic| walk_at "isl") => `(tactic| first | exact .im | exact .mu (by walk_at "mu"))
local macro_rules | `(tactic| walk_at "isi") => `(tactic| first | exact .im | exact .mu (by walk_at "mu"))
local macro_rules | `(tactic| walk_at "isq") => `(tactic| first | exact .im | exact .tup | exact .mu (by walk_at "mu"))
local macro_rules | `(tactic| walk_at "e") => `(tactic| first
  | refine AE.name (by assumption) (by with_reducible (walk_at "nth")) (by decide +kernel) rfl ?_
  | refine AE.int ?_ | refine AE.str ?_ | refine AE.bl ?_ | refine AE.non ?_
  | refine AE.add ?_ | refine AE.sub ?_ | refine AE.mul ?_ | refine AE.mod ?_ | refine AE.fdiv ?_ | refine AE.pow ?_
  | refine AE.lt ?_ | refine AE.le ?_ | refine AE.gt ?_ | refine AE.ge ?_
  | refine AT.lt ?_ | refine AT.le ?_ | refine AT.gt ?_ | refine AT.ge ?_
  | refine AT.isN ?_ | refine AT.notN ?_ | refine AE.isN ?_ | refine AE.notN ?_
  | refine AT.not ?_
  | refine AA.cons ?_ | refine AA.nil ?_
  | refine ASs.cons ?_ | refine ASs.nil ?_
  | refine AS.ret ?_ | refine AS.ifs ?_ | refine AS.expr ?_ | refine AS.pass ?_ | refine AS.brk ?_
  | refine AS.set (by assumption) (by with_reducible (walk_at "nth")) (by decide +kernel) ?_
  | refine AG.name (by assumption) (by with_reducible (walk_at "nth")) (by decide +kernel) ?_
  | refine ⟨_, .int, ?_⟩
  | refine ⟨_, by (walk_at "sr"), ?_⟩
  | refine ⟨_, _, rfl, rfl, ?_⟩)
local macro_rules | `(tactic| walk_at "es") => `(tactic| repeat (walk_at "e"))
/-! ### assignment -/
def flo (f : Option Int) (r : Itm) : Int := match f with
  | none => r.2.1
  | some v => max v r.2.1
def stp (st : Option Int × List (Str × Int)) (r : Itm) : Option (Option Int × List (Str × Int)) := if r.2.2.1 < flo st.1 r then none else some (some (flo st.1 r), st.2 ++ [(r.1, flo st.1 r)])
def climb (st : Option Int × List (Str × Int)) : List Itm → Option (Option Int × List (Str × Int))
  | [] => some st
  | r :: t => (stp st r).bind fun s => climb s t
theorem climb_append : ∀ {xs ys : List Itm} {st : Option Int × List (Str × Int)}, climb st (xs ++ ys) = (climb st xs).bind fun s => climb s ys
  | [], _, _ => rfl
  | x :: xs, ys, st => by
    rw [List.cons_append, climb, climb]
    cases stp st x with
    | none => rfl
    | some s => exact climb_append (xs := xs)
theorem climb_names : ∀ {xs : List Itm} {st s : Option Int × List (Str × Int)}, climb st xs = some s → s.2.map (·.1) = st.2.map (·.1) ++ xs.map (·.1)
  | [], st, s, h => by cases h; simp
  | x :: xs, st, s, h => by
    rw [climb] at h
    unfold stp at h
    split at h
    · cases h
    · have := climb_names (xs := xs) h
      rw [this]; simp
def val (vals : List (Str × Int)) (n : Str) : Int := (vals.lookup n).getD 0
def valK (p : Str × Int) : Key × D := (.inr p.1, .int p.2)
def valD (v : List (Str × Int)) : D := .dic (v.map valK)
theorem val_get {vals : List (Str × Int)} {n : Str} (h : n ∈ vals.map (·.1)) : getK (vals.map valK) (.inr n) = some (.int (val vals n)) := by
  induction vals with
  | nil => simp at h
  | cons p vals ih =>
    obtain ⟨k, v⟩ := p
    by_cases e : k = n
    · subst e; simp [getK, valK, val, List.lookup]
    · have h' : n ∈ vals.map (·.1) := by
        rcases List.mem_map.mp h with ⟨q, hq, rfl⟩
        rcases List.mem_cons.mp hq with rfl | hq
        · exact absurd rfl e
        · exact List.mem_map.mpr ⟨q, hq, rfl⟩
      have g1 : getK (((k, v) :: vals).map valK) (.inr n) = getK (vals.map valK) (.inr n) := by simp [getK, valK, e]
      have g2 : val ((k, v) :: vals) n = val vals n := by
        have : (n == k) = false := by simpa using fun z : n = k => e z.symm
        simp [val, List.lookup, this]
      rw [g1, g2]; exact ih h'
def foD : Option Int → D
  | none => .non
  | some v => .int v
def aAsg (CP CI : Addr) : ASp := fun ds m Q => ∃ rs, ∃ its : List Itm, ds = [poolR CP CI rs, .lst ((its.map (·.1)).map D.str)] ∧ (its.map (·.1)).Perm (rs.map (·.1)) ∧ (rs.map (·.1)).Nodup ∧ rs.length < 64 ∧ (∀ r ∈ its, PyData.canLay0 (.str r.1) = true) ∧ (∀ r ∈ its, Has CI rs r) ∧
  (climb (none, []) its = none → Q .non m) ∧ ∀ s, climb (none, []) its = some s → ∀ ys : List Str, ys.Perm (rs.map (·.1)) → Q (.dic (ys.map fun n => (.inr n, .int (val s.2 n)))) m
abbrev nAsg : List Str := ["pool", "order", "found", "floor", "name", "item"]
theorem scAsg : FnScope nAsg ["pool", "order"] (defScope (top 11)) := ⟨rfl, rfl, rfl, by decide +kernel, rfl, by decide +kernel, by decide +kernel⟩
theorem body_asg {X : Cx} {k : Nat} {CP CI : Addr} (hx : XF X (fbOf nAsg (defScope (top 11))) k) (hk : 4 ≤ k) (hxe : X.xe = fun _ _ => False) (hs : X.env.scope = defScope (top 11)) (hf : Fc X.prog X.w X.K X.mg X.base CI CP)
    (cc : Cal X.prog X.w X.K X.mg X.base 4 "check_order" (aCheck CP CI)) (cn : Prp X.prog X.w X.K X.mg X.base 1 CP "names" (aNames CP CI)) (ci : Mth X.prog X.w X.K X.mg X.base 1 CP "item" (aItemOf CP CI))
    (cg : Prp X.prog X.w X.K X.mg X.base 1 CI "greatest" (aGreatest CI)) (cl : Prp X.prog X.w X.K X.mg X.base 1 CI "least" (aLeast CI)) (ds : List D) (m : Mu) (Q : QD) (h : aAsg CP CI ds m Q) :
    ASs X (defBody (top 11)) (startR nAsg ds) m { nx := fun _ m' => Q .non m', rt := Q } := by
  obtain ⟨rs, its, rfl, h1, h2, h3, h4, h5, q1, q2⟩ := h
  have hl : its.length < 64 := by have := h1.length_eq; simp at this; omega
  have nd : (its.map (·.1)).Nodup := h1.symm.nodup h2
  show ASs X (defBody (top 11)) [some (poolR CP CI rs), some (.lst ((its.map (·.1)).map D.str)), none, none, none, none] m _
  walk_at "e"
  walk_at "e"
  refine AE.callC cc hx hk (by decide +kernel) ?_
  walk_at "es"
  refine ⟨rs, its.map (·.1), rfl, h1, h3, fun s hs => ?_, ?_⟩
  · obtain ⟨r, hr, rfl⟩ := List.mem_map.mp hs; exact h4 r hr
  walk_at "e"; walk_at "e"
  refine AE.dicM fun b nb => ?_
  walk_at "es"
  refine AS.forT (α := Itm) (fun r => D.str r.1) hxe hx (AI.list ?_)
  walk_at "e"
  refine ⟨_, .im, its, fun pre ρ' m' => ∃ st, climb (none, []) pre = some st ∧ (∃ o o2, ρ' = [some (poolR CP CI rs), some (.lst ((its.map (·.1)).map D.str)), some (.ref b), some (foD st.1), o, o2]) ∧ m' = updM m b (.dic (st.2.map valK)), by simp, ⟨_, rfl, ⟨_, _, rfl⟩, rfl⟩, fun _ _ _ _ => .im, ?_, ?_⟩
  · rintro pre r post ρ' m' e ⟨st, hst, ⟨o, o2, rfl⟩, rfl⟩
    have hr : r ∈ its := by rw [e]; simp
    have hcl : climb (none, []) its = (stp st r).bind fun s => climb s post := by rw [e, climb_append, hst]; rfl
    have hpre : climb (none, []) (pre ++ [r]) = stp st r := by
      rw [climb_append, hst]
      show (stp st r).bind (fun s => some s) = stp st r
      cases stp st r <;> rfl
    have nin : r.1 ∉ st.2.map (·.1) := by
      rw [climb_names hst]
      rw [e, List.map_append, List.nodup_append] at nd
      intro z
      exact nd.2.2 r.1 (by simpa using z) r.1 (by simp) rfl
    have lst : st.2.length < sizeLine := by
      have := congrArg List.length (climb_names hst)
      simp at this
      have e2 := congrArg List.length e
      simp at e2
      exact Nat.lt_trans (show st.2.length < 64 by omega) (by decide)
    walk_at "es"
    refine AE.mth ci hx (by omega) ?_
    walk_at "e"
    refine ⟨_, .im, rfl, ?_⟩
    walk_at "es"
    refine ⟨rs, _, _, rfl, h5 r hr, ?_⟩
    refine ⟨_, by walk_at "sr", ?_⟩
    refine ASs.cut (fun ρ' m' => ρ' = [some (poolR CP CI rs), some (.lst ((its.map (·.1)).map D.str)), some (.ref b), some (.int (flo st.1 r)), some (.str r.1), some (itDr CI r)] ∧ m' = updM m b (.dic (st.2.map valK))) ?_ ?_
    · walk_at "e"
      refine AE.ifx ?_
      walk_at "es"
      obtain ⟨f, vs⟩ := st
      cases f with
      | none =>
        refine ⟨fun _ => ?_, fun e => (by cases e)⟩
        refine AE.prp cl hx (by omega) ?_
        walk_at "e"
        refine ⟨_, .im, _, _, _, _, rfl, ?_⟩
        walk_at "e"
        exact ⟨rfl, rfl⟩
      | some v =>
        refine ⟨fun e => (by cases e), fun _ => ?_⟩
        refine AE.callB (ca_max2 hx.calm) hx (by decide +kernel) (hf.free _ (by decide +kernel)) rfl ?_
        walk_at "e"; walk_at "e"; walk_at "e"
        refine AE.prp cl hx (by omega) ?_
        walk_at "e"
        refine ⟨_, .im, _, _, _, _, rfl, ?_⟩
        walk_at "e"
        refine ⟨_, _, rfl, ?_⟩
        walk_at "e"
        exact ⟨rfl, rfl⟩
    · rintro ρ' m' ⟨rfl, rfl⟩
      walk_at "es"
      refine AE.prp cg hx (by omega) ?_
      walk_at "e"
      refine ⟨_, .im, _, _, _, _, rfl, ?_⟩
      walk_at "e"
      refine ⟨fun c => ?_, fun c => ?_⟩
      · refine ASs.vw (VW.drop (a := b)) ?_
        rw [delM_updM nb]
        walk_at "es"
        refine q1 ?_
        rw [hcl, stp, if_pos (of_decide_eq_true c)]; rfl
      · walk_at "es"
        refine AS.dput hx ?_
        walk_at "es"
        refine ⟨b, _, _, rfl, updM_same, rfl, by simpa using lst, ?_⟩
        walk_at "e"
        refine ⟨(some (flo st.1 r), st.2 ++ [(r.1, flo st.1 r)]), ?_, ⟨_, _, rfl⟩, ?_⟩
        · rw [hpre, stp, if_neg (of_decide_eq_false c)]
        · rw [updM_updM, putKD_new (by
            intro z
            obtain ⟨u, hu, e⟩ := List.mem_map.mp z
            obtain ⟨w, hw, rfl⟩ := List.mem_map.mp hu
            exact nin (List.mem_map.mpr ⟨w, hw, by simpa [valK] using e⟩))]
          simp [valK]
  · rintro ρ' m' ⟨st, hst, ⟨o, o2, rfl⟩, rfl⟩
    walk_at "e"; walk_at "e"
    refine AE.vw ?_
    refine AE.dcP D.str hx hs (.s (.s (.s (.s .z)))) (by decide +kernel) ?_
    refine AI.list ?_
    refine AE.prp cn hx (by omega) ?_
    walk_at "e"
    refine ⟨_, .im, rs, rfl, h3, fun ys y1 y2 => ?_⟩
    have yl : ys.length < 64 := by have := y1.length_eq; simp at this; omega
    refine ⟨_, .im, ys, fun n => (.inr n, .int (val st.2 n)), rfl, Nat.lt_trans yl (by decide), fun _ _ => .im, ?_, ?_⟩
    · intro n hn m' hm'
      refine ⟨_, by walk_at "sr", ABE.of hx hs fun s0 H0 C0 cl0 fp0 hb hbs => ?_⟩
      walk_at "e"
      refine ⟨rfl, rfl, ABE.of hx hs fun s0 H0 C0 cl0 fp0 hb hbs => ?_⟩
      refine AE.dget hb ?_
      walk_at "es"
      refine ⟨_, _, _, .mu (hm' _ _ updM_same), rfl, val_get ?_, rfl, rfl⟩
      rw [climb_names hst]
      simpa using h1.symm.mem_iff.mp (y1.mem_iff.mp hn)
    · refine ⟨_, _, VW.drop (a := b), ?_⟩
      rw [delM_updM nb, mergeD_new (by
        rw [List.nil_append, List.map_map]
        have := y1.symm.nodup h2
        exact List.Pairwise.map _ (fun a b h e => h (by simpa using e)) this), List.nil_append]
      exact q2 st hst ys y1
end K76
namespace K76
open PySem PySem.Spec PyProof.Rows L2 Ab
local macro_rules | `(tactic| walk_at "nth") => `(tactic| first | exact .z | exact .s .z | exact .s (.s .z) | exact .s (.s (.s .z)) | exact .s (.s (.s (.s .z))) | exact .s (.s (.s (.s (.s .z)))) | exact .s (.s (.s (.s (.s (.s .z))))) | exact .s (.s (.s (.s (.s (.s (.s .z)))))) | exact .s (.s (.s (.s (.s (.s (.s (.s .z))))))) | exact .s (.s (.s (.s (.s (.s (.s (.s (.s .z)))))))) | exact .s (.s (.s (.s (.s (.s (.s (.s (.s (.s .z))))))))) | exact .s (.s (.s (.s (.s (.s (.s (.s (.s (.s (.s .z)))))))))) | exact .s (.s (.s (.s (.s (.s (.s (.s (.s (.s (.s (.s .z))))))))))) | exact .s (.s (.s (.s (.s (.s (.s (.s (.s (.s (.s (.s (.s .z)))))))))))) | exact .s (.s (.s (.s (.s (.s (.s (.s (.s (.s (.s (.s (.s (.s .z))))))))))))) | exact .s (.s (.s (.s (.s (.s (.s (.s (.s (.s (.s (.s (.s (.s (.s .z)))))))))))))) | exact .s (.s (.s (.s (.s (.s (.s (.s (.s (.s (.s (.s (.s (.s (.s (.s .z))))))))))))))) | exact .s (.s (.s (.s (.s (.s (.s (.s (.s (.s (.s (.s (.s (.s (.s (.s (.s .z)))))))))))))))) | exact .s (.s (.s (.s (.s (.s (.s (.s (.s (.s (.s (.s (.s (.s (.s (.s (.s (.s .z))))))))))))))))) | exact .s (.s (.s (.s (.s (.s (.s (.s (.s (.s (.s (.s (.s (.s (.s (.s (.s (.s (.s .z)))))))))))))))))))
local macro_rules | `(tactic| walk_at "sr") => `(tactic| first | exact .z | exact .s .z | exact .s (.s .z) | exact .s (.s (.s .z)) | exact .s (.s (.s (.s .z))) | exact .s (.s (.s (.s (.s .z)))) | exact .s (.s (.s (.s (.s (.s .z))))) | exact .s (.s (.s (.s (.s (.s (.s .z)))))) | exact .s (.s (.s (.s (.s (.s (.s (.s .z))))))) | exact .s (.s (.s (.s (.s (.s (.s (.s (.s .z)))))))) | exact .s (.s (.s (.s (.s (.s (.s (.s (.s (.s .z))))))))) | exact .s (.s (.s (.s (.s (.s (.s (.s (.s (.s (.s .z)))))))))) | exact .s (.s (.s (.s (.s (.s (.s (.s (.s (.s (.s (.s .z))))))))))) | exact .s (.s (.s (.s (.s (.s (.s (.s (.s (.s (.s (.s (.s .z)))))))))))) | exact .s (.s (.s (.s (.s (.s (.s (.s (.s (.s (.s (.s (.s (.s .z))))))))))))) | exact .s (.s (.s (.s (.s (.s (.s (.s (.s (.s (.s (.s (.s (.s (.s .z)))))))))))))) | exact .s (.s (.s (.s (.s (.s (.s (.s (.s (.s (.s (.s (.s (.s (.s (.s .z))))))))))))))) | exact .s (.s (.s (.s (.s (.s (.s (.s (.s (.s (.s (.s (.s (.s (.s (.s (.s .z)))))))))))))))) | exact .s (.s (.s (.s (.s (.s (.s (.s (.s (.s (.s (.s (.s (.s (.s (.s (.s (.s .z))))))))))))))))) | exact .s (.s (.s (.s (.s (.s (.s (.s (.s (.s (.s (.s (.s (.s (.s (.s (.s (.s (.s .z)))))))))))))))))))
local macro_rules | `(tactic| walk_at "mu") => `(tactic| first | exact updM_same | assumption | (rw [updM_ne (by first | assumption | (apply Ne.symm; assumption))]; walk_at "mu"))
local macro_rules | `(tactic| walk_at "isl") => `(tactic| first | exact .im | exact .mu (by walk_at "mu"))
local macro_rules | `(tactic| walk_at "isi") => `(tactic| first | exact .im | exact .mu (by walk_at "mu"))
local macro_rules | `(tactic| walk_at "isq") => `(tactic| first | exact .im | exact .tup | exact .mu (by walk_at "mu"))
local macro_rules | `(tactic| walk_at "e") => `(tactic| first
  | refine AE.name (by assumption) (by with_reducible (walk_at "nth")) (by decide +kernel) rfl ?_
  | refine AE.int ?_ | refine AE.str ?_ | refine AE.bl ?_ | refine AE.non ?_
  | refine AE.add ?_ | refine AE.sub ?_ | refine AE.mul ?_ | refine AE.mod ?_ | refine AE.fdiv ?_ | refine AE.pow ?_
  | refine AE.lt ?_ | refine AE.le ?_ | refine AE.gt ?_ | refine AE.ge ?_
  | refine AT.lt ?_ | refine AT.le ?_ | refine AT.gt ?_ | refine AT.ge ?_
  | refine AT.isN ?_ | refine AT.notN ?_ | refine AE.isN ?_ | refine AE.notN ?_
  | refine AT.not ?_
  | refine AA.cons ?_ | refine AA.nil ?_
  | refine ASs.cons ?_ | refine ASs.nil ?_
  | refine AS.ret ?_ | refine AS.ifs ?_ | refine AS.expr ?_ | refine AS.pass ?_ | refine AS.brk ?_
  | refine AS.set (by assumption) (by with_reducible (walk_at "nth")) (by decide +kernel) ?_
  | refine AG.name (by assumption) (by with_reducible (walk_at "nth")) (by decide +kernel) ?_
  | refine ⟨_, .int, ?_⟩
  | refine ⟨_, by (walk_at "sr"), ?_⟩
  | refine ⟨_, _, rfl, rfl, ?_⟩)
local macro_rules | `(tactic| walk_at "es") => `(tactic| repeat (walk_at "e"))
theorem ca_listcopy {X : Cx} : CallA X (.type "list") fun ds m Q => ∃ d es, ds = [d] ∧ IsQ m d es ∧ Q (.lst es) m := callA call_list_of fun ds m vs H Q hm rs ⟨d, es, e, hq, q⟩ => by
  subst e
  cases rs with
  | cons r t =>
    cases t
    obtain ⟨c, us, ev, sq, r2⟩ := hq.at hm r
    subst ev
    exact ⟨c, us, rfl, sq, fun l hl => post_lst hm hl r2 q⟩
theorem body_pen {X : Cx} {k : Nat} (hx : XF X (fbOf nPen (defScope sPen)) k) (hf : ∀ x, frees.contains x = true → X.mg x = none) (ds : List D) (m : Mu) (Q : QD) (h : aPen ds m Q) :
    ASs X (defBody sPen) (startR nPen ds) m { nx := fun _ m' => Q .non m', rt := Q } := by
  obtain ⟨l, d, rfl, hd, q⟩ := h
  show ASs X (defBody sPen) [some d] m _
  walk_at "es"
  refine AE.lstM ?_
  walk_at "e"
  refine AE.callT ca_listcopy hx (by decide +kernel) (hf _ (by decide +kernel)) rfl ?_
  walk_at "e"
  refine AE.sliceK ?_
  walk_at "e"
  refine AO.no (AO.at ?_)
  refine AE.int ?_
  refine ⟨60, rfl, _, hd, ?_⟩
  walk_at "e"
  refine ⟨_, _, rfl, .im, ?_⟩
  walk_at "es"
  refine ⟨(show 3 ≤ sizeLine by decide), fun a na => ?_⟩
  have e : Ab.cutD (l.map D.int) none (some 60) = (l.take 60).map D.int := by
    unfold Ab.cutD
    rw [HT.sIx_none, show (60 : Int) = ((60 : Nat) : Int) from rfl, HT.sIx_nat, List.length_map, List.drop_zero, Nat.sub_zero, List.map_take]
    by_cases hl : 60 ≤ l.length
    · rw [Nat.min_eq_left hl]
    · rw [Nat.min_eq_right (by omega), List.take_of_length_le (by simp), List.take_of_length_le (by simp; omega)]
  rw [e]
  exact q a na
theorem body_next {X : Cx} {k : Nat} (hx : XF X (fbOf nNext (defScope sNext)) k) (hf : ∀ x, frees.contains x = true → X.mg x = none) (ds : List D) (m : Mu) (Q : QD) (h : aNext ds m Q) :
    ASs X (defBody sNext) (startR nNext ds) m { nx := fun _ m' => Q .non m', rt := Q } := by
  obtain ⟨a, l, i, n, rfl, hm, h1, h2, h3, q⟩ := h
  show ASs X (defBody sNext) [some (.ref a), none, none, none, none, none] m _
  walk_at "es"
  refine AE.ix ixa_list ?_
  walk_at "es"
  refine ⟨_, 1, _, by walk_at "isl", rfl, rfl, ?_⟩
  walk_at "e"; walk_at "e"
  refine AS.asg ?_
  walk_at "es"
  refine AG.setL ?_
  walk_at "es"
  refine ⟨a, _, 1, 1, rfl, hm, rfl, rfl, ?_⟩
  show ASs X _ _ (updM m a (penO l (i + 1) n)) _
  walk_at "es"
  refine ⟨.inr ⟨by omega, by omega⟩, ?_⟩
  iterate 3 walk_at "e"
  refine ASs.cut (fun ρ m' => ∃ c : Int, ρ = [some (.ref a), some (.int i), some (.int c), none, none, none] ∧ m' = updM m a (penO l (i + 1) n)) ?_ ?_
  · walk_at "e"
    refine AT.neD (eqK_int.list) hx (by decide) ?_
    refine AE.ix ixa_list ?_
    walk_at "es"
    refine ⟨_, 0, _, by walk_at "isl", rfl, rfl, ?_⟩
    refine AE.lst ?_
    walk_at "e"
    refine ⟨Nat.zero_le _, l, [], .im, .im, fun _ _ => trivial, fun _ _ => trivial, ?_⟩
    refine ⟨fun c => ?_, fun c => ?_⟩
    · have hl : 0 < l.length := by
        cases l with
        | nil => simp at c
        | cons _ _ => simp
      walk_at "e"; walk_at "e"
      refine AE.ix ixa_list ?_
      refine AE.ix ixa_list ?_
      walk_at "es"
      refine ⟨_, 0, _, by walk_at "isl", rfl, rfl, ?_⟩
      walk_at "es"
      refine AE.callB ca_len hx (by decide +kernel) (hf _ (by decide +kernel)) rfl ?_
      walk_at "e"
      refine AE.ix ixa_list ?_
      walk_at "es"
      refine ⟨_, 0, _, by walk_at "isl", rfl, rfl, ?_⟩
      walk_at "e"
      refine .inl ⟨_, _, rfl, .im, ?_⟩
      refine ⟨_, _, rfl, rfl, by simpa using hl, ?_⟩
      have b1 : 0 ≤ i % (((l.map D.int).length : Nat) : Int) := Int.emod_nonneg _ (by rw [List.length_map]; omega)
      have b2 : i % (((l.map D.int).length : Nat) : Int) < (((l.map D.int).length : Nat) : Int) := Int.emod_lt_of_pos _ (by simpa using hl)
      obtain ⟨j, hj⟩ : ∃ j : Nat, i % (((l.map D.int).length : Nat) : Int) = (j : Int) := ⟨_, (Int.toNat_of_nonneg b1).symm⟩
      rw [hj] at b2 ⊢
      have hjl : j < l.length := by simpa using b2
      refine ⟨_, _, .int l[j], .im, rfl, ?_, ?_⟩
      · have e0 : ixN (l.map D.int).length (j : Int) = some j := by
          unfold ixN
          simp [hjl]
        unfold atI
        rw [e0]
        simp [hjl]
      walk_at "e"; walk_at "e"
      exact ⟨_, rfl, rfl⟩
    · walk_at "e"
      exact ⟨_, rfl, rfl⟩
  · rintro ρ m' ⟨c, rfl, rfl⟩
    refine ASs.cut (fun ρ m' => ρ = [some (.ref a), some (.int i), some (.int c), none, none, none] ∧ m' = updM m a (penO l (i + 1) n)) ?_ ?_
    · walk_at "e"
      refine AT.ofW (AW.and ?_)
      walk_at "es"
      refine AE.callB ca_len hx (by decide +kernel) (hf _ (by decide +kernel)) rfl ?_
      walk_at "e"
      refine AE.ix ixa_list ?_
      walk_at "es"
      refine ⟨_, 0, _, by walk_at "isl", rfl, rfl, ?_⟩
      walk_at "e"
      refine .inl ⟨_, _, rfl, .im, ?_⟩
      refine ⟨_, _, rfl, rfl, ?_⟩
      refine ⟨fun _ => ?_, fun _ => ?_⟩
      · refine AW.and1 ?_
        walk_at "es"
        refine ⟨⟨by decide, by decide, by decide⟩, ?_⟩
        walk_at "es"
        refine ⟨fun e => ?_, fun _ => ?_⟩
        · walk_at "es"
          refine q c ?_
          have := of_decide_eq_true e
          have p : (0 : Int) ≤ (10 : Int) ^ ((18 : Int).toNat) := by decide
          omega
        · walk_at "e"
          exact ⟨rfl, rfl⟩
      · refine ⟨fun e => (by cases e), fun _ => ?_⟩
        walk_at "e"
        exact ⟨rfl, rfl⟩
    · rintro ρ m' ⟨rfl, rfl⟩
      walk_at "es"
      refine ⟨by decide, ?_⟩
      walk_at "es"
      refine ⟨.inr ⟨by decide, by decide⟩, ?_⟩
      walk_at "es"
      refine ⟨by decide, ?_⟩
      have u1 : 0 ≤ (c % 2147483587 + i * 80039 + 47) % 2147483587 := Int.emod_nonneg _ (by decide)
      have u2 : (c % 2147483587 + i * 80039 + 47) % 2147483587 < 2147483587 := Int.emod_lt_of_pos _ (by decide)
      generalize (c % 2147483587 + i * 80039 + 47) % 2147483587 = low at u1 u2 ⊢
      walk_at "es"
      refine ⟨.inr ⟨by omega, by omega⟩, ?_⟩
      walk_at "es"
      refine ⟨.inr ⟨by decide, by decide⟩, ?_⟩
      walk_at "es"
      refine ⟨by decide, ?_⟩
      have v1 : 0 ≤ (low * low + i * 40013 + 29) % 2147483563 := Int.emod_nonneg _ (by decide)
      have v2 : (low * low + i * 40013 + 29) % 2147483563 < 2147483563 := Int.emod_lt_of_pos _ (by decide)
      generalize (low * low + i * 40013 + 29) % 2147483563 = mid at v1 v2 ⊢
      walk_at "es"
      refine ⟨.inr ⟨by omega, by omega⟩, ?_⟩
      walk_at "es"
      refine ⟨.inr ⟨by omega, by omega⟩, ?_⟩
      walk_at "es"
      refine ⟨.inr ⟨by decide, by decide⟩, ?_⟩
      walk_at "es"
      refine ⟨by decide, ?_⟩
      have w1 : 0 ≤ (mid * mid + low + i * i * 11) % 2147483549 := Int.emod_nonneg _ (by decide)
      have w2 : (mid * mid + low + i * i * 11) % 2147483549 < 2147483549 := Int.emod_lt_of_pos _ (by decide)
      generalize (mid * mid + low + i * i * 11) % 2147483549 = tp at w1 w2 ⊢
      walk_at "es"
      refine ⟨.inr ⟨by decide, by decide⟩, ?_⟩
      walk_at "es"
      refine ⟨.inr ⟨by decide, by decide⟩, ?_⟩
      walk_at "es"
      refine q _ ?_
      have : 0 ≤ tp * 2147483587 := Int.mul_nonneg w1 (by decide)
      have : 0 ≤ (tp * 2147483587 + mid) * 2147483563 := Int.mul_nonneg (by omega) (by decide)
      omega
end K76
namespace K76
open PySem PySem.Spec PyProof.Rows L2 Ab
local macro_rules | `(tactic| walk_at "nth") => `(tactic| first | exact .z | exact .s .z | exact .s (.s .z) | exact .s (.s (.s .z)) | exact .s (.s (.s (.s .z))) | exact .s (.s (.s (.s (.s .z)))) | exact .s (.s (.s (.s (.s (.s .z))))) | exact .s (.s (.s (.s (.s (.s (.s .z)))))) | exact .s (.s (.s (.s (.s (.s (.s (.s .z))))))) | exact .s (.s (.s (.s (.s (.s (.s (.s (.s .z)))))))) | exact .s (.s (.s (.s (.s (.s (.s (.s (.s (.s .z))))))))) | exact .s (.s (.s (.s (.s (.s (.s (.s (.s (.s (.s .z)))))))))) | exact .s (.s (.s (.s (.s (.s (.s (.s (.s (.s (.s (.s .z))))))))))) | exact .s (.s (.s (.s (.s (.s (.s (.s (.s (.s (.s (.s (.s .z)))))))))))) | exact .s (.s (.s (.s (.s (.s (.s (.s (.s (.s (.s (.s (.s (.s .z))))))))))))) | exact .s (.s (.s (.s (.s (.s (.s (.s (.s (.s (.s (.s (.s (.s (.s .z)))))))))))))) | exact .s (.s (.s (.s (.s (.s (.s (.s (.s (.s (.s (.s (.s (.s (.s (.s .z))))))))))))))) | exact .s (.s (.s (.s (.s (.s (.s (.s (.s (.s (.s (.s (.s (.s (.s (.s (.s .z)))))))))))))))) | exact .s (.s (.s (.s (.s (.s (.s (.s (.s (.s (.s (.s (.s (.s (.s (.s (.s (.s .z))))))))))))))))) | exact .s (.s (.s (.s (.s (.s (.s (.s (.s (.s (.s (.s (.s (.s (.s (.s (.s (.s (.s .z)))))))))))))))))))
local macro_rules | `(tactic| walk_at "sr") => `(tactic| first | exact .z | exact .s .z | exact .s (.s .z) | exact .s (.s (.s .z)) | exact .s (.s (.s (.s .z))) | exact .s (.s (.s (.s (.s .z)))) | exact .s (.s (.s (.s (.s (.s .z))))) | exact .s (.s (.s (.s (.s (.s (.s .z)))))) | exact .s (.s (.s (.s (.s (.s (.s (.s .z))))))) | exact .s (.s (.s (.s (.s (.s (.s (.s (.s .z)))))))) | exact .s (.s (.s (.s (.s (.s (.s (.s (.s (.s .z))))))))) | exact .s (.s (.s (.s (.s (.s (.s (.s (.s (.s (.s .z)))))))))) | exact .s (.s (.s (.s (.s (.s (.s (.s (.s (.s (.s (.s .z))))))))))) | exact .s (.s (.s (.s (.s (.s (.s (.s (.s (.s (.s (.s (.s .z)))))))))))) | exact .s (.s (.s (.s (.s (.s (.s (.s (.s (.s (.s (.s (.s (.s .z))))))))))))) | exact .s (.s (.s (.s (.s (.s (.s (.s (.s (.s (.s (.s (.s (.s (.s .z)))))))))))))) | exact .s (.s (.s (.s (.s (.s (.s (.s (.s (.s (.s (.s (.s (.s (.s (.s .z))))))))))))))) | exact .s (.s (.s (.s (.s (.s (.s (.s (.s (.s (.s (.s (.s (.s (.s (.s (.s .z)))))))))))))))) | exact .s (.s (.s (.s (.s (.s (.s (.s (.s (.s (.s (.s (.s (.s (.s (.s (.s (.s .z))))))))))))))))) | exact .s (.s (.s (.s (.s (.s (.s (.s (.s (.s (.s (.s (.s (.s (.s (.s (.s (.s (.s .z)))))))))))))))))))
local macro_rules | `(tactic| walk_at "mu") => `(tactic| first | exact updM_same | assumption | (rw [updM_ne (by first | assumption | (apply Ne.symm; assumption))]; walk_at "mu"))
local macro_rules | `(tactic| walk_at "isl") => `(tactic| first | exact .im | exact .mu (by walk_at "mu"))
local macro_rules | `(tactic| walk_at "isi") => `(tactic| first | exact .im | exact .mu (by walk_at "mu"))
local macro_rules | `(tactic| walk_at "isq") => `(tactic| first | exact .im | exact .tup | exact .mu (by walk_at "mu"))
local macro_rules | `(tactic| walk_at "e") => `(tactic| first
  | refine AE.name (by assumption) (by with_reducible (walk_at "nth")) (by decide +kernel) rfl ?_
  | refine AE.int ?_ | refine AE.str ?_ | refine AE.bl ?_ | refine AE.non ?_
  | refine AE.add ?_ | refine AE.sub ?_ | refine AE.mul ?_ | refine AE.mod ?_ | refine AE.fdiv ?_ | refine AE.pow ?_
  | refine AE.lt ?_ | refine AE.le ?_ | refine AE.gt ?_ | refine AE.ge ?_
  | refine AT.lt ?_ | refine AT.le ?_ | refine AT.gt ?_ | refine AT.ge ?_
  | refine AT.isN ?_ | refine AT.notN ?_ | refine AE.isN ?_ | refine AE.notN ?_
  | refine AT.not ?_
  | refine AA.cons ?_ | refine AA.nil ?_
  | refine ASs.cons ?_ | refine ASs.nil ?_
  | refine AS.ret ?_ | refine AS.ifs ?_ | refine AS.expr ?_ | refine AS.pass ?_ | refine AS.brk ?_
  | refine AS.set (by assumption) (by with_reducible (walk_at "nth")) (by decide +kernel) ?_
  | refine AG.name (by assumption) (by with_reducible (walk_at "nth")) (by decide +kernel) ?_
  | refine ⟨_, .int, ?_⟩
  | refine ⟨_, by (walk_at "sr"), ?_⟩
  | refine ⟨_, _, rfl, rfl, ?_⟩)
local macro_rules | `(tactic| walk_at "es") => `(tactic| repeat (walk_at "e"))
abbrev Row := Str × Int × Int × Int
def rowD (r : Row) : D := .tup [.str r.1, .int r.2.1, .int r.2.2.1, .int r.2.2.2]
def itOf (r : Row) : Itm := (r.1, r.2.1, r.2.2.1, if r.2.1 < r.2.2.1 then max 1 r.2.2.2 else 0)
def GoodRow (r : Row) : Prop := GoodName r.1 ∧ PyData.canLay0 (.str r.1) = true ∧ r.2.1 ≤ r.2.2.1 ∧ -2 ≤ r.2.1 ∧ r.2.2.1 ≤ 6 ∧ r.2.2.1 ≤ r.2.1 + 3 ∧ 0 ≤ r.2.2.2 ∧ r.2.2.2 ≤ 1
def Good (rows : List Row) : Prop := rows.length ≤ 4 ∧ (rows.map (·.1)).Nodup ∧ ∀ r ∈ rows, GoodRow r
/-! ### made -/
def aMade (CP CI : Addr) : ASp := fun ds m Q => ∃ rows : List Row, ds = [.lst (rows.map rowD)] ∧ Good rows ∧ ∀ qs : List Row, qs.Perm rows → Q (poolR CP CI (qs.map itOf)) m
abbrev nMade : List Str := ["rows", "found", "row"]
theorem scMade : FnScope nMade ["rows"] (defScope (top 26)) := ⟨rfl, rfl, rfl, by decide +kernel, rfl, by decide +kernel, by decide +kernel⟩
theorem picks (rows : List Row) (h : rows.length ≤ 4) : ∃ qs : List Row, qs.Perm rows ∧ pickD (rows.map rowD) (some 1) none 2 ++ pickD (pickD (rows.map rowD) none none 2) none none (-1) = qs.map rowD := by
  match rows, h with
  | [], _ => exact ⟨[], .refl _, by with_unfolding_all rfl⟩
  | [a], _ => exact ⟨[a], .refl _, by with_unfolding_all rfl⟩
  | [a, b], _ => exact ⟨[b, a], .swap _ _ _, by with_unfolding_all rfl⟩
  | [a, b, c], _ => exact ⟨[b, c, a], (List.perm_append_comm (l₁ := [b, c]) (l₂ := [a])), by with_unfolding_all rfl⟩
  | [a, b, c, d], _ => exact ⟨[b, d, c, a], (List.Perm.cons b (.swap c d [a])).trans (List.perm_append_comm (l₁ := [b, c, d]) (l₂ := [a])), by with_unfolding_all rfl⟩
  | _ :: _ :: _ :: _ :: _ :: _, h => exact absurd h (by simp)
theorem pick_len (rows : List Row) (h : rows.length ≤ 4) : (pickD (rows.map rowD) (some 1) none 2).length + (pickD (pickD (rows.map rowD) none none 2) none none (-1)).length ≤ 4 := by
  obtain ⟨qs, p, e⟩ := picks rows h
  have := congrArg List.length e
  rw [List.length_append, List.length_map, p.length_eq] at this
  omega
def aWith0 (CP CI : Addr) : ASp := fun ds m Q => ∃ ws rest, ds = ws ++ rest ∧ ws.length = ["self"].length ∧ rest.length ≤ sizeLine ∧ aWith CP CI (ws ++ [.tup rest]) m Q
def aItem1 (CI : Addr) : ASp := fun ds m Q => ∃ a nm lo hi pr, ds = [.ref a, .str nm, .int lo, .int hi, .int pr] ∧ m a = some (.ins CI []) ∧ GoodName nm ∧ lo ≤ hi ∧ 1 ≤ pr ∧ pr ≤ 999 ∧ Q .non (updM m a (.ins CI (itF nm lo hi (if lo < hi then pr else 0))))
theorem body_made {X : Cx} {k : Nat} {CP CI : Addr} (hx : XF X (fbOf nMade (defScope (top 26))) k) (hk : 4 ≤ k) (hxe : X.xe = fun _ _ => False) (hf : Fc X.prog X.w X.K X.mg X.base CI CP)
    (cr : Clm X.prog X.w X.K X.mg X.base 3 CP "read" (aRead CP CI)) (cw : Mth X.prog X.w X.K X.mg X.base 3 CP "with_items" (aWith0 CP CI)) (ck : Mkk X.prog X.w X.K X.mg X.base 2 3 ["price"] "Item" CI (aItem1 CI)) (ds : List D) (m : Mu) (Q : QD) (h : aMade CP CI ds m Q) :
    ASs X (defBody (top 26)) (startR nMade ds) m { nx := fun _ m' => Q .non m', rt := Q } := by
  obtain ⟨rows, rfl, ⟨g1, g2, g3⟩, q⟩ := h
  show ASs X (defBody (top 26)) [some (.lst (rows.map rowD)), none, none] m _
  walk_at "es"
  refine AE.clm cr hx (by omega) ?_
  refine AE.gref hx (by decide +kernel) hf.gP ?_
  refine ⟨rfl, ?_⟩
  walk_at "es"
  refine ⟨rfl, ?_⟩
  walk_at "es"
  obtain ⟨qs, p, eq⟩ := picks rows g1
  refine AS.forT rowD hxe hx (AI.list ?_)
  walk_at "e"
  refine AE.sliceBy (st := 2) (by decide) ?_
  walk_at "e"
  refine AO.at ?_
  walk_at "e"
  refine ⟨1, rfl, AO.no ?_⟩
  walk_at "e"
  refine ⟨rfl, _, .im, ?_⟩
  refine AE.sliceBy (st := -1) (by decide) ?_
  refine AE.sliceBy (st := 2) (by decide) ?_
  walk_at "e"
  refine AO.no (AO.no ?_)
  walk_at "e"
  refine ⟨rfl, _, .im, AO.no (AO.no ?_)⟩
  refine AE.neg ?_
  walk_at "e"
  refine ⟨1, rfl, rfl, _, .im, ?_⟩
  refine ⟨_, .cat .im .im (Nat.le_trans (pick_len rows g1) (by decide)), ?_⟩
  have gq : ∀ r ∈ qs, GoodRow r := fun r hr => g3 r (p.mem_iff.mp hr)
  have nq : (qs.map (·.1)).Nodup := (p.map _).symm.nodup g2
  have lq : qs.length ≤ 4 := by rw [p.length_eq]; exact g1
  refine ⟨_, .im, qs, fun pre ρ' m' => (∃ o, ρ' = [some (.lst (rows.map rowD)), some (poolR CP CI (pre.map itOf)), o]) ∧ m' = m, eq, ⟨⟨_, rfl⟩, rfl⟩, fun _ _ _ _ => .im, ?_, ?_⟩
  · rintro pre r post ρ' m' e ⟨⟨o, rfl⟩, rfl⟩
    have hr : GoodRow r := gq r (by rw [e]; simp)
    obtain ⟨c1, c2, c3, c4, c5, c6, c7, c8⟩ := hr
    walk_at "es"
    refine AE.mth cw hx (by omega) ?_
    walk_at "e"
    refine ⟨_, .im, rfl, ?_⟩
    walk_at "e"
    refine AE.vw ?_
    refine AE.mkk ck hx (by omega) (by decide +kernel) ?_
    walk_at "e"
    refine AE.ix ixa_tup ?_
    walk_at "es"
    refine ⟨_, _, _, rfl, rfl, rfl, ?_⟩
    walk_at "e"
    refine AE.ix ixa_tup ?_
    walk_at "es"
    refine ⟨_, _, _, rfl, rfl, rfl, ?_⟩
    walk_at "e"
    refine AE.ix ixa_tup ?_
    walk_at "es"
    refine ⟨_, _, _, rfl, rfl, rfl, ?_⟩
    walk_at "e"
    refine AK.cons ?_
    refine AE.callB (ca_max2 hx.calm) hx (by decide +kernel) (hf.free _ (by decide +kernel)) rfl ?_
    walk_at "es"
    refine AE.ix ixa_tup ?_
    walk_at "es"
    refine ⟨_, _, _, rfl, rfl, rfl, ?_⟩
    walk_at "e"
    refine ⟨_, _, rfl, AK.nil ?_⟩
    refine ⟨rfl, rfl, fun a na => ?_⟩
    refine ⟨a, _, _, _, _, rfl, updM_same, c1, c3, by omega, by omega, rfl, ?_⟩
    refine ⟨_, _, VW.frz updM_same, ?_⟩
    rw [updM_updM, delM_updM na]
    walk_at "e"
    refine ⟨[_], [_], rfl, rfl, (by decide : 1 ≤ sizeLine), pre.map itOf, itOf r, rfl, ?_, ?_, ?_⟩
    · rw [List.map_map]
      intro z
      rw [e, List.map_append, List.nodup_append] at nq
      exact nq.2.2 r.1 (by simpa [itOf] using z) r.1 (by simp) rfl
    · have := congrArg List.length e; simp at this; simp; omega
    · walk_at "es"
      refine ⟨⟨some (rowD r), ?_⟩, rfl⟩
      rw [List.map_append]; rfl
  · rintro ρ' m' ⟨⟨o, rfl⟩, rfl⟩
    walk_at "es"
    exact q qs p
/-! ### small -/
def rowOf (nm : Str) (lo sz : Int) : Row := (nm, lo, lo + sz, if sz = 0 then 0 else 1)
def nyms : List Str := ["a", "b", "c", "d"]
def aSmall : ASp := fun ds m Q => ∃ a l i n, ds = [.ref a] ∧ m a = some (penO l i n) ∧ 0 ≤ i ∧ i ≤ 900000 ∧ l.length ≤ 60 ∧ 0 ≤ n ∧
  ∀ rows i' n', Good rows → i ≤ i' → i' ≤ i + 9 → 0 ≤ n' → Q (.lst (rows.map rowD)) (updM m a (penO l i' n'))
abbrev nSmall : List Str := ["pen", "found", "nym", "spot", "size"]
theorem scSmall : FnScope nSmall ["pen"] (defScope (top 28)) := ⟨rfl, rfl, rfl, by decide +kernel, rfl, by decide +kernel, by decide +kernel⟩
theorem nym_ok : ∀ x ∈ nyms, GoodName x ∧ PyData.canLay0 (.str x) = true := by
  unfold GoodName nyms LETS
  decide +kernel
theorem nym_nd : nyms.Nodup := by unfold nyms; decide +kernel
theorem body_small {X : Cx} {k : Nat} (hx : XF X (fbOf nSmall (defScope (top 28))) k) (hk : 2 ≤ k) (hxe : X.xe = fun _ _ => False) (hs : X.env.scope = defScope (top 28)) (c : Cal X.prog X.w X.K X.mg X.base 2 "_law_draw" aDraw) (ds : List D) (m : Mu) (Q : QD) (h : aSmall ds m Q) :
    ASs X (defBody (top 28)) (startR nSmall ds) m { nx := fun _ m' => Q .non m', rt := Q } := by
  obtain ⟨a, l, i, n, rfl, hm, h1, h2, h3, h4, q⟩ := h
  show ASs X (defBody (top 28)) [some (.ref a), none, none, none, none] m _
  walk_at "e"; walk_at "e"
  refine AE.lstM ?_
  walk_at "e"
  refine ⟨Nat.zero_le _, fun b nb => ?_⟩
  have ne : a ≠ b := neM hm nb
  walk_at "es"
  refine AS.forT D.str hxe hx (AI.list ?_)
  refine AE.slice ?_
  refine AE.lst ?_
  walk_at "es"
  refine ⟨(show 4 ≤ sizeLine by decide), AO.no (AO.at ?_)⟩
  refine AE.callC c hx (by omega) (by decide +kernel) ?_
  walk_at "es"
  refine ⟨a, l, i, n, 5, rfl, by rw [updM_ne ne]; exact hm, h1, by omega, h3, h4, by omega, by omega, fun d i1 n1 d1 d2 e1 e2 e3 => ?_⟩
  obtain ⟨t, rfl⟩ : ∃ t : Nat, d = (t : Int) := ⟨_, (Int.toNat_of_nonneg d1).symm⟩
  have ht : t ≤ nyms.length := by show t ≤ 4; omega
  have ec : Ab.cutD (nyms.map D.str) none (some (t : Int)) = (nyms.take t).map D.str := cutD_take _ _ ht
  refine ⟨_, rfl, _, .im, ?_⟩
  refine ⟨_, .im, nyms.take t, fun pre ρ' m' => ∃ rows : List Row, ∃ i' n' : Int, rows.map (·.1) = pre ∧ (∀ r ∈ rows, GoodRow r) ∧ i ≤ i' ∧ i' ≤ i + 1 + 2 * rows.length ∧ 0 ≤ n' ∧ (∃ o1 o2 o3, ρ' = [some (.ref a), some (.ref b), o1, o2, o3]) ∧ m' = updM (updM m b (.lst (rows.map rowD))) a (penO l i' n'), ec, ?_, fun _ _ _ _ => .im, ?_, ?_⟩
  · exact ⟨[], i1, n1, rfl, by simp, by omega, by simp; omega, e3, ⟨_, _, _, rfl⟩, rfl⟩
  · rintro pre x post ρ' m' e ⟨rows, i', n', r1, r2, r3, r4, r5, ⟨o1, o2, o3, rfl⟩, rfl⟩
    have hx4 : x ∈ nyms := List.mem_of_mem_take (i := t) (by rw [e]; simp)
    have pl : pre.length < 4 := by
      have := congrArg List.length e
      simp [nyms] at this
      omega
    have rl : rows.length = pre.length := by rw [← r1]; simp
    walk_at "e"
    refine ⟨_, by walk_at "sr", ?_⟩
    walk_at "e"
    refine AS.par (i := 3) (j := 4) hx (.s (.s (.s .z))) (.s (.s (.s (.s .z)))) (by decide) (by rw [hs]; decide +kernel) (by rw [hs]; decide +kernel) (by simp only [swappedStores, Env.blockKind, Env.kindOf, hs]; rfl) ?_
    walk_at "e"; walk_at "e"
    refine AE.callC c hx (by omega) (by decide +kernel) ?_
    walk_at "es"
    refine ⟨a, l, i', n', 6, rfl, updM_same, by omega, by omega, h3, r5, by omega, by omega, fun d i2 n2 d1 d2 e1 e2 e3 => ?_⟩
    walk_at "es"
    refine AE.callC c hx (by omega) (by decide +kernel) ?_
    walk_at "es"
    rw [updM_updM]
    refine ⟨a, l, i2, n2, 4, rfl, updM_same, by omega, by omega, h3, e3, by omega, by omega, fun sz i3 n3 z1 z2 e4 e5 e6 => ?_⟩
    walk_at "e"
    refine ⟨_, _, _, _, rfl, by walk_at "sr", by walk_at "sr", ?_⟩
    rw [updM_updM]
    walk_at "e"; walk_at "e"
    refine AE.bm F.plainAttrs_list F.slot_list_append F.type_list_append ma_append ?_
    walk_at "e"
    refine ⟨.list (.mu (by rw [updM_ne ne.symm, updM_same])), ?_⟩
    walk_at "e"
    refine AE.tup ?_
    walk_at "es"
    refine AE.imp (Q := fun d m' => d = .int (if sz = 0 then 0 else 1) ∧ m' = updM (updM m b (.lst (rows.map rowD))) a (penO l i3 n3)) ?_ ?_
    · refine AE.ifx ?_
      refine AT.eqS ?_
      walk_at "es"
      refine ⟨rfl, fun hc => ?_, fun hc => ?_⟩
      · walk_at "e"
        exact ⟨by rw [if_pos (by simpa using hc)], rfl⟩
      · walk_at "e"
        exact ⟨by rw [if_neg (by simpa using hc)], rfl⟩
    · rintro _ _ ⟨rfl, rfl⟩
      walk_at "e"
      refine ⟨(show 4 ≤ sizeLine by decide), ?_⟩
      walk_at "e"
      refine ⟨b, _, _, rfl, rfl, by rw [updM_ne ne.symm, updM_same], by simp; exact Nat.lt_trans (show rows.length < 4 by omega) (by decide), ?_⟩
      walk_at "e"
      refine ⟨rows ++ [rowOf x (d - 2) sz], i3, n3, by simp [r1, rowOf], ?_, by omega, by simp; omega, e6, ⟨_, _, _, rfl⟩, ?_⟩
      · intro r hr
        rcases List.mem_append.mp hr with hr | hr
        · exact r2 r hr
        · rw [List.mem_singleton] at hr
          subst hr
          obtain ⟨g1, g2⟩ := nym_ok x hx4
          refine ⟨g1, g2, ?_, ?_, ?_, ?_, ?_, ?_⟩ <;> simp only [rowOf] <;> (try split) <;> omega
      · rw [updM_comm ne, updM_updM, List.map_append]
        rfl
  · rintro ρ' m' ⟨rows, i', n', r1, r2, r3, r4, r5, ⟨o1, o2, o3, rfl⟩, rfl⟩
    walk_at "e"; walk_at "e"
    refine AE.vw ?_
    walk_at "e"
    refine ⟨_, _, VW.frz (u := .lst (rows.map rowD)) (by rw [updM_ne ne.symm, updM_same]), ?_⟩
    rw [delM_updM2 ne.symm, delM_updM nb]
    have rl : rows.length ≤ 4 := by
      have := congrArg List.length r1
      simp [nyms] at this
      omega
    exact q rows i' n' ⟨rl, by rw [r1]; exact nym_nd.sublist (List.take_sublist _ _), r2⟩ r3 (by omega) r5
end K76
namespace K76
open PySem PySem.Spec PyProof.Rows L2 Ab
local macro_rules | `(tactic| walk_at "nth") => `(tactic| first | exact .z | exact .s .z | exact .s (.s .z) | exact .s (.s (.s .z)) | exact .s (.s (.s (.s .z))) | exact .s (.s (.s (.s (.s .z)))) | exact .s (.s (.s (.s (.s (.s .z))))) | exact .s (.s (.s (.s (.s (.s (.s .z)))))) | exact .s (.s (.s (.s (.s (.s (.s (.s .z))))))) | exact .s (.s (.s (.s (.s (.s (.s (.s (.s .z)))))))) | exact .s (.s (.s (.s (.s (.s (.s (.s (.s (.s .z))))))))) | exact .s (.s (.s (.s (.s (.s (.s (.s (.s (.s (.s .z)))))))))) | exact .s (.s (.s (.s (.s (.s (.s (.s (.s (.s (.s (.s .z))))))))))) | exact .s (.s (.s (.s (.s (.s (.s (.s (.s (.s (.s (.s (.s .z)))))))))))) | exact .s (.s (.s (.s (.s (.s (.s (.s (.s (.s (.s (.s (.s (.s .z))))))))))))) | exact .s (.s (.s (.s (.s (.s (.s (.s (.s (.s (.s (.s (.s (.s (.s .z)))))))))))))) | exact .s (.s (.s (.s (.s (.s (.s (.s (.s (.s (.s (.s (.s (.s (.s (.s .z))))))))))))))) | exact .s (.s (.s (.s (.s (.s (.s (.s (.s (.s (.s (.s (.s (.s (.s (.s (.s .z)))))))))))))))) | exact .s (.s (.s (.s (.s (.s (.s (.s (.s (.s (.s (.s (.s (.s (.s (.s (.s (.s .z))))))))))))))))) | exact .s (.s (.s (.s (.s (.s (.s (.s (.s (.s (.s (.s (.s (.s (.s (.s (.s (.s (.s .z)))))))))))))))))))
local macro_rules | `(tactic| walk_at "sr") => `(tactic| first | exact .z | exact .s .z | exact .s (.s .z) | exact .s (.s (.s .z)) | exact .s (.s (.s (.s .z))) | exact .s (.s (.s (.s (.s .z)))) | exact .s (.s (.s (.s (.s (.s .z))))) | exact .s (.s (.s (.s (.s (.s (.s .z)))))) | exact .s (.s (.s (.s (.s (.s (.s (.s .z))))))) | exact .s (.s (.s (.s (.s (.s (.s (.s (.s .z)))))))) | exact .s (.s (.s (.s (.s (.s (.s (.s (.s (.s .z))))))))) | exact .s (.s (.s (.s (.s (.s (.s (.s (.s (.s (.s .z)))))))))) | exact .s (.s (.s (.s (.s (.s (.s (.s (.s (.s (.s (.s .z))))))))))) | exact .s (.s (.s (.s (.s (.s (.s (.s (.s (.s (.s (.s (.s .z)))))))))))) | exact .s (.s (.s (.s (.s (.s (.s (.s (.s (.s (.s (.s (.s (.s .z))))))))))))) | exact .s (.s (.s (.s (.s (.s (.s (.s (.s (.s (.s (.s (.s (.s (.s .z)))))))))))))) | exact .s (.s (.s (.s (.s (.s (.s (.s (.s (.s (.s (.s (.s (.s (.s (.s .z))))))))))))))) | exact .s (.s (.s (.s (.s (.s (.s (.s (.s (.s (.s (.s (.s (.s (.s (.s (.s .z)))))))))))))))) | exact .s (.s (.s (.s (.s (.s (.s (.s (.s (.s (.s (.s (.s (.s (.s (.s (.s (.s .z))))))))))))))))) | exact .s (.s (.s (.s (.s (.s (.s (.s (.s (.s (.s (.s (.s (.s (.s (.s (.s (.s (.s .z)))))))))))))))))))
local macro_rules | `(tactic| walk_at "mu") => `(tactic| first | exact updM_same | assumption | (rw [updM_ne (by first | assumption | (apply Ne.symm; assumption))]; walk_at "mu"))
local macro_rules | `(tactic| walk_at "isl") => `(tactic| first | exact .im | exact .mu (by walk_at "mu"))
local macro_rules | `(tactic| walk_at "isi") => `(tactic| first | exact .im | exact .mu (by walk_at "mu"))
local macro_rules | `(tactic| walk_at "isq") => `(tactic| first | exact .im | exact .tup | exact .mu (by walk_at "mu"))
local macro_rules | `(tactic| walk_at "e") => `(tactic| first
  | refine AE.name (by assumption) (by with_reducible (walk_at "nth")) (by decide +kernel) rfl ?_
  | refine AE.int ?_ | refine AE.str ?_ | refine AE.bl ?_ | refine AE.non ?_
  | refine AE.add ?_ | refine AE.sub ?_ | refine AE.mul ?_ | refine AE.mod ?_ | refine AE.fdiv ?_ | refine AE.pow ?_
  | refine AE.lt ?_ | refine AE.le ?_ | refine AE.gt ?_ | refine AE.ge ?_
  | refine AT.lt ?_ | refine AT.le ?_ | refine AT.gt ?_ | refine AT.ge ?_
  | refine AT.isN ?_ | refine AT.notN ?_ | refine AE.isN ?_ | refine AE.notN ?_
  | refine AT.not ?_
  | refine AA.cons ?_ | refine AA.nil ?_
  | refine ASs.cons ?_ | refine ASs.nil ?_
  | refine AS.ret ?_ | refine AS.ifs ?_ | refine AS.expr ?_ | refine AS.pass ?_ | refine AS.brk ?_
  | refine AS.set (by assumption) (by with_reducible (walk_at "nth")) (by decide +kernel) ?_
  | refine AG.name (by assumption) (by with_reducible (walk_at "nth")) (by decide +kernel) ?_
  | refine ⟨_, .int, ?_⟩
  | refine ⟨_, by (walk_at "sr"), ?_⟩
  | refine ⟨_, _, rfl, rfl, ?_⟩)
local macro_rules | `(tactic| walk_at "es") => `(tactic| repeat (walk_at "e"))
/-! ### all values -/
abbrev Vals := List (Str × Int)
def worths (r : Row) : List Int := (List.range (r.2.2.1 + 1 - r.2.1).toNat).map fun i : Nat => r.2.1 + (i : Int)
def extV (r : Row) (v : Vals) : List Vals := (worths r).map fun w => v ++ [(r.1, w)]
def allV (rows : List Row) : List Vals := rows.foldl (fun F r => F.flatMap (extV r)) [[]]
theorem allV_snoc (rows : List Row) (r : Row) : allV (rows ++ [r]) = (allV rows).flatMap (extV r) := by simp [allV, List.foldl_append]
theorem worths_len {r : Row} (h : GoodRow r) : (worths r).length ≤ 4 := by
  obtain ⟨_, _, _, _, _, h6, _, _⟩ := h
  simp [worths]; omega
theorem flat_len {α β : Type} {f : α → List β} {c : Nat} : ∀ {xs : List α}, (∀ x ∈ xs, (f x).length ≤ c) → (xs.flatMap f).length ≤ xs.length * c
  | [], _ => by simp
  | x :: xs, h => by
    have h1 := h x List.mem_cons_self
    have h2 := flat_len (xs := xs) fun y hy => h y (List.mem_cons_of_mem _ hy)
    rw [List.flatMap_cons, List.length_append, List.length_cons, Nat.succ_mul]
    omega
theorem allV_len : ∀ {n : Nat} {rows : List Row}, rows.length = n → (∀ r ∈ rows, GoodRow r) → (allV rows).length ≤ 4 ^ n := by
  intro n
  induction n with
  | zero => intro rows h _; rw [List.length_eq_zero_iff.mp h]; exact Nat.le_refl _
  | succ n ih =>
    intro rows h hg
    obtain ⟨pre, r, rfl⟩ : ∃ pre r, rows = pre ++ [r] := ⟨rows.dropLast, rows.getLast (by intro z; rw [z] at h; cases h), (List.dropLast_concat_getLast _).symm⟩
    rw [allV_snoc]
    have h1 := ih (rows := pre) (by simpa using h) fun q hq => hg q (by simp [hq])
    refine Nat.le_trans (flat_len (c := 4) fun v _ => by simp [extV]; exact worths_len (hg r (by simp))) ?_
    rw [Nat.pow_succ]; exact Nat.mul_le_mul_right _ h1
theorem allV_names : ∀ {n : Nat} {rows : List Row}, rows.length = n → ∀ v ∈ allV rows, v.map (·.1) = rows.map (·.1) := by
  intro n
  induction n with
  | zero => intro rows h v hv; rw [List.length_eq_zero_iff.mp h] at hv ⊢; simp [allV] at hv; rw [hv]; rfl
  | succ n ih =>
    intro rows h v hv
    obtain ⟨pre, r, rfl⟩ : ∃ pre r, rows = pre ++ [r] := ⟨rows.dropLast, rows.getLast (by intro z; rw [z] at h; cases h), (List.dropLast_concat_getLast _).symm⟩
    rw [allV_snoc, List.mem_flatMap] at hv
    obtain ⟨u, hu, hv⟩ := hv
    obtain ⟨w, _, rfl⟩ := List.mem_map.mp hv
    rw [List.map_append, List.map_append, ih (by simpa using h) u hu]; rfl
def aAll : ASp := fun ds m Q => ∃ rows : List Row, ds = [.lst (rows.map rowD)] ∧ Good rows ∧ Q (.lst ((allV rows).map valD)) m
abbrev nAll : List Str := ["rows", "found", "row", "longer", "some", "worth"]
theorem scAll : FnScope nAll ["rows"] (defScope (top 27)) := ⟨rfl, rfl, rfl, by decide +kernel, rfl, by decide +kernel, by decide +kernel⟩
theorem body_all {X : Cx} {k : Nat} (hx : XF X (fbOf nAll (defScope (top 27))) k) (hxe : X.xe = fun _ _ => False) (hf : ∀ x, frees.contains x = true → X.mg x = none) (ds : List D) (m : Mu) (Q : QD) (h : aAll ds m Q) :
    ASs X (defBody (top 27)) (startR nAll ds) m { nx := fun _ m' => Q .non m', rt := Q } := by
  obtain ⟨rows, rfl, ⟨g1, g2, g3⟩, q⟩ := h
  show ASs X (defBody (top 27)) [some (.lst (rows.map rowD)), none, none, none, none, none] m _
  walk_at "e"; walk_at "e"
  refine AE.lst ?_
  walk_at "e"
  refine AE.dic ?_
  walk_at "e"
  refine ⟨(show 1 ≤ sizeLine by decide), ?_⟩
  walk_at "es"
  refine AS.forT rowD hxe hx (AI.list ?_)
  walk_at "e"
  refine ⟨_, .im, rows, fun pre ρ' m' => (∃ o1 o2 o3 o4, ρ' = [some (.lst (rows.map rowD)), some (.lst ((allV pre).map valD)), o1, o2, o3, o4]) ∧ m' = m, rfl, ⟨⟨_, _, _, _, rfl⟩, rfl⟩, fun _ _ _ _ => .im, ?_, ?_⟩
  · rintro pre r post ρ' m' e ⟨⟨o1, o2, o3, o4, rfl⟩, rfl⟩
    have hr : GoodRow r := g3 r (by rw [e]; simp)
    have gp : ∀ q ∈ pre, GoodRow q := fun q hq => g3 q (by rw [e]; simp [hq])
    have pl : pre.length ≤ 4 := by have := congrArg List.length e; simp at this; omega
    have fl : (allV pre).length ≤ 256 := Nat.le_trans (allV_len rfl gp) (Nat.pow_le_pow_right (by decide) pl)
    walk_at "e"
    refine ⟨_, by walk_at "sr", ?_⟩
    walk_at "e"; walk_at "e"
    refine AE.lstM ?_
    walk_at "e"
    refine ⟨Nat.zero_le _, fun b nb => ?_⟩
    walk_at "es"
    refine AS.forT valD hxe hx (AI.list ?_)
    walk_at "e"
    refine ⟨_, .im, allV pre, fun p2 ρ' m2 => (∃ o3 o4, ρ' = [some (.lst (rows.map rowD)), some (.lst ((allV pre).map valD)), some (rowD r), some (.ref b), o3, o4]) ∧ m2 = updM m' b (.lst ((p2.flatMap (extV r)).map valD)), rfl, ⟨⟨_, _, rfl⟩, rfl⟩, fun _ _ _ _ => .im, ?_, ?_⟩
    · rintro p2 v q2 ρ' m2 e2 ⟨⟨o3, o4, rfl⟩, rfl⟩
      have vn : r.1 ∉ v.map (·.1) := by
        rw [allV_names rfl v (by rw [e2]; simp)]
        rw [e, List.map_append, List.nodup_append] at g2
        intro z
        exact g2.2.2 r.1 z r.1 (by simp) rfl
      have pl2 : p2.length < 256 := by have := congrArg List.length e2; simp at this; omega
      have fl2 : (p2.flatMap (extV r)).length ≤ 256 * 4 := by
        refine Nat.le_trans (flat_len (c := 4) fun v _ => ?_) (Nat.mul_le_mul_right _ (by omega))
        simp [extV]; exact worths_len hr
      walk_at "es"
      refine AS.forT (fun i : Nat => D.int (r.2.1 + (i : Int))) hxe hx (AI.range2 hx (by decide +kernel) (hf _ (by decide +kernel)) ?_)
      refine AE.ix ixa_tup ?_
      walk_at "es"
      refine ⟨_, _, _, rfl, rfl, rfl, ?_⟩
      walk_at "e"
      refine AE.ix ixa_tup ?_
      walk_at "es"
      refine ⟨_, _, _, rfl, rfl, rfl, ?_⟩
      walk_at "es"
      obtain ⟨_, _, k3, k4, k5, k6, _, _⟩ := id hr
      refine ⟨⟨by omega, by omega, by omega, by omega⟩, List.range (r.2.2.1 + 1 - r.2.1).toNat, fun p3 ρ' m3 => (∃ o4, ρ' = [some (.lst (rows.map rowD)), some (.lst ((allV pre).map valD)), some (rowD r), some (.ref b), some (valD v), o4]) ∧ m3 = updM m' b (.lst ((p2.flatMap (extV r) ++ p3.map fun i : Nat => v ++ [(r.1, r.2.1 + (i : Int))]).map valD)), rfl, ⟨⟨_, rfl⟩, by simp⟩, fun _ _ _ _ => trivial, ?_, ?_⟩
      · rintro p3 i q3 ρ' m3 e3 ⟨⟨o4, rfl⟩, rfl⟩
        have pl3 : p3.length < 4 := by have := congrArg List.length e3; simp at this; omega
        walk_at "e"
        refine ⟨_, by walk_at "sr", ?_⟩
        walk_at "e"; walk_at "e"
        refine AE.bm F.plainAttrs_list F.slot_list_append F.type_list_append ma_append ?_
        walk_at "e"
        refine ⟨.list (.mu updM_same), ?_⟩
        walk_at "e"
        refine AE.frzD ?_
        refine AE.callT (ca_dictP hx.calm) hx (by decide +kernel) (hf _ (by decide +kernel)) rfl ?_
        walk_at "es"
        refine AE.items hx (by decide +kernel) (hf _ (by decide +kernel)) rfl ?_
        walk_at "e"
        refine ⟨_, .im, ?_⟩
        refine AE.lst ?_
        walk_at "e"
        refine AE.tup ?_
        walk_at "e"
        refine AE.ix ixa_tup ?_
        walk_at "es"
        refine ⟨_, _, _, rfl, rfl, rfl, ?_⟩
        walk_at "es"
        refine ⟨(show 2 ≤ sizeLine by decide), ?_⟩
        walk_at "e"
        refine ⟨(show 1 ≤ sizeLine by decide), ?_⟩
        have vl : v.length ≤ 4 := by
          have := congrArg List.length (allV_names rfl v (by rw [e2]; simp))
          simp at this; omega
        refine ⟨_, .cat .im .im (by simp; exact Nat.le_trans (show v.length + 1 ≤ 5 by omega) (by decide)), ?_⟩
        walk_at "e"
        refine ⟨_, (v ++ [(r.1, r.2.1 + (i : Int))]).map valK, rfl, ?_, fun c nc => ⟨c, _, rfl, updM_same, ?_⟩⟩
        · have ee : ((v ++ [(r.1, r.2.1 + (i : Int))]).map valK).map (fun p => D.tup [kD p.1, p.2]) = (v.map valK).map (fun p => D.tup [kD p.1, p.2]) ++ [.tup [.str r.1, .int (r.2.1 + (i : Int))]] := by simp [valK, kD]
          rw [ee]
          exact .im
        rw [delM_updM nc]
        walk_at "e"
        have md : mergeD [] ((v ++ [(r.1, r.2.1 + (i : Int))]).map valK) = (v ++ [(r.1, r.2.1 + (i : Int))]).map valK := by
          rw [mergeD_new, List.nil_append]
          rw [List.nil_append, List.map_map]
          have nn : ((v ++ [(r.1, r.2.1 + (i : Int))]).map (·.1)).Nodup := by
            rw [List.map_append, allV_names rfl v (by rw [e2]; simp)]
            rw [e, List.map_append] at g2
            refine List.Nodup.sublist ?_ g2
            simp
          have : ((fun x : Key × D => x.1) ∘ valK) = (fun s : Str => (Sum.inr s : Key)) ∘ (fun p : Str × Int => p.1) := rfl
          rw [this, ← List.map_map]
          exact List.Pairwise.map _ (fun a b h e => h (by simpa using e)) nn
        rw [md]
        refine ⟨b, _, _, rfl, rfl, updM_same, by simp only [List.length_map, List.length_append]; exact Nat.lt_of_le_of_lt (show (p2.flatMap (extV r)).length + p3.length ≤ 1028 by omega) (by decide), ?_⟩
        walk_at "e"
        refine ⟨⟨_, rfl⟩, ?_⟩
        rw [updM_updM]
        simp [valD]
      · rintro ρ' m3 ⟨⟨o4, rfl⟩, rfl⟩
        walk_at "e"
        refine ⟨⟨_, _, rfl⟩, ?_⟩
        have ew : (List.range (r.2.2.1 + 1 - r.2.1).toNat).map (fun i : Nat => v ++ [(r.1, r.2.1 + (i : Int))]) = extV r v := by simp [extV, worths, Function.comp_def]
        rw [ew]
        simp
    · rintro ρ' m2 ⟨⟨o3, o4, rfl⟩, rfl⟩
      walk_at "e"
      refine AS.set (by assumption) (by with_reducible (walk_at "nth")) (by decide +kernel) ?_
      refine AE.frz ?_
      walk_at "e"
      refine ⟨b, _, rfl, updM_same, ?_⟩
      rw [delM_updM nb]
      walk_at "e"
      walk_at "e"
      rw [← allV_snoc]
      exact ⟨⟨_, _, _, _, rfl⟩, rfl⟩
  · rintro ρ' m' ⟨⟨o1, o2, o3, o4, rfl⟩, rfl⟩
    walk_at "es"
    exact q
end K76
namespace K76
open PySem PySem.Spec PyProof.Rows L2 Ab
local macro_rules | `(tactic| walk_at "nth") => `(tactic| first | exact .z | exact .s .z | exact .s (.s .z) | exact .s (.s (.s .z)) | exact .s (.s (.s (.s .z))) | exact .s (.s (.s (.s (.s .z)))) | exact .s (.s (.s (.s (.s (.s .z))))) | exact .s (.s (.s (.s (.s (.s (.s .z)))))) | exact .s (.s (.s (.s (.s (.s (.s (.s .z))))))) | exact .s (.s (.s (.s (.s (.s (.s (.s (.s .z)))))))) | exact .s (.s (.s (.s (.s (.s (.s (.s (.s (.s .z))))))))) | exact .s (.s (.s (.s (.s (.s (.s (.s (.s (.s (.s .z)))))))))) | exact .s (.s (.s (.s (.s (.s (.s (.s (.s (.s (.s (.s .z))))))))))) | exact .s (.s (.s (.s (.s (.s (.s (.s (.s (.s (.s (.s (.s .z)))))))))))) | exact .s (.s (.s (.s (.s (.s (.s (.s (.s (.s (.s (.s (.s (.s .z))))))))))))) | exact .s (.s (.s (.s (.s (.s (.s (.s (.s (.s (.s (.s (.s (.s (.s .z)))))))))))))) | exact .s (.s (.s (.s (.s (.s (.s (.s (.s (.s (.s (.s (.s (.s (.s (.s .z))))))))))))))) | exact .s (.s (.s (.s (.s (.s (.s (.s (.s (.s (.s (.s (.s (.s (.s (.s (.s .z)))))))))))))))) | exact .s (.s (.s (.s (.s (.s (.s (.s (.s (.s (.s (.s (.s (.s (.s (.s (.s (.s .z))))))))))))))))) | exact .s (.s (.s (.s (.s (.s (.s (.s (.s (.s (.s (.s (.s (.s (.s (.s (.s (.s (.s .z)))))))))))))))))))
local macro_rules | `(tactic| walk_at "sr") => `(tactic| first | exact .z | exact .s .z | exact .s (.s .z) | exact .s (.s (.s .z)) | exact .s (.s (.s (.s .z))) | exact .s (.s (.s (.s (.s .z)))) | exact .s (.s (.s (.s (.s (.s .z))))) | exact .s (.s (.s (.s (.s (.s (.s .z)))))) | exact .s (.s (.s (.s (.s (.s (.s (.s .z))))))) | exact .s (.s (.s (.s (.s (.s (.s (.s (.s .z)))))))) | exact .s (.s (.s (.s (.s (.s (.s (.s (.s (.s .z))))))))) | exact .s (.s (.s (.s (.s (.s (.s (.s (.s (.s (.s .z)))))))))) | exact .s (.s (.s (.s (.s (.s (.s (.s (.s (.s (.s (.s .z))))))))))) | exact .s (.s (.s (.s (.s (.s (.s (.s (.s (.s (.s (.s (.s .z)))))))))))) | exact .s (.s (.s (.s (.s (.s (.s (.s (.s (.s (.s (.s (.s (.s .z))))))))))))) | exact .s (.s (.s (.s (.s (.s (.s (.s (.s (.s (.s (.s (.s (.s (.s .z)))))))))))))) | exact .s (.s (.s (.s (.s (.s (.s (.s (.s (.s (.s (.s (.s (.s (.s (.s .z))))))))))))))) | exact .s (.s (.s (.s (.s (.s (.s (.s (.s (.s (.s (.s (.s (.s (.s (.s (.s .z)))))))))))))))) | exact .s (.s (.s (.s (.s (.s (.s (.s (.s (.s (.s (.s (.s (.s (.s (.s (.s (.s .z))))))))))))))))) | exact .s (.s (.s (.s (.s (.s (.s (.s (.s (.s (.s (.s (.s (.s (.s (.s (.s (.s (.s .z)))))))))))))))))))
local macro_rules | `(tactic| walk_at "mu") => `(tactic| first | exact updM_same | assumption | (rw [updM_ne (by first | assumption | (apply Ne.symm; assumption))]; walk_at "mu"))
local macro_rules | `(tactic| walk_at "isl") => `(tactic| first | exact .im | exact .mu (by walk_at "mu"))
local macro_rules | `(tactic| walk_at "isi") => `(tactic| first | exact .im | exact .mu (by walk_at "mu"))
local macro_rules | `(tactic| walk_at "isq") => `(tactic| first | exact .im | exact .tup | exact .mu (by walk_at "mu"))
local macro_rules | `(tactic| walk_at "e") => `(tactic| first
  | refine AE.name (by assumption) (by with_reducible (walk_at "nth")) (by decide +kernel) rfl ?_
  | refine AE.int ?_ | refine AE.str ?_ | refine AE.bl ?_ | refine AE.non ?_
  | refine AE.add ?_ | refine AE.sub ?_ | refine AE.mul ?_ | refine AE.mod ?_ | refine AE.fdiv ?_ | refine AE.pow ?_
  | refine AE.lt ?_ | refine AE.le ?_ | refine AE.gt ?_ | refine AE.ge ?_
  | refine AT.lt ?_ | refine AT.le ?_ | refine AT.gt ?_ | refine AT.ge ?_
  | refine AT.isN ?_ | refine AT.notN ?_ | refine AE.isN ?_ | refine AE.notN ?_
  | refine AT.not ?_
  | refine AA.cons ?_ | refine AA.nil ?_
  | refine ASs.cons ?_ | refine ASs.nil ?_
  | refine AS.ret ?_ | refine AS.ifs ?_ | refine AS.expr ?_ | refine AS.pass ?_ | refine AS.brk ?_
  | refine AS.set (by assumption) (by with_reducible (walk_at "nth")) (by decide +kernel) ?_
  | refine AG.name (by assumption) (by with_reducible (walk_at "nth")) (by decide +kernel) ?_
  | refine ⟨_, .int, ?_⟩
  | refine ⟨_, by (walk_at "sr"), ?_⟩
  | refine ⟨_, _, rfl, rfl, ?_⟩)
local macro_rules | `(tactic| walk_at "es") => `(tactic| repeat (walk_at "e"))
/-! ### orders -/
def putAt (x : Str) (o : List Str) (s : Nat) : List Str := o.take s ++ [x] ++ o.drop s
def extO (x : Str) (o : List Str) : List (List Str) := (List.range (o.length + 1)).map (putAt x o)
def ordL (xs : List Str) : List (List Str) := xs.foldl (fun F x => F.flatMap (extO x)) [[]]
theorem ordL_snoc (xs : List Str) (x : Str) : ordL (xs ++ [x]) = (ordL xs).flatMap (extO x) := by simp [ordL, List.foldl_append]
theorem snoc_of {α : Type} {n : Nat} {xs : List α} (h : xs.length = n + 1) : ∃ pre r, xs = pre ++ [r] ∧ pre.length = n :=
  ⟨xs.dropLast, xs.getLast (by intro z; rw [z] at h; cases h), (List.dropLast_concat_getLast _).symm, by simp [h]⟩
theorem ordL_len1 : ∀ {n : Nat} {xs : List Str}, xs.length = n → ∀ o ∈ ordL xs, o.length = n := by
  intro n
  induction n with
  | zero => intro xs h o ho; rw [List.length_eq_zero_iff.mp h] at ho; simp [ordL] at ho; rw [ho]; rfl
  | succ n ih =>
    intro xs h o ho
    obtain ⟨pre, r, rfl, hp⟩ := snoc_of h
    rw [ordL_snoc, List.mem_flatMap] at ho
    obtain ⟨u, hu, ho⟩ := ho
    obtain ⟨s, hs, rfl⟩ := List.mem_map.mp ho
    have := ih hp u hu
    simp at hs
    simp [putAt]; omega
theorem ordL_len : ∀ {n : Nat} {xs : List Str}, xs.length = n → n ≤ 4 → (ordL xs).length ≤ 5 ^ n := by
  intro n
  induction n with
  | zero => intro xs h _; rw [List.length_eq_zero_iff.mp h]; exact Nat.le_refl _
  | succ n ih =>
    intro xs h hn
    obtain ⟨pre, r, rfl, hp⟩ := snoc_of h
    rw [ordL_snoc, Nat.pow_succ]
    refine Nat.le_trans (flat_len (c := 5) fun o ho => ?_) (Nat.mul_le_mul_right _ (ih hp (by omega)))
    simp [extO, ordL_len1 hp o ho]; omega
def ordD (o : List Str) : D := .lst (o.map D.str)
def aOrd : ASp := fun ds m Q => ∃ xs : List Str, ds = [.lst (xs.map D.str)] ∧ xs.length ≤ 4 ∧ Q (.lst ((ordL xs).map ordD)) m
abbrev nOrd : List Str := ["some", "found", "one", "longer", "order", "spot"]
theorem scOrd : FnScope nOrd ["some"] (defScope (top 29)) := ⟨rfl, rfl, rfl, by decide +kernel, rfl, by decide +kernel, by decide +kernel⟩
theorem body_ord {X : Cx} {k : Nat} (hx : XF X (fbOf nOrd (defScope (top 29))) k) (hxe : X.xe = fun _ _ => False) (hs : X.env.scope = defScope (top 29)) (hf : ∀ x, frees.contains x = true → X.mg x = none) (ds : List D) (m : Mu) (Q : QD) (h : aOrd ds m Q) :
    ASs X (defBody (top 29)) (startR nOrd ds) m { nx := fun _ m' => Q .non m', rt := Q } := by
  obtain ⟨xs, rfl, g1, q⟩ := h
  show ASs X (defBody (top 29)) [some (.lst (xs.map D.str)), none, none, none, none, none] m _
  walk_at "e"; walk_at "e"
  refine AE.lst ?_
  walk_at "e"
  refine AE.lst ?_
  walk_at "e"
  refine ⟨Nat.zero_le _, ?_⟩
  walk_at "e"
  refine ⟨(show 1 ≤ sizeLine by decide), ?_⟩
  walk_at "es"
  refine AS.forT D.str hxe hx (AI.list ?_)
  walk_at "e"
  refine ⟨_, .im, xs, fun pre ρ' m' => (∃ o1 o2 o3, ρ' = [some (.lst (xs.map D.str)), some (.lst ((ordL pre).map ordD)), o1, o2, o3, none]) ∧ m' = m, rfl, ⟨⟨_, _, _, rfl⟩, rfl⟩, fun _ _ _ _ => .im, ?_, ?_⟩
  · rintro pre r post ρ' m' e ⟨⟨o1, o2, o3, rfl⟩, rfl⟩
    have pl : pre.length ≤ 3 := by have := congrArg List.length e; simp at this; omega
    have fl : (ordL pre).length ≤ 125 := Nat.le_trans (ordL_len rfl (by omega)) (show 5 ^ pre.length ≤ 5 ^ 3 from Nat.pow_le_pow_right (by decide) pl)
    walk_at "e"
    refine ⟨_, by walk_at "sr", ?_⟩
    walk_at "e"; walk_at "e"
    refine AE.lst ?_
    walk_at "e"
    refine ⟨Nat.zero_le _, ?_⟩
    walk_at "es"
    refine AS.forT ordD hxe hx (AI.list ?_)
    walk_at "e"
    refine ⟨_, .im, ordL pre, fun p2 ρ' m2 => (∃ o3, ρ' = [some (.lst (xs.map D.str)), some (.lst ((ordL pre).map ordD)), some (.str r), some (.lst ((p2.flatMap (extO r)).map ordD)), o3, none]) ∧ m2 = m', rfl, ⟨⟨_, rfl⟩, rfl⟩, fun _ _ _ _ => .im, ?_, ?_⟩
    · rintro p2 o q2 ρ' m2 e2 ⟨⟨o3, rfl⟩, rfl⟩
      have ol : o.length ≤ 3 := by rw [ordL_len1 rfl o (by rw [e2]; simp)]; exact pl
      have pl2 : p2.length < 125 := by have := congrArg List.length e2; simp at this; omega
      have fl2 : (p2.flatMap (extO r)).length ≤ 125 * 5 := by
        refine Nat.le_trans (flat_len (c := 5) fun v hv => ?_) (Nat.mul_le_mul_right _ (by omega))
        simp [extO, ordL_len1 (xs := pre) rfl v (by rw [e2]; simp [hv])]; omega
      walk_at "e"
      refine ⟨_, by walk_at "sr", ?_⟩
      walk_at "es"
      refine AE.lcP (fun i : Nat => D.int (0 + (i : Int))) hx hs (.s (.s (.s (.s (.s .z))))) (by decide +kernel) ?_
      refine AI.range1 hx (by decide +kernel) (hf _ (by decide +kernel)) ?_
      walk_at "e"
      refine AE.callB ca_len hx (by decide +kernel) (hf _ (by decide +kernel)) rfl ?_
      walk_at "es"
      refine .inl ⟨_, _, rfl, .im, ?_⟩
      walk_at "es"
      refine ⟨_, rfl, by omega, by simp; omega, List.range (o.length + 1), fun s => some (ordD (putAt r o s)), ?_, by rw [List.length_range]; exact Nat.lt_of_le_of_lt (show o.length + 1 ≤ 4 by omega) (by decide), fun _ _ => trivial, ?_, ?_⟩
      · simp only [irange, List.length_map]; rfl
      · intro s hsr m' hm'
        have sl : s ≤ o.length := by simpa [Nat.lt_succ_iff] using hsr
        refine ⟨_, by walk_at "sr", rfl, fun _ => ?_, fun e => nomatch e⟩
        refine ABE.of hx hs fun s0 H0 C0 cl0 fp0 hb hbs => ?_
        walk_at "es"
        refine AE.slice ?_
        walk_at "e"
        refine AO.no (AO.at ?_)
        walk_at "e"
        refine ⟨_, rfl, _, .im, ?_⟩
        refine AE.lst ?_
        walk_at "es"
        refine ⟨(show 1 ≤ sizeLine by decide), ?_⟩
        rw [Int.zero_add, cutD_take D.str o sl]
        refine ⟨_, .cat .im .im (by simp; exact Nat.le_trans (show min s o.length + 1 ≤ 4 by omega) (by decide)), ?_⟩
        refine AE.slice ?_
        walk_at "e"
        refine AO.at ?_
        walk_at "e"
        refine ⟨_, rfl, AO.no ⟨_, .im, ?_⟩⟩
        rw [Int.zero_add, cutD_drop D.str o sl]
        refine ⟨_, .cat .im .im (by simp; exact Nat.le_trans (show min s o.length + 1 + (o.length - s) ≤ 4 by omega) (by decide)), rfl, ?_⟩
        simp [ordD, putAt]
      · refine ⟨_, .cat .im .im ?_, ?_⟩
        · simp only [List.length_map]
          refine Nat.le_trans (Nat.add_le_add fl2 (List.length_filterMap_le _ _)) ?_
          simp only [List.length_range]
          exact Nat.le_trans (show 125 * 5 + (o.length + 1) ≤ 1000 by omega) (by decide)
        · walk_at "e"
          walk_at "e"
          refine ⟨⟨some (ordD o), ?_⟩, rfl⟩
          rw [List.flatMap_append, List.map_append]
          simp [extO]
    · rintro ρ' m2 ⟨⟨o3, rfl⟩, rfl⟩
      walk_at "es"
      rw [← ordL_snoc]
      exact ⟨⟨_, _, _, rfl⟩, rfl⟩
  · rintro ρ' m' ⟨⟨o1, o2, o3, rfl⟩, rfl⟩
    walk_at "es"
    exact q
/-! ### climbs -/
def aClimbs : ASp := fun ds m Q => ∃ os v, ds = [ordD os, valD v] ∧ (∀ o ∈ os, o ∈ v.map (·.1)) ∧ os.length ≤ 4 ∧ Q (.bl (decide ((os.map (val v)).Pairwise (· ≤ ·)))) m
abbrev nClimbs : List Str := ["order", "known", "worths", "one"]
theorem scClimbs : FnScope nClimbs ["order", "known"] (defScope (top 30)) := ⟨rfl, rfl, rfl, by decide +kernel, rfl, by decide +kernel, by decide +kernel⟩
theorem body_climbs {X : Cx} {k : Nat} (hx : XF X (fbOf nClimbs (defScope (top 30))) k) (hs : X.env.scope = defScope (top 30)) (hf : ∀ x, frees.contains x = true → X.mg x = none) (ds : List D) (m : Mu) (Q : QD) (h : aClimbs ds m Q) :
    ASs X (defBody (top 30)) (startR nClimbs ds) m { nx := fun _ m' => Q .non m', rt := Q } := by
  obtain ⟨os, v, rfl, g1, g2, q⟩ := h
  show ASs X (defBody (top 30)) [some (ordD os), some (valD v), none, none] m _
  have ol : os.length < sizeLine := Nat.lt_of_le_of_lt g2 (by decide)
  walk_at "e"
  refine AS.setLcP D.str hx hs (.s (.s (.s .z))) (by decide +kernel) (.s (.s .z)) (by decide +kernel) (by simp only [swapsWith, Env.blockKind, Env.kindOf, hs]; rfl) ?_
  refine AI.list ?_
  walk_at "e"
  refine ⟨_, .im, os, fun o => some (.int (val v o)), rfl, ol, fun _ _ => .im, ?_, ?_⟩
  · intro o ho m' hm'
    refine ⟨_, by walk_at "sr", rfl, fun _ => ?_, fun e => nomatch e⟩
    refine ABE.of hx hs fun s0 H0 C0 cl0 fp0 hb hbs => ?_
    refine AE.dget hb ?_
    walk_at "es"
    exact ⟨_, _, _, .im, rfl, val_get (g1 o ho), rfl, rfl⟩
  have ew : (os.filterMap fun o => some (D.int (val v o))) = (os.map (val v)).map D.int := by simp
  rw [ew]
  walk_at "es"
  refine AE.eqG hx ?_
  walk_at "e"
  refine AE.callB ca_sortI64 hx (by decide +kernel) (hf _ (by decide +kernel)) rfl ?_
  walk_at "es"
  refine ⟨_, os.map (val v), rfl, .im, by simp; omega, fun ys y1 y2 => ?_⟩
  refine ⟨1, _, by decide, eqF_int.lstM .im .im, rfl, ?_⟩
  have ed : decide (os.map (val v) = ys) = decide ((os.map (val v)).Pairwise (· ≤ ·)) := by
    rw [Bool.eq_iff_iff, decide_eq_true_iff, decide_eq_true_iff]
    exact ⟨fun e => by rw [e]; exact y2, fun h => sortedI_unique y1.symm h y2⟩
  rw [ed]
  exact q
end K76
namespace K76
open PySem PySem.Spec PyProof.Rows L2 Ab
/-! ### the plain law -/
/-- all values: what is in, what is not -/
theorem mem_worths {r : Row} {w : Int} : w ∈ worths r ↔ r.2.1 ≤ w ∧ w ≤ r.2.2.1 := by
  unfold worths
  rw [List.mem_map]
  constructor
  · rintro ⟨i, hi, rfl⟩
    have := List.mem_range.mp hi
    omega
  · rintro ⟨h1, h2⟩
    exact ⟨(w - r.2.1).toNat, List.mem_range.mpr (by omega), by omega⟩
theorem allV_in : ∀ {n : Nat} {rows : List Row} (g : Str → Int), rows.length = n → (∀ r ∈ rows, r.2.1 ≤ g r.1 ∧ g r.1 ≤ r.2.2.1) → (rows.map fun r => (r.1, g r.1)) ∈ allV rows := by
  intro n
  induction n with
  | zero => intro rows g h _; rw [List.length_eq_zero_iff.mp h]; simp [allV]
  | succ n ih =>
    intro rows g h hg
    obtain ⟨pre, r, rfl, hp⟩ := snoc_of h
    rw [allV_snoc, List.mem_flatMap]
    refine ⟨_, ih g hp fun q hq => hg q (by simp [hq]), ?_⟩
    unfold extV
    rw [List.mem_map]
    exact ⟨g r.1, mem_worths.mpr (hg r (by simp)), by simp⟩
theorem val_append {u t : Vals} {n : Str} (h : n ∈ u.map (·.1)) : val (u ++ t) n = val u n := by
  induction u with
  | nil => simp at h
  | cons p u ih =>
    obtain ⟨k, v⟩ := p
    by_cases e : k = n
    · subst e; simp [val, List.lookup]
    · have h' : n ∈ u.map (·.1) := by
        rcases List.mem_map.mp h with ⟨q, hq, rfl⟩
        rcases List.mem_cons.mp hq with rfl | hq
        · exact absurd rfl e
        · exact List.mem_map.mpr ⟨q, hq, rfl⟩
      have this : (n == k) = false := by simpa using fun z : n = k => e z.symm
      have := ih h'
      simp only [val, List.cons_append, List.lookup, ‹(n == k) = false›] at this ⊢
      exact this
theorem val_new {u : Vals} {n : Str} {w : Int} (h : n ∉ u.map (·.1)) : val (u ++ [(n, w)]) n = w := by
  induction u with
  | nil => simp [val, List.lookup]
  | cons p u ih =>
    obtain ⟨k, v⟩ := p
    have e : k ≠ n := fun e => h (by rw [e]; simp)
    have this : (n == k) = false := by simpa using fun z : n = k => e z.symm
    have := ih fun z => h (by simp [z])
    simp only [val, List.cons_append, List.lookup, ‹(n == k) = false›] at this ⊢
    exact this
theorem allV_out : ∀ {n : Nat} {rows : List Row}, rows.length = n → (rows.map (·.1)).Nodup → ∀ v ∈ allV rows, ∀ r ∈ rows, r.2.1 ≤ val v r.1 ∧ val v r.1 ≤ r.2.2.1 := by
  intro n
  induction n with
  | zero => intro rows h _ v hv r hr; rw [List.length_eq_zero_iff.mp h] at hr; simp at hr
  | succ n ih =>
    intro rows h nd v hv r hr
    obtain ⟨pre, q, rfl, hp⟩ := snoc_of h
    rw [allV_snoc, List.mem_flatMap] at hv
    obtain ⟨u, hu, hv⟩ := hv
    obtain ⟨w, hw, rfl⟩ := List.mem_map.mp hv
    have nu := allV_names rfl u hu
    rw [List.map_append, List.nodup_append] at nd
    rcases List.mem_append.mp hr with hr | hr
    · rw [val_append (by rw [nu]; exact List.mem_map.mpr ⟨r, hr, rfl⟩)]
      exact ih hp nd.1 u hu r hr
    · rw [List.mem_singleton] at hr
      subst hr
      rw [val_new (by rw [nu]; intro z; exact nd.2.2 r.1 z r.1 (by simp) rfl)]
      exact mem_worths.mp hw
/-! orders -/
theorem putAt_perm (x : Str) (o : List Str) (s : Nat) : (putAt x o s).Perm (o ++ [x]) := by
  unfold putAt
  have h : (o.take s ++ [x] ++ o.drop s).Perm (o.take s ++ (o.drop s ++ [x])) := by
    rw [List.append_assoc]
    exact List.Perm.append_left _ List.perm_append_comm
  rw [← List.append_assoc, List.take_append_drop] at h
  exact h
theorem ordL_out : ∀ {n : Nat} {xs : List Str}, xs.length = n → ∀ o ∈ ordL xs, o.Perm xs := by
  intro n
  induction n with
  | zero => intro xs h o ho; rw [List.length_eq_zero_iff.mp h] at ho ⊢; simp [ordL] at ho; rw [ho]
  | succ n ih =>
    intro xs h o ho
    obtain ⟨pre, r, rfl, hp⟩ := snoc_of h
    rw [ordL_snoc, List.mem_flatMap] at ho
    obtain ⟨u, hu, ho⟩ := ho
    obtain ⟨s, hs, rfl⟩ := List.mem_map.mp ho
    exact (putAt_perm r u s).trans (List.Perm.append_right _ (ih hp u hu))
theorem ordL_in : ∀ {n : Nat} {xs : List Str}, xs.length = n → ∀ o : List Str, o.Perm xs → o ∈ ordL xs := by
  intro n
  induction n with
  | zero => intro xs h o ho; rw [List.length_eq_zero_iff.mp h] at ho ⊢; rw [List.perm_nil.mp ho]; simp [ordL]
  | succ n ih =>
    intro xs h o ho
    obtain ⟨pre, r, rfl, hp⟩ := snoc_of h
    have hr : r ∈ o := ho.mem_iff.mpr (by simp)
    obtain ⟨a, b, rfl⟩ := List.append_of_mem hr
    rw [ordL_snoc, List.mem_flatMap]
    have hab : (a ++ b).Perm pre := by
      have h1 : (r :: (a ++ b)).Perm (r :: pre) := (List.perm_middle.symm.trans ho).trans (List.perm_append_comm (l₁ := pre) (l₂ := [r]))
      exact (List.perm_cons r).mp h1
    refine ⟨a ++ b, ih hp _ hab, ?_⟩
    unfold extO
    rw [List.mem_map]
    exact ⟨a.length, List.mem_range.mpr (by simp; omega), by simp [putAt]⟩
/-! the climb -/
def climbG (f : Option Int) : List Itm → Option Vals
  | [] => some []
  | r :: t => if r.2.2.1 < flo f r then none else (climbG (some (flo f r)) t).map ((r.1, flo f r) :: ·)
theorem climb_eq : ∀ {its : List Itm} {f : Option Int} {u : Vals}, (climb (f, u) its).map (·.2) = (climbG f its).map (u ++ ·)
  | [], f, u => by simp [climb, climbG]
  | r :: t, f, u => by
    rw [climb, climbG, stp]
    by_cases h : r.2.2.1 < flo f r
    · simp [h]
    · simp only [h, if_false, Option.bind_some, Option.map_map]
      rw [climb_eq]
      cases climbG (some (flo f r)) t <;> simp
theorem climbG_ok : ∀ {its : List Itm} {f : Option Int} {u : Vals}, (its.map (·.1)).Nodup → climbG f its = some u → u.map (·.1) = its.map (·.1) ∧ (its.map fun r => val u r.1).Pairwise (· ≤ ·) ∧ (∀ r ∈ its, r.2.1 ≤ val u r.1 ∧ val u r.1 ≤ r.2.2.1) ∧ ∀ v, f = some v → ∀ r ∈ its, v ≤ val u r.1
  | [], f, u, _, h => by cases h; simp
  | r :: t, f, u, nd, h => by
    rw [climbG] at h
    split at h
    · cases h
    · rename_i hc
      cases ht : climbG (some (flo f r)) t with
      | none => rw [ht] at h; cases h
      | some w =>
        rw [ht] at h; cases h
        simp only [List.map_cons, List.nodup_cons] at nd
        obtain ⟨i1, i2, i3, i4⟩ := climbG_ok nd.2 ht
        have v0 : val ((r.1, flo f r) :: w) r.1 = flo f r := by simp [val, List.lookup]
        have v1 : ∀ q ∈ t, val ((r.1, flo f r) :: w) q.1 = val w q.1 := fun q hq => by
          have ne : q.1 ≠ r.1 := fun e => nd.1 (e ▸ List.mem_map.mpr ⟨q, hq, rfl⟩)
          have this : (q.1 == r.1) = false := by simpa using ne
          simp only [val, List.lookup, this]
        have e1 : (t.map fun q => val ((r.1, flo f r) :: w) q.1) = t.map fun q => val w q.1 := List.map_congr_left v1
        have lo : r.2.1 ≤ flo f r := by unfold flo; cases f with
          | none => exact Int.le_refl _
          | some v => exact Int.le_max_right _ _
        refine ⟨by simp [i1], ?_, ?_, ?_⟩
        · rw [List.map_cons, e1, v0, List.pairwise_cons]
          refine ⟨fun z hz => ?_, i2⟩
          obtain ⟨q, hq, rfl⟩ := List.mem_map.mp hz
          exact i4 _ rfl q hq
        · intro q hq
          rcases List.mem_cons.mp hq with rfl | hq
          · rw [v0]; exact ⟨lo, by omega⟩
          · rw [v1 q hq]; exact i3 q hq
        · intro v hv q hq
          have fl : v ≤ flo f r := by rw [hv]; exact Int.le_max_left _ _
          rcases List.mem_cons.mp hq with rfl | hq
          · rw [v0]; exact fl
          · rw [v1 q hq]; exact Int.le_trans fl (i4 _ rfl q hq)
theorem climbG_min : ∀ {its : List Itm} {f : Option Int} (h : Str → Int), (its.map (·.1)).Nodup → (its.map fun r => h r.1).Pairwise (· ≤ ·) → (∀ r ∈ its, r.2.1 ≤ h r.1 ∧ h r.1 ≤ r.2.2.1) → (∀ v, f = some v → ∀ r ∈ its, v ≤ h r.1) → ∃ u, climbG f its = some u ∧ ∀ r ∈ its, val u r.1 ≤ h r.1
  | [], f, h, _, _, _, _ => ⟨[], rfl, by simp⟩
  | r :: t, f, h, nd, pw, bd, fl => by
    have hr := bd r List.mem_cons_self
    have lo : flo f r ≤ h r.1 := by
      unfold flo
      cases f with
      | none => exact hr.1
      | some v => exact Int.max_le.mpr ⟨fl v rfl r List.mem_cons_self, hr.1⟩
    rw [List.map_cons, List.pairwise_cons] at pw
    simp only [List.map_cons, List.nodup_cons] at nd
    obtain ⟨w, hw, mw⟩ := climbG_min (its := t) (f := some (flo f r)) h nd.2 pw.2 (fun q hq => bd q (List.mem_cons_of_mem _ hq)) fun v hv q hq => by
      cases hv
      exact Int.le_trans lo (pw.1 _ (List.mem_map.mpr ⟨q, hq, rfl⟩))
    refine ⟨(r.1, flo f r) :: w, by rw [climbG, if_neg (by omega), hw]; rfl, fun q hq => ?_⟩
    rcases List.mem_cons.mp hq with rfl | hq
    · simpa [val, List.lookup] using lo
    · have ne : q.1 ≠ r.1 := fun e => nd.1 (e ▸ List.mem_map.mpr ⟨q, hq, rfl⟩)
      have this : (q.1 == r.1) = false := by simpa using ne
      simp only [val, List.lookup, this]
      exact mw q hq
end K76
namespace K76
open PySem PySem.Spec PyProof.Rows L2 Ab
def rowN (rows : List Row) (n : Str) : Row := (rows.find? fun r => decide (r.1 = n)).getD (n, 0, 0, 0)
theorem rowN_of : ∀ {rows : List Row} {r : Row}, (rows.map (·.1)).Nodup → r ∈ rows → rowN rows r.1 = r
  | q :: rows, r, nd, h => by
    simp only [List.map_cons, List.nodup_cons] at nd
    rcases List.mem_cons.mp h with rfl | h
    · simp [rowN]
    · have ne : q.1 ≠ r.1 := fun e => nd.1 (e ▸ List.mem_map.mpr ⟨r, h, rfl⟩)
      have := rowN_of nd.2 h
      simp only [rowN, List.find?_cons, decide_eq_false ne] at this ⊢
      exact this
def itsOf (rows : List Row) (o : List Str) : List Itm := o.map fun n => itOf (rowN rows n)
def fit (rows : List Row) (o : List Str) : List Vals := (allV rows).filter fun v => decide ((o.map (val v)).Pairwise (· ≤ ·))
def res (rows : List Row) (o : List Str) : Option Vals := climbG none (itsOf rows o)
section
variable {rows : List Row} {o : List Str}
theorem rowN_name (nd : (rows.map (·.1)).Nodup) (p : o.Perm (rows.map (·.1))) {n : Str} (h : n ∈ o) : ∃ r ∈ rows, r.1 = n ∧ rowN rows n = r := by
  obtain ⟨r, hr, rfl⟩ := List.mem_map.mp (p.mem_iff.mp h)
  exact ⟨r, hr, rfl, rowN_of nd hr⟩
theorem its_names (nd : (rows.map (·.1)).Nodup) (p : o.Perm (rows.map (·.1))) : (itsOf rows o).map (·.1) = o := by
  unfold itsOf
  rw [List.map_map]
  conv => rhs; rw [← List.map_id o]
  refine List.map_congr_left fun n hn => ?_
  obtain ⟨r, hr, e, er⟩ := rowN_name nd p hn
  show (rowN rows n).1 = n
  rw [er, e]
theorem its_vals (nd : (rows.map (·.1)).Nodup) (p : o.Perm (rows.map (·.1))) (h : Str → Int) : ((itsOf rows o).map fun r => h r.1) = o.map h := by
  conv => rhs; rw [← its_names nd p, List.map_map]
  rfl
theorem its_mem (nd : (rows.map (·.1)).Nodup) (p : o.Perm (rows.map (·.1))) {i : Itm} (h : i ∈ itsOf rows o) : ∃ r ∈ rows, i = itOf r := by
  obtain ⟨n, hn, rfl⟩ := List.mem_map.mp h
  obtain ⟨r, hr, e, er⟩ := rowN_name nd p hn
  exact ⟨r, hr, by rw [er]⟩
theorem its_has (nd : (rows.map (·.1)).Nodup) (p : o.Perm (rows.map (·.1))) {r : Row} (h : r ∈ rows) : itOf r ∈ itsOf rows o := by
  refine List.mem_map.mpr ⟨r.1, p.mem_iff.mpr (List.mem_map.mpr ⟨r, h, rfl⟩), ?_⟩
  rw [rowN_of nd h]
theorem res_of_fit (nd : (rows.map (·.1)).Nodup) (p : o.Perm (rows.map (·.1))) (h : Str → Int) (bd : ∀ r ∈ rows, r.2.1 ≤ h r.1 ∧ h r.1 ≤ r.2.2.1) (pw : (o.map h).Pairwise (· ≤ ·)) : ∃ u, res rows o = some u ∧ ∀ r ∈ rows, val u r.1 ≤ h r.1 := by
  obtain ⟨u, e, mn⟩ := climbG_min (its := itsOf rows o) (f := none) h (by rw [its_names nd p]; exact p.symm.nodup nd) (by rw [its_vals nd p]; exact pw) (fun i hi => by obtain ⟨r, hr, rfl⟩ := its_mem nd p hi; exact bd r hr) (fun v hv => nomatch hv)
  exact ⟨u, e, fun r hr => mn (itOf r) (its_has nd p hr)⟩
theorem fit_mem (nd : (rows.map (·.1)).Nodup) {v : Vals} (h : v ∈ fit rows o) : v.map (·.1) = rows.map (·.1) ∧ (∀ r ∈ rows, r.2.1 ≤ val v r.1 ∧ val v r.1 ≤ r.2.2.1) ∧ (o.map (val v)).Pairwise (· ≤ ·) := by
  obtain ⟨h1, h2⟩ := List.mem_filter.mp h
  exact ⟨allV_names rfl v h1, allV_out rfl nd v h1, of_decide_eq_true h2⟩
theorem res_ok (nd : (rows.map (·.1)).Nodup) (p : o.Perm (rows.map (·.1))) {u : Vals} (h : res rows o = some u) : u.map (·.1) = o ∧ (∀ r ∈ rows, r.2.1 ≤ val u r.1 ∧ val u r.1 ≤ r.2.2.1) ∧ (o.map (val u)).Pairwise (· ≤ ·) := by
  obtain ⟨a, b, c, _⟩ := climbG_ok (by rw [its_names nd p]; exact p.symm.nodup nd) h
  rw [its_names nd p] at a
  rw [its_vals nd p] at b
  exact ⟨a, fun r hr => c (itOf r) (its_has nd p hr), b⟩
theorem val_rows {g : Str → Int} : ∀ {rows : List Row}, (rows.map (·.1)).Nodup → ∀ r ∈ rows, val (rows.map fun r => (r.1, g r.1)) r.1 = g r.1
  | q :: rows, nd, r, h => by
    simp only [List.map_cons, List.nodup_cons] at nd
    rcases List.mem_cons.mp h with rfl | h
    · simp [val, List.lookup]
    · have ne : r.1 ≠ q.1 := fun e => nd.1 (e ▸ List.mem_map.mpr ⟨r, h, rfl⟩)
      have this : (r.1 == q.1) = false := by simpa using ne
      have ih := val_rows (g := g) nd.2 r h
      simp only [val, List.map_cons, List.lookup, this] at ih ⊢
      exact ih
/-- its values are among all values -/
theorem law_in (nd : (rows.map (·.1)).Nodup) (p : o.Perm (rows.map (·.1))) {u : Vals} (h : res rows o = some u) : ∃ v ∈ fit rows o, ∀ n ∈ o, val v n = val u n := by
  obtain ⟨a, b, c⟩ := res_ok nd p h
  have hv : ∀ n ∈ o, val (rows.map fun r => (r.1, val u r.1)) n = val u n := fun n hn => by
    obtain ⟨r, hr, rfl, _⟩ := rowN_name nd p hn
    exact val_rows nd r hr
  refine ⟨_, List.mem_filter.mpr ⟨allV_in (val u) rfl b, decide_eq_true ?_⟩, hv⟩
  rw [List.map_congr_left hv]
  exact c
theorem law_none (nd : (rows.map (·.1)).Nodup) (p : o.Perm (rows.map (·.1))) : res rows o = none ↔ fit rows o = [] := by
  constructor
  · intro h
    refine List.eq_nil_iff_forall_not_mem.mpr fun v hv => ?_
    obtain ⟨_, h2, h3⟩ := fit_mem nd hv
    obtain ⟨u, e, _⟩ := res_of_fit nd p (val v) h2 h3
    rw [h] at e; cases e
  · intro h
    cases e : res rows o with
    | none => rfl
    | some u =>
      obtain ⟨v, hv, _⟩ := law_in nd p e
      rw [h] at hv; simp at hv
theorem law_least (nd : (rows.map (·.1)).Nodup) (p : o.Perm (rows.map (·.1))) {u v : Vals} (h : res rows o = some u) (hv : v ∈ fit rows o) : ∀ n ∈ o, ¬ val v n < val u n := fun n hn => by
  obtain ⟨_, h2, h3⟩ := fit_mem nd hv
  obtain ⟨u', e, mn⟩ := res_of_fit nd p (val v) h2 h3
  rw [h] at e; cases e
  obtain ⟨r, hr, rfl, _⟩ := rowN_name nd p hn
  have := mn r hr
  omega
def good (rows : List Row) : List (List Str) := (ordL (rows.map (·.1))).filter fun o => (res rows o).isSome
theorem idx_at {n : Str} {o : List Str} (h : n ∈ o) : o[o.idxOf n]? = some n ∧ ∀ i, i < o.idxOf n → o[i]? ≠ some n := by
  have hl := List.idxOf_lt_length_of_mem h
  refine ⟨by rw [List.getElem?_eq_getElem hl, List.getElem_idxOf], fun i hi e => ?_⟩
  have hi2 : i < o.length := Nat.lt_trans hi hl
  rw [List.getElem?_eq_getElem hi2] at e
  have e' : o[i] = n := by simpa using e
  have := List.not_of_lt_findIdx (p := (· == n)) (xs := o) (i := i) hi
  simp [e'] at this
theorem pw_idx {R : Str → Str → Prop} {o : List Str} (h : o.Pairwise R) {a b : Str} (ha : a ∈ o) (hb : b ∈ o) (lt : o.idxOf a < o.idxOf b) : R a b := by
  have h1 := List.idxOf_lt_length_of_mem ha
  have h2 := List.idxOf_lt_length_of_mem hb
  have := List.pairwise_iff_getElem.mp h _ _ h1 h2 lt
  rwa [List.getElem_idxOf, List.getElem_idxOf] at this
theorem law_may (nd : (rows.map (·.1)).Nodup) (bd : ∀ r ∈ rows, r.2.1 ≤ r.2.2.1) {a b : Row} (ha : a ∈ rows) (hb : b ∈ rows) (ne : a.1 ≠ b.1) : ((good rows).any fun o => decide (o.idxOf a.1 < o.idxOf b.1)) = !decide (b.2.2.1 < a.2.1) := by
  have ia : a.1 ∈ rows.map (·.1) := List.mem_map.mpr ⟨a, ha, rfl⟩
  have ib : b.1 ∈ rows.map (·.1) := List.mem_map.mpr ⟨b, hb, rfl⟩
  rw [Bool.eq_iff_iff, List.any_eq_true]
  simp only [Bool.not_eq_true', decide_eq_false_iff_not, decide_eq_true_eq]
  constructor
  · rintro ⟨o, ho, lt⟩
    obtain ⟨h1, h2⟩ := List.mem_filter.mp ho
    have p := ordL_out rfl o h1
    obtain ⟨u, hu⟩ := Option.isSome_iff_exists.mp h2
    obtain ⟨_, k2, k3⟩ := res_ok nd p hu
    rw [List.pairwise_map] at k3
    have := pw_idx k3 (p.mem_iff.mpr ia) (p.mem_iff.mpr ib) lt
    have := k2 a ha
    have := k2 b hb
    omega
  · intro h
    let g : Str → Int := fun n => if n = b.1 then max a.2.1 b.2.1 else (rowN rows n).2.1
    have gb : g b.1 = max a.2.1 b.2.1 := if_pos rfl
    have ga : g a.1 = a.2.1 := by show (if a.1 = b.1 then _ else _) = _; rw [if_neg ne, rowN_of nd ha]
    have gd : ∀ r ∈ rows, r.2.1 ≤ g r.1 ∧ g r.1 ≤ r.2.2.1 := fun r hr => by
      by_cases e : r.1 = b.1
      · have : r = b := by rw [← rowN_of nd hr, ← rowN_of nd hb, e]
        subst this
        rw [gb]
        have := bd r hr
        omega
      · have : g r.1 = r.2.1 := by show (if r.1 = b.1 then _ else _) = _; rw [if_neg e, rowN_of nd hr]
        rw [this]; exact ⟨Int.le_refl _, bd r hr⟩
    let le : Str → Str → Bool := fun x y => decide (g x < g y) || (decide (g x = g y) && (decide (x = a.1) || decide (y ≠ a.1)))
    have tr : ∀ x y z, le x y = true → le y z = true → le x z = true := fun x y z h1 h2 => by
      simp only [le, Bool.or_eq_true, Bool.and_eq_true, decide_eq_true_eq] at h1 h2 ⊢
      rcases h1 with h1 | ⟨h1, h1'⟩ <;> rcases h2 with h2 | ⟨h2, h2'⟩
      · left; omega
      · left; omega
      · left; omega
      · right
        refine ⟨h1.trans h2, ?_⟩
        rcases h1' with h1' | h1'
        · exact .inl h1'
        · rcases h2' with h2' | h2'
          · exact absurd h2' h1'
          · exact .inr h2'
    have tot : ∀ x y, (le x y || le y x) = true := fun x y => by
      simp only [le, Bool.or_eq_true, Bool.and_eq_true, decide_eq_true_eq]
      rcases Int.lt_trichotomy (g x) (g y) with h | h | h
      · exact .inl (.inl h)
      · by_cases hx : x = a.1
        · exact .inl (.inr ⟨h, .inl hx⟩)
        · exact .inr (.inr ⟨h.symm, .inr hx⟩)
      · exact .inr (.inl h)
    have pw := List.pairwise_mergeSort tr tot (rows.map (·.1))
    have p : ((rows.map (·.1)).mergeSort le).Perm (rows.map (·.1)) := List.mergeSort_perm _ _
    have pv : (((rows.map (·.1)).mergeSort le).map g).Pairwise (· ≤ ·) := by
      rw [List.pairwise_map]
      refine pw.imp fun {x y} h => ?_
      simp only [le, Bool.or_eq_true, Bool.and_eq_true, decide_eq_true_eq] at h
      rcases h with h | ⟨h, _⟩ <;> omega
    obtain ⟨u, hu, _⟩ := res_of_fit nd p g gd pv
    refine ⟨_, List.mem_filter.mpr ⟨ordL_in rfl _ p, by rw [hu]; rfl⟩, ?_⟩
    rcases Nat.lt_trichotomy (((rows.map (·.1)).mergeSort le).idxOf a.1) (((rows.map (·.1)).mergeSort le).idxOf b.1) with h1 | h1 | h1
    · exact h1
    · have e1 := (idx_at (p.mem_iff.mpr ia)).1
      have e2 := (idx_at (p.mem_iff.mpr ib)).1
      rw [h1, e2] at e1
      exact absurd (by simpa using e1.symm) ne
    · have := pw_idx pw (p.mem_iff.mpr ib) (p.mem_iff.mpr ia) h1
      simp only [le, Bool.or_eq_true, Bool.and_eq_true, decide_eq_true_eq, gb, ga] at this
      rcases this with h2 | ⟨_, h2 | h2⟩
      · omega
      · exact absurd h2.symm ne
      · exact absurd rfl h2
end
end K76
namespace K76
open PySem PySem.Spec PyProof.Rows L2 Ab
local macro_rules | `(tactic| walk_at "nth") => `(tactic| first | exact .z | exact .s .z | exact .s (.s .z) | exact .s (.s (.s .z)) | exact .s (.s (.s (.s .z))) | exact .s (.s (.s (.s (.s .z)))) | exact .s (.s (.s (.s (.s (.s .z))))) | exact .s (.s (.s (.s (.s (.s (.s .z)))))) | exact .s (.s (.s (.s (.s (.s (.s (.s .z))))))) | exact .s (.s (.s (.s (.s (.s (.s (.s (.s .z)))))))) | exact .s (.s (.s (.s (.s (.s (.s (.s (.s (.s .z))))))))) | exact .s (.s (.s (.s (.s (.s (.s (.s (.s (.s (.s .z)))))))))) | exact .s (.s (.s (.s (.s (.s (.s (.s (.s (.s (.s (.s .z))))))))))) | exact .s (.s (.s (.s (.s (.s (.s (.s (.s (.s (.s (.s (.s .z)))))))))))) | exact .s (.s (.s (.s (.s (.s (.s (.s (.s (.s (.s (.s (.s (.s .z))))))))))))) | exact .s (.s (.s (.s (.s (.s (.s (.s (.s (.s (.s (.s (.s (.s (.s .z)))))))))))))) | exact .s (.s (.s (.s (.s (.s (.s (.s (.s (.s (.s (.s (.s (.s (.s (.s .z))))))))))))))) | exact .s (.s (.s (.s (.s (.s (.s (.s (.s (.s (.s (.s (.s (.s (.s (.s (.s .z)))))))))))))))) | exact .s (.s (.s (.s (.s (.s (.s (.s (.s (.s (.s (.s (.s (.s (.s (.s (.s (.s .z))))))))))))))))) | exact .s (.s (.s (.s (.s (.s (.s (.s (.s (.s (.s (.s (.s (.s (.s (.s (.s (.s (.s .z)))))))))))))))))))
local macro_rules | `(tactic| walk_at "sr") => `(tactic| first | exact .z | exact .s .z | exact .s (.s .z) | exact .s (.s (.s .z)) | exact .s (.s (.s (.s .z))) | exact .s (.s (.s (.s (.s .z)))) | exact .s (.s (.s (.s (.s (.s .z))))) | exact .s (.s (.s (.s (.s (.s (.s .z)))))) | exact .s (.s (.s (.s (.s (.s (.s (.s .z))))))) | exact .s (.s (.s (.s (.s (.s (.s (.s (.s .z)))))))) | exact .s (.s (.s (.s (.s (.s (.s (.s (.s (.s .z))))))))) | exact .s (.s (.s (.s (.s (.s (.s (.s (.s (.s (.s .z)))))))))) | exact .s (.s (.s (.s (.s (.s (.s (.s (.s (.s (.s (.s .z))))))))))) | exact .s (.s (.s (.s (.s (.s (.s (.s (.s (.s (.s (.s (.s .z)))))))))))) | exact .s (.s (.s (.s (.s (.s (.s (.s (.s (.s (.s (.s (.s (.s .z))))))))))))) | exact .s (.s (.s (.s (.s (.s (.s (.s (.s (.s (.s (.s (.s (.s (.s .z)))))))))))))) | exact .s (.s (.s (.s (.s (.s (.s (.s (.s (.s (.s (.s (.s (.s (.s (.s .z))))))))))))))) | exact .s (.s (.s (.s (.s (.s (.s (.s (.s (.s (.s (.s (.s (.s (.s (.s (.s .z)))))))))))))))) | exact .s (.s (.s (.s (.s (.s (.s (.s (.s (.s (.s (.s (.s (.s (.s (.s (.s (.s .z))))))))))))))))) | exact .s (.s (.s (.s (.s (.s (.s (.s (.s (.s (.s (.s (.s (.s (.s (.s (.s (.s (.s .z)))))))))))))))))))
local macro_rules | `(tactic| walk_at "mu") => `(tactic| first | exact updM_same | assumption | (rw [updM_ne (by first | assumption | (apply Ne.symm; assumption))]; walk_at "mu"))
local macro_rules | `(tactic| walk_at "isl") => `(tactic| first | exact .im | exact .mu (by walk_at "mu"))
local macro_rules | `(tactic| walk_at "isi") => `(tactic| first | exact .im | exact .mu (by walk_at "mu"))
local macro_rules | `(tactic| walk_at "isq") => `(tactic| first | exact .im | exact .tup | exact .mu (by walk_at "mu"))
local macro_rules | `(tactic| walk_at "e") => `(tactic| first
  | refine AE.name (by assumption) (by with_reducible (walk_at "nth")) (by decide +kernel) rfl ?_
  | refine AE.int ?_ | refine AE.str ?_ | refine AE.bl ?_ | refine AE.non ?_
  | refine AE.add ?_ | refine AE.sub ?_ | refine AE.mul ?_ | refine AE.mod ?_ | refine AE.fdiv ?_ | refine AE.pow ?_
  | refine AE.lt ?_ | refine AE.le ?_ | refine AE.gt ?_ | refine AE.ge ?_
  | refine AT.lt ?_ | refine AT.le ?_ | refine AT.gt ?_ | refine AT.ge ?_
  | refine AT.isN ?_ | refine AT.notN ?_ | refine AE.isN ?_ | refine AE.notN ?_
  | refine AT.not ?_
  | refine AA.cons ?_ | refine AA.nil ?_
  | refine ASs.cons ?_ | refine ASs.nil ?_
  | refine AS.ret ?_ | refine AS.ifs ?_ | refine AS.expr ?_ | refine AS.pass ?_ | refine AS.brk ?_
  | refine AS.set (by assumption) (by with_reducible (walk_at "nth")) (by decide +kernel) ?_
  | refine AG.name (by assumption) (by with_reducible (walk_at "nth")) (by decide +kernel) ?_
  | refine ⟨_, .int, ?_⟩
  | refine ⟨_, by (walk_at "sr"), ?_⟩
  | refine ⟨_, _, rfl, rfl, ?_⟩)
local macro_rules | `(tactic| walk_at "es") => `(tactic| repeat (walk_at "e"))
theorem has_of {CI : Addr} {rows qs : List Row} (nd : (rows.map (·.1)).Nodup) (p : qs.Perm rows) {r : Row} (h : r ∈ rows) : Has CI (qs.map itOf) (itOf r) := by
  refine getK_mem ?_ ?_
  · rw [List.map_map, List.map_map]
    have : ((fun x : Key × D => x.1) ∘ itK CI) ∘ itOf = (fun s : Str => (Sum.inr s : Key)) ∘ (fun r : Row => r.1) := rfl
    rw [this, ← List.map_map]
    exact List.Pairwise.map _ (fun a b h e => h (by simpa using e)) ((p.map _).symm.nodup nd)
  · exact List.mem_map.mpr ⟨itOf r, List.mem_map.mpr ⟨r, p.mem_iff.mpr h, rfl⟩, rfl⟩
theorem climb_res {its : List Itm} : (climb (none, []) its = none ↔ climbG none its = none) ∧ ∀ s, climb (none, []) its = some s → climbG none its = some s.2 := by
  have e := climb_eq (its := its) (f := none) (u := [])
  cases h : climb (none, []) its with
  | none =>
    rw [h] at e
    cases g : climbG none its with
    | none => exact ⟨⟨fun _ => rfl, fun _ => rfl⟩, fun s hs => nomatch hs⟩
    | some u => rw [g] at e; cases e
  | some s =>
    rw [h] at e
    cases g : climbG none its with
    | none => rw [g] at e; cases e
    | some u =>
      rw [g] at e
      simp at e
      exact ⟨⟨fun z => (by cases z), fun z => (by cases z)⟩, fun s' hs => by cases hs; rw [e]⟩
theorem val_mem {v : Vals} {n : Str} {w : Int} (nd : (v.map (·.1)).Nodup) (h : (n, w) ∈ v) : val v n = w := by
  induction v with
  | nil => simp at h
  | cons p v ih =>
    obtain ⟨k, x⟩ := p
    simp only [List.map_cons, List.nodup_cons] at nd
    rcases List.mem_cons.mp h with e | h
    · cases e; simp [val, List.lookup]
    · have ne : n ≠ k := fun e => nd.1 (e ▸ List.mem_map.mpr ⟨_, h, rfl⟩)
      have this : (n == k) = false := by simpa using ne
      have := ih nd.2 h
      simp only [val, List.lookup, ‹(n == k) = false›] at this ⊢
      exact this
def asgK (ys : List Str) (g : Str → Int) : List (Key × D) := ys.map fun n => (.inr n, .int (g n))
theorem getK_ys {ys : List Str} {g : Str → Int} {n : Str} (h : n ∈ ys) : getK (asgK ys g) (.inr n) = some (.int (g n)) := by
  unfold asgK
  induction ys with
  | nil => simp at h
  | cons y ys ih =>
    by_cases e : y = n
    · subst e; simp [getK]
    · have h' : n ∈ ys := (List.mem_cons.mp h).resolve_left fun z => e z.symm
      have := ih h'
      simpa [getK, e] using this
theorem getK_in {ys : List Str} {g : Str → Int} {n : Str} {d : D} (h : getK (asgK ys g) (.inr n) = some d) : n ∈ ys := by
  unfold getK at h
  cases hq : (asgK ys g).find? fun p => decide (p.1 = .inr n) with
  | none => rw [hq] at h; cases h
  | some p =>
    have h1 := List.mem_of_find?_eq_some hq
    have h2 := List.find?_some hq
    obtain ⟨w, hw, rfl⟩ := List.mem_map.mp h1
    have h3 := of_decide_eq_true h2
    have h4 : w = n := Sum.inr.inj h3
    exact h4 ▸ hw
/-- == of values and of an assignment -/
def eK (g : Str → Int) (v : Vals) : Key → Bool
  | .inr n => decide (val v n = g n)
  | .inl _ => true
def eqVA (v : Vals) (ys : List Str) (g : Str → Int) : Bool := (v.map valK).length == (asgK ys g).length && (v.map valK).all fun p => (getK (asgK ys g) p.1).isSome && eK g v p.1
theorem eqVA_run {m : Mu} {ys : List Str} {g : Str → Int} {v : Vals} (nd : (v.map (·.1)).Nodup) : EqD m 1 (valD v) (.dic (asgK ys g)) (eqVA v ys g) := by
  show EqD m (0 + 1) (.dic _) (.dic _) (_ && _)
  refine EqD.dic (e := eK g v) .im .im fun k a b hk hb => ?_
  obtain ⟨⟨n, w⟩, hn, e⟩ := List.mem_map.mp hk
  cases e
  rw [getK_ys (getK_in hb)] at hb
  cases hb
  have z := eqF_int.run m w (g n)
  rw [← val_mem nd hn] at z ⊢
  exact z
theorem eqVA_true {ys : List Str} {g : Str → Int} {v : Vals} (h : (v.map (·.1)).Perm ys) (hv : ∀ n ∈ ys, val v n = g n) : eqVA v ys g = true := by
  unfold eqVA
  have l := h.length_eq
  simp only [List.length_map] at l
  have l2 : (asgK ys g).length = ys.length := by simp [asgK]
  rw [List.length_map, l, l2, beq_self_eq_true, Bool.true_and, List.all_map, List.all_eq_true]
  intro p hp
  have hn : p.1 ∈ ys := h.mem_iff.mp (List.mem_map.mpr ⟨p, hp, rfl⟩)
  show ((getK (asgK ys g) (.inr p.1)).isSome && decide (val v p.1 = g p.1)) = true
  rw [getK_ys hn, hv _ hn]
  simp
def aLaw : ASp := fun ds m Q => ∃ (l : List Int) (sd : D), ds = [sd] ∧ IsLK m sd (l.map D.int) ∧ ∀ m', Q (.bl true) m'
abbrev nLaw : List Str := ["script", "pen", "turn", "rows", "made", "every", "good", "order", "fitting", "found", "one", "two", "due", "row", "known"]
theorem scLaw : FnScope nLaw ["script"] (defScope (top 31)) := ⟨rfl, rfl, rfl, by decide +kernel, rfl, by decide +kernel, by decide +kernel⟩
/-- the calls that law makes -/
structure Lc (P : Program) (w : World) (K : PySem.W.Frag) (mg : Str → Option Value) (base : Heap) (CI CP : Addr) : Prop where
  pen : Cal P w K mg base 1 "_law_pen" aPen
  small : Cal P w K mg base 3 "_law_small" aSmall
  made : Cal P w K mg base 5 "_law_made" (aMade CP CI)
  all : Cal P w K mg base 1 "_law_all_values" aAll
  ord : Cal P w K mg base 1 "_law_orders" aOrd
  climbs : Cal P w K mg base 1 "_law_climbs" aClimbs
  asg : Cal P w K mg base 5 "assignment" (aAsg CP CI)
  may : Cal P w K mg base 4 "may_precede" (aMay CP CI)
theorem body_law {X : Cx} {k : Nat} {CP CI : Addr} (hx : XF X (fbOf nLaw (defScope (top 31))) k) (hk : 5 ≤ k) (hxe : X.xe = fun _ _ => False) (hs : X.env.scope = defScope (top 31)) (hf : Fc X.prog X.w X.K X.mg X.base CI CP) (hc : Lc X.prog X.w X.K X.mg X.base CI CP) (ds : List D) (m : Mu) (Q : QD) (h : aLaw ds m Q) :
    ASs X (defBody (top 31)) (startR nLaw ds) m { nx := fun _ m' => Q .non m', rt := Q } := by
  obtain ⟨l, sd, rfl, hsd, q⟩ := h
  show ASs X (defBody (top 31)) [some sd, none, none, none, none, none, none, none, none, none, none, none, none, none, none] m _
  walk_at "es"
  refine AE.callC hc.pen hx (by omega) (by decide +kernel) ?_
  walk_at "es"
  refine ⟨l, sd, rfl, hsd, fun a na => ?_⟩
  walk_at "es"
  refine AS.forT (fun i : Nat => D.int (0 + (i : Int))) hxe hx (AI.range1 hx (by decide +kernel) (hf.free _ (by decide +kernel)) ?_)
  walk_at "e"
  refine ⟨4, rfl, by decide, by decide, List.range 4, fun pre ρ' m' => (∃ o2 o3 o4 o5 o6 o7 o8 o9 o10 o11 o12 o13 o14, ρ' = [some sd, some (.ref a), o2, o3, o4, o5, o6, o7, o8, o9, o10, o11, o12, o13, o14]) ∧ ∃ i n, 0 ≤ i ∧ i ≤ 9 * (pre.length : Int) ∧ 0 ≤ n ∧ m' a = some (penO (l.take 60) i n), rfl, ⟨⟨_, _, _, _, _, _, _, _, _, _, _, _, _, rfl⟩, 0, 0, by decide, by simp, by decide, updM_same⟩, fun _ _ _ _ => trivial, ?_, ?_⟩
  · rintro pre t post ρ' m0 e ⟨⟨o2, o3, o4, o5, o6, o7, o8, o9, o10, o11, o12, o13, o14, rfl⟩, i, n, i1, i2, i3, hm⟩
    have pl : (pre.length : Int) < 4 := by have := congrArg List.length e; simp at this; omega
    walk_at "es"
    refine AE.callC hc.small hx (by omega) (by decide +kernel) ?_
    walk_at "es"
    refine ⟨a, l.take 60, i, n, rfl, hm, i1, by omega, by simp; omega, i3, fun rows i' n' hg j1 j2 j3 => ?_⟩
    obtain ⟨g1, g2, g3⟩ := id hg
    have nd := g2
    have hma : (updM m0 a (penO (l.take 60) i' n')) a = some (penO (l.take 60) i' n') := updM_same
    generalize updM m0 a (penO (l.take 60) i' n') = m1 at hma ⊢
    refine ⟨_, by walk_at "sr", ?_⟩
    walk_at "e"
    refine AS.par (i := 4) (j := 5) hx (.s (.s (.s (.s .z)))) (.s (.s (.s (.s (.s .z))))) (by decide) (by rw [hs]; decide +kernel) (by rw [hs]; decide +kernel) (by simp only [swappedStores, Env.blockKind, Env.kindOf, hs]; rfl) ?_
    walk_at "e"
    refine AE.callC hc.made hx (by omega) (by decide +kernel) ?_
    walk_at "es"
    refine ⟨rows, rfl, hg, fun qs p => ?_⟩
    walk_at "e"
    refine AE.callC hc.all hx (by omega) (by decide +kernel) ?_
    walk_at "es"
    refine ⟨rows, rfl, hg, ?_⟩
    walk_at "e"
    refine ⟨_, _, _, _, rfl, by walk_at "sr", by walk_at "sr", ?_⟩
    walk_at "e"; walk_at "e"
    refine AE.lstM ?_
    walk_at "e"
    refine ⟨Nat.zero_le _, fun b nb => ?_⟩
    have ne : a ≠ b := neM hma nb
    walk_at "es"
    have rl : rows.length < sizeLine := Nat.lt_of_le_of_lt g1 (by decide)
    refine AS.forT ordD hxe hx (AI.list ?_)
    refine AE.callC hc.ord hx (by omega) (by decide +kernel) ?_
    walk_at "e"
    refine AE.lcP rowD hx hs (.s (.s (.s (.s (.s (.s (.s (.s (.s (.s (.s (.s (.s .z))))))))))))) (by decide +kernel) ?_
    refine AI.list ?_
    walk_at "e"
    refine ⟨_, .im, rows, fun r => some (.str r.1), rfl, rl, fun _ _ => .im, ?_, ?_⟩
    · intro r hr m' hm'
      refine ⟨_, by walk_at "sr", rfl, fun _ => ?_, fun e => nomatch e⟩
      refine ABE.of hx hs fun s0 H0 C0 cl0 fp0 hb hbs => ?_
      refine AE.ix ixa_tup ?_
      walk_at "es"
      exact ⟨_, _, _, rfl, rfl, rfl, rfl, rfl⟩
    walk_at "e"
    refine ⟨rows.map (·.1), by simp, by simpa using g1, ?_⟩
    have op : ∀ o ∈ ordL (rows.map (·.1)), o.Perm (rows.map (·.1)) := fun o ho => ordL_out rfl o ho
    have ovl : (ordL (rows.map (·.1))).length < sizeLine := Nat.lt_of_le_of_lt (ordL_len rfl (by simpa using g1)) (Nat.lt_of_le_of_lt (show 5 ^ (rows.map (·.1)).length ≤ 5 ^ 4 from Nat.pow_le_pow_right (by decide) (by simpa using g1)) (by decide))
    have fll : (allV rows).length < sizeLine := Nat.lt_of_le_of_lt (allV_len rfl g3) (Nat.lt_of_le_of_lt (show 4 ^ rows.length ≤ 4 ^ 4 from Nat.pow_le_pow_right (by decide) g1) (by decide))
    have qn : (qs.map itOf).map (·.1) = qs.map (·.1) := by rw [List.map_map]; rfl
    have ql : (qs.map itOf).length < 64 := by rw [List.length_map, p.length_eq]; omega
    refine ⟨_, .im, ordL (rows.map (·.1)), fun pre ρ' m' => (∃ o7 o8 o9 o10 o11 o12 o13 o14, ρ' = [some sd, some (.ref a), some (.int (0 + (t : Int))), some (.lst (rows.map rowD)), some (poolR CP CI (qs.map itOf)), some (.lst ((allV rows).map valD)), some (.ref b), o7, o8, o9, o10, o11, o12, o13, o14]) ∧ m' = updM m1 b (.lst ((pre.filter fun o => (res rows o).isSome).map ordD)), rfl, ⟨⟨_, _, _, _, _, _, _, _, rfl⟩, rfl⟩, fun _ _ _ _ => .im, ?_, ?_⟩
    · rintro pre o post ρ' m' e ⟨⟨o7, o8, o9, o10, o11, o12, o13, o14, rfl⟩, rfl⟩
      have ho : o ∈ ordL (rows.map (·.1)) := by rw [e]; simp
      have po := op o ho
      have ol : o.length ≤ 4 := by rw [po.length_eq]; simpa using g1
      have ols : o.length < sizeLine := Nat.lt_of_le_of_lt ol (by decide)
      have hin := its_names nd po
      walk_at "e"
      refine ⟨_, by walk_at "sr", ?_⟩
      walk_at "e"
      refine AS.setLcP valD hx hs (by with_reducible (walk_at "nth")) (by decide +kernel) (by with_reducible (walk_at "nth")) (by decide +kernel) (by simp only [swapsWith, Env.blockKind, Env.kindOf, hs]; rfl) ?_
      refine AI.list ?_
      walk_at "e"
      refine ⟨_, .im, allV rows, fun v => if decide ((o.map (val v)).Pairwise (· ≤ ·)) then some (valD v) else none, rfl, fll, fun _ _ => .im, ?_, ?_⟩
      · intro v hv m' hm'
        refine ⟨_, by walk_at "sr", ?_⟩
        refine ABT.of hx hs fun s0 H0 C0 cl0 fp0 hb hbs => ?_
        refine AT.val ?_
        refine AE.callC hc.climbs hb (by omega) (by decide +kernel) ?_
        walk_at "es"
        refine ⟨o, v, rfl, fun n hn => by rw [allV_names rfl v hv]; exact po.mem_iff.mp hn, ol, ?_⟩
        refine ⟨_, rfl, rfl, fun hc => ?_, fun hc => by simp [hc]⟩
        refine ABE.of hx hs fun s0 H0 C0 cl0 fp0 hb hbs => ?_
        walk_at "e"
        exact ⟨rfl, by simp [hc]⟩
      have efit : ((allV rows).filterMap fun v => if decide ((o.map (val v)).Pairwise (· ≤ ·)) then some (valD v) else none) = (fit rows o).map valD := by
        unfold fit
        generalize allV rows = L
        induction L with
        | nil => rfl
        | cons v L ih =>
          rw [List.filterMap_cons, List.filter_cons]
          by_cases h : decide ((o.map (val v)).Pairwise (· ≤ ·)) = true
          · simp only [h, if_true, List.map_cons, ih]
          · simp only [h, Bool.false_eq_true, if_false, ih]
      rw [efit]
      refine ⟨_, by walk_at "sr", ?_⟩
      walk_at "es"
      refine AE.callC hc.asg hx (by omega) (by decide +kernel) ?_
      walk_at "es"
      have stepF : (pre ++ [o]).filter (fun o => (res rows o).isSome) = pre.filter (fun o => (res rows o).isSome) ++ (if (res rows o).isSome then [o] else []) := by
        rw [List.filter_append, List.filter_cons]; rfl
      refine ⟨qs.map itOf, itsOf rows o, by rw [hin]; rfl, by rw [hin, qn]; exact po.trans (p.map _).symm, by rw [qn]; exact (p.map _).symm.nodup nd, ql, ?_, ?_, fun hn => ?_, fun st hst ys py => ?_⟩
      · intro i hi
        obtain ⟨r, hr, rfl⟩ := its_mem nd po hi
        exact (g3 r hr).2.1
      · intro i hi
        obtain ⟨r, hr, rfl⟩ := its_mem nd po hi
        exact has_of nd p hr
      · have hres : res rows o = none := climb_res.1.mp hn
        have hfit : fit rows o = [] := (law_none nd po).mp hres
        rw [hfit]
        refine ⟨_, by walk_at "sr", ?_⟩
        walk_at "e"; walk_at "e"
        refine AT.neS ?_
        walk_at "es"
        refine AE.eqG hx ?_
        walk_at "e"
        refine AE.lst ?_
        walk_at "e"
        refine ⟨Nat.zero_le _, ?_⟩
        refine ⟨1, true, by decide, EqD.lst (e := fun _ => true) .im .im rfl (fun i a b h => by simp at h), rfl, ?_⟩
        refine ⟨_, _, rfl, rfl, rfl, ?_⟩
        refine ⟨fun e => absurd e (by decide), fun _ => ?_⟩
        walk_at "es"
        refine ⟨fun e => absurd e (by decide), fun _ => ?_⟩
        iterate 2 walk_at "e"
        refine ⟨⟨_, _, _, _, _, _, _, _, rfl⟩, ?_⟩
        rw [stepF, hres]; simp
      · have hres : res rows o = some st.2 := climb_res.2 st hst
        obtain ⟨v0, hv0, ev0⟩ := law_in nd po hres
        have pyr : ys.Perm (rows.map (·.1)) := by rw [qn] at py; exact py.trans (p.map _)
        have fne : (fit rows o).length ≠ 0 := fun z => by rw [List.length_eq_zero_iff.mp z] at hv0; simp at hv0
        have fl : (fit rows o).length < sizeLine := Nat.lt_of_le_of_lt (List.length_filter_le _ _) fll
        have fmem : ∀ v ∈ fit rows o, v.map (·.1) = rows.map (·.1) := fun v hv => (fit_mem nd hv).1
        refine ⟨_, by walk_at "sr", ?_⟩
        walk_at "e"; walk_at "e"
        refine AT.neS ?_
        walk_at "es"
        refine AE.eqG hx ?_
        walk_at "e"
        refine AE.lst ?_
        walk_at "e"
        refine ⟨Nat.zero_le _, ?_⟩
        refine ⟨1, false, by decide, EqD.lstN .im .im (by simpa using fne), rfl, ?_⟩
        refine ⟨_, _, rfl, rfl, rfl, ?_⟩
        refine ⟨fun e => absurd e (by simp [dNon]), fun _ => ?_⟩
        walk_at "es"
        refine ⟨fun _ => ?_, fun e => absurd e (by simp [dNon])⟩
        walk_at "e"; walk_at "e"
        refine AE.bm F.plainAttrs_list F.slot_list_append F.type_list_append ma_append ?_
        walk_at "e"
        refine ⟨.list (.mu updM_same), ?_⟩
        walk_at "es"
        have gl : ((pre.filter fun o => (res rows o).isSome).map ordD).length < sizeLine := by
          rw [List.length_map]
          refine Nat.lt_of_le_of_lt (List.length_filter_le _ _) (Nat.lt_of_le_of_lt ?_ ovl)
          rw [e]; simp
        refine ⟨b, _, _, rfl, rfl, updM_same, gl, ?_⟩
        rw [updM_updM]
        walk_at "e"; walk_at "e"
        refine AT.notinG hx ?_
        walk_at "es"
        refine ⟨1, _, fun i => eqVA ((fit rows o)[i]?.getD []) ys (val st.2), by decide, .im, fun i d hd => ?_, ?_⟩
        · rw [List.getElem?_map] at hd
          cases hi : (fit rows o)[i]? with
          | none => rw [hi] at hd; cases hd
          | some v =>
            rw [hi] at hd; cases hd
            show EqD _ 1 _ _ (eqVA ((fit rows o)[i]?.getD []) ys (val st.2))
            rw [hi]
            exact eqVA_run (ys := ys) (g := val st.2) (by rw [fmem v (List.mem_of_getElem? hi)]; exact nd)
        have hany : ((List.range ((fit rows o).map valD).length).any fun i => eqVA ((fit rows o)[i]?.getD []) ys (val st.2)) = true := by
          rw [List.any_eq_true]
          obtain ⟨i, hi, ei⟩ := List.mem_iff_getElem.mp hv0
          refine ⟨i, by simpa using hi, ?_⟩
          rw [List.getElem?_eq_getElem hi, ei]
          show eqVA v0 ys (val st.2) = true
          refine eqVA_true ?_ fun n hn => ev0 n ?_
          · rw [fmem v0 hv0]; exact pyr.symm
          · exact po.mem_iff.mpr (pyr.mem_iff.mp hn)
        rw [hany]
        refine ⟨fun e => absurd e (by simp [dNon]), fun _ => ?_⟩
        walk_at "es"
        refine AT.val ?_
        refine AE.callB (ca_any hx.calm) hx (by decide +kernel) (hf.free _ (by decide +kernel)) rfl ?_
        walk_at "e"
        refine AE.lcP valD hx hs (by with_reducible (walk_at "nth")) (by decide +kernel) ?_
        refine AI.list ?_
        walk_at "e"
        refine ⟨_, .im, fit rows o, fun _ => some (.bl false), rfl, fl, fun _ _ => .im, ?_, ?_⟩
        · intro v hv m' hm'
          refine ⟨_, by walk_at "sr", rfl, fun _ => ?_, fun e => nomatch e⟩
          refine ABE.of hx hs fun s0 H0 C0 cl0 fp0 hb hbs => ?_
          refine AE.callB (ca_any hb.calm) hb (by decide +kernel) (hf.free _ (by decide +kernel)) rfl ?_
          walk_at "e"
          refine AE.lcP D.str hb hbs (by with_reducible (walk_at "nth")) (by decide +kernel) ?_
          refine AI.list ?_
          walk_at "e"
          refine ⟨_, .im, o, fun _ => some (.bl false), rfl, ols, fun _ _ => .im, ?_, ?_⟩
          · intro n hn m2 hm2
            refine ⟨_, by walk_at "sr", rfl, fun _ => ?_, fun e => nomatch e⟩
            refine ABE.of hb hbs fun s1 H1 C1 cl1 fp1 hb1 hbs1 => ?_
            walk_at "e"
            refine AE.dget hb1 ?_
            walk_at "es"
            refine ⟨_, _, _, .im, rfl, val_get (by rw [fmem v hv]; exact po.mem_iff.mp hn), ?_⟩
            refine AE.dget hb1 ?_
            walk_at "es"
            have hny : n ∈ ys := pyr.mem_iff.mpr (po.mem_iff.mp hn)
            refine ⟨_, _, _, .im, rfl, getK_ys (g := val st.2) hny, _, _, rfl, rfl, rfl, ?_⟩
            show some (D.bl false) = some (D.bl (decide (val v n < val st.2 n)))
            rw [decide_eq_false (law_least nd po hres hv n hn)]
          · walk_at "e"
            refine ⟨_, o.map fun _ => false, rfl, ?_, rfl, ?_⟩
            · rw [show (o.map fun _ => false).map D.bl = o.filterMap fun _ => some (.bl false) by simp]
              exact .im
            · rw [show (o.map fun _ => false).any id = false by simp]
        · walk_at "e"
          refine ⟨_, (fit rows o).map fun _ => false, rfl, ?_, ?_⟩
          · rw [show ((fit rows o).map fun _ => false).map D.bl = (fit rows o).filterMap fun _ => some (.bl false) by simp]
            exact .im
          · refine ⟨false, by simp, fun e => absurd e (by simp [dNon]), fun _ => ?_⟩
            iterate 3 walk_at "e"
            refine ⟨⟨_, _, _, _, _, _, _, _, rfl⟩, ?_⟩
            rw [stepF, hres]; simp
    · rintro ρ' m' ⟨⟨o7, o8, o9, o10, o11, o12, o13, o14, rfl⟩, rfl⟩
      have egood : ((ordL (rows.map (·.1))).filter fun o => (res rows o).isSome) = good rows := rfl
      rw [egood]
      have gll : (good rows).length < sizeLine := Nat.lt_of_le_of_lt (List.length_filter_le _ _) ovl
      have gperm : ∀ o ∈ good rows, o.Perm (rows.map (·.1)) := fun o ho => op o (List.mem_filter.mp ho).1
      walk_at "e"
      refine AS.forT (fun r : Row => D.str r.1) hxe hx (AI.list ?_)
      refine AE.lcP rowD hx hs (by with_reducible (walk_at "nth")) (by decide +kernel) ?_
      refine AI.list ?_
      walk_at "e"
      refine ⟨_, .im, rows, fun r => some (.str r.1), rfl, rl, fun _ _ => .im, ?_, ?_⟩
      · intro r hr m' hm'
        refine ⟨_, by walk_at "sr", rfl, fun _ => ?_, fun e => nomatch e⟩
        refine ABE.of hx hs fun s0 H0 C0 cl0 fp0 hb hbs => ?_
        refine AE.ix ixa_tup ?_
        walk_at "es"
        exact ⟨_, _, _, rfl, rfl, rfl, rfl, rfl⟩
      refine ⟨_, .im, rows, fun _ ρ' m' => (∃ o7 o8 o9 o10 o11 o12 o13 o14, ρ' = [some sd, some (.ref a), some (.int (0 + (t : Int))), some (.lst (rows.map rowD)), some (poolR CP CI (qs.map itOf)), some (.lst ((allV rows).map valD)), some (.ref b), o7, o8, o9, o10, o11, o12, o13, o14]) ∧ m' = updM m1 b (.lst ((good rows).map ordD)), by simp, ⟨⟨_, _, _, _, _, _, _, _, rfl⟩, rfl⟩, fun _ _ _ _ => .im, ?_, ?_⟩
      · rintro pre1 r1 post1 ρ' m' e1 ⟨⟨o7, o8, o9, o10, o11, o12, o13, o14, rfl⟩, rfl⟩
        have h1 : r1 ∈ rows := by rw [e1]; simp
        walk_at "e"
        refine ⟨_, by walk_at "sr", ?_⟩
        walk_at "e"
        refine AS.forT (fun r : Row => D.str r.1) hxe hx (AI.list ?_)
        refine AE.lcP rowD hx hs (by with_reducible (walk_at "nth")) (by decide +kernel) ?_
        refine AI.list ?_
        walk_at "e"
        refine ⟨_, .im, rows, fun r => some (.str r.1), rfl, rl, fun _ _ => .im, ?_, ?_⟩
        · intro r hr m' hm'
          refine ⟨_, by walk_at "sr", rfl, fun _ => ?_, fun e => nomatch e⟩
          refine ABE.of hx hs fun s0 H0 C0 cl0 fp0 hb hbs => ?_
          refine AE.ix ixa_tup ?_
          walk_at "es"
          exact ⟨_, _, _, rfl, rfl, rfl, rfl, rfl⟩
        refine ⟨_, .im, rows, fun _ ρ' m' => (∃ o7 o8 o9 o11 o12 o13 o14, ρ' = [some sd, some (.ref a), some (.int (0 + (t : Int))), some (.lst (rows.map rowD)), some (poolR CP CI (qs.map itOf)), some (.lst ((allV rows).map valD)), some (.ref b), o7, o8, o9, some (.str r1.1), o11, o12, o13, o14]) ∧ m' = updM m1 b (.lst ((good rows).map ordD)), by simp, ⟨⟨_, _, _, _, _, _, _, rfl⟩, rfl⟩, fun _ _ _ _ => .im, ?_, ?_⟩
        · rintro pre2 r2 post2 ρ' m' e2 ⟨⟨o7, o8, o9, o11, o12, o13, o14, rfl⟩, rfl⟩
          have h2 : r2 ∈ rows := by rw [e2]; simp
          walk_at "e"
          refine ⟨_, by walk_at "sr", ?_⟩
          refine ASs.cut (fun ρ' m' => (∃ o7 o8 o9 o13 o14, ρ' = [some sd, some (.ref a), some (.int (0 + (t : Int))), some (.lst (rows.map rowD)), some (poolR CP CI (qs.map itOf)), some (.lst ((allV rows).map valD)), some (.ref b), o7, o8, o9, some (.str r1.1), some (.str r2.1), some (.bl (decide (r1.1 ≠ r2.1) && !decide (r2.2.2.1 < r1.2.1))), o13, o14]) ∧ m' = updM m1 b (.lst ((good rows).map ordD))) ?_ ?_
          · walk_at "e"
            refine AE.and ?_
            refine AE.neS ?_
            walk_at "es"
            refine ⟨rfl, _, rfl, fun hc => ?_, fun hc => ?_⟩
            · have hne : r1.1 ≠ r2.1 := by intro z; simp [z] at hc
              refine AE.one ?_
              refine AE.callB (ca_any hx.calm) hx (by decide +kernel) (hf.free _ (by decide +kernel)) rfl ?_
              walk_at "e"
              refine AE.lcP ordD hx hs (by with_reducible (walk_at "nth")) (by decide +kernel) ?_
              refine AI.list ?_
              walk_at "e"
              refine ⟨_, .mu updM_same, good rows, fun o => some (.bl (decide (o.idxOf r1.1 < o.idxOf r2.1))), rfl, gll, fun m' hm' => .mu (hm' _ _ updM_same), ?_, ?_⟩
              · intro o ho m' hm'
                have po := gperm o ho
                have m1' : r1.1 ∈ o := po.mem_iff.mpr (List.mem_map.mpr ⟨r1, h1, rfl⟩)
                have m2' : r2.1 ∈ o := po.mem_iff.mpr (List.mem_map.mpr ⟨r2, h2, rfl⟩)
                refine ⟨_, by walk_at "sr", rfl, fun _ => ?_, fun e => nomatch e⟩
                refine ABE.of hx hs fun s0 H0 C0 cl0 fp0 hb hbs => ?_
                walk_at "e"
                refine AE.bm F.plainAttrs_list F.slot_list_index F.type_list_index ma_indexS ?_
                walk_at "e"
                refine ⟨.list .im, ?_⟩
                walk_at "es"
                refine ⟨o, r1.1, o.idxOf r1.1, .im, .im, rfl, (idx_at m1').1, (idx_at m1').2, ?_⟩
                refine AE.bm F.plainAttrs_list F.slot_list_index F.type_list_index ma_indexS ?_
                walk_at "e"
                refine ⟨.list .im, ?_⟩
                walk_at "es"
                refine ⟨o, r2.1, o.idxOf r2.1, .im, .im, rfl, (idx_at m2').1, (idx_at m2').2, ?_⟩
                refine ⟨_, _, rfl, rfl, rfl, ?_⟩
                simp
              · walk_at "e"
                refine ⟨_, (good rows).map fun o => decide (o.idxOf r1.1 < o.idxOf r2.1), rfl, ?_, ?_⟩
                · rw [show ((good rows).map fun o => decide (o.idxOf r1.1 < o.idxOf r2.1)).map D.bl = (good rows).filterMap fun o => some (.bl (decide (o.idxOf r1.1 < o.idxOf r2.1))) by simp]
                  exact .im
                · rw [show ((good rows).map fun o => decide (o.idxOf r1.1 < o.idxOf r2.1)).any id = (good rows).any fun o => decide (o.idxOf r1.1 < o.idxOf r2.1) by simp [List.any_map, Function.comp_def]]
                  rw [law_may nd (fun r hr => (g3 r hr).2.2.1) h1 h2 hne]
                  refine ⟨_, by walk_at "sr", ?_⟩
                  rw [decide_eq_true hne, Bool.true_and]
                  exact ⟨⟨_, _, _, _, _, rfl⟩, rfl⟩
            · have hne : ¬ r1.1 ≠ r2.1 := by intro z; simp [z] at hc
              refine ⟨_, by walk_at "sr", ?_⟩
              rw [decide_eq_false hne, Bool.false_and]
              exact ⟨⟨_, _, _, _, _, rfl⟩, rfl⟩
          · rintro ρ' m' ⟨⟨o7, o8, o9, o13, o14, rfl⟩, rfl⟩
            walk_at "e"; walk_at "e"
            refine AT.neS ?_
            refine AE.callC hc.may hx (by omega) (by decide +kernel) ?_
            walk_at "es"
            refine ⟨qs.map itOf, itOf r1, itOf r2, rfl, has_of nd p h1, has_of nd p h2, ?_⟩
            walk_at "e"
            refine ⟨_, _, rfl, rfl, rfl, ?_⟩
            refine ⟨fun e => absurd e (by show ¬ ((!decide (V.bl (decide (r1.1 ≠ r2.1) && !decide (r2.2.2.1 < r1.2.1)) = V.bl (decide (r1.1 ≠ r2.1) && !decide (r2.2.2.1 < r1.2.1)))) = true); simp), fun _ => ?_⟩
            iterate 2 walk_at "e"
            exact ⟨⟨_, _, _, _, _, _, _, rfl⟩, rfl⟩
        · rintro ρ' m' ⟨⟨o7, o8, o9, o11, o12, o13, o14, rfl⟩, rfl⟩
          walk_at "e"
          exact ⟨⟨_, _, _, _, _, _, _, _, rfl⟩, rfl⟩
      · rintro ρ' m' ⟨⟨o7, o8, o9, o10, o11, o12, o13, o14, rfl⟩, rfl⟩
        walk_at "e"
        refine ⟨⟨_, _, _, _, _, _, _, _, _, _, _, _, _, rfl⟩, i', n', by omega, by simp; omega, j3, by rw [updM_ne ne]; exact hma⟩
  · rintro ρ' m' ⟨⟨o2, o3, o4, o5, o6, o7, o8, o9, o10, o11, o12, o13, o14, rfl⟩, _⟩
    walk_at "es"
    exact q _
end K76
namespace K76
open PySem PySem.Spec PyProof.Rows L2 Ab He
def fn : List DefL := [
  ⟨.glo "law", "law", "law", top 31, []⟩, ⟨.glo "is_integer", "is_integer", "is_integer", top 16, []⟩, ⟨.glo "check_order", "check_order", "check_order", top 10, []⟩,
  ⟨.glo "assignment", "assignment", "assignment", top 11, []⟩, ⟨.glo "may_precede", "may_precede", "may_precede", top 12, []⟩, ⟨.glo "_law_pen", "_law_pen", "_law_pen", top 23, []⟩,
  ⟨.glo "_law_next", "_law_next", "_law_next", top 24, []⟩, ⟨.glo "_law_draw", "_law_draw", "_law_draw", top 25, []⟩, ⟨.glo "_law_made", "_law_made", "_law_made", top 26, []⟩,
  ⟨.glo "_law_all_values", "_law_all_values", "_law_all_values", top 27, []⟩, ⟨.glo "_law_small", "_law_small", "_law_small", top 28, []⟩, ⟨.glo "_law_orders", "_law_orders", "_law_orders", top 29, []⟩,
  ⟨.glo "_law_climbs", "_law_climbs", "_law_climbs", top 30, []⟩, ⟨.meth "Item" "__init__", "__init__", "Item.__init__", mth 17 1, [("price", .int 1)]⟩, ⟨.stat "Item" "is_name", "is_name", "Item.is_name", mth 17 2, []⟩,
  ⟨.prop "Item" "name", "name", "Item.name", mth 17 4, []⟩, ⟨.prop "Item" "least", "least", "Item.least", mth 17 5, []⟩, ⟨.prop "Item" "greatest", "greatest", "Item.greatest", mth 17 6, []⟩,
  ⟨.meth "Item" "is_surely_before", "is_surely_before", "Item.is_surely_before", mth 17 11, []⟩, ⟨.meth "Pool" "__init__", "__init__", "Pool.__init__", mth 21 0, []⟩, ⟨.clsm "Pool" "read", "read", "Pool.read", mth 21 1, []⟩,
  ⟨.prop "Pool" "names", "names", "Pool.names", mth 21 2, []⟩, ⟨.meth "Pool" "item", "item", "Pool.item", mth 21 4, []⟩, ⟨.meth "Pool" "with_items", "with_items", "Pool.with_items", mth 21 7, []⟩]
def globs : List Str := ["law", "is_integer", "check_order", "assignment", "may_precede", "_law_pen", "_law_next", "_law_draw", "_law_made", "_law_all_values", "_law_small", "_law_orders", "_law_climbs", "Item", "Pool"]
def more : List Fa := [.int "MAX_NAME" 8, .str "LETTERS" LETS, .cls "Item", .cls "Pool", .noat "Item" "parts", .noat "Pool" "by_name", .meth "Item" "is_surely_before", .meth "Pool" "item", .meth "Pool" "with_items", .mkr "Item", .mkr "Pool"]
def fa : List Fa := globs.map Fa.glo ++ frees.map Fa.free ++ more
def fx : List Fx := [.prop "Item" "name", .prop "Item" "least", .prop "Item" "greatest", .prop "Pool" "names", .cread "Item", .cread "Pool", .stat "Item" "is_name", .clsm "Pool" "read", .cint "Item" "MOST" 999, .insty "Item", .kit "Item"]
abbrev RWW : PySem.W.OpenLaw := PySem.Challenge.rw_askranges_k76_whole_orders_and_all_value
abbrev R : PySem.W.OpenRow := PySem.W.OpenLaw.row RWW
abbrev hk : PySem.W.Hook := hookL 7 fa fx fn
def ob (s : PySem.W.SharedT) : Bool × List FnW := obsLG 7 fa fx fn (HandSHeadRun.getT s)
theorem ob_eq (s : PySem.W.SharedT) : ob s = hk.obs s.abs := obsLG_eq (HandSHeadRun.getT_eq s)
def loose : List Str := ["_wall", "AskError", "DuplicateName", "ParseError", "InvalidItem", "InvalidPool", "UnknownName", "InvalidOrder", "check_order", "assignment", "may_precede", "LETTERS", "MAX_NAME", "is_integer", "Item", "read_number", "read_item", "Pool", "_law_pen", "_law_next", "_law_draw", "_law_made", "_law_all_values", "_law_small", "_law_orders", "_law_climbs"]
theorem run (w : World) : HandSHeadRun.RunEq R (PySem.W.view R.prog [31]) hk ob 60000 loose w := by
  intro os
  kernel_rfl
end K76
namespace K76
open PySem PySem.Spec PyProof.Rows L2 Ab He
open He5 (wf)
section
variable {P : Program} {w : World} {K : PySem.W.Frag} {mg : Str → Option Value} {base : Heap} {f CI CP : Addr} {fd : FuncData}
abbrev FnP (K : PySem.W.Frag) (x q : Str) (st : Stmt) (f : Addr) (fd : FuncData) : Prop := FunD K x q (defArgs st) (defBody st) (defScope st) [] [] f fd
theorem d_isint (F : FnP K "is_integer" "is_integer" (top 16) f fd) (hf : Fc P w K mg base CI CP) : AFd P w K mg base 1 f fd nIsInt aIsInt :=
  afd_of F scIsInt (fun ds m Q h => by obtain ⟨i, rfl, _⟩ := h; rfl) fun X hX hx hxe hs ds m Q h => by
    obtain ⟨rfl, rfl, rfl, rfl, rfl⟩ := hX
    exact body_isint hx hf.free ds m Q h
theorem d_isname (F : FnP K "is_name" "Item.is_name" (mth 17 2) f fd) (hf : Fc P w K mg base CI CP) : AFd P w K mg base 1 f fd ["thing"] aIsName :=
  afd_of F scIsName (fun ds m Q h => by obtain ⟨i, rfl, _⟩ := h; rfl) fun X hX hx hxe hs ds m Q h => by
    obtain ⟨rfl, rfl, rfl, rfl, rfl⟩ := hX
    exact body_isname hx hs hf.free hf.mx hf.le ds m Q h
theorem d_name (F : FnP K "name" "Item.name" (mth 17 4) f fd) (hf : Fc P w K mg base CI CP) : AFd P w K mg base 1 f fd nSelf (aName CI) :=
  afd_of F scI4 (fun ds m Q h => by obtain ⟨_, _, _, _, rfl, _⟩ := h; rfl) fun X hX hx hxe hs ds m Q h => by
    obtain ⟨rfl, rfl, rfl, rfl, rfl⟩ := hX
    exact body_name hx hf ds m Q h
theorem d_least (F : FnP K "least" "Item.least" (mth 17 5) f fd) (hf : Fc P w K mg base CI CP) : AFd P w K mg base 1 f fd nSelf (aLeast CI) :=
  afd_of F scI5 (fun ds m Q h => by obtain ⟨_, _, _, _, rfl, _⟩ := h; rfl) fun X hX hx hxe hs ds m Q h => by
    obtain ⟨rfl, rfl, rfl, rfl, rfl⟩ := hX
    exact body_least hx hf ds m Q h
theorem d_greatest (F : FnP K "greatest" "Item.greatest" (mth 17 6) f fd) (hf : Fc P w K mg base CI CP) : AFd P w K mg base 1 f fd nSelf (aGreatest CI) :=
  afd_of F scI6 (fun ds m Q h => by obtain ⟨_, _, _, _, rfl, _⟩ := h; rfl) fun X hX hx hxe hs ds m Q h => by
    obtain ⟨rfl, rfl, rfl, rfl, rfl⟩ := hX
    exact body_greatest hx hf ds m Q h
theorem d_before (F : FnP K "is_surely_before" "Item.is_surely_before" (mth 17 11) f fd) (hf : Fc P w K mg base CI CP) (c1 : Prp P w K mg base 1 CI "greatest" (aGreatest CI)) (c2 : Prp P w K mg base 1 CI "least" (aLeast CI)) : AFd P w K mg base 3 f fd nBefore (aBefore CI) :=
  afd_of F scBefore (fun ds m Q h => by obtain ⟨_, _, _, _, _, _, _, _, rfl, _⟩ := h; rfl) fun X hX hx hxe hs ds m Q h => by
    obtain ⟨rfl, rfl, rfl, rfl, rfl⟩ := hX
    exact body_before hx (by decide) hf c1 c2 ds m Q h
theorem d_read (F : FnP K "read" "Pool.read" (mth 21 1) f fd) (hf : Fc P w K mg base CI CP) (c : Mkc P w K mg base 1 "Pool" CP (aInit0 CP)) : AFd P w K mg base 3 f fd ["cls", "text"] (aRead CP CI) :=
  afd_of F scRead (fun ds m Q h => by obtain ⟨rfl, _⟩ := h; rfl) fun X hX hx hxe hs ds m Q h => by
    obtain ⟨rfl, rfl, rfl, rfl, rfl⟩ := hX
    exact body_read hx (by decide) hxe hf c ds m Q h
theorem d_names (F : FnP K "names" "Pool.names" (mth 21 2) f fd) (hf : Fc P w K mg base CI CP) : AFd P w K mg base 1 f fd nSelf (aNames CP CI) :=
  afd_of F scNames (fun ds m Q h => by obtain ⟨_, rfl, _⟩ := h; rfl) fun X hX hx hxe hs ds m Q h => by
    obtain ⟨rfl, rfl, rfl, rfl, rfl⟩ := hX
    exact body_names hx hf ds m Q h
theorem d_itemof (F : FnP K "item" "Pool.item" (mth 21 4) f fd) (hf : Fc P w K mg base CI CP) : AFd P w K mg base 1 f fd nItemOf (aItemOf CP CI) :=
  afd_of F scItemOf (fun ds m Q h => by obtain ⟨_, _, _, rfl, _⟩ := h; rfl) fun X hX hx hxe hs ds m Q h => by
    obtain ⟨rfl, rfl, rfl, rfl, rfl⟩ := hX
    exact body_itemof hx hf ds m Q h
theorem d_may (F : FnP K "may_precede" "may_precede" (top 12) f fd) (hf : Fc P w K mg base CI CP) (ci : Mth P w K mg base 1 CP "item" (aItemOf CP CI)) (cb : Mth P w K mg base 3 CI "is_surely_before" (aBefore CI)) : AFd P w K mg base 4 f fd ["pool", "first", "second"] (aMay CP CI) :=
  afd_of F scMay (fun ds m Q h => by obtain ⟨_, _, _, rfl, _⟩ := h; rfl) fun X hX hx hxe hs ds m Q h => by
    obtain ⟨rfl, rfl, rfl, rfl, rfl⟩ := hX
    exact body_may hx (by decide) hs hf ci cb ds m Q h
theorem d_check (F : FnP K "check_order" "check_order" (top 10) f fd) (hf : Fc P w K mg base CI CP) (cn : Prp P w K mg base 1 CP "names" (aNames CP CI)) : AFd P w K mg base 4 f fd ["pool", "order"] (aCheck CP CI) :=
  afd_of F scCheck (fun ds m Q h => by obtain ⟨_, _, rfl, _⟩ := h; rfl) fun X hX hx hxe hs ds m Q h => by
    obtain ⟨rfl, rfl, rfl, rfl, rfl⟩ := hX
    exact body_check hx (by decide) hs hf cn ds m Q h
theorem d_asg (F : FnP K "assignment" "assignment" (top 11) f fd) (hf : Fc P w K mg base CI CP) (cc : Cal P w K mg base 4 "check_order" (aCheck CP CI)) (cn : Prp P w K mg base 1 CP "names" (aNames CP CI)) (ci : Mth P w K mg base 1 CP "item" (aItemOf CP CI)) (cg : Prp P w K mg base 1 CI "greatest" (aGreatest CI)) (cl : Prp P w K mg base 1 CI "least" (aLeast CI)) : AFd P w K mg base 5 f fd ["pool", "order"] (aAsg CP CI) :=
  afd_of F scAsg (fun ds m Q h => by obtain ⟨_, _, rfl, _⟩ := h; rfl) fun X hX hx hxe hs ds m Q h => by
    obtain ⟨rfl, rfl, rfl, rfl, rfl⟩ := hX
    exact body_asg hx (by decide) hxe hs hf cc cn ci cg cl ds m Q h
theorem d_pen (F : FnP K "_law_pen" "_law_pen" (top 23) f fd) (hf : ∀ x, frees.contains x = true → mg x = none) : AFd P w K mg base 1 f fd nPen aPen :=
  afd_of F scPen (fun ds m Q h => by obtain ⟨_, _, rfl, _⟩ := h; rfl) fun X hX hx hxe hs ds m Q h => by
    obtain ⟨rfl, rfl, rfl, rfl, rfl⟩ := hX
    exact body_pen hx hf ds m Q h
theorem d_next (F : FnP K "_law_next" "_law_next" (top 24) f fd) (hf : ∀ x, frees.contains x = true → mg x = none) : AFd P w K mg base 1 f fd ["pen"] aNext :=
  afd_of F scNext (fun ds m Q h => by obtain ⟨_, _, _, _, rfl, _⟩ := h; rfl) fun X hX hx hxe hs ds m Q h => by
    obtain ⟨rfl, rfl, rfl, rfl, rfl⟩ := hX
    exact body_next hx hf ds m Q h
theorem d_draw (F : FnP K "_law_draw" "_law_draw" (top 25) f fd) (c : Cal P w K mg base 1 "_law_next" aNext) : AFd P w K mg base 2 f fd ["pen", "below"] aDraw :=
  afd_of F scDraw (fun ds m Q h => by obtain ⟨_, _, _, _, _, rfl, _⟩ := h; rfl) fun X hX hx hxe hs ds m Q h => by
    obtain ⟨rfl, rfl, rfl, rfl, rfl⟩ := hX
    exact body_draw hx (by decide) c ds m Q h
theorem d_made (F : FnP K "_law_made" "_law_made" (top 26) f fd) (hf : Fc P w K mg base CI CP) (cr : Clm P w K mg base 3 CP "read" (aRead CP CI)) (cw : Mth P w K mg base 3 CP "with_items" (aWith0 CP CI)) (ck : Mkk P w K mg base 2 3 ["price"] "Item" CI (aItem1 CI)) : AFd P w K mg base 5 f fd ["rows"] (aMade CP CI) :=
  afd_of F scMade (fun ds m Q h => by obtain ⟨_, rfl, _⟩ := h; rfl) fun X hX hx hxe hs ds m Q h => by
    obtain ⟨rfl, rfl, rfl, rfl, rfl⟩ := hX
    exact body_made hx (by decide) hxe hf cr cw ck ds m Q h
theorem d_all (F : FnP K "_law_all_values" "_law_all_values" (top 27) f fd) (hf : ∀ x, frees.contains x = true → mg x = none) : AFd P w K mg base 1 f fd ["rows"] aAll :=
  afd_of F scAll (fun ds m Q h => by obtain ⟨_, rfl, _⟩ := h; rfl) fun X hX hx hxe hs ds m Q h => by
    obtain ⟨rfl, rfl, rfl, rfl, rfl⟩ := hX
    exact body_all hx hxe hf ds m Q h
theorem d_small (F : FnP K "_law_small" "_law_small" (top 28) f fd) (c : Cal P w K mg base 2 "_law_draw" aDraw) : AFd P w K mg base 3 f fd ["pen"] aSmall :=
  afd_of F scSmall (fun ds m Q h => by obtain ⟨_, _, _, _, rfl, _⟩ := h; rfl) fun X hX hx hxe hs ds m Q h => by
    obtain ⟨rfl, rfl, rfl, rfl, rfl⟩ := hX
    exact body_small hx (by decide) hxe hs c ds m Q h
theorem d_ord (F : FnP K "_law_orders" "_law_orders" (top 29) f fd) (hf : ∀ x, frees.contains x = true → mg x = none) : AFd P w K mg base 1 f fd ["some"] aOrd :=
  afd_of F scOrd (fun ds m Q h => by obtain ⟨_, rfl, _⟩ := h; rfl) fun X hX hx hxe hs ds m Q h => by
    obtain ⟨rfl, rfl, rfl, rfl, rfl⟩ := hX
    exact body_ord hx hxe hs hf ds m Q h
theorem d_climbs (F : FnP K "_law_climbs" "_law_climbs" (top 30) f fd) (hf : ∀ x, frees.contains x = true → mg x = none) : AFd P w K mg base 1 f fd ["order", "known"] aClimbs :=
  afd_of F scClimbs (fun ds m Q h => by obtain ⟨_, _, rfl, _⟩ := h; rfl) fun X hX hx hxe hs ds m Q h => by
    obtain ⟨rfl, rfl, rfl, rfl, rfl⟩ := hX
    exact body_climbs hx hs hf ds m Q h
theorem d_law (F : FnP K "law" "law" (top 31) f fd) (hf : Fc P w K mg base CI CP) (hc : Lc P w K mg base CI CP) : AFd P w K mg base 6 f fd ["script"] aLaw :=
  afd_of F scLaw (fun ds m Q h => by obtain ⟨_, _, rfl, _⟩ := h; rfl) fun X hX hx hxe hs ds m Q h => by
    obtain ⟨rfl, rfl, rfl, rfl, rfl⟩ := hX
    exact body_law hx (by decide) hxe hs hf hc ds m Q h
theorem d_item (F : FunD K "__init__" "Item.__init__" (defArgs (mth 17 1)) (defBody (mth 17 1)) (defScope (mth 17 1)) [] [("price", .int 1)] f fd) (hf : Fc P w K mg base CI CP) (cN : Stm P w K mg base 1 CI "is_name" aIsName) (cI : Cal P w K mg base 1 "is_integer" aIsInt) : AFd P w K mg base 2 f fd nItem (aItem1 CI) :=
  afd_of F scItem (fun ds m Q h => by obtain ⟨_, _, _, _, _, rfl, _⟩ := h; rfl) fun X hX hx hxe hs ds m Q h => by
    obtain ⟨rfl, rfl, rfl, rfl, rfl⟩ := hX
    exact body_item hx (by decide) hs hf cN cI ds m Q h
theorem star1 {x q pv : Str} {st : Stmt} {ks : List (Str × V)} (F : FunD K x q (defArgs st) (defBody st) (defScope st) [] ks f fd) (h0 : ∀ kV doc pm an cdv ct a, bindArgs (PySem.W.fnOf x q (defArgs st) (defBody st) (defScope st) .none kV doc pm an cdv ct) ⟨[a], []⟩ = (newTuple [] >>= fun t => pure [(("self" : Str), a), (pv, t)]))
    (h1 : ∀ kV doc pm an cdv ct a r rs, bindArgs (PySem.W.fnOf x q (defArgs st) (defBody st) (defScope st) .none kV doc pm an cdv ct) ⟨a :: r :: rs, []⟩ = (newTuple (r :: rs) >>= fun t => pure [(("self" : Str), a), (pv, t)])) :
    ∀ us rest : List Value, us.length = ["self"].length → bindArgs fd ⟨us ++ rest, []⟩ = (newTuple rest >>= fun t => pure ((["self"] : List Str).zip us ++ [(pv, t)])) := by
  obtain ⟨oc, od, dV, kV, doc, pm, an, cdv, ct, osl, rfl, lk, hcd, hD, hK⟩ := F.ex
  rcases hD with ⟨_, rfl⟩ | ⟨e, _⟩
  · exact StX.bind_star1 (B := fun us => bindArgs _ ⟨us, []⟩) (fun a => h0 _ _ _ _ _ _ a) fun a r rs => h1 _ _ _ _ _ _ a r rs
  · exact absurd rfl e
theorem d_init (F : FnP K "__init__" "Pool.__init__" (mth 21 0) f fd) (hf : Fc P w K mg base CI CP) : AFn P w K mg base 1 f (aInit0 CP) :=
  afn_star (ps := ["self"]) (pv := "items") F scInit (star1 F (fun _ _ _ _ _ _ _ => rfl) fun _ _ _ _ _ _ _ _ _ => rfl) fun X hX hx hxe hs ds m Q h => by
    obtain ⟨rfl, rfl, rfl, rfl, rfl⟩ := hX
    exact body_init hx hxe hf ds m Q h
theorem d_with (F : FnP K "with_items" "Pool.with_items" (mth 21 7) f fd) (hf : Fc P w K mg base CI CP) (c : Mkc P w K mg base 1 "Pool" CP (aInit0 CP)) (cn : Prp P w K mg base 1 CI "name" (aName CI)) : AFn P w K mg base 3 f (aWith0 CP CI) :=
  afn_star (ps := ["self"]) (pv := "items") F scWith (star1 F (fun _ _ _ _ _ _ _ => rfl) fun _ _ _ _ _ _ _ _ _ => rfl) fun X hX hx hxe hs ds m Q h => by
    obtain ⟨rfl, rfl, rfl, rfl, rfl⟩ := hX
    exact body_with hx (by decide) hxe hf c cn ds m Q h
end
/-! ### binding -/
section
variable {K : PySem.W.Frag} {x q : Str} {st : Stmt} {f : Addr} {fd : FuncData}
theorem b1 {p1 : Str} (F : FnP K x q st f fd) (h : ∀ kV doc pm an cdv ct a, bindArgs (PySem.W.fnOf x q (defArgs st) (defBody st) (defScope st) .none kV doc pm an cdv ct) ⟨[a], []⟩ = pure [(p1, a)]) : Binds K fd [p1] [] :=
  F.bindsN fun kV doc pm an cdv ct us hl => match us, hl with | [a], _ => h kV doc pm an cdv ct a
theorem b2 {p1 p2 : Str} (F : FnP K x q st f fd) (h : ∀ kV doc pm an cdv ct a b, bindArgs (PySem.W.fnOf x q (defArgs st) (defBody st) (defScope st) .none kV doc pm an cdv ct) ⟨[a, b], []⟩ = pure [(p1, a), (p2, b)]) : Binds K fd [p1, p2] [] :=
  F.bindsN fun kV doc pm an cdv ct us hl => match us, hl with | [a, b], _ => h kV doc pm an cdv ct a b
theorem b3 {p1 p2 p3 : Str} (F : FnP K x q st f fd) (h : ∀ kV doc pm an cdv ct a b c, bindArgs (PySem.W.fnOf x q (defArgs st) (defBody st) (defScope st) .none kV doc pm an cdv ct) ⟨[a, b, c], []⟩ = pure [(p1, a), (p2, b), (p3, c)]) : Binds K fd [p1, p2, p3] [] :=
  F.bindsN fun kV doc pm an cdv ct us hl => match us, hl with | [a, b, c], _ => h kV doc pm an cdv ct a b c
end
theorem mem_more (i : Nat) {f : Fa} (h : more[i]? = some f) : f ∈ fa := List.mem_append_right _ (List.mem_of_getElem? h)
theorem mem_fx (i : Nat) {f : Fx} (h : fx[i]? = some f) : f ∈ fx := List.mem_of_getElem? h
theorem facts {P : Program} {w : World} {K : PySem.W.Frag} {h : Heap} {mg : Str → Option Value} {f : Addr} (X : K.In h) (G : h.Ns mainGlobals mg) (hfa : mg ("law" : Str) = some (.ref f)) (c : SaysL fa fx fn K) :
    ∃ fd : FuncData, (∀ (s : Shared) (v : Value), BindsTo s fd ⟨[v], []⟩ [("script", v)]) ∧ ∀ base : Heap, AFd P w K mg base 6 f fd ["script"] aLaw := by
  have gl : ∀ x : Str, x ∈ globs → mg x = some (.ref (ga K x)) := fun x hx => He.glo_ok X G (c.fact (List.mem_append_left _ (List.mem_append_left _ (List.mem_map.mpr ⟨x, hx, rfl⟩))))
  have fr : ∀ x : Str, frees.contains x = true → mg x = none := fun x hx => He.free_ok X G (c.fact (List.mem_append_left _ (List.mem_append_right _ (List.mem_map.mpr ⟨x, by simpa using hx, rfl⟩))))
  have cI : Cls K (ga K "Item") := He.cls_ok (c.fact (mem_more 2 rfl))
  have cP : Cls K (ga K "Pool") := He.cls_ok (c.fact (mem_more 3 rfl))
  have rI := fx_cread (c.own (mem_fx 4 rfl))
  have rP := fx_cread (c.own (mem_fx 5 rfl))
  obtain ⟨fd0, F0⟩ := c.def_ 0
  have e0 := hfa.symm.trans (gl "law" (by decide +kernel))
  cases e0
  refine ⟨fd0, fun s v => FunD.bindsA (ps := ["script"]) F0 (fun _ _ _ _ _ _ us hl => match us, hl with | [_], _ => rfl) s [v] rfl, fun base => ?_⟩
  have hf : Fc P w K mg base (ga K "Item") (ga K "Pool") := {
    free := fr, gI := gl _ (by decide +kernel), gP := gl _ (by decide +kernel), mx := He.int_ok X G (c.fact (mem_more 0 rfl)), le := He.str_ok X G (c.fact (mem_more 1 rfl)), cI := cI, cP := cP
    tI := fx_insty (c.own (mem_fx 9 rfl)) cI, kI := fx_kit (c.own (mem_fx 10 rfl)), nI := He.noat_ok (c.fact (mem_more 4 rfl)), nP := He.noat_ok (c.fact (mem_more 5 rfl))
    most := by
      obtain ⟨u, h⟩ := fx_cint (c.own (mem_fx 8 rfl))
      exact ⟨_, u, rI, h⟩ }
  obtain ⟨fd1, F1⟩ := c.def_ 1
  obtain ⟨fd2, F2⟩ := c.def_ 2
  obtain ⟨fd3, F3⟩ := c.def_ 3
  obtain ⟨fd4, F4⟩ := c.def_ 4
  obtain ⟨fd5, F5⟩ := c.def_ 5
  obtain ⟨fd6, F6⟩ := c.def_ 6
  obtain ⟨fd7, F7⟩ := c.def_ 7
  obtain ⟨fd8, F8⟩ := c.def_ 8
  obtain ⟨fd9, F9⟩ := c.def_ 9
  obtain ⟨fd10, F10⟩ := c.def_ 10
  obtain ⟨fd11, F11⟩ := c.def_ 11
  obtain ⟨fd12, F12⟩ := c.def_ 12
  obtain ⟨fd13, F13⟩ := c.def_ 13
  obtain ⟨fd14, F14⟩ := c.def_ 14
  obtain ⟨fd15, F15⟩ := c.def_ 15
  obtain ⟨fd16, F16⟩ := c.def_ 16
  obtain ⟨fd17, F17⟩ := c.def_ 17
  obtain ⟨fd18, F18⟩ := c.def_ 18
  obtain ⟨fd19, F19⟩ := c.def_ 19
  obtain ⟨fd20, F20⟩ := c.def_ 20
  obtain ⟨fd21, F21⟩ := c.def_ 21
  obtain ⟨fd22, F22⟩ := c.def_ 22
  obtain ⟨fd23, F23⟩ := c.def_ 23
  have kIsInt : Cal P w K mg base 1 "is_integer" aIsInt := .of (d_isint F1 hf) (b1 F1 fun _ _ _ _ _ _ _ => rfl) (gl _ (by decide +kernel)) F1.kp
  have kName : Prp P w K mg base 1 (ga K "Item") "name" (aName (ga K "Item")) := ⟨_, _, _, _, cI, fx_prop (c.own (mem_fx 0 rfl)), d_name F15 hf, b1 F15 fun _ _ _ _ _ _ _ => rfl⟩
  have kLeast : Prp P w K mg base 1 (ga K "Item") "least" (aLeast (ga K "Item")) := ⟨_, _, _, _, cI, fx_prop (c.own (mem_fx 1 rfl)), d_least F16 hf, b1 F16 fun _ _ _ _ _ _ _ => rfl⟩
  have kGreatest : Prp P w K mg base 1 (ga K "Item") "greatest" (aGreatest (ga K "Item")) := ⟨_, _, _, _, cI, fx_prop (c.own (mem_fx 2 rfl)), d_greatest F17 hf, b1 F17 fun _ _ _ _ _ _ _ => rfl⟩
  have kNames : Prp P w K mg base 1 (ga K "Pool") "names" (aNames (ga K "Pool") (ga K "Item")) := ⟨_, _, _, _, cP, fx_prop (c.own (mem_fx 3 rfl)), d_names F21 hf, b1 F21 fun _ _ _ _ _ _ _ => rfl⟩
  have kIsName : Stm P w K mg base 1 (ga K "Item") "is_name" aIsName := ⟨_, _, _, fx_stat (c.own (mem_fx 6 rfl)) rI F14.kp, (d_isname F14 hf).pos (b1 F14 fun _ _ _ _ _ _ _ => rfl)⟩
  have kItem : Mkk P w K mg base 2 3 ["price"] "Item" (ga K "Item") (aItem1 (ga K "Item")) := by
    obtain ⟨mv, hb⟩ := FunD.kbinds0 (ps := nItem) F13 4 ["price"] [] (fun vs _ zs => vs ++ zs) (fun z => by cases z) (fun _ hq => by cases hq) (fun r1 _ r3 => r1.append r3) fun D doc pm an cdv ct us mv ws l1 l2 l3 => by
      match us, l1, ws, l3 with
      | [_, _, _, _], _, [_], _ => rfl
    exact ⟨⟨_, _, _, _, He.mkr_ok (c.fact (mem_more 9 rfl)), d_item F13 hf kIsName kIsInt, hb⟩, gl _ (by decide +kernel)⟩
  have kPool : Mkc P w K mg base 1 "Pool" (ga K "Pool") (aInit0 (ga K "Pool")) := ⟨⟨_, He.mkr_ok (c.fact (mem_more 10 rfl)), d_init F19 hf⟩, gl _ (by decide +kernel)⟩
  have kRead : Clm P w K mg base 3 (ga K "Pool") "read" (aRead (ga K "Pool") (ga K "Item")) := ⟨_, _, _, rP, fx_clsm (c.own (mem_fx 7 rfl)), (d_read F20 hf kPool).pos (b2 F20 fun _ _ _ _ _ _ _ _ => rfl)⟩
  have kItemOf : Mth P w K mg base 1 (ga K "Pool") "item" (aItemOf (ga K "Pool") (ga K "Item")) := ⟨_, cP, He.meth_ok (c.fact (mem_more 7 rfl)), (d_itemof F22 hf).pos (b2 F22 fun _ _ _ _ _ _ _ _ => rfl)⟩
  have kWith : Mth P w K mg base 3 (ga K "Pool") "with_items" (aWith0 (ga K "Pool") (ga K "Item")) := ⟨_, cP, He.meth_ok (c.fact (mem_more 8 rfl)), d_with F23 hf kPool kName⟩
  have kBefore : Mth P w K mg base 3 (ga K "Item") "is_surely_before" (aBefore (ga K "Item")) := ⟨_, cI, He.meth_ok (c.fact (mem_more 6 rfl)), (d_before F18 hf kGreatest kLeast).pos (b2 F18 fun _ _ _ _ _ _ _ _ => rfl)⟩
  have kCheck : Cal P w K mg base 4 "check_order" (aCheck (ga K "Pool") (ga K "Item")) := .of (d_check F2 hf kNames) (b2 F2 fun _ _ _ _ _ _ _ _ => rfl) (gl _ (by decide +kernel)) F2.kp
  have kNext : Cal P w K mg base 1 "_law_next" aNext := .of (d_next F6 fr) (b1 F6 fun _ _ _ _ _ _ _ => rfl) (gl _ (by decide +kernel)) F6.kp
  have kDraw : Cal P w K mg base 2 "_law_draw" aDraw := .of (d_draw F7 kNext) (b2 F7 fun _ _ _ _ _ _ _ _ => rfl) (gl _ (by decide +kernel)) F7.kp
  have hc : Lc P w K mg base (ga K "Item") (ga K "Pool") := {
    pen := .of (d_pen F5 fr) (b1 F5 fun _ _ _ _ _ _ _ => rfl) (gl _ (by decide +kernel)) F5.kp
    small := .of (d_small F10 kDraw) (b1 F10 fun _ _ _ _ _ _ _ => rfl) (gl _ (by decide +kernel)) F10.kp
    made := .of (d_made F8 hf kRead kWith kItem) (b1 F8 fun _ _ _ _ _ _ _ => rfl) (gl _ (by decide +kernel)) F8.kp
    all := .of (d_all F9 fr) (b1 F9 fun _ _ _ _ _ _ _ => rfl) (gl _ (by decide +kernel)) F9.kp
    ord := .of (d_ord F11 fr) (b1 F11 fun _ _ _ _ _ _ _ => rfl) (gl _ (by decide +kernel)) F11.kp
    climbs := .of (d_climbs F12 fr) (b2 F12 fun _ _ _ _ _ _ _ _ => rfl) (gl _ (by decide +kernel)) F12.kp
    asg := .of (d_asg F3 hf kCheck kNames kItemOf kGreatest kLeast) (b2 F3 fun _ _ _ _ _ _ _ _ => rfl) (gl _ (by decide +kernel)) F3.kp
    may := .of (d_may F4 hf kItemOf kBefore) (b3 F4 fun _ _ _ _ _ _ _ _ _ => rfl) (gl _ (by decide +kernel)) F4.kp }
  exact d_law F0 hf hc
end K76
open PySem PySem.W PySem.Calls PyProof.Rows
theorem PySem.Challenge.cw_askranges_k76_whole_orders_and_all_value_holds : PySem.Challenge.rw_askranges_k76_whole_orders_and_all_value.Holds := by
  w_on; o_law
  refine HandSHeadRun.head_any (r := K76.R) (q := view K76.R.prog [31]) (H := K76.hk) (ob := K76.ob) (M := 60000) (loose := K76.loose) (d := HandSHeadRun.topDef K76.R.prog 31) (kwd := []) K76.ob_eq
    (by kernel_rfl) (fun s => by kernel_rfl) K76.run (by kernel_rfl) (by kernel_rfl) (by kernel_rfl) (by rfl) (by first | assumption | decide +kernel) (by decide +kernel) ⟨rfl, rfl, rfl, rfl, rfl, by decide +kernel⟩ ?hw ?hc
  case hw => w_witness2
  case hc =>
    refine L2.walk_ofE (l := K76.RWW) (n := 63) (k := 6) (x := "script") (CX := L2.CX0) rfl (by decide) (by kernel_rfl) ⟨rfl, by decide, by decide⟩ ?F (fun _ _ _ _ z => z)
    intro w mg fa h Y G hmg0
    obtain ⟨K, KX, c⟩ := Y
    have hmg : mg ("law" : PySem.Str) = some (.ref fa) := by
      have e : (HandSHeadRun.topDef K76.R.prog 31).name = ("law" : PySem.Str) := by kernel_rfl
      rw [← e]
      exact hmg0
    obtain ⟨fd, hb, hF⟩ := K76.facts (P := K76.RWW.prog) (w := w) KX G hmg c
    refine ⟨K, fd, Ab.liftSp K K76.aLaw, KX, hb, fun H a ns hl hO hS => ?_, fun base _ _ => (hF base).ok⟩
    have hm : Ab.HM K (fun _ => none) H := fun a o e => by cases e
    have nd : ∀ b, ¬ Ab.dom (fun _ => none) b := fun b z => z rfl
    rcases hS with hS | hS
    · exact ⟨[.lst (ns.map Ab.D.int)], fun _ => none, fun d _ => d = .bl true, hm, .cons (.lst (nd a) hS Ab.to_ints) .nil, ⟨ns, _, rfl, .l .im, fun _ => rfl⟩, fun d m' v H' _ _ r e => by subst e; cases r; rfl⟩
    · exact ⟨[.kl (ns.map Ab.D.int)], fun _ => none, fun d _ => d = .bl true, hm, .cons (.kl (.inr hS) Ab.to_ints) .nil, ⟨ns, _, rfl, .k, fun _ => rfl⟩, fun d m' v H' _ _ r e => by subst e; cases r; rfl⟩
