import PyProof.Rows.All
import Wide.All
import OpenK.AllK
import Wide.FinOn
import HandS.ForMost
import HandS.More
import HandS.Defaults
import HandS.Star
import HandS.Property
import HandS.MakeKwOnly
import HandS.ClsMeth
import HandS.IsInst
import HandS.WordsList
import HandS.DictComp
import HandS.ListItems
import HandS.DeepEq
import HandS.Sort
import HandS.ListEq
import HandS.DictEq
import HandS.Style
import HandS.Text
import HandS.Iter
import HandS.HeadNt
import HandS.Head0
import HandS.Head1
import HandS.Head2
import HandS.HeadEnd
import HandS.HeadHook1
import HandS.HeadHook2
import HandS.GenOver
import PyProof.GenQ
import PyProof.GenRules
import PyProof.ForAny
import HandS.GenBody
import HandS.GenList
import HandS.ExcOwn
import KE.KDictList
import KE.SortData
import KE.SortKeyHeap
import HandS.SortKw
import HandS.DictTup
import HandS.SetFor
import HandS.Strs
import HandS.Zip
import HandS.Exc
import HandS.TryElse
import KE.DataCmp
import PyProof.MinMaxWalk
import PyProof.WalksMore
import PyProof.WalkInts
import PyProof.AutoSeq1
import KE.KRevSl
import KE.KStateDown
import Lean
import PySem.Challenge.RW_askranges_k71_whole_cheapest_of_all_sets
set_option Elab.async false
set_option linter.all false
set_option maxRecDepth 100000
set_option maxHeartbeats 4300000
/-! A0: the abstract layer: data instead of objects. -/
namespace Ab
open L2 PySem PySem.Spec PyProof.Rows
abbrev St := L2.St

/-- plain data; ref: an address as such (a changing object, a class) -/
inductive D where
  | non | bl (b : Bool) | int (i : Int) | str (x : Str) | ty (n : String) | ref (a : Addr)
  | lst (ds : List D) | tup (ds : List D) | dic (ks : List (Key × D)) | ins (C : Addr) (fs : List (Str × D))
  /-- a list that may be one of K's -/
  | kl (ds : List D)

/-- what a changing object holds -/
inductive MO where
  | lst (ds : List D) | dic (ks : List (Key × D)) | ins (C : Addr) (fs : List (Str × D))
abbrev Mu := Addr → Option MO
def dom (m : Mu) (a : Addr) : Prop := m a ≠ none
def updM (m : Mu) (a : Addr) (o : MO) : Mu := fun b => if b = a then some o else m b
def delM (m : Mu) (a : Addr) : Mu := fun b => if b = a then none else m b
theorem updM_same {m : Mu} {a : Addr} {o : MO} : updM m a o a = some o := if_pos rfl
theorem updM_ne {m : Mu} {a b : Addr} {o : MO} (h : b ≠ a) : updM m a o b = m b := if_neg h
theorem updM_updM {m : Mu} {a : Addr} {o u : MO} : updM (updM m a o) a u = updM m a u := by
  funext b; unfold updM; split <;> rfl
theorem delM_updM {m : Mu} {a : Addr} {o : MO} (h : m a = none) : delM (updM m a o) a = m := by
  funext b; unfold delM updM; split
  · rename_i e; rw [e, h]
  · rfl
theorem neM {m : Mu} {a b : Addr} {o : MO} (h : m a = some o) (h' : m b = none) : a ≠ b := by
  intro e; rw [e, h'] at h; cases h
theorem dom_upd {m : Mu} {a b : Addr} {o : MO} : dom (updM m a o) b ↔ b = a ∨ dom m b := by
  unfold dom updM; split
  · rename_i e; simp [e]
  · rename_i e; simp [e]
theorem dom_del {m : Mu} {a b : Addr} : dom (delM m a) b ↔ b ≠ a ∧ dom m b := by
  unfold dom delM; split
  · rename_i e; simp [e]
  · rename_i e; simp [e]

/-- what may become of an object that is data: a dict may be looked at for good -/
def HLe (o o' : HO) : Prop := o' = o ∨ ∃ kvs u, o = .dK kvs ∧ o' = .frz u (.dK kvs)
theorem HLe.refl {o : HO} : HLe o o := .inl rfl
theorem HLe.trans {a b c : HO} (h : HLe a b) (h' : HLe b c) : HLe a c := by
  rcases h with rfl | ⟨kvs, u, rfl, rfl⟩
  · exact h'
  · rcases h' with rfl | ⟨_, _, e, _⟩
    · exact .inr ⟨kvs, u, rfl, rfl⟩
    · cases e
theorem HLe.same {a b : HO} (h : HLe a b) (n : ∀ kvs, a ≠ .dK kvs) : b = a := by
  rcases h with rfl | ⟨kvs, u, e, _⟩
  · rfl
  · exact absurd e (n kvs)
/-- the data that stood at a stands there -/
def HAt (H' : Hp) (M' : Addr → Prop) (a : Addr) (o : HO) : Prop := ∃ o', H' a = some o' ∧ HLe o o' ∧ ¬ M' a
theorem HAt.eq {H' : Hp} {M' : Addr → Prop} {a : Addr} {o : HO} (h : HAt H' M' a o) (n : ∀ kvs, o ≠ .dK kvs) : H' a = some o ∧ ¬ M' a := by
  obtain ⟨o', e, l, d⟩ := h
  exact ⟨by rw [e, l.same n], d⟩
theorem HAt.dic {H' : Hp} {M' : Addr → Prop} {a : Addr} {kvs : List (Key × V)} (h : HAt H' M' a (.dK kvs)) : Rd H' a (.dK kvs) ∧ ¬ M' a := by
  obtain ⟨o', e, l, d⟩ := h
  rcases l with rfl | ⟨_, u, z, rfl⟩
  · exact ⟨.inl e, d⟩
  · cases z; exact ⟨.inr ⟨u, e⟩, d⟩
theorem HAt.of {H' : Hp} {M' : Addr → Prop} {a : Addr} {o : HO} (e : H' a = some o) (d : ¬ M' a) : HAt H' M' a o := ⟨o, e, .refl, d⟩
section
variable (K : PySem.W.Frag) (M : Addr → Prop) (H : Hp)
mutual
inductive Rep : D → V → Prop
  | non : Rep .non .non
  | bl {b : Bool} : Rep (.bl b) (.bl b)
  | int {i : Int} : Rep (.int i) (.int i)
  | str {x : Str} : Rep (.str x) (.str x)
  | ty {n : String} : Rep (.ty n) (.ty n)
  | ref {a : Addr} : Rep (.ref a) (.ref a)
  | lst {a : Addr} {ds : List D} {vs : List V} (m : ¬ M a) (h : Rd H a (.lst vs)) (r : Reps ds vs) : Rep (.lst ds) (.ref a)
  | tup {a : Addr} {ds : List D} {vs : List V} (m : ¬ M a) (h : H a = some (.tup vs)) (r : Reps ds vs) : Rep (.tup ds) (.ref a)
  | kl {a : Addr} {ds : List D} {vs : List V} (h : SqL K (fun _ => none) a vs) (r : Reps ds vs) : Rep (.kl ds) (.ref a)
  | tupK {a : Addr} {ds : List D} {vs : List V} (h : SqT K (fun _ => none) a vs) (r : Reps ds vs) : Rep (.tup ds) (.ref a)
  | dic {a : Addr} {ks : List (Key × D)} {kvs : List (Key × V)} (m : ¬ M a) (h : Rd H a (.dK kvs)) (e : kvs.map (·.1) = ks.map (·.1)) (r : Reps (ks.map (·.2)) (kvs.map (·.2))) : Rep (.dic ks) (.ref a)
  | ins {a C dx : Addr} {fs : List (Str × D)} {gs : List (Str × V)} (m : ¬ M a) (h : H a = some (.ins C dx gs)) (e : gs.map (·.1) = fs.map (·.1)) (r : Reps (fs.map (·.2)) (gs.map (·.2))) : Rep (.ins C fs) (.ref a)
inductive Reps : List D → List V → Prop
  | nil : Reps [] []
  | cons {d : D} {v : V} {ds : List D} {vs : List V} (h : Rep d v) (t : Reps ds vs) : Reps (d :: ds) (v :: vs)
end
end
section
variable {K : PySem.W.Frag} {M M' : Addr → Prop} {H H' : Hp}
mutual
/-- what is not marked as changing stays: the data stays -/
theorem Rep.later (k : ∀ a o, ¬ M a → H a = some o → HAt H' M' a o) : ∀ {d : D} {v : V}, Rep K M H d v → Rep K M' H' d v
  | _, _, .non => .non
  | _, _, .bl => .bl
  | _, _, .int => .int
  | _, _, .str => .str
  | _, _, .ty => .ty
  | _, _, .ref => .ref
  | _, _, .lst m (.inl h) r => .lst ((k _ _ m h).eq nofun).2 (.inl ((k _ _ m h).eq nofun).1) (Reps.later k r)
  | _, _, .lst m (.inr ⟨o, h⟩) r => .lst ((k _ _ m h).eq nofun).2 (.inr ⟨o, ((k _ _ m h).eq nofun).1⟩) (Reps.later k r)
  | _, _, .tup m h r => .tup ((k _ _ m h).eq nofun).2 ((k _ _ m h).eq nofun).1 (Reps.later k r)
  | _, _, .tupK h r => .tupK h (Reps.later k r)
  | _, _, .kl h r => .kl h (Reps.later k r)
  | _, _, .dic m (.inl h) e r => .dic (k _ _ m h).dic.2 (k _ _ m h).dic.1 e (Reps.later k r)
  | _, _, .dic m (.inr ⟨o, h⟩) e r => .dic ((k _ _ m h).eq nofun).2 (.inr ⟨o, ((k _ _ m h).eq nofun).1⟩) e (Reps.later k r)
  | _, _, .ins m h e r => .ins ((k _ _ m h).eq nofun).2 ((k _ _ m h).eq nofun).1 e (Reps.later k r)
theorem Reps.later (k : ∀ a o, ¬ M a → H a = some o → HAt H' M' a o) : ∀ {ds : List D} {vs : List V}, Reps K M H ds vs → Reps K M' H' ds vs
  | _, _, .nil => .nil
  | _, _, .cons h t => .cons (Rep.later k h) (Reps.later k t)
end
theorem Reps.length : ∀ {ds : List D} {vs : List V}, Reps K M H ds vs → ds.length = vs.length
  | _, _, .nil => rfl
  | _, _, .cons _ t => congrArg (· + 1) (Reps.length t)
theorem Reps.get : ∀ {ds : List D} {vs : List V} {i : Nat} {d : D}, Reps K M H ds vs → ds[i]? = some d → ∃ v, vs[i]? = some v ∧ Rep K M H d v
  | _, _, _, _, .nil, e => by simp at e
  | _, _, 0, _, .cons h _, e => by simp at e; subst e; exact ⟨_, rfl, h⟩
  | _, _, i + 1, _, .cons _ t, e => by
    obtain ⟨u, h1, h2⟩ := Reps.get (i := i) t (by simpa using e)
    exact ⟨u, by simpa using h1, h2⟩
theorem Reps.getV : ∀ {ds : List D} {vs : List V} {i : Nat} {v : V}, Reps K M H ds vs → vs[i]? = some v → ∃ d, ds[i]? = some d ∧ Rep K M H d v
  | _, _, _, _, .nil, e => by simp at e
  | _, _, 0, _, .cons h _, e => by simp at e; subst e; exact ⟨_, rfl, h⟩
  | _, _, i + 1, _, .cons _ t, e => by
    obtain ⟨u, h1, h2⟩ := Reps.getV (i := i) t (by simpa using e)
    exact ⟨u, by simpa using h1, h2⟩
theorem Reps.append : ∀ {ds es : List D} {vs us : List V}, Reps K M H ds vs → Reps K M H es us → Reps K M H (ds ++ es) (vs ++ us)
  | _, _, _, _, .nil, s => s
  | _, _, _, _, .cons h t, s => .cons h (Reps.append t s)
theorem Reps.take : ∀ {ds : List D} {vs : List V} (n : Nat), Reps K M H ds vs → Reps K M H (ds.take n) (vs.take n)
  | _, _, 0, _ => by simpa using Reps.nil
  | _, _, _ + 1, .nil => .nil
  | _, _, n + 1, .cons h t => .cons h (Reps.take n t)
theorem Reps.drop : ∀ {ds : List D} {vs : List V} (n : Nat), Reps K M H ds vs → Reps K M H (ds.drop n) (vs.drop n)
  | _, _, 0, h => h
  | _, _, _ + 1, .nil => .nil
  | _, _, n + 1, .cons _ t => Reps.drop n t
theorem Reps.set : ∀ {ds : List D} {vs : List V} (n : Nat) {d : D} {v : V}, Reps K M H ds vs → Rep K M H d v → Reps K M H (ds.set n d) (vs.set n v)
  | _, _, _, _, _, .nil, _ => .nil
  | _, _, 0, _, _, .cons _ t, r => .cons r t
  | _, _, n + 1, _, _, .cons h t, r => .cons h (Reps.set n t r)
theorem Reps.eraseIdx : ∀ {ds : List D} {vs : List V} (n : Nat), Reps K M H ds vs → Reps K M H (ds.eraseIdx n) (vs.eraseIdx n)
  | _, _, _, .nil => .nil
  | _, _, 0, .cons _ t => t
  | _, _, n + 1, .cons h t => .cons h (Reps.eraseIdx n t)
end

/-- a changing object stands as the store says -/
def MOk (K : PySem.W.Frag) (M : Addr → Prop) (H : Hp) (a : Addr) : MO → Prop
  | .lst ds => ∃ vs, H a = some (.lst vs) ∧ Reps K M H ds vs
  | .dic ks => ∃ kvs, H a = some (.dK kvs) ∧ kvs.map (·.1) = ks.map (·.1) ∧ Reps K M H (ks.map (·.2)) (kvs.map (·.2))
  | .ins C fs => ∃ dx gs, H a = some (.ins C dx gs) ∧ gs.map (·.1) = fs.map (·.1) ∧ Reps K M H (fs.map (·.2)) (gs.map (·.2))
def HM (K : PySem.W.Frag) (m : Mu) (H : Hp) : Prop := ∀ a o, m a = some o → MOk K (dom m) H a o
/-- all data stays data -/
def Later (m : Mu) (H : Hp) (m' : Mu) (H' : Hp) : Prop := ∀ a o, ¬ dom m a → H a = some o → HAt H' (dom m') a o
section
variable {K : PySem.W.Frag} {m m' m1 m2 : Mu} {H H' H1 H2 : Hp} {a : Addr}
theorem Later.refl : Later m H m H := fun _ _ n e => .of e n
theorem Later.trans (a : Later m H m1 H1) (b : Later m1 H1 m2 H2) : Later m H m2 H2 := fun d v n e => let ⟨o', e', l, n'⟩ := a d v n e; let ⟨o2, e2, l2, n2⟩ := b d o' n' e'; ⟨o2, e2, l.trans l2, n2⟩
theorem Later.rep {d : D} {v : V} (l : Later m H m' H') (r : Rep K (dom m) H d v) : Rep K (dom m') H' d v := r.later l
theorem Later.reps {ds : List D} {vs : List V} (l : Later m H m' H') (r : Reps K (dom m) H ds vs) : Reps K (dom m') H' ds vs := r.later l
theorem HM.there (h : HM K m H) {a : Addr} (d : dom m a) : ∃ o, H a = some o := by
  cases e : m a with
  | none => exact absurd e d
  | some o =>
    have q := h a o e
    cases o with
    | lst ds => obtain ⟨vs, z, _⟩ := q; exact ⟨_, z⟩
    | dic ks => obtain ⟨vs, z, _⟩ := q; exact ⟨_, z⟩
    | ins C fs => obtain ⟨dx, gs, z, _⟩ := q; exact ⟨_, z⟩
theorem HM.fresh (h : HM K m H) {a : Addr} (e : H a = none) : m a = none := by
  cases q : m a with
  | none => rfl
  | some o =>
    obtain ⟨u, z⟩ := h.there (a := a) (by unfold dom; rw [q]; simp)
    rw [e] at z; cases z
theorem MOk.later {o : MO} (l : Later m H m' H') (e : H' a = H a) (h : MOk K (dom m) H a o) : MOk K (dom m') H' a o := by
  cases o with
  | lst ds => obtain ⟨vs, z, r⟩ := h; exact ⟨vs, e.trans z, l.reps r⟩
  | dic ks => obtain ⟨vs, z, q, r⟩ := h; exact ⟨vs, e.trans z, q, l.reps r⟩
  | ins C fs => obtain ⟨dx, gs, z, q, r⟩ := h; exact ⟨dx, gs, e.trans z, q, l.reps r⟩
/-- new objects, none of the old ones changed -/
theorem Later.same (k : Same H H') : Later m H m H' := fun a o n h => .of (k a o h) n
theorem HM.same (h : HM K m H) (k : Same H H') : HM K m H' := fun a o e => by
  obtain ⟨u, z⟩ := h.there (a := a) (by unfold dom; rw [e]; simp)
  exact (h a o e).later (Later.same k) (by rw [k a u z, z])
theorem same_upd {a : Addr} {o : HO} (n : H a = none) : Same H (upd H a o) := fun b u e => by
  rw [upd_ne (ne_of_none e n)]; exact e
/-- a new changing object -/
theorem Later.new {o : HO} {u : MO} (n : H a = none) : Later m H (updM m a u) (upd H a o) := fun b q nb h => by
  have ne : b ≠ a := ne_of_none h n
  refine .of (by rw [upd_ne ne]; exact h) fun z => ?_
  rcases dom_upd.mp z with z | z
  · exact ne z
  · exact nb z
/-- a changing object is changed -/
theorem Later.write {o : HO} {u : MO} (d : dom m a) : Later m H (updM m a u) (upd H a o) := fun b q nb h => by
  have ne : b ≠ a := fun e => nb (e ▸ d)
  refine .of (by rw [upd_ne ne]; exact h) fun z => ?_
  rcases dom_upd.mp z with z | z
  · exact ne z
  · exact nb z
theorem Later.put {o : HO} {u : MO} (d : H a = none ∨ dom m a) : Later m H (updM m a u) (upd H a o) := d.elim Later.new Later.write
theorem HM.put {o : HO} {u : MO} (h : HM K m H) (d : H a = none ∨ dom m a) (ok : MOk K (dom (updM m a u)) (upd H a o) a u) : HM K (updM m a u) (upd H a o) := fun b q e => by
  by_cases hb : b = a
  · subst hb
    rw [updM_same] at e; cases e
    exact ok
  · rw [updM_ne hb] at e
    exact (h b q e).later (Later.put d) (upd_ne hb)
/-- an object changes no more: its data -/
theorem Later.del : Later m H (delM m a) H := fun b q nb h => .of h fun z => nb (dom_del.mp z).2
theorem HM.del (h : HM K m H) : HM K (delM m a) H := fun b q e => by
  have ne : b ≠ a := by
    intro z; subst z
    unfold delM at e; rw [if_pos rfl] at e; cases e
  unfold delM at e; rw [if_neg ne] at e
  exact (h b q e).later Later.del rfl
theorem nodel : ¬ dom (delM m a) a := fun z => (dom_del.mp z).1 rfl
end

/-! ### the frame's slots -/
abbrev Rho := List (Option D)
structure RS (K : PySem.W.Frag) (M : Addr → Prop) (H : Hp) (ρ : Rho) (σ : St) : Prop where
  len : ρ.length = σ.length
  get : ∀ (i : Nat) (d : D), ρ[i]? = some (some d) → ∃ v, σ[i]? = some (some v) ∧ Rep K M H d v
section
variable {K : PySem.W.Frag} {m m' : Mu} {H H' : Hp} {ρ : Rho} {σ : St}
theorem RS.later (l : Later m H m' H') (r : RS K (dom m) H ρ σ) : RS K (dom m') H' ρ σ := ⟨r.len, fun i d e => let ⟨v, h1, h2⟩ := r.get i d e; ⟨v, h1, l.rep h2⟩⟩
theorem RS.set {d : D} {v : V} (i : Nat) (h : RS K (dom m) H ρ σ) (r : Rep K (dom m) H d v) : RS K (dom m) H (ρ.set i (some d)) (σ.set i (some v)) := by
  refine ⟨by simp [h.len], fun j e q => ?_⟩
  by_cases hj : i = j
  · subst hj
    by_cases hi : i < ρ.length
    · rw [List.getElem?_set_self hi] at q; cases q
      exact ⟨v, by rw [List.getElem?_set_self (by rw [← h.len]; exact hi)], r⟩
    · rw [List.getElem?_eq_none (by simpa using hi)] at q; cases q
  · rw [List.getElem?_set_ne hj] at q ⊢
    exact h.get j e q
/-- forgetting -/
theorem RS.weak {ρ' : Rho} (h : RS K (dom m) H ρ σ) (l : ρ'.length = ρ.length) (w : ∀ (i : Nat) d, ρ'[i]? = some (some d) → ρ[i]? = some (some d)) : RS K (dom m) H ρ' σ :=
  ⟨l.trans h.len, fun i d e => h.get i d (w i d e)⟩
end
structure SR (K : PySem.W.Frag) (ρ : Rho) (m : Mu) (σ : St) (H : Hp) : Prop where
  hm : HM K m H
  rs : RS K (dom m) H ρ σ
theorem SR.later {K : PySem.W.Frag} {ρ : Rho} {m m' : Mu} {σ : St} {H H' : Hp} (s : SR K ρ m σ H) (h : HM K m' H') (l : Later m H m' H') : SR K ρ m' σ H' := ⟨h, s.rs.later l⟩

/-! ### what is wanted behind an expression, a test, arguments, a statement -/
abbrev QD := D → Mu → Prop
def Post (K : PySem.W.Frag) (m : Mu) (H : Hp) (Q : QD) : VK := fun v H' => ∃ d m', HM K m' H' ∧ Later m H m' H' ∧ Rep K (dom m') H' d v ∧ Q d m'
def PostB (K : PySem.W.Frag) (m : Mu) (H : Hp) (Q : Bool → Mu → Prop) : Bool → Hp → Prop := fun b H' => ∃ m', HM K m' H' ∧ Later m H m' H' ∧ Q b m'
def PostA (K : PySem.W.Frag) (m : Mu) (H : Hp) (Q : List D → Mu → Prop) : List V → Hp → Prop := fun vs H' => ∃ ds m', HM K m' H' ∧ Later m H m' H' ∧ Reps K (dom m') H' ds vs ∧ Q ds m'
def PostS (K : PySem.W.Frag) (m : Mu) (H : Hp) (Q : Rho → Mu → Prop) : St → Hp → Prop := fun σ' H' => ∃ ρ' m', HM K m' H' ∧ Later m H m' H' ∧ RS K (dom m') H' ρ' σ' ∧ Q ρ' m'
structure AEnds where
  nx : Rho → Mu → Prop
  rt : QD
  bk : Rho → Mu → Prop := fun _ _ => False
  ct : Rho → Mu → Prop := fun _ _ => False
def AEnds.lift (D : AEnds) (K : PySem.W.Frag) (m : Mu) (H : Hp) : Ends where
  nx := PostS K m H D.nx
  rt := Post K m H D.rt
  bk := PostS K m H D.bk
  ct := PostS K m H D.ct
section
variable (X : Cx)
/-- the weakest readings -/
def WE (e : Expr) : TE := fun σ H Q => ∀ pins s, Inv X pins σ H s → wpAny (model X.prog X.w) X.A (eval e X.env) (EP X pins σ Q) X.xe s
def WT (e : Expr) : TT := fun σ H Q => ∀ pins s, Inv X pins σ H s → wpAny (model X.prog X.w) X.A (isTrue e X.env (eval e X.env)) (TP X pins σ Q) X.xe s
def WW (e : Expr) : TT := fun σ H Q => ∀ (whole : Sem Value) pins s, Inv X pins σ H s → wpAny (model X.prog X.w) X.A (isTrue e X.env whole) (TP X pins σ Q) X.xe s
def WA (es : List Expr) : TA := fun σ H Q => ∀ (pos : Pos) pins s, Inv X pins σ H s → wpAny (model X.prog X.w) X.A (spliced (backTo pos (starEach es X.env))) (AP X pins σ Q) X.xe s
def WS (st : Stmt) : TS := fun D σ H => ∀ pins s, Inv X pins σ H s → wpAny (model X.prog X.w) X.A (exec st X.env) (SP X pins D) X.xe s
def WSs (st : List Stmt) : TS := fun D σ H => ∀ pins s, Inv X pins σ H s → wpAny (model X.prog X.w) X.A (execs st X.env) (SP X pins D) X.xe s
def WG (tg : Expr) : TG := fun v σ H Q => ∀ pins s u, Inv X pins σ H s → RelV v u → wpAny (model X.prog X.w) X.A (assign tg X.env u) (fun _ s' => ∃ σ' H', Inv X pins σ' H' s' ∧ Q σ' H') X.xe s
end
section
variable {X : Cx}
theorem peW {e : Expr} : PE X e (WE X e) := ⟨fun pins s _ _ _ I h => h pins s I⟩
theorem ptW {e : Expr} : PT X e (WT X e) := ⟨fun pins s _ _ _ I h => h pins s I⟩
theorem pwW {e : Expr} : PW X e (WW X e) := ⟨fun wh pins s _ _ _ I h => h wh pins s I⟩
theorem paW {es : List Expr} : PA X es (WA X es) := ⟨fun pos pins s _ _ _ I h => h pos pins s I⟩
theorem psW {st : Stmt} : PS X st (WS X st) := ⟨fun pins s _ _ _ I h => h pins s I⟩
theorem pssW {st : List Stmt} : PSs X st (WSs X st) := ⟨fun pins s _ _ _ I h => h pins s I⟩
theorem pgW {tg : Expr} : PG X tg (WG X tg) := ⟨fun pins s _ _ _ u _ I r h => h pins s u I r⟩
theorem WE.of {e : Expr} {t : TE} {σ : St} {H : Hp} {Q : VK} (p : PE X e t) (h : t σ H Q) : WE X e σ H Q := fun pins s I => p.run pins s σ H Q I h
theorem WT.of {e : Expr} {t : TT} {σ : St} {H : Hp} {Q : Bool → Hp → Prop} (p : PT X e t) (h : t σ H Q) : WT X e σ H Q := fun pins s I => p.run pins s σ H Q I h
theorem WA.of {es : List Expr} {t : TA} {σ : St} {H : Hp} {Q : List V → Hp → Prop} (p : PA X es t) (h : t σ H Q) : WA X es σ H Q := fun pos pins s I => p.run pos pins s σ H Q I h
theorem WS.of {st : Stmt} {t : TS} {σ : St} {H : Hp} {D : Ends} (p : PS X st t) (h : t D σ H) : WS X st D σ H := fun pins s I => p.run pins s σ H D I h
theorem WSs.of {st : List Stmt} {t : TS} {σ : St} {H : Hp} {D : Ends} (p : PSs X st t) (h : t D σ H) : WSs X st D σ H := fun pins s I => p.run pins s σ H D I h
theorem WE.mono {e : Expr} {σ : St} {H : Hp} {Q Q' : VK} (h : WE X e σ H Q) (w : ∀ v H', Q v H' → Q' v H') : WE X e σ H Q' := fun pins s I =>
  thn (h pins s I) fun _ _ ⟨v, H', I', r, q⟩ => ⟨v, H', I', r, w _ _ q⟩
theorem WT.mono {e : Expr} {σ : St} {H : Hp} {Q Q' : Bool → Hp → Prop} (h : WT X e σ H Q) (w : ∀ v H', Q v H' → Q' v H') : WT X e σ H Q' := fun pins s I =>
  thn (h pins s I) fun _ _ ⟨H', I', q⟩ => ⟨H', I', w _ _ q⟩
theorem WW.mono {e : Expr} {σ : St} {H : Hp} {Q Q' : Bool → Hp → Prop} (h : WW X e σ H Q) (w : ∀ v H', Q v H' → Q' v H') : WW X e σ H Q' := fun wh pins s I =>
  thn (h wh pins s I) fun _ _ ⟨H', I', q⟩ => ⟨H', I', w _ _ q⟩
theorem WA.mono {es : List Expr} {σ : St} {H : Hp} {Q Q' : List V → Hp → Prop} (h : WA X es σ H Q) (w : ∀ v H', Q v H' → Q' v H') : WA X es σ H Q' := fun pos pins s I =>
  thn (h pos pins s I) fun _ _ ⟨v, H', I', r, q⟩ => ⟨v, H', I', r, w _ _ q⟩
theorem SP.mono {pins : List (Addr × Obj)} {D D' : Ends} {f : Flow} {s : Shared} (h : SP X pins D f s) (w1 : ∀ σ H, D.nx σ H → D'.nx σ H) (w2 : ∀ v H, D.rt v H → D'.rt v H) (w3 : ∀ σ H, D.bk σ H → D'.bk σ H) (w4 : ∀ σ H, D.ct σ H → D'.ct σ H) : SP X pins D' f s := by
  cases f with
  | next => obtain ⟨σ', H', I, q⟩ := h; exact ⟨σ', H', I, w1 _ _ q⟩
  | brk => obtain ⟨σ', H', I, q⟩ := h; exact ⟨σ', H', I, w3 _ _ q⟩
  | cont => obtain ⟨σ', H', I, q⟩ := h; exact ⟨σ', H', I, w4 _ _ q⟩
  | ret u => obtain ⟨v, σ', H', I, r, q⟩ := h; exact ⟨v, σ', H', I, r, w2 _ _ q⟩
theorem WS.mono {st : Stmt} {σ : St} {H : Hp} {D D' : Ends} (h : WS X st D σ H) (w1 : ∀ σ H, D.nx σ H → D'.nx σ H) (w2 : ∀ v H, D.rt v H → D'.rt v H) (w3 : ∀ σ H, D.bk σ H → D'.bk σ H) (w4 : ∀ σ H, D.ct σ H → D'.ct σ H) : WS X st D' σ H := fun pins s I =>
  thn (h pins s I) fun _ _ q => SP.mono q w1 w2 w3 w4
theorem WSs.mono {st : List Stmt} {σ : St} {H : Hp} {D D' : Ends} (h : WSs X st D σ H) (w1 : ∀ σ H, D.nx σ H → D'.nx σ H) (w2 : ∀ v H, D.rt v H → D'.rt v H) (w3 : ∀ σ H, D.bk σ H → D'.bk σ H) (w4 : ∀ σ H, D.ct σ H → D'.ct σ H) : WSs X st D' σ H := fun pins s I =>
  thn (h pins s I) fun _ _ q => SP.mono q w1 w2 w3 w4
theorem WG.mono {tg : Expr} {v : V} {σ : St} {H : Hp} {Q Q' : St → Hp → Prop} (h : WG X tg v σ H Q) (w : ∀ σ H, Q σ H → Q' σ H) : WG X tg v σ H Q' := fun pins s u I r =>
  thn (h pins s u I r) fun _ _ ⟨σ', H', I', q⟩ => ⟨σ', H', I', w _ _ q⟩
end

/-! ### the abstract judgements -/
section
variable (X : Cx)
structure AE (e : Expr) (ρ : Rho) (m : Mu) (Q : QD) : Prop where
  run : ∀ σ H, SR X.K ρ m σ H → WE X e σ H (Post X.K m H Q)
structure AT (e : Expr) (ρ : Rho) (m : Mu) (Q : Bool → Mu → Prop) : Prop where
  run : ∀ σ H, SR X.K ρ m σ H → WT X e σ H (PostB X.K m H Q)
structure AW (e : Expr) (ρ : Rho) (m : Mu) (Q : Bool → Mu → Prop) : Prop where
  run : ∀ σ H, SR X.K ρ m σ H → WW X e σ H (PostB X.K m H Q)
structure AA (es : List Expr) (ρ : Rho) (m : Mu) (Q : List D → Mu → Prop) : Prop where
  run : ∀ σ H, SR X.K ρ m σ H → WA X es σ H (PostA X.K m H Q)
structure AS (st : Stmt) (ρ : Rho) (m : Mu) (D : AEnds) : Prop where
  run : ∀ σ H, SR X.K ρ m σ H → WS X st (D.lift X.K m H) σ H
structure ASs (st : List Stmt) (ρ : Rho) (m : Mu) (D : AEnds) : Prop where
  run : ∀ σ H, SR X.K ρ m σ H → WSs X st (D.lift X.K m H) σ H
structure AG (tg : Expr) (d : D) (ρ : Rho) (m : Mu) (Q : Rho → Mu → Prop) : Prop where
  run : ∀ v σ H, SR X.K ρ m σ H → Rep X.K (dom m) H d v → WG X tg v σ H (PostS X.K m H Q)
end
section
variable {X : Cx} {e : Expr} {es : List Expr} {st : Stmt} {sts : List Stmt} {ρ : Rho} {m : Mu} {d : D}
instance {Q : QD} : CoeFun (AE X e ρ m Q) (fun _ => ∀ σ H, SR X.K ρ m σ H → WE X e σ H (Post X.K m H Q)) := ⟨AE.run⟩
instance {Q : Bool → Mu → Prop} : CoeFun (AT X e ρ m Q) (fun _ => ∀ σ H, SR X.K ρ m σ H → WT X e σ H (PostB X.K m H Q)) := ⟨AT.run⟩
instance {Q : Bool → Mu → Prop} : CoeFun (AW X e ρ m Q) (fun _ => ∀ σ H, SR X.K ρ m σ H → WW X e σ H (PostB X.K m H Q)) := ⟨AW.run⟩
instance {Q : List D → Mu → Prop} : CoeFun (AA X es ρ m Q) (fun _ => ∀ σ H, SR X.K ρ m σ H → WA X es σ H (PostA X.K m H Q)) := ⟨AA.run⟩
instance {D : AEnds} : CoeFun (AS X st ρ m D) (fun _ => ∀ σ H, SR X.K ρ m σ H → WS X st (D.lift X.K m H) σ H) := ⟨AS.run⟩
instance {D : AEnds} : CoeFun (ASs X sts ρ m D) (fun _ => ∀ σ H, SR X.K ρ m σ H → WSs X sts (D.lift X.K m H) σ H) := ⟨ASs.run⟩
instance {Q : Rho → Mu → Prop} : CoeFun (AG X e d ρ m Q) (fun _ => ∀ v σ H, SR X.K ρ m σ H → Rep X.K (dom m) H d v → WG X e v σ H (PostS X.K m H Q)) := ⟨AG.run⟩
end
section
variable {K : PySem.W.Frag} {m m1 : Mu} {H H1 : Hp}
theorem Post.from {Q : QD} (l : Later m H m1 H1) {v : V} {H2 : Hp} (p : Post K m1 H1 Q v H2) : Post K m H Q v H2 :=
  let ⟨d, m', h, l', r, q⟩ := p; ⟨d, m', h, l.trans l', r, q⟩
theorem PostB.from {Q : Bool → Mu → Prop} (l : Later m H m1 H1) {b : Bool} {H2 : Hp} (p : PostB K m1 H1 Q b H2) : PostB K m H Q b H2 :=
  let ⟨m', h, l', q⟩ := p; ⟨m', h, l.trans l', q⟩
theorem PostA.from {Q : List D → Mu → Prop} (l : Later m H m1 H1) {v : List V} {H2 : Hp} (p : PostA K m1 H1 Q v H2) : PostA K m H Q v H2 :=
  let ⟨d, m', h, l', r, q⟩ := p; ⟨d, m', h, l.trans l', r, q⟩
theorem PostS.from {Q : Rho → Mu → Prop} (l : Later m H m1 H1) {σ : St} {H2 : Hp} (p : PostS K m1 H1 Q σ H2) : PostS K m H Q σ H2 :=
  let ⟨d, m', h, l', r, q⟩ := p; ⟨d, m', h, l.trans l', r, q⟩
end
section
variable {X : Cx} {m m1 : Mu} {H H1 : Hp} {σ : St}
theorem WE.from {e : Expr} {Q : QD} (l : Later m H m1 H1) (h : WE X e σ H1 (Post X.K m1 H1 Q)) : WE X e σ H1 (Post X.K m H Q) := h.mono fun _ _ p => p.from l
theorem WT.from {e : Expr} {Q : Bool → Mu → Prop} (l : Later m H m1 H1) (h : WT X e σ H1 (PostB X.K m1 H1 Q)) : WT X e σ H1 (PostB X.K m H Q) := h.mono fun _ _ p => p.from l
theorem WW.from {e : Expr} {Q : Bool → Mu → Prop} (l : Later m H m1 H1) (h : WW X e σ H1 (PostB X.K m1 H1 Q)) : WW X e σ H1 (PostB X.K m H Q) := h.mono fun _ _ p => p.from l
theorem WSs.from {st : List Stmt} {D : AEnds} (l : Later m H m1 H1) (h : WSs X st (D.lift X.K m1 H1) σ H1) : WSs X st (D.lift X.K m H) σ H1 :=
  h.mono (fun _ _ p => p.from l) (fun _ _ p => p.from l) (fun _ _ p => p.from l) fun _ _ p => p.from l
theorem WS.from {st : Stmt} {D : AEnds} (l : Later m H m1 H1) (h : WS X st (D.lift X.K m1 H1) σ H1) : WS X st (D.lift X.K m H) σ H1 :=
  h.mono (fun _ _ p => p.from l) (fun _ _ p => p.from l) (fun _ _ p => p.from l) fun _ _ p => p.from l
end
end Ab
/-! A1: rules of the abstract layer: names, constants, operators, tests, statements. -/
namespace Ab
open L2 PySem PySem.Spec PyProof.Rows

/-- what the names of a frame are: slots, seen, stored, global -/
structure FB where
  N : List Str
  vis : Str → Bool
  sto : Str → Bool
  glb : Str → Bool
def visB (sc : Scope) (x : Str) : Bool := match sc.names.lookup x with
  | some .local => true
  | some .cell => true
  | some .free => true
  | _ => false
def stoB (sc : Scope) (x : Str) : Bool := match sc.names.lookup x with
  | some .local => true
  | some .cell => true
  | _ => false
def glbB (sc : Scope) (x : Str) : Bool := match sc.names.lookup x with
  | some .globalImplicit => true
  | _ => false
abbrev fbOf (N : List Str) (sc : Scope) : FB := ⟨N, visB sc, stoB sc, glbB sc⟩
theorem visB_ok {sc : Scope} {x : Str} (h : visB sc x = true) : Vis sc x := by
  unfold visB at h; unfold Vis
  split at h <;> simp_all
theorem stoB_ok {sc : Scope} {x : Str} (h : stoB sc x = true) : L2.Loc sc x := by
  unfold stoB at h; unfold L2.Loc
  split at h <;> simp_all
theorem glbB_ok {sc : Scope} {x : Str} (h : glbB sc x = true) : sc.names.lookup x = some .globalImplicit := by
  unfold glbB at h
  split at h <;> simp_all
structure XF (X : Cx) (fb : FB) (k : Nat) : Prop where
  nN : X.N = fb.N
  nd : X.N.Nodup
  calm : X.calm = true
  room : Room k X.A
  vis : ∀ x, fb.vis x = true → Vis X.env.scope x
  sto : ∀ x, fb.sto x = true → L2.Loc X.env.scope x ∧ (X.fn x = true ∨ X.env.scope.names.lookup x = some .local)
  glb : ∀ x, fb.glb x = true → Gl X x
theorem XF.hu {X : Cx} {fb : FB} {k : Nat} (h : XF X fb k) : X.A.units + 1 < cLine := hu_of h.room

section
variable {K : PySem.W.Frag} {m : Mu} {H : Hp} {M : Addr → Prop}
theorem Post.now {Q : QD} {d : D} {v : V} (h : HM K m H) (r : Rep K (dom m) H d v) (q : Q d m) : Post K m H Q v H := ⟨d, m, h, Later.refl, r, q⟩
theorem PostB.now {Q : Bool → Mu → Prop} {b : Bool} (h : HM K m H) (q : Q b m) : PostB K m H Q b H := ⟨m, h, Later.refl, q⟩
/-- a new object -/
theorem Post.new {Q : QD} {d : D} {p : Addr} {o : HO} (h : HM K m H) (n : H p = none) (r : Rep K (dom m) (upd H p o) d (.ref p)) (q : Q d m) : Post K m H Q (.ref p) (upd H p o) :=
  ⟨d, m, h.same (same_upd n), Later.same (same_upd n), r, q⟩
/-- a new changing object -/
theorem Post.newM {Q : QD} {p : Addr} {o : HO} {u : MO} (h : HM K m H) (n : H p = none) (ok : MOk K (dom (updM m p u)) (upd H p o) p u) (q : ∀ a, m a = none → Q (.ref a) (updM m a u)) : Post K m H Q (.ref p) (upd H p o) :=
  ⟨.ref p, updM m p u, h.put (.inl n) ok, Later.new n, .ref, q p (h.fresh n)⟩
theorem Reps.same {ds : List D} {vs : List V} {H' : Hp} (r : Reps K (dom m) H ds vs) (k : Same H H') : Reps K (dom m) H' ds vs := (Later.same k).reps r
theorem notdom (h : HM K m H) {p : Addr} (n : H p = none) : ¬ dom m p := fun z => by
  obtain ⟨o, e⟩ := h.there z
  rw [n] at e; cases e
end

/-! ### shapes -/
/-- a list's items -/
inductive IsL (m : Mu) : D → List D → Prop
  | im {ds : List D} : IsL m (.lst ds) ds
  | mu {a : Addr} {ds : List D} (h : m a = some (.lst ds)) : IsL m (.ref a) ds
inductive IsT : D → List D → Prop
  | im {ds : List D} : IsT (.tup ds) ds
/-- a list or a tuple -/
inductive IsQ (m : Mu) : D → List D → Prop
  | im {ds : List D} : IsQ m (.lst ds) ds
  | mu {a : Addr} {ds : List D} (h : m a = some (.lst ds)) : IsQ m (.ref a) ds
  | tup {ds : List D} : IsQ m (.tup ds) ds
inductive IsD (m : Mu) : D → List (Key × D) → Prop
  | im {ks : List (Key × D)} : IsD m (.dic ks) ks
  | mu {a : Addr} {ks : List (Key × D)} (h : m a = some (.dic ks)) : IsD m (.ref a) ks
inductive IsI (m : Mu) : D → Addr → List (Str × D) → Prop
  | im {C : Addr} {fs : List (Str × D)} : IsI m (.ins C fs) C fs
  | mu {a C : Addr} {fs : List (Str × D)} (h : m a = some (.ins C fs)) : IsI m (.ref a) C fs
section
variable {K : PySem.W.Frag} {m : Mu} {H : Hp} {d : D} {v : V}
theorem sqK {a : Addr} {vs : List V} (h : SqL K (fun _ => none) a vs) : SqL K H a vs := by
  rcases h with (h | ⟨o, h⟩) | h
  · cases h
  · cases h
  · exact .inr h
theorem sqKT {a : Addr} {vs : List V} (h : SqT K (fun _ => none) a vs) : SqT K H a vs := by
  rcases h with (h | ⟨o, h⟩) | h
  · cases h
  · cases h
  · exact .inr h
theorem IsL.rd {ds : List D} (s : IsL m d ds) (h : HM K m H) (r : Rep K (dom m) H d v) : ∃ a vs, v = .ref a ∧ Rd H a (.lst vs) ∧ Reps K (dom m) H ds vs := by
  cases s with
  | im =>
    cases r with
    | lst n e r => exact ⟨_, _, rfl, e, r⟩
  | mu e =>
    cases r
    obtain ⟨vs, z, r⟩ := h _ _ e
    exact ⟨_, _, rfl, .inl z, r⟩
theorem IsL.at {ds : List D} (s : IsL m d ds) (h : HM K m H) (r : Rep K (dom m) H d v) : ∃ a vs, v = .ref a ∧ SqL K H a vs ∧ Reps K (dom m) H ds vs :=
  let ⟨a, vs, e, q, r⟩ := s.rd h r; ⟨a, vs, e, .inl q, r⟩
theorem IsT.at {ds : List D} (s : IsT d ds) (h : HM K m H) (r : Rep K (dom m) H d v) : ∃ a vs, v = .ref a ∧ SqT K H a vs ∧ Reps K (dom m) H ds vs := by
  cases s with
  | im =>
    cases r with
    | tup n e r => exact ⟨_, _, rfl, .of e, r⟩
    | tupK e r => exact ⟨_, _, rfl, sqKT e, r⟩
theorem IsQ.at {ds : List D} (s : IsQ m d ds) (h : HM K m H) (r : Rep K (dom m) H d v) : ∃ a vs, v = .ref a ∧ (SqL K H a vs ∨ SqT K H a vs) ∧ Reps K (dom m) H ds vs := by
  cases s with
  | im => obtain ⟨a, vs, e, q, r⟩ := (IsL.im (m := m)).at h r; exact ⟨a, vs, e, .inl q, r⟩
  | mu e => obtain ⟨a, vs, e, q, r⟩ := (IsL.mu e).at h r; exact ⟨a, vs, e, .inl q, r⟩
  | tup => obtain ⟨a, vs, e, q, r⟩ := IsT.im.at h r; exact ⟨a, vs, e, .inr q, r⟩
theorem IsD.at {ks : List (Key × D)} (s : IsD m d ks) (h : HM K m H) (r : Rep K (dom m) H d v) : ∃ a kvs, v = .ref a ∧ Rd H a (.dK kvs) ∧ kvs.map (·.1) = ks.map (·.1) ∧ Reps K (dom m) H (ks.map (·.2)) (kvs.map (·.2)) := by
  cases s with
  | im =>
    cases r with
    | dic n e q r => exact ⟨_, _, rfl, e, q, r⟩
  | mu e =>
    cases r
    obtain ⟨kvs, z, q, r⟩ := h _ _ e
    exact ⟨_, _, rfl, .inl z, q, r⟩
theorem IsI.at {C : Addr} {fs : List (Str × D)} (s : IsI m d C fs) (h : HM K m H) (r : Rep K (dom m) H d v) : ∃ a dx gs, v = .ref a ∧ H a = some (.ins C dx gs) ∧ gs.map (·.1) = fs.map (·.1) ∧ Reps K (dom m) H (fs.map (·.2)) (gs.map (·.2)) := by
  cases s with
  | im =>
    cases r with
    | ins n e q r => exact ⟨_, _, _, rfl, e, q, r⟩
  | mu e =>
    cases r
    obtain ⟨dx, gs, z, q, r⟩ := h _ _ e
    exact ⟨_, _, _, rfl, z, q, r⟩
end
/-- fields, keys -/
theorem lookup_at {β γ : Type} {R : β → γ → Prop} {κ : Type} [BEq κ] [LawfulBEq κ] : ∀ {fs : List (κ × β)} {gs : List (κ × γ)} {f : κ} {d : β}, gs.map (·.1) = fs.map (·.1) → (∀ (i : Nat) d, (fs.map (·.2))[i]? = some d → ∃ v, (gs.map (·.2))[i]? = some v ∧ R d v) → fs.lookup f = some d → ∃ v, gs.lookup f = some v ∧ R d v
  | [], [], _, _, _, _, e => by cases e
  | [], _ :: _, _, _, e, _, _ => by cases e
  | _ :: _, [], _, _, e, _, _ => by cases e
  | (k, b) :: fs, (k', c) :: gs, f, d, e, r, l => by
    simp only [List.map_cons, List.cons.injEq] at e
    obtain ⟨e1, e2⟩ := e
    subst e1
    obtain ⟨c', hc, rc⟩ := r 0 b rfl
    simp at hc; subst hc
    rw [List.lookup_cons] at l ⊢
    cases q : (f == k') with
    | true =>
      rw [q] at l
      cases l
      exact ⟨c, rfl, rc⟩
    | false =>
      rw [q] at l
      exact lookup_at e2 (fun i d h => by simpa using r (i + 1) d (by simpa using h)) l
theorem lookup_no {β γ : Type} {κ : Type} [BEq κ] [LawfulBEq κ] : ∀ {fs : List (κ × β)} {gs : List (κ × γ)} {f : κ}, gs.map (·.1) = fs.map (·.1) → fs.lookup f = none → gs.lookup f = none
  | [], [], _, _, _ => rfl
  | [], _ :: _, _, e, _ => by cases e
  | _ :: _, [], _, e, _ => by cases e
  | (k, b) :: fs, (k', c) :: gs, f, e, l => by
    simp only [List.map_cons, List.cons.injEq] at e
    obtain ⟨e1, e2⟩ := e
    subst e1
    rw [List.lookup_cons] at l ⊢
    cases q : (f == k') with
    | true => rw [q] at l; cases l
    | false =>
      rw [q] at l
      exact lookup_no e2 l

section
variable {X : Cx} {fb : FB} {k : Nat} {ρ : Rho} {m : Mu} {e a b : Expr} {pos : Pos}
theorem AE.imp {Q Q' : QD} (h : AE X e ρ m Q) (w : ∀ d m', Q d m' → Q' d m') : AE X e ρ m Q' := .mk fun σ H S =>
  (h σ H S).mono fun _ _ ⟨d, m', hm, l, r, q⟩ => ⟨d, m', hm, l, r, w _ _ q⟩
/-! ### names, constants -/
/-- the slot of a name -/
inductive Nth : List Str → Nat → Str → Prop
  | z {x : Str} {r : List Str} : Nth (x :: r) 0 x
  | s {x y : Str} {n : Nat} {r : List Str} (h : Nth r n x) : Nth (y :: r) (n + 1) x
theorem Nth.at : ∀ {N : List Str} {i : Nat} {x : Str}, Nth N i x → N[i]? = some x
  | _, _, _, .z => rfl
  | _, _, _, .s h => by simpa using h.at
theorem AE.name {Q : QD} {x : Str} {i : Nat} {d : D} (hx : XF X fb k) (hN : Nth fb.N i x) (hv : fb.vis x = true) (hr : ρ[i]? = some (some d)) (q : Q d m) (hd : (x == ("__debug__" : Str)) = false := by decide +kernel) (hcd : (x == ("__classdict__" : Str)) = false := by decide +kernel) : AE X (.Name x pos) ρ m Q := .mk fun σ H S => by
  obtain ⟨v, e, r⟩ := S.rs.get i d hr
  exact WE.of (pe_var (by rw [hx.nN]; exact hN.at) (hx.vis x hv) hd hcd) ⟨v, e, .now S.hm r q⟩
theorem AE.int {Q : QD} {i : Int} {j} (q : Q (.int i) m) : AE X (.Constant (.int i) j pos) ρ m Q := .mk fun σ H S => WE.of pe_int (Post.now S.hm .int q)
theorem AE.bl {Q : QD} {i : Bool} {j} (q : Q (.bl i) m) : AE X (.Constant (.bool i) j pos) ρ m Q := .mk fun σ H S => WE.of pe_bl (Post.now S.hm .bl q)
theorem AE.str {Q : QD} {i : Str} {j} (q : Q (.str i) m) : AE X (.Constant (.str i) j pos) ρ m Q := .mk fun σ H S => WE.of pe_str (Post.now S.hm .str q)
theorem AE.non {Q : QD} {j} (q : Q .non m) : AE X (.Constant .none j pos) ρ m Q := .mk fun σ H S => WE.of pe_non (Post.now S.hm .non q)
/-- a module's constant: an int, a text -/
theorem AE.gint {Q : QD} {x : Str} {i : Int} (hx : XF X fb k) (hg : fb.glb x = true) (hm : ∃ t, X.mg x = some (.int i t)) (q : Q (.int i) m) (hd : (x == ("__debug__" : Str)) = false := by decide +kernel) : AE X (.Name x pos) ρ m Q := .mk fun σ H S =>
  let ⟨_, e⟩ := hm; WE.of (pe_glob (v := .int i) (hx.glb x hg) e ⟨_, rfl⟩ hd) (Post.now S.hm .int q)
theorem AE.gstr {Q : QD} {x i : Str} (hx : XF X fb k) (hg : fb.glb x = true) (hm : ∃ t, X.mg x = some (.str i t)) (q : Q (.str i) m) (hd : (x == ("__debug__" : Str)) = false := by decide +kernel) : AE X (.Name x pos) ρ m Q := .mk fun σ H S =>
  let ⟨_, e⟩ := hm; WE.of (pe_glob (v := .str i) (hx.glb x hg) e ⟨_, rfl⟩ hd) (Post.now S.hm .str q)
/-- a class, a def, an object of the module -/
theorem AE.gref {Q : QD} {x : Str} {i : Addr} (hx : XF X fb k) (hg : fb.glb x = true) (hm : X.mg x = some (.ref i)) (q : Q (.ref i) m) (hd : (x == ("__debug__" : Str)) = false := by decide +kernel) : AE X (.Name x pos) ρ m Q := .mk fun σ H S =>
  WE.of (pe_glob (v := .ref i) (hx.glb x hg) hm rfl hd) (Post.now S.hm .ref q)
/-- .. a tuple, a list of it -/
theorem AE.gtup {Q : QD} {x : Str} {i : Addr} {ds : List D} {vs : List V} (hx : XF X fb k) (hg : fb.glb x = true) (hm : X.mg x = some (.ref i)) (hs : SqT X.K (fun _ => none) i vs) (r : ∀ M H, Reps X.K M H ds vs) (q : Q (.tup ds) m) (hd : (x == ("__debug__" : Str)) = false := by decide +kernel) : AE X (.Name x pos) ρ m Q := .mk fun σ H S =>
  WE.of (pe_glob (v := .ref i) (hx.glb x hg) hm rfl hd) (Post.now S.hm (.tupK hs (r _ _)) q)
/-- a built-in class as a value -/
theorem AE.bty {Q : QD} {x : Str} {n : String} (hx : XF X fb k) (hg : fb.glb x = true) (hm : X.mg x = none) (hv : bootBuiltins x = some (.type n)) (q : Q (.ty n) m) (hn : x ≠ "__name__" := by decide +kernel) (hd : (x == ("__debug__" : Str)) = false := by decide +kernel) : AE X (.Name x pos) ρ m Q := .mk fun σ H S =>
  WE.of (pe_bltn (v := .ty n) (hx.glb x hg) hm hv rfl hn hd) (Post.now S.hm .ty q)

/-! ### operators by values -/
abbrev RD2 := D → D → Mu → QD → Prop
def OpA (X : Cx) (f : Value → Value → Sem Value) (rd : RD2) : Prop := ∃ r : R2, OpR X f r ∧ ∀ da db x y m H (Q : QD), HM X.K m H → Rep X.K (dom m) H da x → Rep X.K (dom m) H db y → rd da db m Q → r x y H (Post X.K m H Q)
theorem OpA.or {f : Value → Value → Sem Value} {rd rd' : RD2} (h : OpA X f rd) (h' : OpA X f rd') : OpA X f fun x y m Q => rd x y m Q ∨ rd' x y m Q := by
  obtain ⟨r, h, g⟩ := h
  obtain ⟨r', h', g'⟩ := h'
  exact ⟨_, h.or h', fun da db x y m H Q hm ra rb q => q.imp (g _ _ _ _ _ _ _ hm ra rb) (g' _ _ _ _ _ _ _ hm ra rb)⟩
theorem bin2 {r : R2} {rd : RD2} (g : ∀ da db x y m H (Q : QD), HM X.K m H → Rep X.K (dom m) H da x → Rep X.K (dom m) H db y → rd da db m Q → r x y H (Post X.K m H Q)) {Q : QD} (h : AE X a ρ m fun da m1 => AE X b ρ m1 fun db m2 => rd da db m2 Q) {σ : St} {H : Hp} (S : SR X.K ρ m σ H)
    (mono : ∀ x y H Q Q', (∀ v H', Q v H' → Q' v H') → r x y H Q → r x y H Q') : tOp r (WE X a) (WE X b) σ H (Post X.K m H Q) := by
  refine (h σ H S).mono ?_
  rintro v H1 ⟨da, m1, hm1, l1, r1, q1⟩
  refine (q1 σ H1 (S.later hm1 l1)).mono ?_
  rintro u H2 ⟨db, m2, hm2, l2, r2, q2⟩
  exact mono _ _ _ _ _ (fun _ _ p => p.from (l1.trans l2)) (g da db v u m2 H2 Q hm2 (l2.rep r1) r2 q2)
/-- operators whose reading may be weakened at its end: all of them -/
def Mono2 (r : R2) : Prop := ∀ x y H Q Q', (∀ v H', Q v H' → Q' v H') → r x y H Q → r x y H Q'
/-- the weakest reading of an operator -/
def WO (X : Cx) (f : Value → Value → Sem Value) : R2 := fun x y H Q => ∀ pins s σ v u, Inv X pins σ H s → RelV x v → RelV y u → wpAny (model X.prog X.w) X.A (f v u) (EP X pins σ Q) X.xe s
theorem woW {f : Value → Value → Sem Value} : OpR X f (WO X f) := fun pins s σ H x y v u Q I rx ry h => h pins s σ v u I rx ry
theorem WO.mono {f : Value → Value → Sem Value} : Mono2 (WO X f) := fun x y H Q Q' w h pins s σ v u I rx ry => thn (h pins s σ v u I rx ry) fun _ _ ⟨v, H', I', r, q⟩ => ⟨v, H', I', r, w _ _ q⟩
theorem OpA.w {f : Value → Value → Sem Value} {rd : RD2} (h : OpA X f rd) : ∀ da db x y m H (Q : QD), HM X.K m H → Rep X.K (dom m) H da x → Rep X.K (dom m) H db y → rd da db m Q → WO X f x y H (Post X.K m H Q) := by
  obtain ⟨r, ho, g⟩ := h
  exact fun da db x y m H Q hm ra rb q pins s σ v u I rx ry => ho pins s σ H x y v u _ I rx ry (g da db x y m H Q hm ra rb q)
theorem AE.op {Q : QD} {op : Operator} {rd : RD2} (ho : OpA X (binaryOp op) rd) (h : AE X a ρ m fun da m1 => AE X b ρ m1 fun db m2 => rd da db m2 Q) : AE X (.BinOp a op b pos) ρ m Q := .mk fun σ H S =>
  WE.of (pe_op woW peW peW) (bin2 ho.w h S WO.mono)
theorem AE.cmp {Q : QD} {op : CmpOp} {rd : RD2} (ho : OpA X (compareOp op) rd) (h : AE X a ρ m fun da m1 => AE X b ρ m1 fun db m2 => rd da db m2 Q) (hm : behindInMarks op b = false := by rfl) : AE X (.Compare a [op] [b] pos) ρ m Q := .mk fun σ H S =>
  WE.of (pe_cmpR woW peW peW hm) (bin2 ho.w h S WO.mono)
/-- a comparison as a test -/
theorem AT.cmp {Q : Bool → Mu → Prop} {op : CmpOp} {rd : RD2} (ho : OpA X (compareOp op) rd) (h : AE X a ρ m fun da m1 => AE X b ρ m1 fun db m2 => rd da db m2 fun d m3 => ∃ c, d = .bl c ∧ Q c m3) (hm : behindInMarks op b = false := by rfl) : AT X (.Compare a [op] [b] pos) ρ m Q := .mk fun σ H S => by
  refine WT.of (pt_cmpR woW peW peW hm) ?_
  have g := bin2 ho.w h S WO.mono
  refine WE.mono (X := X) (e := a) g fun v H1 g1 => WE.mono (X := X) (e := b) g1 fun u H2 g2 => WO.mono _ _ _ _ _ (fun z H3 ⟨d, m', hm', l, r, c, e, q⟩ => ?_) g2
  subst e
  cases r
  exact ⟨c, rfl, m', hm', l, q⟩
/-- any expression that gives a bool, as a test -/
theorem AT.val {Q : Bool → Mu → Prop} (h : AE X e ρ m fun d m1 => ∃ c, d = .bl c ∧ Q c m1) (he : ∀ whole, isTrue e X.env whole = (do let v ← whole; standAt e.pos; holding [v] (truthy v)) := by intro _; rfl) : AT X e ρ m Q := .mk fun σ H S => by
  refine WT.of (pt_val peW he) ?_
  refine (h σ H S).mono fun v H1 ⟨d, m', hm', l, r, c, e, q⟩ => ?_
  subst e
  cases r
  exact ⟨c, rfl, m', hm', l, q⟩
theorem AT.imp {Q Q' : Bool → Mu → Prop} (h : AT X e ρ m Q) (w : ∀ d m', Q d m' → Q' d m') : AT X e ρ m Q' := .mk fun σ H S =>
  (h σ H S).mono fun _ _ ⟨m', hm, l, q⟩ => ⟨m', hm, l, w _ _ q⟩
theorem AT.ofW {Q : Bool → Mu → Prop} (h : AW X e ρ m Q) : AT X e ρ m Q := .mk fun σ H S pins s I => h σ H S _ pins s I
theorem AT.not {Q : Bool → Mu → Prop} (h : AT X a ρ m fun c m1 => Q (!c) m1) : AT X (.UnaryOp .Not a pos) ρ m Q := .mk fun σ H S =>
  WT.of (pt_not ptW) ((h σ H S).mono fun _ _ p => p)
variable {rest : List Expr}
theorem AW.and1 {Q : Bool → Mu → Prop} (h : AT X a ρ m Q) : AW X (.BoolOp .And [a] pos) ρ m Q := .mk fun σ H S wh pins s I => (pw_and1 ptW).run wh pins s σ H _ I (h σ H S)
theorem AW.or1 {Q : Bool → Mu → Prop} (h : AT X a ρ m Q) : AW X (.BoolOp .Or [a] pos) ρ m Q := .mk fun σ H S wh pins s I => (pw_or1 ptW).run wh pins s σ H _ I (h σ H S)
theorem AW.and {Q : Bool → Mu → Prop} (h : AT X a ρ m fun c m1 => (c = true → AW X (.BoolOp .And (b :: rest) pos) ρ m1 Q) ∧ (c = false → Q false m1)) : AW X (.BoolOp .And (a :: b :: rest) pos) ρ m Q := .mk fun σ H S wh pins s I =>
  (pw_and ptW pwW).run wh pins s σ H _ I ((h σ H S).mono fun c H1 ⟨m1, hm1, l1, q1, q2⟩ => by
    cases c with
    | true => rw [if_pos rfl]; exact WW.from l1 (q1 rfl σ H1 (S.later hm1 l1))
    | false => rw [if_neg Bool.false_ne_true]; exact ⟨m1, hm1, l1, q2 rfl⟩)
theorem AW.or {Q : Bool → Mu → Prop} (h : AT X a ρ m fun c m1 => (c = true → Q true m1) ∧ (c = false → AW X (.BoolOp .Or (b :: rest) pos) ρ m1 Q)) : AW X (.BoolOp .Or (a :: b :: rest) pos) ρ m Q := .mk fun σ H S wh pins s I =>
  (pw_or ptW pwW).run wh pins s σ H _ I ((h σ H S).mono fun c H1 ⟨m1, hm1, l1, q1, q2⟩ => by
    cases c with
    | true => rw [if_pos rfl]; exact ⟨m1, hm1, l1, q1 rfl⟩
    | false => rw [if_neg Bool.false_ne_true]; exact WW.from l1 (q2 rfl σ H1 (S.later hm1 l1)))
/-- and, or, not as values (bools) -/
theorem AE.one {Q : QD} {op} (h : AE X a ρ m Q) : AE X (.BoolOp op [a] pos) ρ m Q := .mk fun σ H S => WE.of (pe_one peW) (h σ H S)
theorem AE.and {Q : QD} (h : AE X a ρ m fun d m1 => ∃ c, d = .bl c ∧ (c = true → AE X (.BoolOp .And (b :: rest) pos) ρ m1 Q) ∧ (c = false → Q (.bl false) m1)) : AE X (.BoolOp .And (a :: b :: rest) pos) ρ m Q := .mk fun σ H S => by
  refine WE.of (pe_and peW peW) ((h σ H S).mono fun v H1 ⟨d, m1, hm1, l1, r1, c, e, q1, q2⟩ => ?_)
  subst e
  cases r1
  refine ⟨c, rfl, ?_⟩
  cases c with
  | true => rw [if_pos rfl]; exact WE.from l1 (q1 rfl σ H1 (S.later hm1 l1))
  | false => rw [if_neg Bool.false_ne_true]; exact ⟨_, m1, hm1, l1, .bl, q2 rfl⟩
theorem AE.or {Q : QD} (h : AE X a ρ m fun d m1 => ∃ c, d = .bl c ∧ (c = true → Q (.bl true) m1) ∧ (c = false → AE X (.BoolOp .Or (b :: rest) pos) ρ m1 Q)) : AE X (.BoolOp .Or (a :: b :: rest) pos) ρ m Q := .mk fun σ H S => by
  refine WE.of (pe_or peW peW) ((h σ H S).mono fun v H1 ⟨d, m1, hm1, l1, r1, c, e, q1, q2⟩ => ?_)
  subst e
  cases r1
  refine ⟨c, rfl, ?_⟩
  cases c with
  | true => rw [if_pos rfl]; exact ⟨_, m1, hm1, l1, .bl, q1 rfl⟩
  | false => rw [if_neg Bool.false_ne_true]; exact WE.from l1 (q2 rfl σ H1 (S.later hm1 l1))
theorem AE.not {Q : QD} (h : AE X a ρ m fun d m1 => ∃ c, d = .bl c ∧ Q (.bl (!c)) m1) : AE X (.UnaryOp .Not a pos) ρ m Q := .mk fun σ H S => by
  refine WE.of (pe_not peW) ((h σ H S).mono fun v H1 ⟨d, m1, hm1, l1, r1, c, e, q1⟩ => ?_)
  subst e
  cases r1
  exact ⟨c, rfl, _, m1, hm1, l1, .bl, q1⟩
theorem AE.ifx {Q : QD} {c : Expr} (h : AT X c ρ m fun t m1 => (t = true → AE X a ρ m1 Q) ∧ (t = false → AE X b ρ m1 Q)) : AE X (.IfExp c a b pos) ρ m Q := .mk fun σ H S => by
  refine WE.of (pe_ifExp ptW peW peW) ((h σ H S).mono fun t H1 ⟨m1, hm1, l1, q1, q2⟩ => ?_)
  cases t with
  | true => rw [if_pos rfl]; exact WE.from l1 (q1 rfl σ H1 (S.later hm1 l1))
  | false => rw [if_neg Bool.false_ne_true]; exact WE.from l1 (q2 rfl σ H1 (S.later hm1 l1))
/-- a < b < c -/
theorem chain_at {c : Expr} {rd rd' : RD2} {f f' : Value → Value → Sem Value} (ho : OpA X f rd) (ho' : OpA X f' rd') {Q : QD}
    (h : AE X a ρ m fun da m1 => AE X b ρ m1 fun db m2 => rd da db m2 fun d m3 => ∃ t, d = .bl t ∧ (t = true → AE X c ρ m3 fun dc m4 => rd' db dc m4 Q) ∧ (t = false → Q (.bl false) m3)) {σ : St} {H : Hp} (S : SR X.K ρ m σ H) :
    WE X a σ H fun x H1 => WE X b σ H1 fun y H2 => WO X f x y H2 fun z H3 => ∃ k, z = .bl k ∧ if k = true then WE X c σ H3 fun w H4 => WO X f' y w H4 (Post X.K m H Q) else Post X.K m H Q (.bl false) H3 := by
  refine (h σ H S).mono ?_
  rintro v H1 ⟨da, m1, hm1, l1, r1, q1⟩
  refine (q1 σ H1 (S.later hm1 l1)).mono ?_
  rintro u H2 ⟨db, m2, hm2, l2, r2, q2⟩
  refine WO.mono _ _ _ _ _ ?_ (ho.w da db v u m2 H2 _ hm2 (l2.rep r1) r2 q2)
  rintro z H3 ⟨d, m3, hm3, l3, r3, t, e, q3, q4⟩
  subst e
  cases r3
  refine ⟨t, rfl, ?_⟩
  cases t with
  | false => rw [if_neg Bool.false_ne_true]; exact ⟨_, m3, hm3, l1.trans (l2.trans l3), .bl, q4 rfl⟩
  | true =>
    rw [if_pos rfl]
    refine (q3 rfl σ H3 (S.later hm3 (l1.trans (l2.trans l3)))).mono ?_
    rintro w H4 ⟨dc, m4, hm4, l4, r4, q5⟩
    exact WO.mono _ _ _ _ _ (fun _ _ p => p.from (l1.trans (l2.trans (l3.trans l4)))) (ho'.w db dc u w m4 H4 _ hm4 (l4.rep (l3.rep r2)) r4 q5)
theorem AE.chain {Q : QD} {c : Expr} {op op' : CmpOp} {rd rd' : RD2} (ho : OpA X (compareOp op) rd) (ho' : OpA X (compareOp op') rd')
    (h : AE X a ρ m fun da m1 => AE X b ρ m1 fun db m2 => rd da db m2 fun d m3 => ∃ t, d = .bl t ∧ (t = true → AE X c ρ m3 fun dc m4 => rd' db dc m4 Q) ∧ (t = false → Q (.bl false) m3)) (hm : lastMarks [op, op'] [b, c] = false := by with_unfolding_all rfl) : AE X (.Compare a [op, op'] [b, c] pos) ρ m Q := .mk fun σ H S =>
  WE.of (pe_chain woW woW peW peW peW hm) (chain_at ho ho' h S)
theorem AT.chain {Q : Bool → Mu → Prop} {c : Expr} {op op' : CmpOp} {rd rd' : RD2} (ho : OpA X (compareOp op) rd) (ho' : OpA X (compareOp op') rd')
    (h : AE X a ρ m fun da m1 => AE X b ρ m1 fun db m2 => rd da db m2 fun d m3 => ∃ t, d = .bl t ∧ (t = true → AE X c ρ m3 fun dc m4 => rd' db dc m4 fun d5 m5 => ∃ c, d5 = .bl c ∧ Q c m5) ∧ (t = false → ∃ c, D.bl false = .bl c ∧ Q c m3)) (hm : lastMarks [op, op'] [b, c] = false := by with_unfolding_all rfl) : AT X (.Compare a [op, op'] [b, c] pos) ρ m Q := .mk fun σ H S => by
  refine WT.of (pt_chain woW woW peW peW peW hm) ?_
  have g := chain_at (Q := fun d5 m5 => ∃ c, d5 = .bl c ∧ Q c m5) ho ho' h S
  refine WE.mono (X := X) (e := a) g fun v H1 g1 => WE.mono (X := X) (e := b) g1 fun u H2 g2 => WO.mono _ _ _ _ _ (fun z H3 ⟨k, e, g3⟩ => ⟨k, e, ?_⟩) g2
  have fin : ∀ {v H'}, Post X.K m H (fun d5 m5 => ∃ c, d5 = .bl c ∧ Q c m5) v H' → ∃ k, v = .bl k ∧ PostB X.K m H Q k H' := by
    rintro v H' ⟨d, m', hm', l, r, c, e, q⟩
    subst e
    cases r
    exact ⟨c, rfl, m', hm', l, q⟩
  cases k with
  | false => rw [if_neg Bool.false_ne_true] at g3 ⊢; exact fin g3
  | true => rw [if_pos rfl] at g3 ⊢; exact g3.mono fun w H4 g4 => WO.mono _ _ _ _ _ (fun _ _ p => fin p) g4
/-! ### is None -/
def dNon : D → Bool
  | .non => true
  | _ => false
theorem rep_non {K : PySem.W.Frag} {M : Addr → Prop} {H : Hp} {d : D} {v : V} (r : Rep K M H d v) : decide (v = .non) = dNon d := by
  cases r <;> simp [dNon]
theorem oa_isN : OpA X (compareOp .Is) fun da db m Q => db = .non ∧ Q (.bl (dNon da)) m := ⟨_, op_isN, fun da db x y m H Q hm ra rb ⟨e, q⟩ => by
  subst e; cases rb; exact ⟨rfl, .now hm (by rw [rep_non ra]; exact .bl) q⟩⟩
theorem oa_notN : OpA X (compareOp .IsNot) fun da db m Q => db = .non ∧ Q (.bl (!dNon da)) m := ⟨_, op_notN, fun da db x y m H Q hm ra rb ⟨e, q⟩ => by
  subst e; cases rb; exact ⟨rfl, .now hm (by rw [rep_non ra]; exact .bl) q⟩⟩
/-! ### whole numbers -/
theorem oaI0 {f : Value → Value → Sem Value} {g : Int → Int → Int} (h : OpR X f (rI0 fun i j => .int (g i j))) : OpA X f fun da db m Q => ∃ i j, da = .int i ∧ db = .int j ∧ Q (.int (g i j)) m := ⟨_, h, fun da db x y m H Q hm ra rb ⟨i, j, e1, e2, q⟩ => by
  subst e1 e2; cases ra; cases rb; exact ⟨i, j, rfl, rfl, .now hm .int q⟩⟩
theorem oaIB {f : Value → Value → Sem Value} {g : Int → Int → Bool} (h : OpR X f (rI0 fun i j => .bl (g i j))) : OpA X f fun da db m Q => ∃ i j, da = .int i ∧ db = .int j ∧ Q (.bl (g i j)) m := ⟨_, h, fun da db x y m H Q hm ra rb ⟨i, j, e1, e2, q⟩ => by
  subst e1 e2; cases ra; cases rb; exact ⟨i, j, rfl, rfl, .now hm .bl q⟩⟩
theorem oaI {f : Value → Value → Sem Value} {C : Int → Int → Prop} {g : Int → Int → Int} (h : OpR X f (rI C fun i j => .int (g i j))) : OpA X f fun da db m Q => ∃ i j, da = .int i ∧ db = .int j ∧ C i j ∧ Q (.int (g i j)) m := ⟨_, h, fun da db x y m H Q hm ra rb ⟨i, j, e1, e2, c, q⟩ => by
  subst e1 e2; cases ra; cases rb; exact ⟨i, j, rfl, rfl, c, .now hm .int q⟩⟩
theorem oa_add : OpA X (binaryOp .Add) fun da db m Q => ∃ i j, da = .int i ∧ db = .int j ∧ Q (.int (i + j)) m := oaI0 op_add
theorem oa_sub : OpA X (binaryOp .Sub) fun da db m Q => ∃ i j, da = .int i ∧ db = .int j ∧ Q (.int (i - j)) m := oaI0 op_sub
theorem oa_mul : OpA X (binaryOp .Mult) fun da db m Q => ∃ i j, da = .int i ∧ db = .int j ∧ CMul i j ∧ Q (.int (i * j)) m := oaI op_mul
theorem oa_fdiv : OpA X (binaryOp .FloorDiv) fun da db m Q => ∃ i j, da = .int i ∧ db = .int j ∧ CDiv i j ∧ Q (.int (i / j)) m := oaI op_fdiv
theorem oa_mod : OpA X (binaryOp .Mod) fun da db m Q => ∃ i j, da = .int i ∧ db = .int j ∧ 0 < j ∧ Q (.int (i % j)) m := oaI op_mod
theorem oa_pow : OpA X (binaryOp .Pow) fun da db m Q => ∃ i j, da = .int i ∧ db = .int j ∧ CPow i j ∧ Q (.int (i ^ j.toNat)) m := oaI op_pow
theorem oa_lt : OpA X (compareOp .Lt) fun da db m Q => ∃ i j, da = .int i ∧ db = .int j ∧ Q (.bl (decide (i < j))) m := oaIB op_lt
theorem oa_le : OpA X (compareOp .LtE) fun da db m Q => ∃ i j, da = .int i ∧ db = .int j ∧ Q (.bl (decide (i ≤ j))) m := oaIB op_le
theorem oa_gt : OpA X (compareOp .Gt) fun da db m Q => ∃ i j, da = .int i ∧ db = .int j ∧ Q (.bl (decide (j < i))) m := oaIB op_gt
theorem oa_ge : OpA X (compareOp .GtE) fun da db m Q => ∃ i j, da = .int i ∧ db = .int j ∧ Q (.bl (decide (j ≤ i))) m := oaIB op_ge
/-! ### scalars -/
/-- a scalar -/
def scD : D → Option V
  | .int i => some (.int i)
  | .bl b => some (.bl b)
  | .str x => some (.str x)
  | .non => some .non
  | _ => none
theorem scD_rep {K : PySem.W.Frag} {M : Addr → Prop} {H : Hp} {d : D} {v u : V} (r : Rep K M H d v) (e : scD d = some u) : v = u := by
  cases r <;> simp [scD] at e <;> exact e
theorem oa_eq : OpA X (compareOp .Eq) fun da db m Q => ∃ x y, scD da = some x ∧ scD db = some y ∧ scal x y = true ∧ Q (.bl (decide (x = y))) m := ⟨_, op_eq, fun da db x y m H Q hm ra rb ⟨u, v, e1, e2, s, q⟩ => by
  rw [scD_rep ra e1, scD_rep rb e2]; exact ⟨s, .now hm .bl q⟩⟩
theorem oa_ne : OpA X (compareOp .NotEq) fun da db m Q => ∃ x y, scD da = some x ∧ scD db = some y ∧ scal x y = true ∧ Q (.bl (!decide (x = y))) m := ⟨_, op_ne, fun da db x y m H Q hm ra rb ⟨u, v, e1, e2, s, q⟩ => by
  rw [scD_rep ra e1, scD_rep rb e2]; exact ⟨s, .now hm .bl q⟩⟩
/-! ### arguments, displays -/
variable {es : List Expr}
theorem AA.nil {Q : List D → Mu → Prop} (q : Q [] m) : AA X [] ρ m Q := .mk fun σ H S => WA.of pa_nil ⟨[], m, S.hm, Later.refl, .nil, q⟩
theorem AA.cons {Q : List D → Mu → Prop} (h : AE X e ρ m fun d m1 => AA X es ρ m1 fun ds m2 => Q (d :: ds) m2) (hs : starEach (e :: es) X.env = (false, eval e X.env) :: starEach es X.env := by rfl) : AA X (e :: es) ρ m Q := .mk fun σ H S => by
  refine WA.of (pa_cons peW paW hs) ((h σ H S).mono fun v H1 ⟨d, m1, hm1, l1, r1, q1⟩ => ?_)
  refine (q1 σ H1 (S.later hm1 l1)).mono fun vs H2 ⟨ds, m2, hm2, l2, r2, q2⟩ => ?_
  exact ⟨d :: ds, m2, hm2, l1.trans l2, .cons (l2.rep r1) r2, q2⟩
theorem AE.tup {Q : QD} {x1} (h : AA X es ρ m fun ds m1 => ds.length ≤ sizeLine ∧ Q (.tup ds) m1) : AE X (.Tuple es x1 pos) ρ m Q := .mk fun σ H S => by
  refine WE.of (pe_tup paW) ((h σ H S).mono fun vs H1 ⟨ds, m1, hm1, l1, r1, z, q1⟩ => ⟨by rw [← r1.length]; exact z, fun p hp => ?_⟩)
  exact (Post.new hm1 hp (.tup (notdom hm1 hp) upd_same (r1.same (same_upd hp))) q1).from l1
/-- a list that is not to change -/
theorem AE.lst {Q : QD} (h : AA X es ρ m fun ds m1 => ds.length ≤ sizeLine ∧ Q (.lst ds) m1) : AE X (.List es pos) ρ m Q := .mk fun σ H S => by
  refine WE.of (pe_lst paW) ((h σ H S).mono fun vs H1 ⟨ds, m1, hm1, l1, r1, z, q1⟩ => ⟨by rw [← r1.length]; exact z, fun p hp => ?_⟩)
  exact (Post.new hm1 hp (.lst (notdom hm1 hp) (.inl upd_same) (r1.same (same_upd hp))) q1).from l1
/-- a list that is to change -/
theorem AE.lstM {Q : QD} (h : AA X es ρ m fun ds m1 => ds.length ≤ sizeLine ∧ ∀ p, m1 p = none → Q (.ref p) (updM m1 p (.lst ds))) : AE X (.List es pos) ρ m Q := .mk fun σ H S => by
  refine WE.of (pe_lst paW) ((h σ H S).mono fun vs H1 ⟨ds, m1, hm1, l1, r1, z, q1⟩ => ⟨by rw [← r1.length]; exact z, fun p hp => ?_⟩)
  exact (Post.newM (u := .lst ds) hm1 hp ⟨vs, upd_same, (Later.new hp).reps r1⟩ q1).from l1
theorem AE.dic {Q : QD} (q : Q (.dic []) m) : AE X (.Dict [] [] pos) ρ m Q := .mk fun σ H S => WE.of pe_dnewK fun p hp => Post.new S.hm hp (.dic (notdom S.hm hp) (.inl upd_same) rfl .nil) q
theorem AE.dicM {Q : QD} (q : ∀ p, m p = none → Q (.ref p) (updM m p (.dic []))) : AE X (.Dict [] [] pos) ρ m Q := .mk fun σ H S => WE.of pe_dnewK fun p hp => Post.newM (u := .dic []) S.hm hp ⟨[], upd_same, rfl, .nil⟩ q
/-- a changing list is to change no more -/
theorem AE.frz {Q : QD} (h : AE X e ρ m fun d m1 => ∃ a ds, d = .ref a ∧ m1 a = some (.lst ds) ∧ Q (.lst ds) (delM m1 a)) : AE X e ρ m Q := .mk fun σ H S =>
  (h σ H S).mono fun v H1 ⟨d, m1, hm1, l1, r1, a, ds, e1, e2, q⟩ => by
    subst e1
    cases r1
    obtain ⟨vs, z, r⟩ := hm1 _ _ e2
    exact ⟨.lst ds, delM m1 a, hm1.del, l1.trans Later.del, .lst nodel (.inl z) (Later.del.reps r), q⟩
theorem AE.frzD {Q : QD} (h : AE X e ρ m fun d m1 => ∃ a ds, d = .ref a ∧ m1 a = some (.dic ds) ∧ Q (.dic ds) (delM m1 a)) : AE X e ρ m Q := .mk fun σ H S =>
  (h σ H S).mono fun v H1 ⟨d, m1, hm1, l1, r1, a, ds, e1, e2, q⟩ => by
    subst e1
    cases r1
    obtain ⟨vs, z, e, r⟩ := hm1 _ _ e2
    exact ⟨.dic ds, delM m1 a, hm1.del, l1.trans Later.del, .dic nodel (.inl z) e (Later.del.reps r), q⟩
theorem AE.frzI {Q : QD} (h : AE X e ρ m fun d m1 => ∃ a C ds, d = .ref a ∧ m1 a = some (.ins C ds) ∧ Q (.ins C ds) (delM m1 a)) : AE X e ρ m Q := .mk fun σ H S =>
  (h σ H S).mono fun v H1 ⟨d, m1, hm1, l1, r1, a, C, ds, e1, e2, q⟩ => by
    subst e1
    cases r1
    obtain ⟨dx, vs, z, e, r⟩ := hm1 _ _ e2
    exact ⟨.ins C ds, delM m1 a, hm1.del, l1.trans Later.del, .ins nodel z e (Later.del.reps r), q⟩
/-! ### statements -/
variable {st : Stmt} {sts : List Stmt}
theorem ASs.nil {D : AEnds} (h : D.nx ρ m) : ASs X [] ρ m D := .mk fun σ H S => WSs.of pss_nil ⟨ρ, m, S.hm, Later.refl, S.rs, h⟩
theorem ASs.cons {D : AEnds} (h : AS X st ρ m { D with nx := fun ρ' m' => ASs X sts ρ' m' D }) : ASs X (st :: sts) ρ m D := .mk fun σ H S => by
  refine WSs.of (pss_cons psW pssW) ?_
  refine WS.mono (h σ H S) (fun σ' H' ⟨ρ', m', hm, l, rs, q⟩ => ?_) (fun _ _ p => p) (fun _ _ p => p) fun _ _ p => p
  exact WSs.from l (q σ' H' ⟨hm, rs⟩)
/-- the ways join: what holds behind the statement -/
theorem ASs.cut {D : AEnds} (R : Rho → Mu → Prop) (h : AS X st ρ m { D with nx := R }) (h2 : ∀ ρ' m', R ρ' m' → ASs X sts ρ' m' D) : ASs X (st :: sts) ρ m D := .mk fun σ H S => by
  refine WSs.of (pss_cons psW pssW) ?_
  refine WS.mono (h σ H S) (fun σ' H' ⟨ρ', m', hm, l, rs, q⟩ => ?_) (fun _ _ p => p) (fun _ _ p => p) fun _ _ p => p
  exact WSs.from l (h2 ρ' m' q σ' H' ⟨hm, rs⟩)
theorem ASs.one {D : AEnds} (h : AS X st ρ m D) : ASs X [st] ρ m D := .mk fun σ H S => WSs.of (pss_one psW) (h σ H S)
theorem ASs.imp {D D' : AEnds} (h : ASs X sts ρ m D) (w1 : ∀ ρ m, D.nx ρ m → D'.nx ρ m) (w2 : ∀ d m, D.rt d m → D'.rt d m) (w3 : ∀ ρ m, D.bk ρ m → D'.bk ρ m) (w4 : ∀ ρ m, D.ct ρ m → D'.ct ρ m) : ASs X sts ρ m D' := .mk fun σ H S =>
  (h σ H S).mono (fun _ _ ⟨ρ', m', a, b, c, q⟩ => ⟨ρ', m', a, b, c, w1 _ _ q⟩) (fun _ _ ⟨ρ', m', a, b, c, q⟩ => ⟨ρ', m', a, b, c, w2 _ _ q⟩) (fun _ _ ⟨ρ', m', a, b, c, q⟩ => ⟨ρ', m', a, b, c, w3 _ _ q⟩) fun _ _ ⟨ρ', m', a, b, c, q⟩ => ⟨ρ', m', a, b, c, w4 _ _ q⟩
theorem AS.pass {D : AEnds} (h : D.nx ρ m) : AS X (.Pass pos) ρ m D := .mk fun σ H S => WS.of ps_pass ⟨ρ, m, S.hm, Later.refl, S.rs, h⟩
theorem AS.brk {D : AEnds} (h : D.bk ρ m) : AS X (.Break pos) ρ m D := .mk fun σ H S => WS.of ps_break ⟨ρ, m, S.hm, Later.refl, S.rs, h⟩
theorem AS.cont {D : AEnds} (h : D.ct ρ m) : AS X (.Continue pos) ρ m D := .mk fun σ H S => WS.of ps_continue ⟨ρ, m, S.hm, Later.refl, S.rs, h⟩
theorem AS.ret {D : AEnds} (h : AE X e ρ m D.rt) : AS X (.Return (some e) pos) ρ m D := .mk fun σ H S => WS.of (ps_ret peW) ((h σ H S).mono fun _ _ p => p)
theorem AS.retN {D : AEnds} (h : D.rt .non m) : AS X (.Return none pos) ρ m D := .mk fun σ H S => WS.of ps_retN (Post.now S.hm .non h)
theorem AS.expr {D : AEnds} (h : AE X e ρ m fun _ m1 => D.nx ρ m1) (hs : swapsWith e none pos.line X.env = pure false := by rfl) : AS X (.Expr e pos) ρ m D := .mk fun σ H S =>
  WS.of (ps_expr peW hs) ((h σ H S).mono fun v H1 ⟨d, m1, hm1, l1, r1, q⟩ => ⟨ρ, m1, hm1, l1, S.rs.later l1, q⟩)
theorem AS.ifs {D : AEnds} {c : Expr} {as bs : List Stmt} (h : AT X c ρ m fun t m1 => (t = true → ASs X as ρ m1 D) ∧ (t = false → ASs X bs ρ m1 D)) : AS X (.If c as bs pos) ρ m D := .mk fun σ H S => by
  refine WS.of (ps_if ptW pssW pssW) ((h σ H S).mono fun t H1 ⟨m1, hm1, l1, q1, q2⟩ => ?_)
  cases t with
  | true => rw [if_pos rfl]; exact WSs.from l1 (q1 rfl σ H1 (S.later hm1 l1))
  | false => rw [if_neg Bool.false_ne_true]; exact WSs.from l1 (q2 rfl σ H1 (S.later hm1 l1))
/-- slots: SetR i d ρ ρ' : ρ' is ρ with d at i -/
inductive SetR : Nat → D → Rho → Rho → Prop
  | z {d : D} {x : Option D} {r : Rho} : SetR 0 d (x :: r) (some d :: r)
  | s {n : Nat} {d : D} {x : Option D} {r r' : Rho} (h : SetR n d r r') : SetR (n + 1) d (x :: r) (x :: r')
theorem SetR.eq : ∀ {i : Nat} {d : D} {ρ ρ' : Rho}, SetR i d ρ ρ' → ρ' = ρ.set i (some d)
  | _, _, _, _, .z => rfl
  | _, _, _, _, .s h => by rw [h.eq] <;> rfl
theorem AS.set {D : AEnds} {i : Nat} {x : Str} {pos' : Pos} (hx : XF X fb k) (hN : Nth fb.N i x) (hv : fb.sto x = true) (h : AE X e ρ m fun d m1 => ∃ ρ', SetR i d ρ ρ' ∧ D.nx ρ' m1) (hs : swapsWith e (some (.Name x pos')) pos.line X.env = pure false := by rfl) : AS X (.Assign [.Name x pos'] e pos) ρ m D := .mk fun σ H S => by
  obtain ⟨l, f⟩ := hx.sto x hv
  refine WS.of (ps_set hx.nd (by rw [hx.nN]; exact hN.at) l peW hs f) ((h σ H S).mono fun v H1 ⟨d, m1, hm1, l1, r1, ρ', e, q⟩ => ?_)
  rw [e.eq] at q
  exact ⟨_, m1, hm1, l1, (S.rs.later l1).set i r1, q⟩
theorem AG.name {Q : Rho → Mu → Prop} {i : Nat} {x : Str} {d : D} (hx : XF X fb k) (hN : Nth fb.N i x) (hv : fb.sto x = true) (h : ∃ ρ', SetR i d ρ ρ' ∧ Q ρ' m) : AG X (.Name x pos) d ρ m Q := .mk fun v σ H S r pins s u I rv => by
  obtain ⟨l, f⟩ := hx.sto x hv
  obtain ⟨ρ', e, q⟩ := h
  rw [e.eq] at q
  exact (pg_name hx.nd (by rw [hx.nN]; exact hN.at) l f).run pins s σ H v u _ I rv ⟨_, m, S.hm, Later.refl, S.rs.set i r, q⟩
theorem AS.asg {D : AEnds} {tg : Expr} (h : AE X e ρ m fun d m1 => AG X tg d ρ m1 D.nx) (hs : swapsWithSole [tg] e pos.line X.env = pure false := by rfl) (hw : swappedStores [tg] e X.env = pure none := by rfl) (h1 : (assignEach [tg] X.env).map (·.2) = [assign tg X.env] := by rfl) : AS X (.Assign [tg] e pos) ρ m D := .mk fun σ H S => by
  refine WS.of (ps_asg peW pgW hs hw h1) ((h σ H S).mono fun v H1 ⟨d, m1, hm1, l1, r1, q⟩ => ?_)
  exact (q v σ H1 (S.later hm1 l1) r1).mono fun _ _ p => p.from l1
theorem AS.never {D : AEnds} (h : False) : AS X st ρ m D := h.elim
end
end Ab
/-! A2: promises of defs; calls, attributes, methods, properties, instances. -/
namespace Ab
open L2 PySem PySem.Spec PyProof.Rows

/-- a def's abstract promise: the arguments, the store, what is wanted of the result -/
abbrev ASp := List D → Mu → QD → Prop
def liftSp (K : PySem.W.Frag) (asp : ASp) : Sp := fun vs H Q _ => ∃ ds m Q', HM K m H ∧ Reps K (dom m) H ds vs ∧ asp ds m Q' ∧ ∀ d m' v H', HM K m' H' → Later m H m' H' → Rep K (dom m') H' d v → Q' d m' → Q v H'
section
variable (P : Program) (w : World) (K : PySem.W.Frag) (mg : Str → Option Value) (base : Heap)
/-- the def at f keeps the promise -/
def AFn (k : Nat) (f : Addr) (asp : ASp) : Prop := FnR P w K mg base CX0 k f (liftSp K asp)
/-- .. with its parameters, for other ways of binding -/
structure AFd (k : Nat) (f : Addr) (fd : FuncData) (ps : List Str) (asp : ASp) : Prop where
  ok : FnOk P w K mg base CX0 k f fd ps (liftSp K asp)
  len : ∀ ds m Q, asp ds m Q → ds.length = ps.length
structure XG (X : Cx) : Prop where
  prog : X.prog = P
  w : X.w = w
  K : X.K = K
  mg : X.mg = mg
  base : X.base = base
end
section
variable {P : Program} {w : World} {K : PySem.W.Frag} {mg : Str → Option Value} {base : Heap} {k j : Nat} {f : Addr} {fd : FuncData} {ps : List Str} {asp asp' : ASp}
theorem AFn.mono (F : AFn P w K mg base j f asp) (h : j ≤ k) : AFn P w K mg base k f asp := FnR.mono F h
theorem AFn.imp (F : AFn P w K mg base k f asp) (h : ∀ ds m Q, asp' ds m Q → asp ds m Q) : AFn P w K mg base k f asp' := FnR.imp F fun vs H Q E ⟨ds, m, Q', a, b, c, e⟩ => ⟨ds, m, Q', a, b, h _ _ _ c, e⟩
theorem AFd.pos (F : AFd P w K mg base k f fd ps asp) (hb : Binds K fd ps []) : AFn P w K mg base k f asp := (F.ok.raw hb .nil).imp fun vs H Q E h => by rw [List.append_nil]; exact h
/-- with defaults -/
theorem AFd.dfl (F : AFd P w K mg base k f fd ps asp) {ds : List Value} {dvs : List V} {dds : List D} (hb : Binds K fd ps ds) (hd : Vals dvs ds) (hr : ∀ M H, Reps K M H dds dvs) : AFn P w K mg base k f (fun es m Q => asp (es ++ dds) m Q) :=
  (F.ok.raw hb hd).imp fun vs H Q E ⟨es, m, Q', a, b, c, e⟩ => ⟨es ++ dds, m, Q', a, b.append (hr _ _), c, e⟩
/-- the slots at the entry -/
abbrev startR (N : List Str) (ds : List D) : Rho := ds.map some ++ List.replicate (N.length - ds.length) none
theorem startR_ok {m : Mu} {H : Hp} {N : List Str} {ds : List D} {vs : List V} (r : Reps K (dom m) H ds vs) : RS K (dom m) H (startR N ds) (L2.start N vs) := by
  have hl := r.length
  refine ⟨by simp [startR, L2.start, hl], fun i d e => ?_⟩
  unfold startR at e
  unfold L2.start
  by_cases hi : i < ds.length
  · rw [List.getElem?_append_left (by simpa using hi), List.getElem?_map] at e
    cases q : ds[i]? with
    | none => rw [q] at e; cases e
    | some d' =>
      rw [q] at e
      cases e
      obtain ⟨v, h1, h2⟩ := r.get q
      exact ⟨v, by rw [List.getElem?_append_left (by simpa [← hl] using hi), List.getElem?_map, h1] <;> rfl, h2⟩
  · rw [List.getElem?_append_right (by simpa using hi), List.getElem?_replicate] at e
    split at e <;> cases e
theorem nd_of {N : List Str} {sc : Scope} {ps : List Str} (S : FnScope N ps sc) : N.Nodup := S.nd
/-- the frame of a def's body -/
theorem xf_start {N : List Str} {sc : Scope} {ps : List Str} {qual : Str} {cdv : Value} {A : Around} {outer : List Env} {s : Shared} {H : Hp} {E : XK} (S : FnScope N ps sc) (hr : Room k (A.deeper (envOfC qual sc s.heap.objs.size f cdv))) :
    XF (cxOf CX0 P w K mg base N qual sc f cdv A outer s H E).nox (fbOf N sc) k where
  nN := rfl
  nd := S.nd
  calm := rfl
  room := hr
  vis := fun x h => visB_ok h
  sto := fun x h => ⟨stoB_ok h, .inl rfl⟩
  glb := fun x h => glbB_ok h
/-- THE RULE for a def by its body -/
theorem afd_of {x qual : Str} {params : Arguments} {body : List Stmt} {scope : Scope} {dvs : List V} {kws : List (Str × V)} {N : List Str} (F : FunD K x qual params body scope dvs kws f fd) (S : FnScope N ps scope)
    (len : ∀ ds m Q, asp ds m Q → ds.length = ps.length)
    (h : ∀ X : Cx, XG P w K mg base X → XF X (fbOf N scope) k → X.xe = (fun _ _ => False) → X.env.scope = scope → ∀ ds m Q, asp ds m Q → ASs X body (startR N ds) m { nx := fun _ m' => Q .non m', rt := Q }) : AFd P w K mg base (k + 1) f fd ps asp := by
  refine ⟨F.ok S (fun vs H Q E ⟨ds, m, Q', _, r, q, _⟩ => r.length.symm.trans (len _ _ _ q)) fun cdv A outer s H vs Q E hr ⟨ds, m, Q', hm, r, q, fin⟩ => ?_, len⟩
  refine ⟨WSs (cxOf CX0 P w K mg base N qual scope f cdv A outer s H E).nox body, pssW.nox, ?_⟩
  refine WSs.mono ((h (cxOf CX0 P w K mg base N qual scope f cdv A outer s H E).nox ⟨rfl, rfl, rfl, rfl, rfl⟩ (xf_start S hr) rfl rfl ds m Q' q).run _ _ ⟨hm, startR_ok r⟩) ?_ ?_ ?_ ?_
  · rintro σ' H' ⟨ρ', m', hm', l, rs, q'⟩
    exact fin .non m' .non H' hm' l .non q'
  · rintro v H' ⟨d, m', hm', l, rd, q'⟩
    exact fin d m' v H' hm' l rd q'
  · rintro σ' H' ⟨ρ', m', hm', l, rs, q'⟩
    exact q'
  · rintro σ' H' ⟨ρ', m', hm', l, rs, q'⟩
    exact q'
end

/-! ### calls -/
section
variable {X : Cx} {fb : FB} {k j : Nat} {ρ : Rho} {m : Mu} {e o : Expr} {es : List Expr} {x nm : Str} {p pos apos : Pos} {f C : Addr} {asp : ASp}
theorem AFn.run (F : AFn X.prog X.w X.K X.mg X.base j f asp) (hr : Room j X.A) {ds : List D} {vs : List V} {us : List Value} {pins : List (Addr × Obj)} {s : Shared} {σ : St} {H : Hp} {Q : QD} {Q' : VK} (I : Inv X pins σ H s) (r : Vals vs us) (hm : HM X.K m H) (rs : Reps X.K (dom m) H ds vs) (q : asp ds m Q)
    (fin : ∀ v H', Post X.K m H Q v H' → Q' v H') : wpAny (model X.prog X.w) X.A (call (.ref f) us) (EP X pins σ Q') X.xe s :=
  wpAny_call (run_fnR (E := E0) F hr pass0 I r ⟨ds, m, Q, hm, rs, q, fun d m' v H' a b c e => fin v H' ⟨d, m', a, b, c, e⟩⟩)
theorem AE.call {Q : QD} (F : AFn X.prog X.w X.K X.mg X.base j f asp) (hx : XF X fb k) (hj : j ≤ k) (hg : fb.glb x = true) (hm : X.mg x = some (.ref f)) (hk : PySem.W.keepIn X.K (.ref f) = true) (h : AA X (e :: es) ρ m fun ds m1 => asp ds m1 Q)
    (hdb : (x == ("__debug__" : Str)) = false := by decide +kernel) (he : starEach (e :: es) X.env = (false, eval e X.env) :: starEach es X.env := by rfl) (hpl : (backTo pos (starEach es X.env)).any (·.1) = false := by rfl) : AE X (.Call (.Name x p) (e :: es) [] pos) ρ m Q := .mk fun σ H S pins s I => by
  refine wpAny_Call_Name_kw (ld_glob I (hx.glb x hg) hm ?_ hdb)
  refine PySem.W.callWith_K (h₀ := X.base) I.ok.mod.kin hk (thn (h σ H S pos pins s I) fun us s1 ⟨vs, H1, I1, r, ds, m1, hm1, l1, r1, q1⟩ => ⟨I1.kIn, ?_⟩) he hpl
  exact F.run (hx.room.mono hj) I1 r hm1 r1 q1 fun _ _ p => p.from l1
theorem AE.call0 {Q : QD} (F : AFn X.prog X.w X.K X.mg X.base j f asp) (hx : XF X fb k) (hj : j ≤ k) (hg : fb.glb x = true) (hm : X.mg x = some (.ref f)) (hk : PySem.W.keepIn X.K (.ref f) = true) (h : asp [] m Q)
    (hdb : (x == ("__debug__" : Str)) = false := by decide +kernel) : AE X (.Call (.Name x p) [] [] pos) ρ m Q := .mk fun σ H S pins s I => by
  refine wpAny_Call_Name_kw (ld_glob I (hx.glb x hg) hm ?_ hdb)
  exact PySem.W.callWith_K0 I.kIn hk (F.run (hx.room.mono hj) I .nil S.hm .nil h fun _ _ p => p)
/-- o.m(e, ..) of an instance of C -/
theorem AE.meth {Q : QD} {pl : Sem Bool} (c : Cls X.K C) (hm : Meth X.K C nm f) (F : AFn X.prog X.w X.K X.mg X.base j f asp) (hx : XF X fb k) (hj : j ≤ k)
    (h : AE X o ρ m fun d m1 => ∃ fs, IsI m1 d C fs ∧ fs.lookup nm = none ∧ AA X (e :: es) ρ m1 fun ds m2 => asp (d :: ds) m2 Q)
    (hst : starEach (e :: es) X.env = (false, eval e X.env) :: starEach es X.env := by rfl) (hpl : (backTo pos (starEach es X.env)).any (·.1) = false := by rfl)
    (ht : eval (.Call (.Attribute o nm apos) (e :: es) [] pos) X.env = (do let ov ← eval o X.env; standAt apos.atName; let (f, first) ← holding [ov] (getMethod ov nm pl); callWith pos f first (backTo pos (starEach (e :: es) X.env)) (backToKw pos (keywordEach [] X.env))) := by rfl) :
    AE X (.Call (.Attribute o nm apos) (e :: es) [] pos) ρ m Q := .mk fun σ H S pins s I => by
  refine PySem.W.methodCall_KW (pl := pl) (thn (h σ H S pins s I) fun u s1 ⟨x, H1, I1, rx, d, m1, hm1, l1, r1, fs, hi, hl, q1⟩ => ?_) ht
  obtain ⟨a, dx, gs, ex, ea, eg, rg⟩ := hi.at hm1 r1
  subst ex
  obtain rfl : u = Value.ref a := rx
  refine getmeth_ok I1 ea c hm (lookup_no eg hl) ?_
  refine PySem.W.callWith_K (first := [.ref a]) (h₀ := X.base) I.ok.mod.kin hm.kp (thn (q1 σ H1 (S.later hm1 l1) pos pins s1 I1) fun us s2 ⟨vs, H2, I2, r, ds, m2, hm2, l2, r2, q2⟩ => ⟨I2.kIn, ?_⟩) hst hpl
  exact F.run (us := .ref a :: us) (vs := .ref a :: vs) (hx.room.mono hj) I2 (.cons rfl r) hm2 (.cons (l2.rep r1) r2) q2 fun _ _ p => p.from (l1.trans l2)
theorem AE.meth0 {Q : QD} {pl : Sem Bool} (c : Cls X.K C) (hm : Meth X.K C nm f) (F : AFn X.prog X.w X.K X.mg X.base j f asp) (hx : XF X fb k) (hj : j ≤ k)
    (h : AE X o ρ m fun d m1 => ∃ fs, IsI m1 d C fs ∧ fs.lookup nm = none ∧ asp [d] m1 Q)
    (ht : eval (.Call (.Attribute o nm apos) [] [] pos) X.env = (do let ov ← eval o X.env; standAt apos.atName; let (f, first) ← holding [ov] (getMethod ov nm pl); callWith pos f first (backTo pos (starEach [] X.env)) (backToKw pos (keywordEach [] X.env))) := by rfl) :
    AE X (.Call (.Attribute o nm apos) [] [] pos) ρ m Q := .mk fun σ H S pins s I => by
  refine PySem.W.methodCall_KW (pl := pl) (thn (h σ H S pins s I) fun u s1 ⟨x, H1, I1, rx, d, m1, hm1, l1, r1, fs, hi, hl, q1⟩ => ?_) ht
  obtain ⟨a, dx, gs, ex, ea, eg, rg⟩ := hi.at hm1 r1
  subst ex
  obtain rfl : u = Value.ref a := rx
  refine getmeth_ok I1 ea c hm (lookup_no eg hl) ?_
  exact PySem.W.callWith_K0 (first := [.ref a]) I1.kIn hm.kp (F.run (us := [.ref a]) (vs := [.ref a]) (hx.room.mono hj) I1 (.cons rfl .nil) hm1 (.cons r1 .nil) q1 fun _ _ p => p.from l1)
/-- e.f, a field -/
theorem AE.fld {Q : QD} (h : AE X e ρ m fun d m1 => ∃ C fs v, IsI m1 d C fs ∧ Cls X.K C ∧ NoAttr X.K C nm ∧ fs.lookup nm = some v ∧ Q v m1) (hb : attributeBase e nm X.env (eval e X.env) = eval e X.env := by rfl) : AE X (.Attribute e nm pos) ρ m Q := .mk fun σ H S => by
  refine WE.of (pe_fld peW hb) ((h σ H S).mono fun x H1 ⟨d, m1, hm1, l1, r1, C, fs, v, hi, c, n, l, q⟩ => ?_)
  obtain ⟨a, dx, gs, ex, ea, eg, rg⟩ := hi.at hm1 r1
  obtain ⟨u, hu, ru⟩ := lookup_at eg (fun i d h => rg.get h) l
  exact ⟨a, C, dx, gs, u, ex, ea, c, n, hu, v, m1, hm1, l1, ru, q⟩
/-- e.f, a property of C -/
theorem AE.prop {Q : QD} {pa : Addr} {fd : FuncData} {ps : List Str} (c : Cls X.K C) (hp : PropOf X.K C nm pa f) (F : AFd X.prog X.w X.K X.mg X.base j f fd ps asp) (hb : Binds X.K fd ps []) (hx : XF X fb k) (hj : j + 1 ≤ k)
    (h : AE X e ρ m fun d m1 => ∃ fs, IsI m1 d C fs ∧ asp [d] m1 Q) (hab : attributeBase e nm X.env (eval e X.env) = eval e X.env := by rfl) : AE X (.Attribute e nm pos) ρ m Q := .mk fun σ H S => by
  refine WE.of (pe_prop peW c hp F.ok (hx.room.mono hj) hb .nil pass0 (E := E0) hab) ((h σ H S).mono fun x H1 ⟨d, m1, hm1, l1, r1, fs, hi, q⟩ => ?_)
  obtain ⟨a, dx, gs, ex, ea, eg, rg⟩ := hi.at hm1 r1
  subst ex
  exact ⟨a, dx, gs, rfl, ea, [d], m1, Q, hm1, .cons r1 .nil, q, fun d' m' v H' a b c e => Post.from l1 ⟨d', m', a, b, c, e⟩⟩
/-! ### instances -/
def putD (f : Str) (v : D) : List (Str × D) → List (Str × D)
  | [] => [(f, v)]
  | (g, u) :: r => if g = f then (g, v) :: r else (g, u) :: putD f v r
theorem putF_fst (f : Str) (v : V) (d : D) : ∀ {gs : List (Str × V)} {fs : List (Str × D)}, gs.map (·.1) = fs.map (·.1) → (putF f v gs).map (·.1) = (putD f d fs).map (·.1)
  | [], [], _ => rfl
  | [], _ :: _, e => by cases e
  | _ :: _, [], e => by cases e
  | (g, u) :: gs, (g', u') :: fs, e => by
    simp only [List.map_cons, List.cons.injEq] at e
    obtain ⟨e1, e2⟩ := e
    subst e1
    unfold putF putD
    split
    · simp [e2]
    · simp [putF_fst f v d e2]
theorem putF_snd {K : PySem.W.Frag} {M : Addr → Prop} {H : Hp} {f : Str} {v : V} {d : D} (r : Rep K M H d v) : ∀ {gs : List (Str × V)} {fs : List (Str × D)}, gs.map (·.1) = fs.map (·.1) → Reps K M H (fs.map (·.2)) (gs.map (·.2)) → Reps K M H ((putD f d fs).map (·.2)) ((putF f v gs).map (·.2))
  | [], [], _, _ => .cons r .nil
  | [], _ :: _, e, _ => by cases e
  | _ :: _, [], e, _ => by cases e
  | (g, u) :: gs, (g', u') :: fs, e, t => by
    simp only [List.map_cons, List.cons.injEq] at e
    obtain ⟨e1, e2⟩ := e
    subst e1
    cases t with
    | cons h t =>
      unfold putF putD
      split
      · exact .cons r t
      · exact .cons h (putF_snd r e2 t)
theorem fs_len {gs : List (Str × V)} {fs : List (Str × D)} (e : gs.map (·.1) = fs.map (·.1)) : gs.length = fs.length := by
  have := congrArg List.length e; simpa using this
/-- o.f = e -/
theorem AS.fld {value : Expr} {pos' : Pos} {D' : AEnds} (h : AE X value ρ m fun d m1 => AE X o ρ m1 fun q m2 => ∃ a C fs, q = .ref a ∧ m2 a = some (.ins C fs) ∧ Cls X.K C ∧ NoAttr X.K C nm ∧ fs.length < 1000 ∧ D'.nx ρ (updM m2 a (.ins C (putD nm d fs))))
    (hs : swapsWith value (some (.Attribute o nm pos')) pos.line X.env = pure false := by rfl) : AS X (.Assign [.Attribute o nm pos'] value pos) ρ m D' := .mk fun σ H S => by
  refine WS.of (ps_fld peW peW hs) ((h σ H S).mono fun v H1 ⟨d, m1, hm1, l1, r1, q1⟩ => ?_)
  refine (q1 σ H1 (S.later hm1 l1)).mono fun x H2 ⟨q, m2, hm2, l2, r2, a, C, fs, e, ea, c, n, hz, hn⟩ => ?_
  subst e
  cases r2
  obtain ⟨dx, gs, z, eg, rg⟩ := hm2 _ _ ea
  have dm : dom m2 a := by unfold dom; rw [ea]; simp
  have lw : Later m2 H2 (updM m2 a (.ins C (putD nm d fs))) (upd H2 a (.ins C dx (putF nm v gs))) := Later.write dm
  refine ⟨a, C, dx, gs, rfl, z, c, n, by rw [fs_len eg]; exact hz, ρ, _, hm2.put (u := .ins C (putD nm d fs)) (.inr dm) ⟨dx, _, upd_same, putF_fst _ _ _ eg, putF_snd (lw.rep (l2.rep r1)) eg (lw.reps rg)⟩, l1.trans (l2.trans lw), S.rs.later (l1.trans (l2.trans lw)), hn⟩
/-- a new instance, its __init__ by its promise -/
theorem make_ready {m : Mu} {H : Hp} {x dx C : Addr} (K : PySem.W.Frag) (hm : HM K m H) (nx : H x = none) (nd : H dx = none) (ne : dx ≠ x) :
    HM K (updM m x (.ins C [])) (upd (upd H dx (.own x)) x (.ins C dx [])) ∧ Later m H (updM m x (.ins C [])) (upd (upd H dx (.own x)) x (.ins C dx [])) := by
  have nx' : upd H dx (.own x) x = none := by rw [upd_ne (Ne.symm ne)]; exact nx
  have h1 := hm.same (same_upd (o := .own x) nd)
  exact ⟨h1.put (u := .ins C []) (.inl nx') ⟨dx, [], upd_same, rfl, .nil⟩, (Later.same (same_upd nd)).trans (Later.new nx')⟩
theorem AE.make {Q : QD} (M : Mk X.K C f) (F : AFn X.prog X.w X.K X.mg X.base j f asp) (hx : XF X fb k) (hj : j + 1 ≤ k) (hg : fb.glb x = true) (hm : X.mg x = some (.ref C))
    (h : AA X (e :: es) ρ m fun ds m1 => ∀ a, m1 a = none → asp (.ref a :: ds) (updM m1 a (.ins C [])) fun d m2 => d = .non ∧ Q (.ref a) m2)
    (hdb : (x == ("__debug__" : Str)) = false := by decide +kernel) (he : starEach (e :: es) X.env = (false, eval e X.env) :: starEach es X.env := by rfl) (hpl : (backTo pos (starEach es X.env)).any (·.1) = false := by rfl) : AE X (.Call (.Name x p) (e :: es) [] pos) ρ m Q := .mk fun σ H S => by
  refine WE.of (StX.pe_makeR M (E := E0) F (hx.room.mono hj) (hx.glb x hg) hm pass0 paW hdb he hpl) ((h σ H S).mono fun vs H1 ⟨ds, m1, hm1, l1, r1, q1⟩ a dx na nd ne => ?_)
  obtain ⟨h2, l2⟩ := make_ready (C := C) X.K hm1 na nd ne
  exact ⟨.ref a :: ds, _, _, h2, .cons .ref (l2.reps r1), q1 a (hm1.fresh na), fun d m' v H' a b c ⟨e, q⟩ => by subst e; cases c; exact ⟨rfl, _, m', a, l1.trans (l2.trans b), .ref, q⟩⟩
/-- keywords: the values, from the left -/
def WK (X : Cx) (kws : List Keyword) : TA := fun σ H Q => ∀ (pos : Pos) pins s, Inv X pins σ H s → wpAny (model X.prog X.w) X.A (evalAll ((backToKw pos (keywordEach kws X.env)).map (·.2))) (AP X pins σ Q) X.xe s
structure AK (X : Cx) (kws : List Keyword) (ρ : Rho) (m : Mu) (Q : List D → Mu → Prop) : Prop where
  run : ∀ σ H, SR X.K ρ m σ H → WK X kws σ H (PostA X.K m H Q)
instance {X : Cx} {kws : List Keyword} {ρ : Rho} {m : Mu} {Q : List D → Mu → Prop} : CoeFun (AK X kws ρ m Q) (fun _ => ∀ σ H, SR X.K ρ m σ H → WK X kws σ H (PostA X.K m H Q)) := ⟨AK.run⟩
theorem pkW {kws : List Keyword} : PK X kws (WK X kws) := ⟨fun pos pins s _ _ _ I h => h pos pins s I⟩
theorem WK.mono {kws : List Keyword} {σ : St} {H : Hp} {Q Q' : List V → Hp → Prop} (h : WK X kws σ H Q) (w : ∀ v H', Q v H' → Q' v H') : WK X kws σ H Q' := fun pos pins s I =>
  thn (h pos pins s I) fun _ _ ⟨v, H', I', r, q⟩ => ⟨v, H', I', r, w _ _ q⟩
theorem AK.nil {Q : List D → Mu → Prop} (q : Q [] m) : AK X [] ρ m Q := .mk fun σ H S pos pins s I => pk_nil.run pos pins s σ H _ I ⟨[], m, S.hm, Later.refl, .nil, q⟩
theorem AK.cons {Q : List D → Mu → Prop} {kws : List Keyword} {kn : Option Str} {kp : Pos} (h : AE X e ρ m fun d m1 => AK X kws ρ m1 fun ds m2 => Q (d :: ds) m2) : AK X (⟨kn, e, kp⟩ :: kws) ρ m Q := .mk fun σ H S pos pins s I => by
  refine (pk_cons peW pkW).run pos pins s σ H _ I ((h σ H S).mono fun v H1 ⟨d, m1, hm1, l1, r1, q1⟩ => ?_)
  refine WK.mono (X := X) (q1 σ H1 (S.later hm1 l1)) fun vs H2 ⟨ds, m2, hm2, l2, r2, q2⟩ => ?_
  exact ⟨d :: ds, m2, hm2, l1.trans l2, .cons (l2.rep r1) r2, q2⟩
/-- C(e, .., k = v, ..): the keywords are the last parameters, in their order -/
theorem AE.makeK {Q : QD} {fd : FuncData} {ps ks : List Str} {kws : List Keyword} {n : Nat} {g : List Value → List Value → List Value} (M : Mk X.K C f) (F : AFd X.prog X.w X.K X.mg X.base j f fd ps asp) (hx : XF X fb k) (hj : j + 1 ≤ k) (hg : fb.glb x = true) (hm : X.mg x = some (.ref C)) (hb : KBn X.K fd ps (n + 1) ks g (fun vs zs => vs ++ zs))
    (h : AA X (e :: es) ρ m fun ds m1 => AK X kws ρ m1 fun zs m2 => ds.length = n ∧ zs.length = ks.length ∧ ∀ a, m2 a = none → asp (.ref a :: (ds ++ zs)) (updM m2 a (.ins C [])) fun d m3 => d = .non ∧ Q (.ref a) m3)
    (hall : (backToKw pos (keywordEach kws X.env)).all (·.1.isSome) = true := by rfl) (hks : (backToKw pos (keywordEach kws X.env)).filterMap (·.1) = ks := by rfl) (hdb : (x == ("__debug__" : Str)) = false := by decide +kernel)
    (he : starEach (e :: es) X.env = (false, eval e X.env) :: starEach es X.env := by rfl) (hpl : ((backTo pos (starEach (e :: es) X.env)).any (·.1) || (backToKw pos (keywordEach kws X.env)).any (·.1.isNone)) = false := by rfl) : AE X (.Call (.Name x p) (e :: es) kws pos) ρ m Q := .mk fun σ H S => by
  refine WE.of (pe_makeK M F.ok (hx.room.mono hj) (hx.glb x hg) hm hb (E := E0) pass0 paW pkW hall hks hdb he hpl) ((h σ H S).mono fun vs H1 ⟨ds, m1, hm1, l1, r1, q1⟩ => ?_)
  refine WK.mono (X := X) (q1 σ H1 (S.later hm1 l1)) fun us H2 ⟨zs, m2, hm2, l2, r2, n1, n2, q2⟩ => ?_
  refine ⟨by rw [← r1.length]; exact n1, by rw [← r2.length]; exact n2, fun a dx na nd ne => ?_⟩
  obtain ⟨h2, l3⟩ := make_ready (C := C) X.K hm2 na nd ne
  exact ⟨.ref a :: (ds ++ zs), _, _, h2, .cons .ref (l3.reps ((l2.reps r1).append r2)), q2 a (hm2.fresh na), fun d m' v H' a b c ⟨e, q⟩ => by subst e; cases c; exact ⟨rfl, _, m', a, l1.trans (l2.trans (l3.trans b)), .ref, q⟩⟩
theorem AE.make0 {Q : QD} (M : Mk X.K C f) (F : AFn X.prog X.w X.K X.mg X.base j f asp) (hx : XF X fb k) (hj : j + 1 ≤ k) (hg : fb.glb x = true) (hm : X.mg x = some (.ref C))
    (h : ∀ a, m a = none → asp [.ref a] (updM m a (.ins C [])) fun d m2 => d = .non ∧ Q (.ref a) m2) (hdb : (x == ("__debug__" : Str)) = false := by decide +kernel) : AE X (.Call (.Name x p) [] [] pos) ρ m Q := .mk fun σ H S pins s I => by
  refine wpAny_Call_Name_kw (ld_glob I (hx.glb x hg) hm ?_ hdb)
  refine PySem.W.callWith_K0 I.kIn M.kp (StX.run_makeR (us := []) (E := E0) M F (hx.room.mono hj) pass0 I .nil fun a dx na nd ne => ?_)
  obtain ⟨h2, l2⟩ := make_ready (C := C) X.K S.hm na nd ne
  exact ⟨[.ref a], _, _, h2, .cons .ref .nil, h a (S.hm.fresh na), fun d m' v H' a b c ⟨e, q⟩ => by subst e; cases c; exact ⟨rfl, _, m', a, l2.trans b, .ref, q⟩⟩
/-- *e in arguments -/
theorem AA.star {Q : List D → Mu → Prop} {sp_ : Pos} (h : AE X e ρ m fun d m1 => ∃ ds, IsQ m1 d ds ∧ AA X es ρ m1 fun zs m2 => Q (ds ++ zs) m2) (hs : starEach (.Starred e sp_ :: es) X.env = (true, eval e X.env) :: starEach es X.env := by rfl) : AA X (.Starred e sp_ :: es) ρ m Q := .mk fun σ H S => by
  refine WA.of (StX.pa_star peW paW hs) ((h σ H S).mono fun v H1 ⟨d, m1, hm1, l1, r1, ds, hi, q1⟩ => ?_)
  obtain ⟨a, vs, ev, sq, rs⟩ := hi.at hm1 r1
  refine ⟨a, vs, ev, sq.symm, WA.mono (X := X) (q1 σ H1 (S.later hm1 l1)) fun us H2 ⟨zs, m2, hm2, l2, r2, q2⟩ => ?_⟩
  exact ⟨ds ++ zs, m2, hm2, l1.trans l2, (l2.reps rs).append r2, q2⟩
end
end Ab
/-! A3: walks, loops, comprehensions. -/
namespace Ab
open L2 PySem PySem.Spec PyProof.Rows

/-! ### what is walked -/
/-- J hands out ds as long as G stands -/
def JOk (K : PySem.W.Frag) (J : It) (ds : List D) (G : Mu → Prop) (m0 : Mu) (H0 : Hp) : Prop := ∀ i m H, HM K m H → Later m0 H0 m H → G m →
  (∀ d, ds[i]? = some d → J.go i H ∧ ∀ x H', J.yld i H x H' → HM K m H' ∧ Later m H m H' ∧ Rep K (dom m) H' d x) ∧ (ds.length ≤ i → J.stop i H)
section
variable (X : Cx)
def WI (tg iter : Expr) : TI := fun σ H R => ∀ pins s, Inv X pins σ H s → wpAny (model X.prog X.w) X.A (eval iter X.env) (fun v s1 => wpAny (model X.prog X.w) X.A (pyIter v) (PIE X pins σ tg R) X.xe s1) X.xe s
structure AI (tg iter : Expr) (ρ : Rho) (m : Mu) (R : List D → (Mu → Prop) → Mu → Prop) : Prop where
  run : ∀ σ H, SR X.K ρ m σ H → WI X tg iter σ H fun J H' => ∃ ds G m', HM X.K m' H' ∧ Later m H m' H' ∧ JOk X.K J ds G m' H' ∧ R ds G m'
end
section
variable {X : Cx} {fb : FB} {k : Nat} {ρ : Rho} {m : Mu} {tg iter e : Expr} {pos p : Pos}
instance {R : List D → (Mu → Prop) → Mu → Prop} : CoeFun (AI X tg iter ρ m R) (fun _ => ∀ σ H, SR X.K ρ m σ H → WI X tg iter σ H fun J H' => ∃ ds G m', HM X.K m' H' ∧ Later m H m' H' ∧ JOk X.K J ds G m' H' ∧ R ds G m') := ⟨AI.run⟩
theorem piW : PI X tg iter (WI X tg iter) := ⟨fun pins s _ _ _ I h => h pins s I⟩
theorem WI.of {wi : TI} {σ : St} {H : Hp} {R : It → Hp → Prop} (h : PI X tg iter wi) (q : wi σ H R) : WI X tg iter σ H R := fun pins s I => h.run pins s σ H R I q
theorem WI.mono {σ : St} {H : Hp} {R R' : It → Hp → Prop} (h : WI X tg iter σ H R) (w : ∀ J H', R J H' → R' J H') : WI X tg iter σ H R' := fun pins s I =>
  thn (h pins s I) fun v s1 h1 => thn h1 fun it s2 ⟨a, fp, tn, J, H', e, I', T, t0, f, q⟩ => ⟨a, fp, tn, J, H', e, I', T, t0, f, w _ _ q⟩
/-- a list -/
theorem AI.list {R : List D → (Mu → Prop) → Mu → Prop} (h : AE X iter ρ m fun d m1 => ∃ ds, IsL m1 d ds ∧ R ds (fun m2 => IsL m2 d ds) m1) : AI X tg iter ρ m R := .mk fun σ H S => by
  refine WI.of (pi_list peW) ((h σ H S).mono fun v H1 ⟨d, m1, hm1, l1, r1, ds, hi, q⟩ => ?_)
  obtain ⟨a, vs, ev, sq, rs⟩ := hi.at hm1 r1
  refine ⟨a, ev, ⟨vs, sq⟩, ds, _, m1, hm1, l1, fun i m2 H2 hm2 l2 hi2 => ⟨fun x hx => ?_, fun hl => ?_⟩, q⟩
  · obtain ⟨a', vs', e', sq', rs'⟩ := hi2.at hm2 (l2.rep r1)
    rw [ev] at e'; cases e'
    obtain ⟨u, hu, ru⟩ := rs'.get hx
    refine ⟨⟨vs', u, sq', hu⟩, fun y H' ⟨eH, hy⟩ => ?_⟩
    subst eH
    have e2 := hy vs' sq'
    rw [hu] at e2; cases e2
    exact ⟨hm2, Later.refl, ru⟩
  · obtain ⟨a', vs', e', sq', rs'⟩ := hi2.at hm2 (l2.rep r1)
    rw [ev] at e'; cases e'
    exact ⟨vs', sq', by rw [← rs'.length]; exact hl⟩
/-- a tuple -/
theorem AI.tup {R : List D → (Mu → Prop) → Mu → Prop} (h : AE X iter ρ m fun d m1 => ∃ ds, d = .tup ds ∧ R ds (fun _ => True) m1) : AI X tg iter ρ m R := .mk fun σ H S => by
  refine WI.of (pi_tup peW) ((h σ H S).mono fun v H1 ⟨d, m1, hm1, l1, r1, ds, hi, q⟩ => ?_)
  subst hi
  obtain ⟨a, vs, ev, sq, rs⟩ := IsT.im.at hm1 r1
  refine ⟨a, ev, ⟨vs, sq⟩, ds, _, m1, hm1, l1, fun i m2 H2 hm2 l2 hi2 => ⟨fun x hx => ?_, fun hl => ?_⟩, q⟩
  · obtain ⟨a', vs', e', sq', rs'⟩ := IsT.im.at hm2 (l2.rep r1)
    rw [ev] at e'; cases e'
    obtain ⟨u, hu, ru⟩ := rs'.get hx
    refine ⟨⟨vs', u, sq', hu⟩, fun y H' ⟨eH, hy⟩ => ?_⟩
    subst eH
    have e2 := hy vs' sq'
    rw [hu] at e2; cases e2
    exact ⟨hm2, Later.refl, ru⟩
  · obtain ⟨a', vs', e', sq', rs'⟩ := IsT.im.at hm2 (l2.rep r1)
    rw [ev] at e'; cases e'
    exact ⟨vs', sq', by rw [← rs'.length]; exact hl⟩
/-- the signs of a text -/
def signs (x : Str) : List D := x.cps.toList.map fun c => D.str ⟨#[c]⟩
theorem AI.str {R : List D → (Mu → Prop) → Mu → Prop} (h : AE X iter ρ m fun d m1 => ∃ x, d = .str x ∧ R (signs x) (fun _ => True) m1) : AI X tg iter ρ m R := .mk fun σ H S => by
  refine WI.of (pi_str peW) ((h σ H S).mono fun v H1 ⟨d, m1, hm1, l1, r1, x, e, q⟩ => ?_)
  subst e
  cases r1
  refine ⟨x, rfl, signs x, _, m1, hm1, l1, fun i m2 H2 hm2 l2 hi2 => ⟨fun d hd => ?_, fun hl => ?_⟩, q⟩
  · unfold signs at hd
    rw [List.getElem?_map] at hd
    cases hc : x.cps.toList[i]? with
    | none => rw [hc] at hd; cases hd
    | some c =>
      rw [hc] at hd; cases hd
      have hc2 : x.cps[i]? = some c := by simpa using hc
      refine ⟨(Array.getElem?_eq_some_iff.mp hc2).1, fun y H' ⟨eH, c', h1, h2⟩ => ?_⟩
      subst eH h2
      rw [hc2] at h1; cases h1
      exact ⟨hm2, Later.refl, .str⟩
  · show x.cps.size ≤ i
    simpa [signs] using hl
/-- a range -/
def irange (lo : Int) (n : Nat) : List D := (List.range n).map fun i => D.int (lo + (i : Nat))
theorem jok_range {K : PySem.W.Frag} {lo : Int} {n : Nat} {m1 : Mu} {H1 : Hp} : JOk K (Itr lo n) (irange lo n) (fun _ => True) m1 H1 := fun i m2 H2 hm2 l2 _ => by
  refine ⟨fun d hd => ?_, fun hl => by show n ≤ i; simpa [irange] using hl⟩
  unfold irange at hd
  rw [List.getElem?_map] at hd
  have hi : i < n := by
    cases q : (List.range n)[i]? with
    | none => rw [q] at hd; cases hd
    | some j => simpa using (List.getElem?_eq_some_iff.mp q).1
  refine ⟨hi, fun y H' ⟨eH, ey⟩ => ?_⟩
  subst eH ey
  rw [List.getElem?_range hi] at hd; cases hd
  exact ⟨hm2, Later.refl, .int⟩
variable {a b : Expr}
theorem AI.range1 {R : List D → (Mu → Prop) → Mu → Prop} (hx : XF X fb k) (hg : fb.glb "range" = true) (hm : X.mg "range" = none) (h : AE X a ρ m fun d m1 => ∃ j : Int, d = .int j ∧ -(2 ^ 62) ≤ j ∧ j < 2 ^ 62 ∧ R (irange 0 j.toNat) (fun _ => True) m1)
    (hs : starEach [a] X.env = [(false, eval a X.env)] := by rfl) (hs1 : starEach (a :: []) X.env = (false, eval a X.env) :: starEach [] X.env := by rfl) : AI X tg (.Call (.Name "range" p) [a] [] pos) ρ m R := .mk fun σ H S => by
  refine WI.of (pi_range1 (hx.glb _ hg) hm paW hs) ?_
  refine WA.mono (X := X) ((AA.cons (Q := fun ds m1 => ∃ j : Int, ds = [.int j] ∧ -(2 ^ 62) ≤ j ∧ j < 2 ^ 62 ∧ R (irange 0 j.toNat) (fun _ => True) m1) (h.imp fun d m1 ⟨j, e, h1, h2, q⟩ => AA.nil ⟨j, by rw [e], h1, h2, q⟩) hs1) σ H S) ?_
  rintro vs H1 ⟨ds, m1, hm1, l1, r1, j, e, h1, h2, q⟩
  subst e
  cases r1 with
  | cons r t =>
    cases r; cases t
    exact ⟨j, rfl, h1, h2, _, _, m1, hm1, l1, jok_range, q⟩
theorem AI.range2 {R : List D → (Mu → Prop) → Mu → Prop} (hx : XF X fb k) (hg : fb.glb "range" = true) (hm : X.mg "range" = none) (h : AE X a ρ m fun d m1 => AE X b ρ m1 fun d2 m2 => ∃ i j : Int, d = .int i ∧ d2 = .int j ∧ (-(2 ^ 62) ≤ i ∧ i < 2 ^ 62 ∧ -(2 ^ 62) ≤ j ∧ j < 2 ^ 62) ∧ R (irange i (j - i).toNat) (fun _ => True) m2)
    (hs : starEach [a, b] X.env = [(false, eval a X.env), (false, eval b X.env)] := by rfl) (hs2 : starEach [b] X.env = [(false, eval b X.env)] := by rfl) (hs1 : starEach (a :: [b]) X.env = (false, eval a X.env) :: starEach [b] X.env := by rfl) (hs3 : starEach (b :: []) X.env = (false, eval b X.env) :: starEach [] X.env := by rfl) : AI X tg (.Call (.Name "range" p) [a, b] [] pos) ρ m R := .mk fun σ H S => by
  refine WI.of (pi_range2 (hx.glb _ hg) hm paW hs hs2) ?_
  refine WA.mono (X := X) ((AA.cons (Q := fun ds m1 => ∃ i j : Int, ds = [.int i, .int j] ∧ (-(2 ^ 62) ≤ i ∧ i < 2 ^ 62 ∧ -(2 ^ 62) ≤ j ∧ j < 2 ^ 62) ∧ R (irange i (j - i).toNat) (fun _ => True) m1) (h.imp fun d m1 h => AA.cons (h.imp fun d2 m2 ⟨i, j, e, e2, h1, q⟩ => AA.nil ⟨i, j, by rw [e, e2], h1, q⟩) hs3) hs1) σ H S) ?_
  rintro vs H1 ⟨ds, m1, hm1, l1, r1, i, j, e, h1, q⟩
  subst e
  cases r1 with
  | cons r t =>
    cases r
    cases t with
    | cons r t =>
      cases r; cases t
      exact ⟨i, j, rfl, h1, _, _, m1, hm1, l1, jok_range, q⟩

/-! ### for -/
theorem AS.for {body : List Stmt} {D' : AEnds} (hp : PassesOwn (model X.prog X.w) X.A X.env X.xe) (hx : XF X fb k)
    (h : AI X tg iter ρ m fun ds G m1 => ∃ I : Nat → Rho → Mu → Prop, I 0 ρ m1 ∧ (∀ i ρ' m', i ≤ ds.length → I i ρ' m' → G m') ∧
      (∀ i d ρ' m', ds[i]? = some d → I i ρ' m' → AG X tg d ρ' m' fun ρ2 m2 => ASs X body ρ2 m2 { D' with nx := I (i + 1), ct := I (i + 1), bk := D'.nx }) ∧ ∀ ρ' m', I ds.length ρ' m' → D'.nx ρ' m')
    (hs : ∀ x, foldedSetIterable iter X.env x = pure x := by intro _; rfl) : AS X (.For tg iter body [] pos) ρ m D' := .mk fun σ H S => by
  refine WS.of (ps_for hp hx.calm piW pgW pssW hs) (WI.mono (X := X) (h σ H S) ?_)
  rintro J H1 ⟨ds, G, m1, hm1, l1, jok, I, i0, iG, turn, fin⟩
  refine ⟨fun i n σ2 H2 => n = ds.length - i ∧ i ≤ ds.length ∧ ∃ ρ' m', HM X.K m' H2 ∧ Later m1 H1 m' H2 ∧ RS X.K (dom m') H2 ρ' σ2 ∧ I i ρ' m', ⟨_, rfl, Nat.zero_le _, ρ, m1, hm1, Later.refl, S.rs.later l1, i0⟩, ?_⟩
  rintro i n σ2 H2 ⟨rfl, hi, ρ', m', hm', l', rs', q⟩
  obtain ⟨j1, j2⟩ := jok i m' H2 hm' l' (iG i ρ' m' hi q)
  by_cases hlt : i < ds.length
  · obtain ⟨go, y⟩ := j1 ds[i] (by simp [hlt])
    refine .inr ⟨go, fun σ3 H3 => ∃ ρ3 m3, HM X.K m3 H3 ∧ Later m1 H1 m3 H3 ∧ RS X.K (dom m3) H3 ρ3 σ3 ∧ I (i + 1) ρ3 m3, fun σ3 H3 h3 => ⟨ds.length - (i + 1), by omega, rfl, hlt, h3⟩, fun x H' hy => ?_⟩
    obtain ⟨hm2, l2, r2⟩ := y x H' hy
    refine WG.mono (X := X) (turn i ds[i] ρ' m' (by simp [hlt]) q x σ2 H' ⟨hm2, rs'.later l2⟩ r2) ?_
    rintro σ4 H4 ⟨ρ4, m4, hm4, l4, rs4, q4⟩
    refine (q4 σ4 H4 ⟨hm4, rs4⟩).mono ?_ ?_ ?_ ?_
    · rintro σ5 H5 ⟨ρ5, m5, hm5, l5, rs5, q5⟩
      exact ⟨ρ5, m5, hm5, l'.trans (l2.trans (l4.trans l5)), rs5, q5⟩
    · exact fun _ _ p => p.from (l1.trans (l'.trans (l2.trans l4)))
    · exact fun _ _ p => PostS.from (l1.trans (l'.trans (l2.trans l4))) p
    · rintro σ5 H5 ⟨ρ5, m5, hm5, l5, rs5, q5⟩
      exact ⟨ρ5, m5, hm5, l'.trans (l2.trans (l4.trans l5)), rs5, q5⟩
  · have e : i = ds.length := by omega
    subst e
    exact .inl ⟨j2 (Nat.le_refl _), ρ', m', hm', l1.trans l', rs', fin ρ' m' q⟩
/-- over data xs, the invariant by what has been taken -/
theorem forL {α : Type} {f : α → D} {xs : List α} {G : Mu → Prop} {ρ : Rho} {m : Mu} {body : List Stmt} {D' : AEnds} (I : List α → Rho → Mu → Prop) (h0 : I [] ρ m) (hG : ∀ pre ρ' m', I pre ρ' m' → G m')
    (hs : ∀ pre x post ρ' m', xs = pre ++ x :: post → I pre ρ' m' → AG X tg (f x) ρ' m' fun ρ2 m2 => ASs X body ρ2 m2 { D' with nx := I (pre ++ [x]), ct := I (pre ++ [x]), bk := D'.nx }) (hd : ∀ ρ' m', I xs ρ' m' → D'.nx ρ' m') :
    ∃ I : Nat → Rho → Mu → Prop, I 0 ρ m ∧ (∀ i ρ' m', i ≤ (xs.map f).length → I i ρ' m' → G m') ∧
      (∀ i d ρ' m', (xs.map f)[i]? = some d → I i ρ' m' → AG X tg d ρ' m' fun ρ2 m2 => ASs X body ρ2 m2 { D' with nx := I (i + 1), ct := I (i + 1), bk := D'.nx }) ∧ ∀ ρ' m', I (xs.map f).length ρ' m' → D'.nx ρ' m' := by
  refine ⟨fun i => I (xs.take i), by simpa using h0, fun i ρ' m' _ q => hG _ ρ' m' q, fun i d ρ' m' hd' q => ?_, fun ρ' m' q => hd ρ' m' (by simpa using q)⟩
  rw [List.getElem?_map] at hd'
  cases hx : xs[i]? with
  | none => rw [hx] at hd'; cases hd'
  | some x =>
    rw [hx] at hd'; cases hd'
    obtain ⟨hlt, ex⟩ := List.getElem?_eq_some_iff.mp hx
    have e1 : xs = xs.take i ++ x :: xs.drop (i + 1) := by rw [← ex, List.getElem_cons_drop_succ_eq_drop, List.take_append_drop]
    have e2 : xs.take (i + 1) = xs.take i ++ [x] := by rw [List.take_succ, hx]; rfl
    have z := hs (xs.take i) x (xs.drop (i + 1)) ρ' m' e1 q
    rw [← e2] at z
    exact z

/-! ### comprehensions -/
def ownB (scope : Scope) (x : Str) : Bool := match scope.names.lookup x with
  | some .local => true
  | some .cell => true
  | _ => false
/-- the names of a comprehension's block -/
abbrev fbBlk (fb : FB) (scope sc : Scope) : FB := ⟨fb.N, visB (relS scope sc), ownB scope, glbB (relS scope sc)⟩
theorem xf_blk {sc scope : Scope} {s : Shared} {H : Hp} {cl : List (Str × Addr)} {C : Addr} {fp : List Addr} (hx : XF X fb k) (hsc : X.env.scope = sc) : XF (X.blk s H scope (compEnvC scope cl C X.env) fp) (fbBlk fb scope sc) k where
  nN := hx.nN
  nd := hx.nd
  calm := hx.calm
  room := hx.room
  vis := fun x h => visB_ok (by subst hsc; exact h)
  sto := fun x h => by
    have h2 : ownB scope x = true := h
    have es : (X.blk s H scope (compEnvC scope cl C X.env) fp).env.scope.names = (relS scope X.env.scope).names := rfl
    unfold ownB at h2
    split at h2
    · rename_i q
      have z := lookup_relS_keep (sc := X.env.scope) (by decide) q
      exact ⟨.inl z, .inr z⟩
    · rename_i q
      have z := lookup_relS_keep (sc := X.env.scope) (by decide) q
      exact ⟨.inr z, .inl (by show (scope.names.lookup x == some .cell) = true; rw [q]; rfl)⟩
    · cases h2
  glb := fun x h => glbB_ok (by subst hsc; exact h)
/-- slots forgotten -/
def wipeR (ρ : Rho) : List Nat → Rho
  | [] => ρ
  | v :: vs => (wipeR ρ vs).set v none
theorem wipe_rs {K : PySem.W.Frag} {m : Mu} {H : Hp} {ρ : Rho} {σ : St} (h : RS K (dom m) H ρ σ) : ∀ vs : List Nat, RS K (dom m) H (wipeR ρ vs) (wipe σ vs)
  | [] => h
  | v :: vs => by
    have ih := wipe_rs h vs
    refine ⟨by simp [wipeR, wipe, ih.len], fun i d e => ?_⟩
    unfold wipeR at e
    unfold wipe
    by_cases hv : v = i
    · subst hv
      by_cases hl : v < (wipeR ρ vs).length
      · rw [List.getElem?_set_self hl] at e; cases e
      · rw [List.getElem?_eq_none (by simpa using hl)] at e; cases e
    · rw [List.getElem?_set_ne hv] at e ⊢
      exact ih.get i d e
theorem wipe_set {σ : St} {v : Option V} : ∀ {vs : List Nat} {i : Nat}, i ∈ vs → wipe (σ.set i v) vs = wipe σ vs
  | w :: vs, i, h => by
    unfold wipe
    by_cases hi : i ∈ vs
    · rw [wipe_set hi]
    · have e : i = w := (List.mem_cons.mp h).resolve_right hi
      subst e
      have : ∀ {us : List Nat}, i ∉ us → wipe (σ.set i v) us = (wipe σ us).set i v := by
        intro us
        induction us with
        | nil => intro _; rfl
        | cons u us ih =>
          intro hn
          unfold wipe
          rw [ih fun z => hn (List.mem_cons_of_mem _ z), List.set_comm _ _ (fun z => hn (by rw [z]; exact List.mem_cons_self))]
      rw [this hi, List.set_set]
theorem wipe_wipe {σ : St} : ∀ {vs us : List Nat}, (∀ v ∈ us, v ∈ vs) → wipe (wipe σ us) vs = wipe σ vs
  | vs, [], _ => rfl
  | vs, u :: us, h => by
    show wipe ((wipe σ us).set u none) vs = _
    rw [wipe_set (h u List.mem_cons_self), wipe_wipe fun v hv => h v (List.mem_cons_of_mem _ hv)]
/-- what agrees with m but for new objects -/
def Ext (m m' : Mu) : Prop := ∀ a o, m a = some o → m' a = some o
theorem Ext.refl : Ext m m := fun _ _ e => e
variable {elt : Expr} {ifs : List Expr} {scope sc : Scope}
/-- the target of a comprehension: how its slots are filled -/
structure CTg (X : Cx) (tg : Expr) (scope : Scope) (own : List (Str × Nat)) (g : TG) (gr : D → Rho → Mu → (Rho → Prop) → Prop) : Prop where
  pg : ∀ (s : Shared) (H : Hp) (C : Addr) (cl : List (Str × Addr)) (fp : List Addr), PG (X.blk s H scope (compEnvC scope cl C X.env) fp) tg g
  run : ∀ (d : D) (v : V) (ρ : Rho) (m : Mu) (σ : St) (H : Hp) (Q : Rho → Prop) (R : St → Hp → Prop), HM X.K m H → RS X.K (dom m) H ρ σ → Rep X.K (dom m) H d v → gr d ρ m Q → wipe σ (own.map (·.2)) = σ →
    (∀ ρ' σ', RS X.K (dom m) H ρ' σ' → wipe σ' (own.map (·.2)) = σ → Q ρ' → R σ' H) → g v σ H R
theorem ctg_name {x : Str} {i : Nat} {pos : Pos} (hx : XF X fb k) (hN : Nth fb.N i x) (ho : ownB scope x = true) : CTg X (.Name x pos) scope [(x, i)] (gName i) fun d ρ m Q => ∃ ρ', SetR i d ρ ρ' ∧ Q ρ' where
  pg := fun s H C cl fp => by
    have z := (xf_blk (scope := scope) (s := s) (H := H) (cl := cl) (C := C) (fp := fp) hx rfl).sto x ho
    exact pg_name hx.nd (by show X.N[i]? = _; rw [hx.nN]; exact hN.at) z.1 z.2
  run := fun d v ρ m σ H Q R hm rs r ⟨ρ', e, q⟩ hw h => by
    rw [e.eq] at q
    refine h _ _ (rs.set i r) ?_ q
    show wipe (σ.set i (some v)) [i] = σ
    rw [wipe_set List.mem_cons_self]
    exact hw
/-- a, b, ..: the slots is of the names xs -/
inductive SetRs : List Nat → List D → Rho → Rho → Prop
  | nil {ρ : Rho} : SetRs [] [] ρ ρ
  | cons {i : Nat} {is : List Nat} {d : D} {ds : List D} {ρ ρ1 ρ2 : Rho} (h : SetR i d ρ ρ1) (t : SetRs is ds ρ1 ρ2) : SetRs (i :: is) (d :: ds) ρ ρ2
def gNames : List Nat → TGs
  | [] => gNil
  | i :: is => gCons (gName i) (gNames is)
theorem gNames_run {K : PySem.W.Frag} {m : Mu} {H : Hp} {R : St → Hp → Prop} {own : List Nat} {σ0 : St} : ∀ {is : List Nat} {ds : List D} {vs : List V} {ρ ρ' : Rho} {σ : St}, SetRs is ds ρ ρ' → Reps K (dom m) H ds vs → RS K (dom m) H ρ σ → (∀ i ∈ is, i ∈ own) → wipe σ own = σ0 →
    (∀ σ', RS K (dom m) H ρ' σ' → wipe σ' own = σ0 → R σ' H) → gNames is vs σ H R
  | _, _, _, _, _, _, .nil, .nil, rs, _, hw, h => ⟨rfl, h _ rs hw⟩
  | _, _, _, _, _, σ, .cons (i := i) e t, .cons (v := v) r rr, rs, ho, hw, h => by
    refine ⟨_, _, rfl, ?_⟩
    have rs2 := rs.set i r
    rw [← e.eq] at rs2
    refine gNames_run (σ := σ.set i (some v)) t rr rs2 (fun j hj => ho j (List.mem_cons_of_mem _ hj)) ?_ h
    rw [wipe_set (ho i List.mem_cons_self)]
    exact hw
theorem ctg_tup {ts : List Expr} {kk : Nat} {pos : Pos} {is : List Nat} {own : List (Str × Nat)} (hx : XF X fb k) (hpg : ∀ (s : Shared) (H : Hp) (C : Addr) (cl : List (Str × Addr)) (fp : List Addr), PGs (X.blk s H scope (compEnvC scope cl C X.env) fp) ts (gNames is)) (hi : ∀ i ∈ is, i ∈ own.map (·.2))
    (hn : ∀ env : Env, (assignEach ts env).length = is.length := by intro _; rfl) (hst : ∀ env : Env, (assignEach ts env).findIdx? (·.1) = none := by intro _; rfl) : CTg X (.Tuple ts kk pos) scope own (gTup X.K is.length (gNames is)) fun d ρ m Q => ∃ ds ρ', d = .tup ds ∧ SetRs is ds ρ ρ' ∧ Q ρ' where
  pg := fun s H C cl fp => pg_tup hx.calm (hpg s H C cl fp) (hn _) (hst _)
  run := fun d v ρ m σ H Q R hm rs r ⟨ds, ρ', e, st, q⟩ hw h => by
    subst e
    obtain ⟨a, vs, ev, sq, rr⟩ := IsT.im.at hm r
    refine ⟨a, vs, ev, sq, ?_, gNames_run st rr rs hi hw fun σ' a b => h ρ' σ' a b q⟩
    rw [← rr.length]
    clear rr hw h q r hpg hi hn hst rs
    rename_i x_
    clear x_
    induction st with
    | nil => rfl
    | cons _ _ ih => simp [ih]
/-- an expression, a clause's test in the block of a comprehension -/
def ABE (X : Cx) (scope : Scope) (e : Expr) (ρ : Rho) (m : Mu) (Q : QD) : Prop := ∀ (s : Shared) (H : Hp) (C : Addr) (cl : List (Str × Addr)) (fp : List Addr), AE (X.blk s H scope (compEnvC scope cl C X.env) fp) e ρ m Q
def ABT (X : Cx) (scope : Scope) (ifs : List Expr) (ρ : Rho) (m : Mu) (Q : Bool → Mu → Prop) : Prop := match ifs with
  | [] => Q true m
  | [c] => ∀ (s : Shared) (H : Hp) (C : Addr) (cl : List (Str × Addr)) (fp : List Addr), AT (X.blk s H scope (compEnvC scope cl C X.env) fp) c ρ m Q
  | _ => False
/-- their weakest readings -/
def WBE (X : Cx) (scope : Scope) (e : Expr) : TE := fun σ H Q => ∀ (s : Shared) (H0 : Hp) (C : Addr) (cl : List (Str × Addr)) (fp : List Addr), WE (X.blk s H0 scope (compEnvC scope cl C X.env) fp) e σ H Q
def WBT (X : Cx) (scope : Scope) (ifs : List Expr) : TT := match ifs with
  | [] => tYes
  | [c] => fun σ H Q => ∀ (s : Shared) (H0 : Hp) (C : Addr) (cl : List (Str × Addr)) (fp : List Addr), WT (X.blk s H0 scope (compEnvC scope cl C X.env) fp) c σ H Q
  | _ => fun _ _ _ => False
theorem peB {s : Shared} {H : Hp} {C : Addr} {cl : List (Str × Addr)} {fp : List Addr} : PE (X.blk s H scope (compEnvC scope cl C X.env) fp) e (WBE X scope e) := ⟨fun pins t _ _ _ I h => h s H C cl fp pins t I⟩
theorem ptB {s : Shared} {H : Hp} {C : Addr} {cl : List (Str × Addr)} {fp : List Addr} : PTs (X.blk s H scope (compEnvC scope cl C X.env) fp) ifs (WBT X scope ifs) := by
  match ifs with
  | [] => exact pts_nil
  | [c] => exact pts_one ⟨fun pins t _ _ _ I h => h s H C cl fp pins t I⟩
  | _ :: _ :: _ => exact ⟨fun pins t _ _ _ I h => h.elim⟩
theorem WBE.mono {σ : St} {H : Hp} {Q Q' : VK} (h : WBE X scope e σ H Q) (w : ∀ v H', Q v H' → Q' v H') : WBE X scope e σ H Q' := fun s H0 C cl fp => (h s H0 C cl fp).mono w
theorem abe_w {Q : QD} {σ : St} {H : Hp} (h : ABE X scope e ρ m Q) (S : SR X.K ρ m σ H) : WBE X scope e σ H (Post X.K m H Q) := fun s H0 C cl fp => h s H0 C cl fp σ H S
theorem abt_w {Q : Bool → Mu → Prop} {σ : St} {H : Hp} {R : Bool → Hp → Prop} (h : ABT X scope ifs ρ m Q) (S : SR X.K ρ m σ H) (w : ∀ b H', PostB X.K m H Q b H' → R b H') : WBT X scope ifs σ H R := by
  match ifs with
  | [] => exact w true H (PostB.now S.hm h)
  | [c] => exact fun s H0 C cl fp => (h s H0 C cl fp σ H S).mono w
  | _ :: _ :: _ => exact h.elim
/-- the turn of a comprehension; D: where the new list stands -/
theorem lc_at {own : List (Str × Nat)} {g : TG} {gr : D → Rho → Mu → (Rho → Prop) → Prop} (T : CTg X tg scope own g gr) {Q : QD} {Q' : VK}
    (h : AI X tg iter ρ m fun ds G m1 => ∃ I : Nat → List D → Mu → Prop, I 0 [] m1 ∧ (∀ i out mi a o, I i out mi → mi a = none → G (updM mi a o)) ∧
      (∀ i d out mi a, ds[i]? = some d → I i out mi → mi a = none → gr d (wipeR ρ (own.map (·.2))) (updM mi a (.lst out)) fun ρ2 => ABT X scope ifs ρ2 (updM mi a (.lst out)) fun b m3 =>
        (b = true → ABE X scope elt ρ2 m3 fun r m4 => out.length < sizeLine ∧ ∃ mj, m4 = updM mj a (.lst out) ∧ mj a = none ∧ I (i + 1) (out ++ [r]) mj) ∧ (b = false → ∃ mj, m3 = updM mj a (.lst out) ∧ mj a = none ∧ I (i + 1) out mj)) ∧
      ∀ out mj a, mj a = none → I ds.length out mj → Q (.ref a) (updM mj a (.lst out))) {σ : St} {H : Hp} (S : SR X.K ρ m σ H) (w : ∀ v H', Post X.K m H Q v H' → Q' v H') :
    tLc (WI X tg iter) g (WBT X scope ifs) (WBE X scope elt) (own.map (·.2)) σ H Q' := by
  refine WI.mono (X := X) (h σ H S) ?_
  rintro J H1 ⟨ds, G, m1, hm1, l1, jok, I, i0, iG, turn, fin⟩ a na
  have na1 : m1 a = none := hm1.fresh na
  have n0 : HM X.K (updM m1 a (.lst [])) (upd H1 a (.lst [])) := hm1.put (u := .lst []) (.inl na) ⟨[], upd_same, .nil⟩
  have ln : Later m1 H1 (updM m1 a (.lst [])) (upd H1 a (.lst [])) := Later.new na
  refine ⟨fun i n H2 => n = ds.length - i ∧ i ≤ ds.length ∧ ∃ mi out, HM X.K (updM mi a (.lst out)) H2 ∧ Later m1 H1 (updM mi a (.lst out)) H2 ∧ mi a = none ∧ I i out mi, ⟨_, rfl, Nat.zero_le _, m1, [], n0, ln, na1, i0⟩, ?_⟩
  rintro i n H2 ⟨rfl, hi, mi, out, hm', l', nai, q⟩
  obtain ⟨j1, j2⟩ := jok i (updM mi a (.lst out)) H2 hm' l' (iG i out mi a _ q nai)
  by_cases hlt : i < ds.length
  · obtain ⟨go, y⟩ := j1 ds[i] (by simp [hlt])
    refine .inr ⟨go, fun H3 => ∃ mj out', HM X.K (updM mj a (.lst out')) H3 ∧ Later m1 H1 (updM mj a (.lst out')) H3 ∧ mj a = none ∧ I (i + 1) out' mj, fun H3 h3 => ⟨ds.length - (i + 1), by omega, rfl, hlt, h3⟩, fun x H' hy => ?_⟩
    obtain ⟨hm2, l2, r2⟩ := y x H' hy
    refine T.run ds[i] x _ (updM mi a (.lst out)) _ H' _ _ hm2 (wipe_rs (S.rs.later (l1.trans (l'.trans l2))) _) r2 (turn i ds[i] out mi a (by simp [hlt]) q nai) (wipe_wipe fun _ h => h) fun ρ2 σ2 rs2 ew q2 => ⟨ew, ?_⟩
    refine abt_w q2 ⟨hm2, rs2⟩ ?_
    rintro b H3 ⟨m3, hm3, l3, q3, q4⟩
    cases b with
    | false =>
      rw [if_neg Bool.false_ne_true]
      obtain ⟨mj, e, nj, qj⟩ := q4 rfl
      subst e
      exact ⟨mj, out, hm3, l'.trans (l2.trans l3), nj, qj⟩
    | true =>
      rw [if_pos rfl]
      refine WBE.mono (abe_w (q3 rfl) ⟨hm3, rs2.later l3⟩) ?_
      rintro v H4 ⟨r, m4, hm4, l4, rr, z, mj, e, nj, qj⟩
      subst e
      obtain ⟨vs, hv, rv⟩ := hm4 a (.lst out) updM_same
      have dm : dom (updM mj a (.lst out)) a := by unfold dom; rw [updM_same]; simp
      have lw : Later (updM mj a (.lst out)) H4 (updM (updM mj a (.lst out)) a (.lst (out ++ [r]))) (upd H4 a (.lst (vs ++ [v]))) := Later.write dm
      have hw := hm4.put (u := .lst (out ++ [r])) (o := .lst (vs ++ [v])) (.inr dm) ⟨_, upd_same, (lw.reps rv).append (.cons (lw.rep rr) .nil)⟩
      rw [updM_updM] at lw hw
      exact ⟨vs, hv, by rw [← rv.length]; exact z, mj, out ++ [r], hw, l'.trans (l2.trans (l3.trans (l4.trans lw))), nj, qj⟩
  · have e : i = ds.length := by omega
    subst e
    refine .inl ⟨j2 (Nat.le_refl _), w _ _ ⟨.ref a, updM mi a (.lst out), hm', l1.trans l', .ref, fin out mi a nai q⟩⟩
/-- [elt for tg in iter if ..], a changing list -/
theorem AE.lcM {own : List (Str × Nat)} {g : TG} {gr : D → Rho → Mu → (Rho → Prop) → Prop} (hx : XF X fb k) (hok : BlkOk X.N X.env.scope scope own) (T : CTg X tg scope own g gr) {Q : QD}
    (h : AI X tg iter ρ m fun ds G m1 => ∃ I : Nat → List D → Mu → Prop, I 0 [] m1 ∧ (∀ i out mi a o, I i out mi → mi a = none → G (updM mi a o)) ∧
      (∀ i d out mi a, ds[i]? = some d → I i out mi → mi a = none → gr d (wipeR ρ (own.map (·.2))) (updM mi a (.lst out)) fun ρ2 => ABT X scope ifs ρ2 (updM mi a (.lst out)) fun b m3 =>
        (b = true → ABE X scope elt ρ2 m3 fun r m4 => out.length < sizeLine ∧ ∃ mj, m4 = updM mj a (.lst out) ∧ mj a = none ∧ I (i + 1) (out ++ [r]) mj) ∧ (b = false → ∃ mj, m3 = updM mj a (.lst out) ∧ mj a = none ∧ I (i + 1) out mj)) ∧
      ∀ out mj a, mj a = none → I ds.length out mj → Q (.ref a) (updM mj a (.lst out))) (hs : ∀ x, foldedSetIterable iter X.env x = pure x := by intro _; rfl) : AE X (.ListComp elt [⟨tg, iter, ifs, 0⟩] scope pos) ρ m Q := .mk fun σ H S =>
  WE.of (pe_lc hx.calm hx.nd piW hok T.pg (fun _ _ _ _ _ => ptB) (fun _ _ _ _ _ => peB) hs) (lc_at T h S fun _ _ p => p)
/-- y = [..] -/
theorem AS.setLcM {own : List (Str × Nat)} {g : TG} {gr : D → Rho → Mu → (Rho → Prop) → Prop} {D' : AEnds} {i : Nat} {y : Str} {py spos : Pos} (hx : XF X fb k) (hok : BlkOk X.N X.env.scope scope own) (T : CTg X tg scope own g gr) (hy : Nth fb.N i y) (hl : X.env.scope.names.lookup y = some .local)
    (hsw : swapsWith (.ListComp elt [⟨tg, iter, ifs, 0⟩] scope pos) (some (.Name y py)) spos.line X.env = pure true)
    (h : AI X tg iter ρ m fun ds G m1 => ∃ I : Nat → List D → Mu → Prop, I 0 [] m1 ∧ (∀ i out mi a o, I i out mi → mi a = none → G (updM mi a o)) ∧
      (∀ i d out mi a, ds[i]? = some d → I i out mi → mi a = none → gr d (wipeR ρ (own.map (·.2))) (updM mi a (.lst out)) fun ρ2 => ABT X scope ifs ρ2 (updM mi a (.lst out)) fun b m3 =>
        (b = true → ABE X scope elt ρ2 m3 fun r m4 => out.length < sizeLine ∧ ∃ mj, m4 = updM mj a (.lst out) ∧ mj a = none ∧ I (i + 1) (out ++ [r]) mj) ∧ (b = false → ∃ mj, m3 = updM mj a (.lst out) ∧ mj a = none ∧ I (i + 1) out mj)) ∧
      ∀ out mj a, mj a = none → I ds.length out mj → ∃ ρ', SetR i (.ref a) ρ ρ' ∧ D'.nx ρ' (updM mj a (.lst out))) (hs : ∀ x, foldedSetIterable iter X.env x = pure x := by intro _; rfl) : AS X (.Assign [.Name y py] (.ListComp elt [⟨tg, iter, ifs, 0⟩] scope pos) spos) ρ m D' := .mk fun σ H S =>
  WS.of (ps_setLc hx.calm hx.nd (by rw [hx.nN]; exact hy.at) hl hsw piW hok T.pg (fun _ _ _ _ _ => ptB) (fun _ _ _ _ _ => peB) hs)
    (lc_at (Q := fun d m1 => ∃ ρ', SetR i d ρ ρ' ∧ D'.nx ρ' m1) T h S fun v H' ⟨d, m1, hm1, l1, r1, ρ', e, q⟩ => by rw [e.eq] at q; exact ⟨_, m1, hm1, l1, (S.rs.later l1).set i r1, q⟩)
theorem IsL.ext {m m' : Mu} {d : D} {ds : List D} (h : IsL m d ds) (x : Ext m m') : IsL m' d ds := by
  cases h with
  | im => exact .im
  | mu e => exact .mu (x _ _ e)
theorem ext_upd {a : Addr} {o : MO} (h : m a = none) : Ext m (updM m a o) := fun b u e => by
  rw [updM_ne (neM e h)]; exact e
/-- without effects, over data xs: sel gives what is kept of an item -/
theorem lcPure {α : Type} {f : α → D} {xs : List α} {G : Mu → Prop} {own : List (Str × Nat)} {gr : D → Rho → Mu → (Rho → Prop) → Prop} {R : List D → Mu → Addr → Prop} (sel : α → Option D) (hz : xs.length < sizeLine) (hG : ∀ m', Ext m m' → G m')
    (ht : ∀ x, x ∈ xs → ∀ m', Ext m m' → gr (f x) (wipeR ρ (own.map (·.2))) m' fun ρ2 => ABT X scope ifs ρ2 m' fun b m3 => m3 = m' ∧ (b = true → ABE X scope elt ρ2 m' fun r m4 => m4 = m' ∧ sel x = some r) ∧ (b = false → sel x = none))
    (hgr : ∀ d ρ m' Q Q', (∀ ρ, Q ρ → Q' ρ) → gr d ρ m' Q → gr d ρ m' Q')
    (hd : ∀ a, m a = none → R (xs.filterMap sel) m a) :
    ∃ I : Nat → List D → Mu → Prop, I 0 [] m ∧ (∀ i out mi a o, I i out mi → mi a = none → G (updM mi a o)) ∧
      (∀ i d out mi a, (xs.map f)[i]? = some d → I i out mi → mi a = none → gr d (wipeR ρ (own.map (·.2))) (updM mi a (.lst out)) fun ρ2 => ABT X scope ifs ρ2 (updM mi a (.lst out)) fun b m3 =>
        (b = true → ABE X scope elt ρ2 m3 fun r m4 => out.length < sizeLine ∧ ∃ mj, m4 = updM mj a (.lst out) ∧ mj a = none ∧ I (i + 1) (out ++ [r]) mj) ∧ (b = false → ∃ mj, m3 = updM mj a (.lst out) ∧ mj a = none ∧ I (i + 1) out mj)) ∧
      ∀ out mj a, mj a = none → I (xs.map f).length out mj → R out mj a := by
  refine ⟨fun i out mi => mi = m ∧ out = (xs.take i).filterMap sel, ⟨rfl, by simp⟩, fun i out mi a o ⟨e, _⟩ n => hG _ (by subst e; exact ext_upd n), fun i d out mi a hd' ⟨e, eo⟩ n => ?_, fun out mj a n ⟨e, eo⟩ => ?_⟩
  · subst e
    rw [List.getElem?_map] at hd'
    cases hx : xs[i]? with
    | none => rw [hx] at hd'; cases hd'
    | some x =>
      rw [hx] at hd'; cases hd'
      have e2 : (xs.take (i + 1)).filterMap sel = out ++ (sel x).toList := by
        rw [List.take_succ, hx, eo, List.filterMap_append]
        cases hs : sel x <;> simp [hs]
      have lo : out.length < sizeLine := by
        rw [eo]
        refine Nat.lt_of_le_of_lt (List.length_filterMap_le _ _) (Nat.lt_of_le_of_lt ?_ hz)
        rw [List.length_take]; exact Nat.min_le_right _ _
      refine hgr _ _ _ _ _ (fun ρ2 q => ?_) (ht x (List.mem_of_getElem? hx) _ (ext_upd n))
      have fin : ∀ b m3, (m3 = updM mi a (.lst out) ∧ (b = true → ABE X scope elt ρ2 (updM mi a (.lst out)) fun r m4 => m4 = updM mi a (.lst out) ∧ sel x = some r) ∧ (b = false → sel x = none)) →
          (b = true → ABE X scope elt ρ2 m3 fun r m4 => out.length < sizeLine ∧ ∃ mj, m4 = updM mj a (.lst out) ∧ mj a = none ∧ mj = mi ∧ out ++ [r] = (xs.take (i + 1)).filterMap sel) ∧ (b = false → ∃ mj, m3 = updM mj a (.lst out) ∧ mj a = none ∧ mj = mi ∧ out = (xs.take (i + 1)).filterMap sel) := by
        rintro b m3 ⟨e3, h1, h2⟩
        subst e3
        refine ⟨fun hb s H C cl fp => (h1 hb s H C cl fp).imp fun r m4 ⟨e4, es⟩ => ⟨lo, mi, e4, n, rfl, by rw [e2, es]; rfl⟩, fun hb => ⟨mi, rfl, n, rfl, by rw [e2, h2 hb]; simp⟩⟩
      match ifs, q with
      | [], q => exact fin _ _ q
      | [c], q => exact fun s H C cl fp => (q s H C cl fp).imp fin
      | _ :: _ :: _, q => exact q.elim
  · subst e
    rw [List.length_map, List.take_length] at eo
    subst eo
    exact hd a n
end
end Ab
/-! A4: lists, tuples, dicts, built-ins. -/
namespace Ab
open L2 PySem PySem.Spec PyProof.Rows

section
variable {X : Cx} {fb : FB} {k : Nat} {ρ : Rho} {m : Mu} {e o a b : Expr} {es : List Expr} {x nm : Str} {p pos apos cpos : Pos} {id T : String}
/-! ### built-in functions by values -/
abbrev RDs := List D → Mu → QD → Prop
def WC (X : Cx) (f : Value) : List V → Hp → VK → Prop := fun vs H Q => ∀ pins s σ us, Inv X pins σ H s → Vals vs us → wpAny (model X.prog X.w) X.A (call f us) (EP X pins σ Q) X.xe s
theorem wcW {f : Value} : CallR X f (WC X f) := fun pins s σ H xs us Q I r h => h pins s σ us I r
theorem WC.mono {f : Value} {vs : List V} {H : Hp} {Q Q' : VK} (h : WC X f vs H Q) (w : ∀ v H', Q v H' → Q' v H') : WC X f vs H Q' := fun pins s σ us I r =>
  thn (h pins s σ us I r) fun _ _ ⟨v, H', I', r, q⟩ => ⟨v, H', I', r, w _ _ q⟩
def CallA (X : Cx) (f : Value) (rd : RDs) : Prop := ∀ ds m vs H (Q : QD), HM X.K m H → Reps X.K (dom m) H ds vs → rd ds m Q → WC X f vs H (Post X.K m H Q)
theorem callA {f : Value} {r : List V → Hp → VK → Prop} {rd : RDs} (h : CallR X f r) (g : ∀ ds m vs H (Q : QD), HM X.K m H → Reps X.K (dom m) H ds vs → rd ds m Q → r vs H (Post X.K m H Q)) : CallA X f rd :=
  fun ds m vs H Q hm rs q pins s σ us I rv => h pins s σ H vs us _ I rv (g ds m vs H Q hm rs q)
theorem CallA.or {f : Value} {rd rd' : RDs} (h : CallA X f rd) (h' : CallA X f rd') : CallA X f fun ds m Q => rd ds m Q ∨ rd' ds m Q := fun ds m vs H Q hm rs q => q.elim (h ds m vs H Q hm rs) (h' ds m vs H Q hm rs)
theorem AE.callB {Q : QD} {rd : RDs} (hc : CallA X (.builtin id) rd) (hx : XF X fb k) (hg : fb.glb x = true) (hm : X.mg x = none) (hv : bootBuiltins x = some (.builtin id)) (h : AA X (e :: es) ρ m fun ds m1 => rd ds m1 Q)
    (hn : x ≠ "__name__" := by decide +kernel) (hdb : (x == ("__debug__" : Str)) = false := by decide +kernel) (he : starEach (e :: es) X.env = (false, eval e X.env) :: starEach es X.env := by rfl) (hpl : (backTo pos (starEach es X.env)).any (·.1) = false := by rfl) : AE X (.Call (.Name x p) (e :: es) [] pos) ρ m Q := .mk fun σ H S =>
  WE.of (pe_callB wcW (hx.glb x hg) hm hv paW hn hdb he hpl) ((h σ H S).mono fun vs H1 ⟨ds, m1, hm1, l1, r1, q⟩ => (hc ds m1 vs H1 Q hm1 r1 q).mono fun _ _ p => p.from l1)
theorem AE.callT {Q : QD} {rd : RDs} (hc : CallA X (.type T) rd) (hx : XF X fb k) (hg : fb.glb x = true) (hm : X.mg x = none) (hv : bootBuiltins x = some (.type T)) (h : AA X (e :: es) ρ m fun ds m1 => rd ds m1 Q)
    (hn : x ≠ "__name__" := by decide +kernel) (hdb : (x == ("__debug__" : Str)) = false := by decide +kernel) (he : starEach (e :: es) X.env = (false, eval e X.env) :: starEach es X.env := by rfl) (hpl : (backTo pos (starEach es X.env)).any (·.1) = false := by rfl) : AE X (.Call (.Name x p) (e :: es) [] pos) ρ m Q := .mk fun σ H S =>
  WE.of (pe_callTy wcW (hx.glb x hg) hm hv paW hn hdb he hpl) ((h σ H S).mono fun vs H1 ⟨ds, m1, hm1, l1, r1, q⟩ => (hc ds m1 vs H1 Q hm1 r1 q).mono fun _ _ p => p.from l1)
/-! ### built-in methods -/
def WM (X : Cx) (id : String) : V → List V → Hp → VK → Prop := fun x vs H Q => ∀ pins s σ v us, Inv X pins σ H s → RelV x v → Vals vs us → wpAny (model X.prog X.w) X.A (call (.builtin id) (v :: us)) (EP X pins σ Q) X.xe s
theorem wmW : MtR X id (WM X id) := fun pins s σ H x xs v us Q I rx r h => h pins s σ v us I rx r
theorem WM.mono {x : V} {vs : List V} {H : Hp} {Q Q' : VK} (h : WM X id x vs H Q) (w : ∀ v H', Q v H' → Q' v H') : WM X id x vs H Q' := fun pins s σ v us I rx r =>
  thn (h pins s σ v us I rx r) fun _ _ ⟨v, H', I', r, q⟩ => ⟨v, H', I', r, w _ _ q⟩
abbrev RDm := D → List D → Mu → QD → Prop
def MethA (X : Cx) (id : String) (rd : RDm) : Prop := ∀ d ds m x vs H (Q : QD), HM X.K m H → Rep X.K (dom m) H d x → Reps X.K (dom m) H ds vs → rd d ds m Q → WM X id x vs H (Post X.K m H Q)
theorem methA {r : V → List V → Hp → VK → Prop} {rd : RDm} (h : MtR X id r) (g : ∀ d ds m x vs H (Q : QD), HM X.K m H → Rep X.K (dom m) H d x → Reps X.K (dom m) H ds vs → rd d ds m Q → r x vs H (Post X.K m H Q)) : MethA X id rd :=
  fun d ds m x vs H Q hm rx rs q pins s σ v us I rv r => h pins s σ H x vs v us _ I rv r (g d ds m x vs H Q hm rx rs q)
/-- of what built-in type a datum is -/
inductive IsTy (m : Mu) : String → D → Prop
  | str {x : Str} : IsTy m "str" (.str x)
  | list {d : D} {ds : List D} (h : IsL m d ds) : IsTy m "list" d
  | dict {a : Addr} {ks : List (Key × D)} (h : m a = some (.dic ks)) : IsTy m "dict" (.ref a)
theorem IsTy.at {K : PySem.W.Frag} {H : Hp} {d : D} {v : V} (h : IsTy m T d) (hm : HM K m H) (r : Rep K (dom m) H d v) : tyV K T v H := by
  cases h with
  | str => cases r; rfl
  | list h => obtain ⟨a, vs, e, q, _⟩ := h.at hm r; subst e; exact .inl ⟨rfl, vs, q⟩
  | dict h => cases r; obtain ⟨vs, q, _⟩ := hm _ _ h; exact .inr (.inr (.inl ⟨rfl, .inl ⟨vs, q⟩⟩))
theorem AE.bm {Q : QD} {rd : RDm} (pa : PlainAttrs T) (slot : Slot T nm id) (hty : typeOf (.builtin id) = pure (.type "method_descriptor")) (hc : MethA X id rd) (h : AE X o ρ m fun d m1 => IsTy m1 T d ∧ AA X (e :: es) ρ m1 fun ds m2 => rd d ds m2 Q)
    (hbase : attributeBase o nm X.env (eval o X.env) = eval o X.env := by rfl)
    (hfew : ((backTo cpos (starEach (e :: es) X.env)).all (fun x => !x.1) && (backToKw cpos (keywordEach [] X.env)).all (fun x => x.1.isSome) && decide ((e :: es).length + ([] : List Keyword).length + (if ([] : List Keyword).isEmpty then 0 else 1) < 30)) = true := by rfl)
    (hline : (apos.endLine == cpos.line) = true := by rfl) (hs : starEach (e :: es) X.env = (false, eval e X.env) :: starEach es X.env := by rfl) (hplain : (backTo cpos (starEach es X.env)).any (·.1) = false := by rfl) : AE X (.Call (.Attribute o nm apos) (e :: es) [] cpos) ρ m Q := .mk fun σ H S =>
  WE.of (pe_bm pa slot hty wmW peW paW hbase hfew hline hs hplain) ((h σ H S).mono fun x H1 ⟨d, m1, hm1, l1, r1, ty, q⟩ => ⟨ty.at hm1 r1,
    WA.mono (X := X) (q σ H1 (S.later hm1 l1)) fun vs H2 ⟨ds, m2, hm2, l2, r2, q2⟩ => (hc d ds m2 x vs H2 Q hm2 (l2.rep r1) r2 q2).mono fun _ _ p => p.from (l1.trans l2)⟩)
theorem AE.bm0 {Q : QD} {rd : RDm} (pa : PlainAttrs T) (slot : Slot T nm id) (hty : typeOf (.builtin id) = pure (.type "method_descriptor")) (hc : MethA X id rd) (h : AE X o ρ m fun d m1 => IsTy m1 T d ∧ rd d [] m1 Q)
    (hbase : attributeBase o nm X.env (eval o X.env) = eval o X.env := by rfl) (hline : (apos.endLine == cpos.line) = true := by rfl) : AE X (.Call (.Attribute o nm apos) [] [] cpos) ρ m Q := .mk fun σ H S =>
  WE.of (pe_bm0 pa slot hty wmW peW hbase hline) ((h σ H S).mono fun x H1 ⟨d, m1, hm1, l1, r1, ty, q⟩ => ⟨ty.at hm1 r1, (hc d [] m1 x [] H1 Q hm1 r1 .nil q).mono fun _ _ p => p.from l1⟩)

/-! ### subscripts -/
def WX2 (X : Cx) : R2 := fun x y H Q => ∀ (value slice : Expr) pins s σ v u, Inv X pins σ H s → RelV x v → RelV y u → subscripted slice false v u = operate [v, u] (getItem v u) → wpAny (model X.prog X.w) X.A (subscriptTail value slice v u) (EP X pins σ Q) X.xe s
theorem wixW : IxR X (WX2 X) := fun value slice pins s σ H x y v u Q I rx ry h hs => h value slice pins s σ v u I rx ry hs
theorem WX2.mono : Mono2 (WX2 X) := fun x y H Q Q' w h value slice pins s σ v u I rx ry hs => thn (h value slice pins s σ v u I rx ry hs) fun _ _ ⟨v, H', I', r, q⟩ => ⟨v, H', I', r, w _ _ q⟩
def IxA (X : Cx) (rd : RD2) : Prop := ∀ da db x y m H (Q : QD), HM X.K m H → Rep X.K (dom m) H da x → Rep X.K (dom m) H db y → rd da db m Q → WX2 X x y H (Post X.K m H Q)
theorem ixA {r : R2} {rd : RD2} (h : IxR X r) (g : ∀ da db x y m H (Q : QD), HM X.K m H → Rep X.K (dom m) H da x → Rep X.K (dom m) H db y → rd da db m Q → r x y H (Post X.K m H Q)) : IxA X rd :=
  fun da db x y m H Q hm ra rb q value slice pins s σ v u I rx ry hs => h value slice pins s σ H x y v u _ I rx ry (g da db x y m H Q hm ra rb q) hs
theorem AE.ix {Q : QD} {rd : RD2} (hc : IxA X rd) (h : AE X a ρ m fun da m1 => AE X b ρ m1 fun db m2 => rd da db m2 Q) (hs : PlainIx b := by intro _ _; rfl) : AE X (.Subscript a b pos) ρ m Q := .mk fun σ H S =>
  WE.of (pe_ix wixW peW peW hs) (bin2 hc h S WX2.mono)
theorem atI_rep {K : PySem.W.Frag} {M : Addr → Prop} {H : Hp} {ds : List D} {vs : List V} {i : Int} {d : D} (r : Reps K M H ds vs) (h : atI ds i = some d) : ∃ v, atI vs i = some v ∧ Rep K M H d v := by
  unfold atI at h ⊢
  rw [← r.length]
  cases q : ixN ds.length i with
  | none => rw [q] at h; cases h
  | some j => rw [q] at h; exact r.get h
theorem ixa_list : IxA X fun da db m Q => ∃ ds i d, IsL m da ds ∧ db = .int i ∧ atI ds i = some d ∧ Q d m := ixA ix_list fun da db x y m H Q hm ra rb ⟨ds, i, d, hl, e, ha, q⟩ => by
  obtain ⟨c, vs, ev, sq, rs⟩ := hl.at hm ra
  subst e
  cases rb
  obtain ⟨v, hv, rv⟩ := atI_rep rs ha
  exact ⟨c, vs, i, v, ev, rfl, sq, hv, .now hm rv q⟩
theorem ixa_tup : IxA X fun da db m Q => ∃ ds i d, da = .tup ds ∧ db = .int i ∧ atI ds i = some d ∧ Q d m := ixA ix_tup fun da db x y m H Q hm ra rb ⟨ds, i, d, hl, e, ha, q⟩ => by
  subst hl
  obtain ⟨c, vs, ev, sq, rs⟩ := IsT.im.at hm ra
  subst e
  cases rb
  obtain ⟨v, hv, rv⟩ := atI_rep rs ha
  exact ⟨c, vs, i, v, ev, rfl, sq, hv, .now hm rv q⟩
/-- o[i] = e -/
theorem AG.setL {Q : Rho → Mu → Prop} {d : D} (h : AE X a ρ m fun da m1 => AE X b ρ m1 fun db m2 => ∃ c ds i j, da = .ref c ∧ m2 c = some (.lst ds) ∧ db = .int i ∧ ixN ds.length i = some j ∧ Q ρ (updM m2 c (.lst (ds.set j d))))
    (ha : ∀ v, assign (.Subscript a b pos) X.env v = (do let ov ← holding [v] (eval a X.env); let iv ← holding [v, ov] (eval b X.env); standAt pos; holding [v, ov, iv] (setItem ov iv v); release [v, ov, iv] []) := by intro _; rfl) : AG X (.Subscript a b pos) d ρ m Q := .mk fun v σ H S r pins s u I rv => by
  refine (pg_sub peW peW set_list ha).run pins s σ H v u _ I rv ?_
  refine (h σ H S).mono fun x H1 ⟨da, m1, hm1, l1, r1, q1⟩ => ?_
  refine (q1 σ H1 (S.later hm1 l1)).mono fun y H2 ⟨db, m2, hm2, l2, r2, c, ds, i, j, e1, hc, e2, hj, q⟩ => ?_
  subst e1 e2
  have r1' := l2.rep r1
  cases r1'
  cases r2
  obtain ⟨vs, z, rs⟩ := hm2 _ _ hc
  have dm : dom m2 c := by unfold dom; rw [hc]; simp
  have lw : Later m2 H2 (updM m2 c (.lst (ds.set j d))) (upd H2 c (.lst (vs.set j v))) := Later.write dm
  refine ⟨c, vs, i, j, rfl, rfl, z, by rw [← rs.length]; exact hj, ρ, _, hm2.put (u := .lst (ds.set j d)) (.inr dm) ⟨_, upd_same, (lw.reps rs).set j (lw.rep ((l1.trans l2).rep r))⟩, l1.trans (l2.trans lw), S.rs.later (l1.trans (l2.trans lw)), q⟩
/-! ### slices -/
def AO (X : Cx) (e : Option Expr) (ρ : Rho) (m : Mu) (Q : Option Int → Mu → Prop) : Prop := match e with
  | none => Q none m
  | some e => AE X e ρ m fun d m1 => ∃ i, d = .int i ∧ Q (some i) m1
def WOp (X : Cx) (e : Option Expr) : TO := match e with
  | none => tNoPart
  | some e => tPart (WE X e)
theorem poW : ∀ {e : Option Expr}, PO X e (WOp X e)
  | none => po_none
  | some _ => po_some peW
theorem ao_w {e : Option Expr} {Q : Option Int → Mu → Prop} {σ : St} {H : Hp} {R : Option Int → Hp → Prop} (h : AO X e ρ m Q) (S : SR X.K ρ m σ H) (w : ∀ i m' H', HM X.K m' H' → Later m H m' H' → Q i m' → R i H') : WOp X e σ H R := by
  cases e with
  | none => exact w none m H S.hm Later.refl h
  | some e => exact (AE.run h σ H S).mono fun v H1 ⟨d, m1, hm1, l1, r1, i, e, q⟩ => by subst e; cases r1; exact ⟨i, rfl, w _ _ _ hm1 l1 q⟩
def cutD (ds : List D) (lo hi : Option Int) : List D := (ds.drop (HT.sIx ds.length 0 lo)).take (HT.sIx ds.length ds.length hi - HT.sIx ds.length 0 lo)
theorem cut_rep {K : PySem.W.Frag} {M : Addr → Prop} {H : Hp} {ds : List D} {vs : List V} {lo hi : Option Int} (r : Reps K M H ds vs) : Reps K M H (cutD ds lo hi) (cutV vs lo hi) := by
  unfold cutD cutV
  rw [← r.length]
  exact (r.drop _).take _
theorem AE.slice {Q : QD} {lo hi : Option Expr} {p2 : Pos} (h : AE X e ρ m fun d m1 => AO X lo ρ m1 fun i m2 => AO X hi ρ m2 fun j m3 => ∃ ds, IsL m3 d ds ∧ Q (.lst (cutD ds i j)) m3) : AE X (.Subscript e (.Slice lo hi none p2) pos) ρ m Q := .mk fun σ H S => by
  refine WE.of (pe_slice sl_list peW poW poW) ((h σ H S).mono fun v H1 ⟨d, m1, hm1, l1, r1, q1⟩ => ?_)
  refine ao_w q1 (S.later hm1 l1) fun i m2 H2 hm2 l2 q2 => ao_w q2 (S.later hm2 (l1.trans l2)) fun j m3 H3 hm3 l3 ⟨ds, hl, q⟩ => ?_
  obtain ⟨c, vs, ev, sq, rs⟩ := hl.at hm3 ((l2.trans l3).rep r1)
  refine ⟨c, vs, ev, sq, fun q' hq => ?_⟩
  exact (Post.new hm3 hq (.lst (notdom hm3 hq) (.inl upd_same) (cut_rep (rs.same (same_upd hq)))) q).from (l1.trans (l2.trans l3))
/-- a list, one of K's too -/
inductive IsLK (m : Mu) : D → List D → Prop
  | l {d : D} {ds : List D} (h : IsL m d ds) : IsLK m d ds
  | k {ds : List D} : IsLK m (.kl ds) ds
theorem IsLK.at {K : PySem.W.Frag} {m : Mu} {H : Hp} {d : D} {v : V} {ds : List D} (s : IsLK m d ds) (h : HM K m H) (r : Rep K (dom m) H d v) : ∃ a vs, v = .ref a ∧ SqL K H a vs ∧ Reps K (dom m) H ds vs := by
  cases s with
  | l s => exact s.at h r
  | k => cases r with
    | kl h r => exact ⟨_, _, rfl, sqK h, r⟩
theorem AE.sliceK {Q : QD} {lo hi : Option Expr} {p2 : Pos} (h : AE X e ρ m fun d m1 => AO X lo ρ m1 fun i m2 => AO X hi ρ m2 fun j m3 => ∃ ds, IsLK m3 d ds ∧ Q (.lst (cutD ds i j)) m3) : AE X (.Subscript e (.Slice lo hi none p2) pos) ρ m Q := .mk fun σ H S => by
  refine WE.of (pe_slice sl_list peW poW poW) ((h σ H S).mono fun v H1 ⟨d, m1, hm1, l1, r1, q1⟩ => ?_)
  refine ao_w q1 (S.later hm1 l1) fun i m2 H2 hm2 l2 q2 => ao_w q2 (S.later hm2 (l1.trans l2)) fun j m3 H3 hm3 l3 ⟨ds, hl, q⟩ => ?_
  obtain ⟨c, vs, ev, sq, rs⟩ := hl.at hm3 ((l2.trans l3).rep r1)
  refine ⟨c, vs, ev, sq, fun q' hq => ?_⟩
  exact (Post.new hm3 hq (.lst (notdom hm3 hq) (.inl upd_same) (cut_rep (rs.same (same_upd hq)))) q).from (l1.trans (l2.trans l3))
/-! ### lists -/
theorem post_lst {K : PySem.W.Frag} {m : Mu} {H : Hp} {Q : QD} {ds : List D} {vs : List V} {p : Addr} (hm : HM K m H) (hp : H p = none) (r : Reps K (dom m) H ds vs) (q : Q (.lst ds) m) : Post K m H Q (.ref p) (upd H p (.lst vs)) :=
  .new hm hp (.lst (notdom hm hp) (.inl upd_same) (r.same (same_upd hp))) q
theorem post_tup {K : PySem.W.Frag} {m : Mu} {H : Hp} {Q : QD} {ds : List D} {vs : List V} {p : Addr} (hm : HM K m H) (hp : H p = none) (r : Reps K (dom m) H ds vs) (q : Q (.tup ds) m) : Post K m H Q (.ref p) (upd H p (.tup vs)) :=
  .new hm hp (.tup (notdom hm hp) upd_same (r.same (same_upd hp))) q
theorem ca_len : CallA X (.builtin "len") fun ds m Q => (∃ d es, ds = [d] ∧ IsQ m d es ∧ Q (.int es.length) m) ∨ (∃ s, ds = [.str s] ∧ s.length ≤ sizeLine ∧ Q (.int s.length) m) :=
  (callA call_len_seq fun ds m vs H Q hm rs ⟨d, es, e, hq, q⟩ => by
    subst e
    cases rs with
    | cons r t =>
      cases t
      obtain ⟨c, us, ev, sq, r2⟩ := hq.at hm r
      subst ev
      exact ⟨c, us, rfl, sq, .now hm .int (by rw [← r2.length]; exact q)⟩).or
  (callA call_len_str fun ds m vs H Q hm rs ⟨s, e, hs, q⟩ => by
    subst e
    cases rs with
    | cons r t => cases t; cases r; exact ⟨s, rfl, hs, .now hm .int q⟩)
end
end Ab
/-! A5: more of lists, dicts, built-ins. -/
namespace Ab
open L2 PySem PySem.Spec PyProof.Rows

/-! ### dicts as data -/
def getK (ks : List (Key × D)) (k : Key) : Option D := (ks.find? fun p => decide (p.1 = k)).map (·.2)
def putKD (ks : List (Key × D)) (k : Key) (d : D) : List (Key × D) := if ks.any (fun p => decide (p.1 = k)) then ks.map fun p => if p.1 = k then (p.1, d) else p else ks ++ [(k, d)]
def dropKD (ks : List (Key × D)) (k : Key) : List (Key × D) := ks.filter fun p => decide (p.1 ≠ k)
/-- a datum as a key -/
def keyD : D → Option Key
  | .int i => some (.inl i)
  | .str x => some (.inr x)
  | _ => none
theorem keyD_rep {K : PySem.W.Frag} {M : Addr → Prop} {H : Hp} {d : D} {v : V} {k : Key} (r : Rep K M H d v) (h : keyD d = some k) : v = kV k := by
  cases r <;> simp [keyD] at h <;> subst h <;> rfl
section
variable {K : PySem.W.Frag} {M : Addr → Prop} {H : Hp}
theorem getK_rep : ∀ {ks : List (Key × D)} {kvs : List (Key × V)} {k : Key}, kvs.map (·.1) = ks.map (·.1) → Reps K M H (ks.map (·.2)) (kvs.map (·.2)) →
    (∀ d, getK ks k = some d → ∃ v, valV kvs k = some v ∧ Rep K M H d v) ∧ (getK ks k = none → valV kvs k = none)
  | [], [], _, _, _ => ⟨fun d e => absurd e (by simp [getK]), fun _ => rfl⟩
  | [], _ :: _, _, e, _ => by cases e
  | _ :: _, [], _, e, _ => by cases e
  | (k1, d1) :: ks, (k2, v2) :: kvs, k, e, r => by
    simp only [List.map_cons, List.cons.injEq] at e
    obtain ⟨e1, e2⟩ := e
    subst e1
    cases r with
    | cons r t =>
      have ih := getK_rep (k := k) e2 t
      by_cases h : k2 = k
      · subst h
        rw [valV_pos rfl]
        exact ⟨fun d q => by simp [getK] at q; subst q; exact ⟨v2, rfl, r⟩, fun q => by simp [getK] at q⟩
      · rw [valV_neg h]
        have g : getK ((k2, d1) :: ks) k = getK ks k := by simp [getK, h]
        rw [g]
        exact ih
theorem any_keys : ∀ {ks : List (Key × D)} {kvs : List (Key × V)} {k : Key}, kvs.map (·.1) = ks.map (·.1) → (kvs.any fun kv => decide (kv.1 = k)) = (ks.any fun p => decide (p.1 = k))
  | [], [], _, _ => rfl
  | [], _ :: _, _, e => by cases e
  | _ :: _, [], _, e => by cases e
  | (k1, d1) :: ks, (k2, v2) :: kvs, k, e => by
    simp only [List.map_cons, List.cons.injEq] at e
    rw [List.any_cons, List.any_cons, any_keys e.2, e.1]
theorem putK_fst {k : Key} {v : V} {d : D} {ks : List (Key × D)} {kvs : List (Key × V)} (e : kvs.map (·.1) = ks.map (·.1)) : (putK kvs k v).map (·.1) = (putKD ks k d).map (·.1) := by
  unfold putK putKD
  rw [any_keys e]
  split
  · have h : ∀ {ks : List (Key × D)} {kvs : List (Key × V)}, kvs.map (·.1) = ks.map (·.1) → (kvs.map fun kv => if kv.1 = k then (kv.1, v) else kv).map (·.1) = (ks.map fun p => if p.1 = k then (p.1, d) else p).map (·.1) := by
      intro ks kvs e
      rw [List.map_map, List.map_map]
      have h1 : ((fun x : Key × V => x.1) ∘ fun kv => if kv.1 = k then (kv.1, v) else kv) = fun kv => kv.1 := by funext kv; simp only [Function.comp]; split <;> rfl
      have h2 : ((fun x : Key × D => x.1) ∘ fun kv => if kv.1 = k then (kv.1, d) else kv) = fun kv => kv.1 := by funext kv; simp only [Function.comp]; split <;> rfl
      rw [h1, h2]; exact e
    exact h e
  · simp [e]
theorem putK_snd {k : Key} {v : V} {d : D} (r : Rep K M H d v) {ks : List (Key × D)} {kvs : List (Key × V)} (e : kvs.map (·.1) = ks.map (·.1)) (t : Reps K M H (ks.map (·.2)) (kvs.map (·.2))) : Reps K M H ((putKD ks k d).map (·.2)) ((putK kvs k v).map (·.2)) := by
  unfold putK putKD
  rw [any_keys e]
  split
  · have h : ∀ {ks : List (Key × D)} {kvs : List (Key × V)}, kvs.map (·.1) = ks.map (·.1) → Reps K M H (ks.map (·.2)) (kvs.map (·.2)) → Reps K M H ((ks.map fun p => if p.1 = k then (p.1, d) else p).map (·.2)) ((kvs.map fun kv => if kv.1 = k then (kv.1, v) else kv).map (·.2)) := by
      intro ks
      induction ks with
      | nil => intro kvs e t; cases kvs with
        | nil => exact .nil
        | cons _ _ => cases e
      | cons p ks ih => intro kvs e t; cases kvs with
        | nil => cases e
        | cons q kvs =>
          simp only [List.map_cons, List.cons.injEq] at e
          cases t with
          | cons r1 t =>
            simp only [List.map_cons]
            refine .cons ?_ (ih e.2 t)
            rw [e.1]
            split
            · exact r
            · exact r1
    exact h e t
  · rw [List.map_append, List.map_append]
    exact t.append (.cons r .nil)
theorem dropK_rep {k : Key} : ∀ {ks : List (Key × D)} {kvs : List (Key × V)}, kvs.map (·.1) = ks.map (·.1) → Reps K M H (ks.map (·.2)) (kvs.map (·.2)) → (dropK kvs k).map (·.1) = (dropKD ks k).map (·.1) ∧ Reps K M H ((dropKD ks k).map (·.2)) ((dropK kvs k).map (·.2))
  | [], [], _, _ => ⟨rfl, .nil⟩
  | [], _ :: _, e, _ => by cases e
  | _ :: _, [], e, _ => by cases e
  | (k1, d1) :: ks, (k2, v2) :: kvs, e, r => by
    simp only [List.map_cons, List.cons.injEq] at e
    obtain ⟨e1, e2⟩ := e
    subst e1
    cases r with
    | cons r t =>
      obtain ⟨h1, h2⟩ := dropK_rep (k := k) e2 t
      unfold dropK dropKD at h1 h2 ⊢
      by_cases h : k2 = k
      · simp only [List.filter_cons, h, ne_eq, not_true_eq_false, decide_false, Bool.false_eq_true, if_false]
        exact ⟨h1, h2⟩
      · simp only [List.filter_cons, h, ne_eq, not_false_eq_true, decide_true, if_true, List.map_cons, List.cons.injEq, true_and]
        exact ⟨h1, .cons r h2⟩
end
section
variable {X : Cx} {fb : FB} {k : Nat} {ρ : Rho} {m : Mu} {e o a b i : Expr} {es : List Expr} {x nm : Str} {p pos apos cpos pos' : Pos}
/-- d[k] -/
theorem AE.dget {Q : QD} (hx : XF X fb k) (h : AE X o ρ m fun d m1 => AE X i ρ m1 fun y m2 => ∃ ks kk v, IsD m2 d ks ∧ keyD y = some kk ∧ getK ks kk = some v ∧ Q v m2) (hs : NoSl i := by intro _ _; rfl) : AE X (.Subscript o i pos) ρ m Q := .mk fun σ H S => by
  refine WE.of (pe_dget hx.hu peW peW hs) ((h σ H S).mono fun v H1 ⟨d, m1, hm1, l1, r1, q1⟩ => ?_)
  refine (q1 σ H1 (S.later hm1 l1)).mono fun u H2 ⟨y, m2, hm2, l2, r2, ks, kk, w, hd, hk, hg, q⟩ => ?_
  obtain ⟨c, kvs, ev, z, ek, rs⟩ := hd.at hm2 (l2.rep r1)
  obtain ⟨v', hv, rv⟩ := (getK_rep (k := kk) ek rs).1 w hg
  refine ⟨c, v', ev, ?_, (Post.now hm2 rv q).from (l1.trans l2)⟩
  rw [keyD_rep r2 hk, ← hv]
  exact .inl ⟨_, _, z, rfl, rfl⟩
/-- k in d -/
theorem din_at {Q : QD} (neg : Bool) (h : AE X i ρ m fun y m1 => AE X o ρ m1 fun d m2 => ∃ ks kk, IsD m2 d ks ∧ keyD y = some kk ∧ Q (.bl (if neg then !(getK ks kk).isSome else (getK ks kk).isSome)) m2) {σ : St} {H : Hp} (S : SR X.K ρ m σ H) :
    WE X i σ H fun y H1 => WE X o σ H1 fun x H2 => ∃ a o, x = .ref a ∧ DGet H2 a y o ∧ Post X.K m H Q (.bl (if neg then !o.isSome else o.isSome)) H2 := by
  refine (h σ H S).mono fun v H1 ⟨y, m1, hm1, l1, r1, q1⟩ => ?_
  refine (q1 σ H1 (S.later hm1 l1)).mono fun u H2 ⟨d, m2, hm2, l2, r2, ks, kk, hd, hk, q⟩ => ?_
  obtain ⟨c, kvs, ev, z, ek, rs⟩ := hd.at hm2 r2
  refine ⟨c, valV kvs kk, ev, by rw [keyD_rep (l2.rep r1) hk]; exact .inl ⟨_, _, z, rfl, rfl⟩, ?_⟩
  have es : (valV kvs kk).isSome = (getK ks kk).isSome := by
    obtain ⟨g1, g2⟩ := getK_rep (k := kk) ek rs
    cases hg : getK ks kk with
    | none => rw [g2 hg]; rfl
    | some w => obtain ⟨v', hv, _⟩ := g1 w hg; rw [hv]; rfl
  rw [es]
  exact (Post.now hm2 .bl q).from (l1.trans l2)
theorem AE.din {Q : QD} (hx : XF X fb k) (h : AE X i ρ m fun y m1 => AE X o ρ m1 fun d m2 => ∃ ks kk, IsD m2 d ks ∧ keyD y = some kk ∧ Q (.bl (getK ks kk).isSome) m2) (h1 : behindInMarks .In o = false := by rfl) : AE X (.Compare i [.In] [o] pos) ρ m Q := .mk fun σ H S =>
  WE.of (pe_cmp (pc_din hx.hu peW peW) h1) (din_at false h S)
theorem AE.dnotin {Q : QD} (hx : XF X fb k) (h : AE X i ρ m fun y m1 => AE X o ρ m1 fun d m2 => ∃ ks kk, IsD m2 d ks ∧ keyD y = some kk ∧ Q (.bl (!(getK ks kk).isSome)) m2) (h1 : behindInMarks .NotIn o = false := by rfl) : AE X (.Compare i [.NotIn] [o] pos) ρ m Q := .mk fun σ H S =>
  WE.of (pe_cmp (pc_dnotin hx.hu peW peW) h1) (din_at true h S)
theorem AT.din {Q : Bool → Mu → Prop} (hx : XF X fb k) (h : AE X i ρ m fun y m1 => AE X o ρ m1 fun d m2 => ∃ ks kk, IsD m2 d ks ∧ keyD y = some kk ∧ Q (getK ks kk).isSome m2) (h1 : behindInMarks .In o = false := by rfl) : AT X (.Compare i [.In] [o] pos) ρ m Q := .mk fun σ H S =>
  WT.of (pt_cmp (pc_din hx.hu peW peW) h1) (WE.mono (X := X) (din_at (Q := fun d m1 => ∃ c, d = .bl c ∧ Q c m1) false (h.imp fun _ _ g => g.imp fun _ _ ⟨ks, kk, h1, h2, q⟩ => ⟨ks, kk, h1, h2, _, rfl, q⟩) S) fun _ _ g => WE.mono (X := X) g fun _ _ ⟨c, w, e, dg, d, m', hm', l, r, c', e', q⟩ => ⟨c, w, e, dg, by subst e'; cases r; exact ⟨_, rfl, m', hm', l, q⟩⟩)
theorem AT.dnotin {Q : Bool → Mu → Prop} (hx : XF X fb k) (h : AE X i ρ m fun y m1 => AE X o ρ m1 fun d m2 => ∃ ks kk, IsD m2 d ks ∧ keyD y = some kk ∧ Q (!(getK ks kk).isSome) m2) (h1 : behindInMarks .NotIn o = false := by rfl) : AT X (.Compare i [.NotIn] [o] pos) ρ m Q := .mk fun σ H S =>
  WT.of (pt_cmp (pc_dnotin hx.hu peW peW) h1) (WE.mono (X := X) (din_at (Q := fun d m1 => ∃ c, d = .bl c ∧ Q c m1) true (h.imp fun _ _ g => g.imp fun _ _ ⟨ks, kk, h1, h2, q⟩ => ⟨ks, kk, h1, h2, _, rfl, q⟩) S) fun _ _ g => WE.mono (X := X) g fun _ _ ⟨c, w, e, dg, d, m', hm', l, r, c', e', q⟩ => ⟨c, w, e, dg, by subst e'; cases r; exact ⟨_, rfl, m', hm', l, q⟩⟩)
/-- d[k] = v -/
theorem AS.dput {value : Expr} {D' : AEnds} (hx : XF X fb k) (h : AE X value ρ m fun d m1 => AE X o ρ m1 fun q m2 => AE X i ρ m2 fun y m3 => ∃ c ks kk, q = .ref c ∧ m3 c = some (.dic ks) ∧ keyD y = some kk ∧ ks.length < sizeLine ∧ D'.nx ρ (updM m3 c (.dic (putKD ks kk d))))
    (hs : swapsWith value (some (.Subscript o i pos')) pos.line X.env = pure false := by rfl) : AS X (.Assign [.Subscript o i pos'] value pos) ρ m D' := .mk fun σ H S => by
  refine WS.of (ps_dput hx.hu peW peW peW hs) ((h σ H S).mono fun v H1 ⟨d, m1, hm1, l1, r1, q1⟩ => ?_)
  refine (q1 σ H1 (S.later hm1 l1)).mono fun x H2 ⟨q, m2, hm2, l2, r2, q2⟩ => ?_
  refine (q2 σ H2 (S.later hm2 (l1.trans l2))).mono fun y' H3 ⟨y, m3, hm3, l3, r3, c, ks, kk, e, hc, hk, hz, hn⟩ => ?_
  subst e
  cases r2
  obtain ⟨kvs, z, ek, rs⟩ := hm3 _ _ hc
  have dm : dom m3 c := by unfold dom; rw [hc]; simp
  have lw : Later m3 H3 (updM m3 c (.dic (putKD ks kk d))) (upd H3 c (.dK (putK kvs kk v))) := Later.write dm
  have le : kvs.length = ks.length := by have := congrArg List.length ek; simpa using this
  refine ⟨c, _, rfl, by rw [keyD_rep r3 hk]; exact DPut.k z (by rw [le]; exact hz), ρ, _, hm3.put (u := .dic (putKD ks kk d)) (.inr dm) ⟨_, upd_same, putK_fst ek, putK_snd (lw.rep ((l2.trans l3).rep r1)) ek (lw.reps rs)⟩, l1.trans (l2.trans (l3.trans lw)), S.rs.later (l1.trans (l2.trans (l3.trans lw))), hn⟩
/-- dict(d) -/
theorem ca_dictcopy : CallA X (.type "dict") fun ds m Q => ∃ d ks, ds = [d] ∧ IsD m d ks ∧ ∀ p, m p = none → Q (.ref p) (updM m p (.dic ks)) := callA (r := fun xs H Q => ∃ a kvs, xs = [.ref a] ∧ Rd H a (.dK kvs) ∧ ∀ p, H p = none → Q (.ref p) (upd H p (.dK kvs)))
  (fun pins s σ H xs us Q I r ⟨a, kvs, e, h1, h2⟩ => by
    subst e
    rw [Vals.ref1 r]
    exact d_copyOf I h1 fun p s' n I' => ⟨.ref p, _, I', rfl, h2 p n⟩)
  fun ds m vs H Q hm rs ⟨d, ks, e, hd, q⟩ => by
    subst e
    cases rs with
    | cons r t =>
      cases t
      obtain ⟨c, kvs, ev, z, ek, r2⟩ := hd.at hm r
      subst ev
      exact ⟨c, kvs, rfl, z, fun p n => Post.newM (u := .dic ks) hm n ⟨kvs, upd_same, ek, (Later.new n).reps r2⟩ q⟩
/-! ### lists -/
theorem oa_cat : OpA X (binaryOp .Add) fun da db m Q => ∃ xs ys, IsL m da xs ∧ IsL m db ys ∧ xs.length + ys.length ≤ sizeLine ∧ Q (.lst (xs ++ ys)) m := ⟨fun x y H Q => ∃ l b xs zs, x = .ref l ∧ y = .ref b ∧ Rd H l (.lst xs) ∧ Rd H b (.lst zs) ∧ xs.length + zs.length ≤ sizeLine ∧ ∀ p, H p = none → Q (.ref p) (upd H p (.lst (xs ++ zs))),
  fun pins s σ H x y v u Q I rx ry ⟨l, b, xs, zs, e1, e2, h1, h2, hz, q⟩ => by
    subst e1 e2
    cases rx; cases ry
    obtain ⟨z1, its1, n1, rv1, g1⟩ := h1.ok I.hok
    obtain ⟨z2, its2, n2, rv2, g2⟩ := h2.ok I.hok
    have w1 := rv1.length
    have w2 := rv2.length
    refine PySem.P.add_list g1 g2 ?_ (by simp only [List.size_toArray]; omega)
    rw [show its1.toArray ++ its2.toArray = (its1 ++ its2).toArray by simp]
    exact ⟨.ref _, _, I.lnew (t' := s.toks) (rv1.append rv2) (by simp only [List.length_append]; omega), rfl, q _ I.fresh⟩,
  fun da db x y m H Q hm ra rb ⟨xs, ys, h1, h2, hz, q⟩ => by
    obtain ⟨c1, v1, e1, s1, r1⟩ := h1.rd hm ra
    obtain ⟨c2, v2, e2, s2, r2⟩ := h2.rd hm rb
    exact ⟨c1, c2, v1, v2, e1, e2, s1, s2, by rw [← r1.length, ← r2.length]; exact hz, fun p hp => post_lst hm hp (r1.append r2) q⟩⟩
/-- xs.append(y) -/
theorem ma_append : MethA X "list.append" fun d ds m Q => ∃ c es y, d = .ref c ∧ ds = [y] ∧ m c = some (.lst es) ∧ es.length < sizeLine ∧ Q .non (updM m c (.lst (es ++ [y]))) := methA mt_append fun d ds m x vs H Q hm rx rs ⟨c, es, y, e1, e2, hc, hz, q⟩ => by
  subst e1 e2
  cases rx
  cases rs with
  | @cons _ v0 _ _ r t =>
    cases t
    obtain ⟨us, z, r2⟩ := hm _ _ hc
    have dm : dom m c := by unfold dom; rw [hc]; simp
    have lw : Later m H (updM m c (.lst (es ++ [y]))) (upd H c (.lst (us ++ [v0]))) := Later.write dm
    exact ⟨c, us, _, rfl, rfl, z, by rw [← r2.length]; exact hz, .non, _, hm.put (u := .lst (es ++ [y])) (.inr dm) ⟨_, upd_same, (lw.reps r2).append (.cons (lw.rep r) .nil)⟩, lw, .non, q⟩
theorem ma_pop0 : MethA X "list.pop" fun d ds m Q => ∃ c es i j y, d = .ref c ∧ ds = [.int i] ∧ m c = some (.lst es) ∧ -(2 ^ 63) ≤ i ∧ i < 2 ^ 63 ∧ seqIndex? i es.length = some j ∧ es[j]? = some y ∧ Q y (updM m c (.lst (es.eraseIdx j))) := methA mt_popAt fun d ds m x vs H Q hm rx rs ⟨c, es, i, j, y, e1, e2, hc, h1, h2, hj, hy, q⟩ => by
  subst e1 e2
  cases rx
  cases rs with
  | cons r t =>
    cases t; cases r
    obtain ⟨us, z, r2⟩ := hm _ _ hc
    have dm : dom m c := by unfold dom; rw [hc]; simp
    obtain ⟨u, hu, ru⟩ := r2.get hy
    have lw : Later m H (updM m c (.lst (es.eraseIdx j))) (upd H c (.lst (us.eraseIdx j))) := Later.write dm
    exact ⟨c, us, i, j, u, rfl, rfl, z, h1, h2, by rw [← r2.length]; exact hj, hu, y, _, hm.put (u := .lst (es.eraseIdx j)) (.inr dm) ⟨_, upd_same, (lw.reps r2).eraseIdx j⟩, lw, lw.rep ru, q⟩
/-! ### all, any, sum, max, min -/
theorem reps_bls {K : PySem.W.Frag} {M : Addr → Prop} {H : Hp} : ∀ {bs : List Bool} {vs : List V}, Reps K M H (bs.map D.bl) vs → vs = bs.map V.bl
  | [], _, .nil => rfl
  | _ :: _, _, .cons r t => by cases r; rw [reps_bls t]; rfl
theorem reps_ints {K : PySem.W.Frag} {M : Addr → Prop} {H : Hp} : ∀ {bs : List Int} {vs : List V}, Reps K M H (bs.map D.int) vs → vs = bs.map V.int
  | [], _, .nil => rfl
  | _ :: _, _, .cons r t => by cases r; rw [reps_ints t]; rfl
theorem reps_strs {K : PySem.W.Frag} {M : Addr → Prop} {H : Hp} : ∀ {bs : List Str} {vs : List V}, Reps K M H (bs.map D.str) vs → vs = bs.map V.str
  | [], _, .nil => rfl
  | _ :: _, _, .cons r t => by cases r; rw [reps_strs t]; rfl
theorem to_ints {K : PySem.W.Frag} {M : Addr → Prop} {H : Hp} : ∀ {bs : List Int}, Reps K M H (bs.map D.int) (bs.map V.int)
  | [] => .nil
  | _ :: _ => .cons .int to_ints
theorem to_strs {K : PySem.W.Frag} {M : Addr → Prop} {H : Hp} : ∀ {bs : List Str}, Reps K M H (bs.map D.str) (bs.map V.str)
  | [] => .nil
  | _ :: _ => .cons .str to_strs
theorem ca_all (hc : X.calm = true) : CallA X (.builtin "all") fun ds m Q => ∃ d, ∃ bs : List Bool, ds = [d] ∧ IsL m d (bs.map D.bl) ∧ Q (.bl (bs.all id)) m := callA (cr_all hc) fun ds m vs H Q hm rs ⟨d, bs, e, hl, q⟩ => by
  subst e
  cases rs with
  | cons r t =>
    cases t
    obtain ⟨c, us, ev, s, r2⟩ := hl.at hm r
    subst ev
    rw [reps_bls r2] at s
    exact ⟨c, bs, rfl, s, .now hm .bl q⟩
theorem ca_any (hc : X.calm = true) : CallA X (.builtin "any") fun ds m Q => ∃ d, ∃ bs : List Bool, ds = [d] ∧ IsL m d (bs.map D.bl) ∧ Q (.bl (bs.any id)) m := callA (cr_any hc) fun ds m vs H Q hm rs ⟨d, bs, e, hl, q⟩ => by
  subst e
  cases rs with
  | cons r t =>
    cases t
    obtain ⟨c, us, ev, s, r2⟩ := hl.at hm r
    subst ev
    rw [reps_bls r2] at s
    exact ⟨c, bs, rfl, s, .now hm .bl q⟩
theorem ca_sum (hc : X.calm = true) : CallA X (.builtin "sum") fun ds m Q => ∃ d, ∃ ns : List Int, ds = [d] ∧ IsL m d (ns.map D.int) ∧ Q (.int ns.sum) m := callA (cr_sum hc) fun ds m vs H Q hm rs ⟨d, bs, e, hl, q⟩ => by
  subst e
  cases rs with
  | cons r t =>
    cases t
    obtain ⟨c, us, ev, s, r2⟩ := hl.at hm r
    subst ev
    rw [reps_ints r2] at s
    exact ⟨c, bs, rfl, s, .now hm .int q⟩
theorem ca_max2 (hc : X.calm = true) : CallA X (.builtin "max") fun ds m Q => ∃ i j, ds = [.int i, .int j] ∧ Q (.int (max i j)) m := callA (call_max2 hc) fun ds m vs H Q hm rs ⟨i, j, e, q⟩ => by
  subst e
  cases rs with
  | cons r t => cases t with
    | cons r2 t =>
      cases t; cases r; cases r2
      have e : (if j > i then j else i) = max i j := by rw [Int.max_def]; split <;> split <;> omega
      exact ⟨i, j, rfl, by rw [e]; exact .now hm .int q⟩
theorem ca_min2 (hc : X.calm = true) : CallA X (.builtin "min") fun ds m Q => ∃ i j, ds = [.int i, .int j] ∧ Q (.int (min i j)) m := callA (call_min2 hc) fun ds m vs H Q hm rs ⟨i, j, e, q⟩ => by
  subst e
  cases rs with
  | cons r t => cases t with
    | cons r2 t =>
      cases t; cases r; cases r2
      have e : (if j < i then j else i) = min i j := by rw [Int.min_def]; split <;> split <;> omega
      exact ⟨i, j, rfl, by rw [e]; exact .now hm .int q⟩
/-! ### sorted -/
theorem ca_sortS : CallA X (.builtin "sorted") fun ds m Q => ∃ d, ∃ ss : List Str, ds = [d] ∧ IsL m d (ss.map D.str) ∧ ss.length < 64 ∧ ∀ ys : List Str, ys.Perm ss → sortedS ys = true → Q (.lst (ys.map D.str)) m := callA cr_sortedS fun ds m vs H Q hm rs ⟨d, bs, e, hl, hz, q⟩ => by
  subst e
  cases rs with
  | cons r t =>
    cases t
    obtain ⟨c, us, ev, s, r2⟩ := hl.at hm r
    subst ev
    rw [reps_strs r2] at s
    exact ⟨c, bs, rfl, s, hz, fun ys p h1 h2 hp => post_lst hm hp to_strs (q ys h1 h2)⟩
theorem ca_sortI64 : CallA X (.builtin "sorted") fun ds m Q => ∃ d, ∃ ns : List Int, ds = [d] ∧ IsL m d (ns.map D.int) ∧ ns.length < 64 ∧ ∀ ys : List Int, ys.Perm ns → ys.Pairwise (· ≤ ·) → Q (.lst (ys.map D.int)) m := callA cr_sorted fun ds m vs H Q hm rs ⟨d, bs, e, hl, hz, q⟩ => by
  subst e
  cases rs with
  | cons r t =>
    cases t
    obtain ⟨c, us, ev, s, r2⟩ := hl.at hm r
    subst ev
    rw [reps_ints r2] at s
    exact ⟨c, bs, rfl, s, hz, fun ys p h1 h2 hp => post_lst hm hp to_ints (q ys h1 h2)⟩
theorem ca_sortD (hc : X.calm = true) : CallA X (.builtin "sorted") fun ds m Q => ∃ d ks, ∃ ss : List Str, ds = [d] ∧ IsD m d ks ∧ ks.map (·.1) = ss.map Sum.inr ∧ ss.length < 64 ∧ ∀ ys : List Str, ys.Perm ss → sortedS ys = true → Q (.lst (ys.map D.str)) m := callA (call_sortedD hc) fun ds m vs H Q hm rs ⟨d, ks, ss, e, hd, hk, hz, q⟩ => by
  subst e
  cases rs with
  | cons r t =>
    cases t
    obtain ⟨c, kvs, ev, s, ek, r2⟩ := hd.at hm r
    subst ev
    exact ⟨c, kvs, ss, rfl, s, ek.trans hk, hz, fun ys p h1 h2 hp => post_lst hm hp to_strs (q ys h1 h2)⟩
/-! ### isinstance -/
structure InsTy (K : PySem.W.Frag) (C : Addr) : Prop where
  cl : Cls K C
  ha : PySem.W.findIn K (.ref C) "__class__" = some (some (.builtin "object.__class__"))
  hn : PySem.W.specialIn K (.builtin "object.__class__") "__get__" = some (some (.builtin "getset_descriptor.__get__"))
  tk : PySem.W.takesIn K (.builtin "object.__class__") = some true
  hm : PySem.W.mroIn K C (.type "object") = some true
inductive TyD (K : PySem.W.Frag) (m : Mu) : D → Value → Prop
  | non : TyD K m .non (.type "NoneType")
  | bl {b : Bool} : TyD K m (.bl b) (.type "bool")
  | int {i : Int} : TyD K m (.int i) (.type "int")
  | str {x : Str} : TyD K m (.str x) (.type "str")
  | lst {d : D} {ds : List D} (h : IsL m d ds) : TyD K m d (.type "list")
  | tup {ds : List D} : TyD K m (.tup ds) (.type "tuple")
  | dic {d : D} {ks : List (Key × D)} (h : IsD m d ks) : TyD K m d (.type "dict")
  | ins {d : D} {C : Addr} {fs : List (Str × D)} (h : IsI m d C fs) (t : InsTy K C) : TyD K m d (.ref C)
theorem TyD.at {K : PySem.W.Frag} {H : Hp} {d : D} {v : V} {t : Value} (h : TyD K m d t) (hm : HM K m H) (r : Rep K (dom m) H d v) : TyX K H v t := by
  cases h with
  | non => cases r; exact .base .non
  | bl => cases r; exact .base (.bl _)
  | int => cases r; exact .base (.int _)
  | str => cases r; exact .base (.str _)
  | lst h =>
    obtain ⟨a, vs, e, q, _⟩ := h.rd hm r
    subst e
    rcases q with q | ⟨o, q⟩
    · exact .base (.lst q)
    · exact .base (.frz q)
  | tup =>
    cases r with
    | tup n q _ => exact .base (.tup q)
    | tupK q _ =>
      rcases q with (q | ⟨o, q⟩) | ⟨o, its, n, q, c, _⟩
      · cases q
      · cases q
      · exact .kTuple q c
  | dic h =>
    obtain ⟨a, vs, e, q, _⟩ := h.at hm r
    subst e
    rcases q with q | ⟨o, q⟩
    · exact .base (.dK q)
    · exact .fDict q
  | ins h t =>
    obtain ⟨a, dx, gs, e, q, _⟩ := h.at hm r
    subst e
    exact .base (.ins q t.cl t.ha t.hn t.tk t.hm)
/-- a class as a datum -/
inductive ClD : D → Value → Prop
  | ty {n : String} : ClD (.ty n) (.type n)
  | own {C : Addr} : ClD (.ref C) (.ref C)
theorem ClD.at {K : PySem.W.Frag} {M : Addr → Prop} {H : Hp} {d : D} {v : V} {u : Value} (h : ClD d u) (r : Rep K M H d v) : ClsV v u := by
  cases h <;> cases r
  · exact .ty _
  · exact .own _
theorem ca_isi : CallA X (.builtin "isinstance") fun ds m Q => ∃ d c t u b, ds = [d, c] ∧ TyD X.K m d t ∧ ClD c u ∧ PySem.W.kitOne X.K t u = some b ∧ Q (.bl b) m := callA call_isi fun ds m vs H Q hm rs ⟨d, c, t, u, b, e, ht, hc, hk, q⟩ => by
  subst e
  cases rs with
  | cons r t => cases t with
    | cons r2 t =>
      cases t
      exact ⟨_, _, _, u, b, rfl, hc.at r2, ht.at hm r, hk, .now hm .bl q⟩
theorem ca_isiT : CallA X (.builtin "isinstance") fun ds m Q => ∃ d c1 c2 t u1 u2 b, ds = [d, .tup [c1, c2]] ∧ TyD X.K m d t ∧ ClD c1 u1 ∧ ClD c2 u2 ∧ PySem.W.kitAny X.K t [u1, u2] = some b ∧ Q (.bl b) m :=
  fun ds m vs H Q hm rs ⟨d, c1, c2, t, u1, u2, b, e, ht, h1, h2, hk, q⟩ pins s σ us I rv => by
  subst e
  cases rs with
  | cons r t => cases t with
    | cons r2 t =>
      cases t
      cases r2 with
      | tup n hq rr =>
        cases rr with
        | cons a1 rr => cases rr with
          | cons a2 rr =>
            cases rr
            exact call_isiT pins s σ H _ us _ I rv ⟨_, _, _, _, [u1, u2], b, rfl, hq, .cons (h1.at a1) (.cons (h2.at a2) .nil), ht.at hm r, hk, .now hm .bl q⟩
      | tupK hq rr =>
        rcases hq with (q' | ⟨o, q'⟩) | ⟨o, its, n, ho, hc, hd, hz, rvs⟩
        · cases q'
        · cases q'
        · cases rr with
          | cons a1 rr => cases rr with
            | cons a2 rr =>
              cases rr
              have e : its.toList = [u1, u2] := ClsV.all (.cons (h1.at a1) (.cons (h2.at a2) .nil)) rvs
              obtain ⟨oc, od, dt, sl⟩ := o
              simp only at hc hd
              subst hc hd
              exact call_isiK pins s σ H _ us _ I rv ⟨_, _, od, [u1, u2], n, sl, _, b, rfl, by rw [← e]; simpa using ho, ht.at hm r, hk, .now hm .bl q⟩
end
end Ab
/-! A6: operators by their signs; equality of data; membership. -/
namespace Ab
open L2 PySem PySem.Spec PyProof.Rows
/-! ### data without objects of one's own -/
mutual
def dP : D → PyData
  | .bl b => .bool b
  | .int i => .int i
  | .str x => .str x
  | .lst ds => .list (dPs ds)
  | .tup ds => .tuple (dPs ds)
  | _ => .none
def dPs : List D → List PyData
  | [] => []
  | d :: ds => dP d :: dPs ds
end
mutual
/-- data that == of lists and tuples knows -/
def isP : D → Bool
  | .non => true
  | .bl _ => true
  | .int _ => true
  | .str x => PyData.canLay0 (.str x)
  | .lst ds => isPs ds
  | .tup ds => isPs ds
  | _ => false
def isPs : List D → Bool
  | [] => true
  | d :: ds => isP d && isPs ds
end
section
variable {K : PySem.W.Frag} {M : Addr → Prop} {H : Hp}
mutual
theorem dP_rep : ∀ (d : D) {v : V}, isP d = true → Rep K M H d v → Dp K H v (dP d)
  | .non, _, _, r => by cases r; exact .non
  | .bl b, _, _, r => by cases r; exact .bl b
  | .int i, _, _, r => by cases r; exact .int i
  | .str x, _, _, r => by cases r; exact .str x
  | .lst ds, _, h, r => by
    cases r with
    | lst n q rs => exact .lst (.inl q) (dPs_rep ds (by simpa [isP] using h) rs)
  | .tup ds, _, h, r => by
    cases r with
    | tup n q rs => exact .tup (.of q) (dPs_rep ds (by simpa [isP] using h) rs)
    | tupK q rs => exact .tup (sqKT q) (dPs_rep ds (by simpa [isP] using h) rs)
  | .ty _, _, h, _ => by simp [isP] at h
  | .ref _, _, h, _ => by simp [isP] at h
  | .dic _, _, h, _ => by simp [isP] at h
  | .ins _ _, _, h, _ => by simp [isP] at h
  | .kl _, _, h, _ => by simp [isP] at h
theorem dPs_rep : ∀ (ds : List D) {vs : List V}, isPs ds = true → Reps K M H ds vs → DpAll K H vs (dPs ds)
  | [], _, _, r => by cases r; exact .nil
  | d :: ds, _, h, r => by
    cases r with
    | cons r t =>
      have h' : isP d = true ∧ isPs ds = true := by simpa [isPs] using h
      exact .cons (dP_rep d h'.1 r) (dPs_rep ds h'.2 t)
end
end
mutual
theorem canLay_of_isP : ∀ d : D, isP d = true → (dP d).canLay0 = true
  | .non, _ => rfl
  | .bl _, _ => rfl
  | .int _, _ => rfl
  | .str _, h => by simpa [isP, dP] using h
  | .lst ds, h => by simpa [dP, PyData.canLay0] using canLays_of_isPs ds (by simpa [isP] using h)
  | .tup ds, h => by simpa [dP, PyData.canLay0] using canLays_of_isPs ds (by simpa [isP] using h)
  | .ty _, h => by simp [isP] at h
  | .ref _, h => by simp [isP] at h
  | .dic _, h => by simp [isP] at h
  | .ins _ _, h => by simp [isP] at h
  | .kl _, h => by simp [isP] at h
theorem canLays_of_isPs : ∀ ds : List D, isPs ds = true → PyData.canLayAll0 (dPs ds) = true
  | [], _ => rfl
  | d :: ds, h => by
    have h' : isP d = true ∧ isPs ds = true := by simpa [isPs] using h
    simp [dPs, PyData.canLayAll0, canLay_of_isP d h'.1, canLays_of_isPs ds h'.2]
end
theorem shaped_of {d : D} (h : isP d = true) (hd : (dP d).depth ≤ 64) : SeqAt.shaped (dP d) = true := by
  unfold SeqAt.shaped
  rw [canLay_of_isP d h, decide_eq_true hd]; rfl
theorem dPs_map {α : Type} (f : α → D) : ∀ xs : List α, dPs (xs.map f) = xs.map fun x => dP (f x)
  | [] => rfl
  | x :: xs => by rw [List.map_cons, List.map_cons, dPs, dPs_map f xs]
theorem isPs_map {α : Type} {f : α → D} : ∀ {xs : List α}, (∀ x ∈ xs, isP (f x) = true) → isPs (xs.map f) = true
  | [], _ => rfl
  | x :: xs, h => by rw [List.map_cons, isPs, h x List.mem_cons_self, isPs_map fun y hy => h y (List.mem_cons_of_mem _ hy)]; rfl
theorem depthAll_map {α : Type} {f : α → PyData} {n : Nat} : ∀ {xs : List α}, (∀ x ∈ xs, (f x).depth ≤ n) → PyData.depthAll (xs.map f) ≤ n
  | [], _ => Nat.zero_le _
  | x :: xs, h => by
    rw [List.map_cons, PyData.depthAll]
    have h1 := h x List.mem_cons_self
    have h2 := depthAll_map fun y hy => h y (List.mem_cons_of_mem x hy)
    omega
/-- a kind of data whose == is its equality: how it is laid, how deep it is -/
structure EqK {α : Type} (f : α → D) (ok : α → Prop) (n : Nat) : Prop where
  isP : ∀ x, ok x → isP (f x) = true
  dep : ∀ x, ok x → (dP (f x)).depth ≤ n
  eqv : ∀ x y, PyData.eqv (dP (f x)) (dP (f y)) = true ↔ x = y
theorem eqK_int : EqK D.int (fun _ => True) 0 := ⟨fun _ _ => rfl, fun _ _ => Nat.le_refl _, fun x y => by simp [dP, PyData.eqv]⟩
theorem eqK_str : EqK D.str (fun x => PyData.canLay0 (.str x) = true) 0 := ⟨fun _ h => by simpa [isP] using h, fun _ _ => Nat.le_refl _, fun x y => by simp [dP, PyData.eqv]⟩
theorem eqvAll_map {α : Type} {f : α → D} (h : ∀ x y, PyData.eqv (dP (f x)) (dP (f y)) = true ↔ x = y) : ∀ xs ys : List α, PyData.eqvAll (dPs (xs.map f)) (dPs (ys.map f)) = true ↔ xs = ys
  | [], [] => by simp [dPs, PyData.eqvAll]
  | [], _ :: _ => by simp [dPs, PyData.eqvAll]
  | _ :: _, [] => by simp [dPs, PyData.eqvAll]
  | x :: xs, y :: ys => by simp [dPs, PyData.eqvAll, h, eqvAll_map h xs ys]
theorem EqK.list {α : Type} {f : α → D} {ok : α → Prop} {n : Nat} (e : EqK f ok n) : EqK (fun xs : List α => .lst (xs.map f)) (fun xs => ∀ x ∈ xs, ok x) (n + 1) where
  isP := fun xs h => by show isPs (xs.map f) = true; exact isPs_map fun x hx => e.isP x (h x hx)
  dep := fun xs h => by
    show PyData.depth (.list (dPs (xs.map f))) ≤ n + 1
    rw [PyData.depth, dPs_map]
    have := depthAll_map (f := fun x => dP (f x)) (n := n) (xs := xs) fun x hx => e.dep x (h x hx)
    omega
  eqv := fun xs ys => by show PyData.eqv (.list (dPs (xs.map f))) (.list (dPs (ys.map f))) = true ↔ _; rw [PyData.eqv]; exact eqvAll_map e.eqv xs ys
section
variable {X : Cx} {fb : FB} {k : Nat} {ρ : Rho} {m : Mu} {e o a b c : Expr} {pos : Pos}
/-- a datum, wherever it stands: as such, or a changing list -/
inductive IsV (m : Mu) : D → D → Prop
  | im {d : D} : IsV m d d
  | mu {a : Addr} {ds : List D} (h : m a = some (.lst ds)) : IsV m (.ref a) (.lst ds)
theorem IsV.dp {K : PySem.W.Frag} {H : Hp} {d d' : D} {v : V} (h : IsV m d d') (hm : HM K m H) (r : Rep K (dom m) H d v) (p : isP d' = true) : Dp K H v (dP d') := by
  cases h with
  | im => exact dP_rep d p r
  | @mu a ds e =>
    cases r
    obtain ⟨vs, z, rs⟩ := hm _ _ e
    exact .lst (.of z) (dPs_rep ds (by simpa [isP] using p) rs)
theorem oa_eqD (hx : XF X fb k) {α : Type} {f : α → D} {ok : α → Prop} {n : Nat} [DecidableEq α] (E : EqK f ok n) (hn : n ≤ 64) : OpA X (compareOp .Eq) fun da db m Q => ∃ x y, IsV m da (f x) ∧ IsV m db (f y) ∧ ok x ∧ ok y ∧ Q (.bl (decide (x = y))) m := ⟨_, op_eqD hx.room.units, fun da db u v m H Q hm ra rb ⟨x, y, h1, h2, o1, o2, q⟩ => by
  refine ⟨_, _, h1.dp hm ra (E.isP x o1), h2.dp hm rb (E.isP y o2), shaped_of (E.isP x o1) (Nat.le_trans (E.dep x o1) hn), shaped_of (E.isP y o2) (Nat.le_trans (E.dep y o2) hn), ?_⟩
  have e : PyData.eqv (dP (f x)) (dP (f y)) = decide (x = y) := by
    by_cases h : x = y
    · rw [decide_eq_true h]; exact (E.eqv x y).mpr h
    · rw [decide_eq_false h]; exact Bool.eq_false_iff.mpr fun z => h ((E.eqv x y).mp z)
  rw [e]; exact .now hm .bl q⟩
theorem oa_neD (hx : XF X fb k) {α : Type} {f : α → D} {ok : α → Prop} {n : Nat} [DecidableEq α] (E : EqK f ok n) (hn : n ≤ 64) : OpA X (compareOp .NotEq) fun da db m Q => ∃ x y, IsV m da (f x) ∧ IsV m db (f y) ∧ ok x ∧ ok y ∧ Q (.bl (!decide (x = y))) m := ⟨_, op_neD hx.room.units, fun da db u v m H Q hm ra rb ⟨x, y, h1, h2, o1, o2, q⟩ => by
  refine ⟨_, _, h1.dp hm ra (E.isP x o1), h2.dp hm rb (E.isP y o2), shaped_of (E.isP x o1) (Nat.le_trans (E.dep x o1) hn), shaped_of (E.isP y o2) (Nat.le_trans (E.dep y o2) hn), ?_⟩
  have e : PyData.eqv (dP (f x)) (dP (f y)) = decide (x = y) := by
    by_cases h : x = y
    · rw [decide_eq_true h]; exact (E.eqv x y).mpr h
    · rw [decide_eq_false h]; exact Bool.eq_false_iff.mpr fun z => h ((E.eqv x y).mp z)
  rw [e]; exact .now hm .bl q⟩
/-! ### + -/
inductive AddR (m : Mu) : D → D → D → Prop
  | int {i j : Int} : AddR m (.int i) (.int j) (.int (i + j))
  | str {x y : Str} (h : x.length + y.length ≤ sizeLine) : AddR m (.str x) (.str y) (.str (x ++ y))
  | cat {da db : D} {xs ys : List D} (h1 : IsL m da xs) (h2 : IsL m db ys) (h : xs.length + ys.length ≤ sizeLine) : AddR m da db (.lst (xs ++ ys))
theorem oa_addS : OpA X (binaryOp .Add) fun da db m Q => ∃ x y, da = .str x ∧ db = .str y ∧ x.length + y.length ≤ sizeLine ∧ Q (.str (x ++ y)) m := ⟨_, op_add_str, fun da db u v m H Q hm ra rb ⟨x, y, e1, e2, h, q⟩ => by
  subst e1 e2; cases ra; cases rb; exact ⟨x, y, rfl, rfl, h, .now hm .str q⟩⟩
theorem AE.add {Q : QD} (h : AE X a ρ m fun da m1 => AE X b ρ m1 fun db m2 => ∃ d, AddR m2 da db d ∧ Q d m2) : AE X (.BinOp a .Add b pos) ρ m Q :=
  AE.op (oa_add.or (oa_addS.or oa_cat)) (h.imp fun da m1 g => g.imp fun db m2 ⟨d, r, q⟩ => by
    cases r with
    | int => exact .inl ⟨_, _, rfl, rfl, q⟩
    | str h => exact .inr (.inl ⟨_, _, rfl, rfl, h, q⟩)
    | cat h1 h2 h => exact .inr (.inr ⟨_, _, h1, h2, h, q⟩))
theorem AE.sub {Q : QD} (h : AE X a ρ m fun da m1 => AE X b ρ m1 fun db m2 => ∃ i j, da = .int i ∧ db = .int j ∧ Q (.int (i - j)) m2) : AE X (.BinOp a .Sub b pos) ρ m Q := AE.op oa_sub h
theorem AE.mul {Q : QD} (h : AE X a ρ m fun da m1 => AE X b ρ m1 fun db m2 => ∃ i j, da = .int i ∧ db = .int j ∧ CMul i j ∧ Q (.int (i * j)) m2) : AE X (.BinOp a .Mult b pos) ρ m Q := AE.op oa_mul h
theorem AE.mod {Q : QD} (h : AE X a ρ m fun da m1 => AE X b ρ m1 fun db m2 => ∃ i j, da = .int i ∧ db = .int j ∧ 0 < j ∧ Q (.int (i % j)) m2) : AE X (.BinOp a .Mod b pos) ρ m Q := AE.op oa_mod h
theorem AE.fdiv {Q : QD} (h : AE X a ρ m fun da m1 => AE X b ρ m1 fun db m2 => ∃ i j, da = .int i ∧ db = .int j ∧ CDiv i j ∧ Q (.int (i / j)) m2) : AE X (.BinOp a .FloorDiv b pos) ρ m Q := AE.op oa_fdiv h
theorem AE.pow {Q : QD} (h : AE X a ρ m fun da m1 => AE X b ρ m1 fun db m2 => ∃ i j, da = .int i ∧ db = .int j ∧ CPow i j ∧ Q (.int (i ^ j.toNat)) m2) : AE X (.BinOp a .Pow b pos) ρ m Q := AE.op oa_pow h
abbrev RI (p : Int → Int → Bool) : D → D → Mu → QD → Prop := fun da db m Q => ∃ i j, da = .int i ∧ db = .int j ∧ Q (.bl (p i j)) m
theorem AE.lt {Q : QD} (h : AE X a ρ m fun da m1 => AE X b ρ m1 fun db m2 => RI (fun i j => decide (i < j)) da db m2 Q) (hm : behindInMarks .Lt b = false := by rfl) : AE X (.Compare a [.Lt] [b] pos) ρ m Q := AE.cmp oa_lt h hm
theorem AE.le {Q : QD} (h : AE X a ρ m fun da m1 => AE X b ρ m1 fun db m2 => RI (fun i j => decide (i ≤ j)) da db m2 Q) (hm : behindInMarks .LtE b = false := by rfl) : AE X (.Compare a [.LtE] [b] pos) ρ m Q := AE.cmp oa_le h hm
theorem AE.gt {Q : QD} (h : AE X a ρ m fun da m1 => AE X b ρ m1 fun db m2 => RI (fun i j => decide (j < i)) da db m2 Q) (hm : behindInMarks .Gt b = false := by rfl) : AE X (.Compare a [.Gt] [b] pos) ρ m Q := AE.cmp oa_gt h hm
theorem AE.ge {Q : QD} (h : AE X a ρ m fun da m1 => AE X b ρ m1 fun db m2 => RI (fun i j => decide (j ≤ i)) da db m2 Q) (hm : behindInMarks .GtE b = false := by rfl) : AE X (.Compare a [.GtE] [b] pos) ρ m Q := AE.cmp oa_ge h hm
abbrev QB (Q : Bool → Mu → Prop) : QD := fun d m => ∃ c, d = .bl c ∧ Q c m
theorem AT.lt {Q : Bool → Mu → Prop} (h : AE X a ρ m fun da m1 => AE X b ρ m1 fun db m2 => ∃ i j, da = .int i ∧ db = .int j ∧ Q (decide (i < j)) m2) (hm : behindInMarks .Lt b = false := by rfl) : AT X (.Compare a [.Lt] [b] pos) ρ m Q := AT.cmp oa_lt (h.imp fun _ _ g => g.imp fun _ _ ⟨i, j, e, f, q⟩ => ⟨i, j, e, f, _, rfl, q⟩) hm
theorem AT.le {Q : Bool → Mu → Prop} (h : AE X a ρ m fun da m1 => AE X b ρ m1 fun db m2 => ∃ i j, da = .int i ∧ db = .int j ∧ Q (decide (i ≤ j)) m2) (hm : behindInMarks .LtE b = false := by rfl) : AT X (.Compare a [.LtE] [b] pos) ρ m Q := AT.cmp oa_le (h.imp fun _ _ g => g.imp fun _ _ ⟨i, j, e, f, q⟩ => ⟨i, j, e, f, _, rfl, q⟩) hm
theorem AT.gt {Q : Bool → Mu → Prop} (h : AE X a ρ m fun da m1 => AE X b ρ m1 fun db m2 => ∃ i j, da = .int i ∧ db = .int j ∧ Q (decide (j < i)) m2) (hm : behindInMarks .Gt b = false := by rfl) : AT X (.Compare a [.Gt] [b] pos) ρ m Q := AT.cmp oa_gt (h.imp fun _ _ g => g.imp fun _ _ ⟨i, j, e, f, q⟩ => ⟨i, j, e, f, _, rfl, q⟩) hm
theorem AT.ge {Q : Bool → Mu → Prop} (h : AE X a ρ m fun da m1 => AE X b ρ m1 fun db m2 => ∃ i j, da = .int i ∧ db = .int j ∧ Q (decide (j ≤ i)) m2) (hm : behindInMarks .GtE b = false := by rfl) : AT X (.Compare a [.GtE] [b] pos) ρ m Q := AT.cmp oa_ge (h.imp fun _ _ g => g.imp fun _ _ ⟨i, j, e, f, q⟩ => ⟨i, j, e, f, _, rfl, q⟩) hm
theorem AE.isN {Q : QD} {j pos'} (h : AE X a ρ m fun da m1 => Q (.bl (dNon da)) m1) (hm : behindInMarks .Is (.Constant .none j pos') = false := by rfl) : AE X (.Compare a [.Is] [.Constant .none j pos'] pos) ρ m Q := AE.cmp oa_isN (h.imp fun _ _ q => AE.non ⟨rfl, q⟩) hm
theorem AE.notN {Q : QD} {j pos'} (h : AE X a ρ m fun da m1 => Q (.bl (!dNon da)) m1) (hm : behindInMarks .IsNot (.Constant .none j pos') = false := by rfl) : AE X (.Compare a [.IsNot] [.Constant .none j pos'] pos) ρ m Q := AE.cmp oa_notN (h.imp fun _ _ q => AE.non ⟨rfl, q⟩) hm
theorem AT.isN {Q : Bool → Mu → Prop} {j pos'} (h : AE X a ρ m fun da m1 => Q (dNon da) m1) (hm : behindInMarks .Is (.Constant .none j pos') = false := by rfl) : AT X (.Compare a [.Is] [.Constant .none j pos'] pos) ρ m Q := AT.cmp oa_isN (h.imp fun _ _ q => AE.non ⟨rfl, _, rfl, q⟩) hm
theorem AT.notN {Q : Bool → Mu → Prop} {j pos'} (h : AE X a ρ m fun da m1 => Q (!dNon da) m1) (hm : behindInMarks .IsNot (.Constant .none j pos') = false := by rfl) : AT X (.Compare a [.IsNot] [.Constant .none j pos'] pos) ρ m Q := AT.cmp oa_notN (h.imp fun _ _ q => AE.non ⟨rfl, _, rfl, q⟩) hm
theorem AE.eqS {Q : QD} (h : AE X a ρ m fun da m1 => AE X b ρ m1 fun db m2 => ∃ x y, scD da = some x ∧ scD db = some y ∧ scal x y = true ∧ Q (.bl (decide (x = y))) m2) (hm : behindInMarks .Eq b = false := by rfl) : AE X (.Compare a [.Eq] [b] pos) ρ m Q := AE.cmp oa_eq h hm
theorem AE.neS {Q : QD} (h : AE X a ρ m fun da m1 => AE X b ρ m1 fun db m2 => ∃ x y, scD da = some x ∧ scD db = some y ∧ scal x y = true ∧ Q (.bl (!decide (x = y))) m2) (hm : behindInMarks .NotEq b = false := by rfl) : AE X (.Compare a [.NotEq] [b] pos) ρ m Q := AE.cmp oa_ne h hm
theorem AT.eqS {Q : Bool → Mu → Prop} (h : AE X a ρ m fun da m1 => AE X b ρ m1 fun db m2 => ∃ x y, scD da = some x ∧ scD db = some y ∧ scal x y = true ∧ Q (decide (x = y)) m2) (hm : behindInMarks .Eq b = false := by rfl) : AT X (.Compare a [.Eq] [b] pos) ρ m Q := AT.cmp oa_eq (h.imp fun _ _ g => g.imp fun _ _ ⟨x, y, e1, e2, s, q⟩ => ⟨x, y, e1, e2, s, _, rfl, q⟩) hm
theorem AT.neS {Q : Bool → Mu → Prop} (h : AE X a ρ m fun da m1 => AE X b ρ m1 fun db m2 => ∃ x y, scD da = some x ∧ scD db = some y ∧ scal x y = true ∧ Q (!decide (x = y)) m2) (hm : behindInMarks .NotEq b = false := by rfl) : AT X (.Compare a [.NotEq] [b] pos) ρ m Q := AT.cmp oa_ne (h.imp fun _ _ g => g.imp fun _ _ ⟨x, y, e1, e2, s, q⟩ => ⟨x, y, e1, e2, s, _, rfl, q⟩) hm
theorem AE.eqD {Q : QD} {α : Type} {f : α → D} {ok : α → Prop} {n : Nat} [DecidableEq α] (E : EqK f ok n) (hx : XF X fb k) (hn : n ≤ 64) (h : AE X a ρ m fun da m1 => AE X b ρ m1 fun db m2 => ∃ x y, IsV m2 da (f x) ∧ IsV m2 db (f y) ∧ ok x ∧ ok y ∧ Q (.bl (decide (x = y))) m2) (hm : behindInMarks .Eq b = false := by rfl) : AE X (.Compare a [.Eq] [b] pos) ρ m Q := AE.cmp (oa_eqD hx E hn) h hm
theorem AE.neD {Q : QD} {α : Type} {f : α → D} {ok : α → Prop} {n : Nat} [DecidableEq α] (E : EqK f ok n) (hx : XF X fb k) (hn : n ≤ 64) (h : AE X a ρ m fun da m1 => AE X b ρ m1 fun db m2 => ∃ x y, IsV m2 da (f x) ∧ IsV m2 db (f y) ∧ ok x ∧ ok y ∧ Q (.bl (!decide (x = y))) m2) (hm : behindInMarks .NotEq b = false := by rfl) : AE X (.Compare a [.NotEq] [b] pos) ρ m Q := AE.cmp (oa_neD hx E hn) h hm
theorem AT.eqD {Q : Bool → Mu → Prop} {α : Type} {f : α → D} {ok : α → Prop} {n : Nat} [DecidableEq α] (E : EqK f ok n) (hx : XF X fb k) (hn : n ≤ 64) (h : AE X a ρ m fun da m1 => AE X b ρ m1 fun db m2 => ∃ x y, IsV m2 da (f x) ∧ IsV m2 db (f y) ∧ ok x ∧ ok y ∧ Q (decide (x = y)) m2) (hm : behindInMarks .Eq b = false := by rfl) : AT X (.Compare a [.Eq] [b] pos) ρ m Q := AT.cmp (oa_eqD hx E hn) (h.imp fun _ _ g => g.imp fun _ _ ⟨x, y, e1, e2, o1, o2, q⟩ => ⟨x, y, e1, e2, o1, o2, _, rfl, q⟩) hm
theorem AT.neD {Q : Bool → Mu → Prop} {α : Type} {f : α → D} {ok : α → Prop} {n : Nat} [DecidableEq α] (E : EqK f ok n) (hx : XF X fb k) (hn : n ≤ 64) (h : AE X a ρ m fun da m1 => AE X b ρ m1 fun db m2 => ∃ x y, IsV m2 da (f x) ∧ IsV m2 db (f y) ∧ ok x ∧ ok y ∧ Q (!decide (x = y)) m2) (hm : behindInMarks .NotEq b = false := by rfl) : AT X (.Compare a [.NotEq] [b] pos) ρ m Q := AT.cmp (oa_neD hx E hn) (h.imp fun _ _ g => g.imp fun _ _ ⟨x, y, e1, e2, o1, o2, q⟩ => ⟨x, y, e1, e2, o1, o2, _, rfl, q⟩) hm
end
end Ab
/-! B1: == and in of lists, tuples and dicts of any depth, the answer either way, within one model. -/
namespace Ab
open L2 PySem PySem.Spec PyProof.Rows
open AutoSeq1 (wpAny_loadPart')
open MeetsSeq MeetsSeq2 MeetsSeq3 SeqRoads2 SeqAt
section
variable {P : Program} {w : World}
abbrev lo_ (dd : Option Addr) (xs : Array Value) (n : Nat) (sl : Array (Option Value)) : Obj := { cls := .type "list", dict := dd, data := .seq xs n, slots := sl }
abbrev to_ (dd : Option Addr) (xs : Array Value) (n : Nat) (sl : Array (Option Value)) : Obj := { cls := .type "tuple", dict := dd, data := .seq xs n, slots := sl }
theorem inLoopP (l : Addr) (xs : Array Value) (n : Nat) (dd : Option Addr) (sl : Array (Option Value)) (x : Value) (e : Nat → Bool) (k : Nat) :
    ∀ i : Nat, xs.size - i = k → MeetsIn P w (Builtin.«list.__contains__.loop» ⟨[.ref l, x, rawInt i], []⟩)
      (fun A R s => s.heap.get? l = some (lo_ dd xs n sl) ∧ (∀ j (h1 : j < xs.size), EqP P w A.in1 s xs[j] x (e j)) ∧ R (.ok (.ret (.bool (((List.range xs.size).drop i).any e)))) s) := by
  induction k with
  | zero =>
    intro i hk A R s hh
    obtain ⟨hp, g, d, tk, os⟩ := s; obtain ⟨g1, ge, hq⟩ := hh
    wp_walk using wpAny_loadPart' g1
    have a1 : xs[((i : Nat) : Int).toNat]? = none := by simp; omega
    have a2 : (List.range xs.size).drop i = [] := by simp; omega
    rw [a2] at hq; rw [a1]
    wp_walk
    exact hq
  | succ k ih =>
    intro i hk A R s hh
    obtain ⟨hp, g, d, tk, os⟩ := s; obtain ⟨g1, ge, hq⟩ := hh
    wp_walk using wpAny_loadPart' g1
    have lt : i < xs.size := by omega
    have a1 : xs[((i : Nat) : Int).toNat]? = some xs[i] := by simp [lt]
    have a2 : (List.range xs.size).drop i = i :: (List.range xs.size).drop (i + 1) := by simp [List.drop_eq_getElem_cons, lt]
    have a3 : ((i : Int) + 1) = ((i + 1 : Nat) : Int) := by push_cast; rfl
    rw [a2, List.any_cons] at hq; rw [a1]
    refine wpAny_bind (ge i lt _ _ ?_)
    cases eb : e i with
    | true => rw [eb] at hq; wp_walk; exact hq
    | false =>
      rw [eb] at hq
      wp_walk
      rw [a3]
      exact ⟨plainId_quiet plain_contains_loop _, codeAny_builtin entry_contains_loop (by rw [Around.under_plainId plain_contains_loop _]; exact ih (i + 1) (by omega) A R _ ⟨g1, ge, by simpa using hq⟩)⟩
theorem inListM (l : Addr) (xs : Array Value) (n : Nat) (dd : Option Addr) (sl : Array (Option Value)) (x : Value) (e : Nat → Bool) :
    MeetsIn P w (Builtin.«list.__contains__» ⟨[.ref l, x], []⟩)
      (fun A R s => s.heap.get? l = some (lo_ dd xs n sl) ∧ (∀ j (h1 : j < xs.size), EqP P w A.in1 s xs[j] x (e j)) ∧ R (.ok (.ret (.bool ((List.range xs.size).any e)))) s) := by
  intro A R s hh
  obtain ⟨hp, g, d, tk, os⟩ := s; obtain ⟨g1, ge, hq⟩ := hh
  wp_walk using wpAny_loadPart' g1
  exact ⟨plainId_quiet plain_contains_loop _, codeAny_builtin entry_contains_loop (by rw [Around.under_plainId plain_contains_loop _]; exact inLoopP l xs n dd sl x e _ 0 rfl A R _ ⟨g1, ge, by simpa using hq⟩)⟩
theorem eqTupM (l b : Addr) (xs ys : Array Value) (n n2 : Nat) (dd dd2 : Option Addr) (sl sl2 : Array (Option Value)) (e : Nat → Bool) :
    MeetsIn P w (Builtin.«tuple.__eq__» ⟨[.ref l, .ref b], []⟩)
      (fun A R s => s.heap.get? l = some (to_ dd xs n sl) ∧ s.heap.get? b = some (to_ dd2 ys n2 sl2) ∧ (∀ j (h1 : j < xs.size) (h2 : j < ys.size), EqP P w A.in1 s xs[j] ys[j] (e j)) ∧
        R (.ok (.ret (.bool ((List.range (min xs.size ys.size)).all e && xs.size == ys.size)))) s) :=
  .of_wp fun A R s hh => by
    obtain ⟨hp, g, d, tk, os⟩ := s; obtain ⟨g1, g2, ge, hq⟩ := hh
    have f2 := AutoSeq1.sub_tuple_tuple
    have zl : (xs.toList.zip ys.toList).length = min xs.size ys.size := by simp
    wp_walk using wpAny_loadPart' g1, wpAny_loadPart' g2, wpAny_forIn_list _ (fun rest b s' => b.1 = none ∧ s' = ⟨hp, g, d, tk, os⟩ ∧ ∃ i, rest = (xs.toList.zip ys.toList).drop i ∧ R (.ok (.ret (.bool (((List.range (min xs.size ys.size)).drop i).all e && xs.size == ys.size)))) ⟨hp, g, d, tk, os⟩) _
    case turn =>
      rintro ⟨y, x⟩ rest b s' ⟨hb', rfl, i, hz, hR⟩
      have lt : i < (xs.toList.zip ys.toList).length := by
        rcases Nat.lt_or_ge i (xs.toList.zip ys.toList).length with k | k
        · exact k
        · rw [List.drop_of_length_le k] at hz; cases hz
      have hm : i < min xs.size ys.size := zl ▸ lt
      have h1 : i < xs.size := Nat.lt_of_lt_of_le hm (Nat.min_le_left _ _)
      have h2 : i < ys.size := Nat.lt_of_lt_of_le hm (Nat.min_le_right _ _)
      rw [List.drop_eq_getElem_cons lt] at hz
      injection hz with e1 e2
      have hy : y = xs[i] := by have := congrArg Prod.fst e1; simpa using this
      have hx : x = ys[i] := by have := congrArg Prod.snd e1; simpa using this
      subst hy hx
      have a2 : (List.range (min xs.size ys.size)).drop i = i :: (List.range (min xs.size ys.size)).drop (i + 1) := by simp [List.drop_eq_getElem_cons, hm]
      rw [a2, List.all_cons] at hR
      refine wpAny_bind (ge i h1 h2 _ _ ?_)
      cases eb : e i with
      | true => rw [eb] at hR; wp_walk; exact ⟨rfl, rfl, i + 1, e2, by simpa using hR⟩
      | false => rw [eb] at hR; wp_walk; exact ⟨_, rfl, by simpa using hR⟩
    case fin =>
      rintro ⟨b1, b2⟩ s' ⟨hb', rfl, i, hz, hR⟩
      simp only at hb'
      subst hb'
      have ge' : min xs.size ys.size ≤ i := by
        rcases Nat.lt_or_ge i (xs.toList.zip ys.toList).length with k | k
        · rw [List.drop_eq_getElem_cons k] at hz; cases hz
        · exact zl ▸ k
      rw [List.drop_of_length_le (by simpa using ge')] at hR
      wp_walk
      exact ⟨_, rfl, by simpa [Builtin.Tuple.tupleCompareSizes] using hR⟩
    case h => exact ⟨rfl, rfl, 0, rfl, by simpa using hq⟩
theorem inTupM (l : Addr) (xs : Array Value) (n : Nat) (dd : Option Addr) (sl : Array (Option Value)) (x : Value) (e : Nat → Bool) :
    MeetsIn P w (Builtin.«tuple.__contains__» ⟨[.ref l, x], []⟩)
      (fun A R s => s.heap.get? l = some (to_ dd xs n sl) ∧ (∀ j (h1 : j < xs.size), EqP P w A.in1 s xs[j] x (e j)) ∧ R (.ok (.ret (.bool ((List.range xs.size).any e)))) s) :=
  .of_wp fun A R s hh => by
    obtain ⟨hp, g, d, tk, os⟩ := s; obtain ⟨g1, ge, hq⟩ := hh
    wp_walk using wpAny_loadPart' g1, wpAny_forIn_array _ (fun rest b s' => b.1 = none ∧ s' = ⟨hp, g, d, tk, os⟩ ∧ ∃ i, rest = xs.toList.drop i ∧ R (.ok (.ret (.bool (((List.range xs.size).drop i).any e)))) ⟨hp, g, d, tk, os⟩) _
    case turn =>
      rintro y rest b s' ⟨hb, rfl, i, hz, hR⟩
      have lt : i < xs.toList.length := by
        rcases Nat.lt_or_ge i xs.toList.length with k | k
        · exact k
        · rw [List.drop_of_length_le k] at hz; cases hz
      have h1 : i < xs.size := by simpa using lt
      rw [List.drop_eq_getElem_cons lt] at hz
      injection hz with e1 e2
      have hy : y = xs[i] := by simpa using e1
      subst hy
      have a2 : (List.range xs.size).drop i = i :: (List.range xs.size).drop (i + 1) := by simp [List.drop_eq_getElem_cons, h1]
      rw [a2, List.any_cons] at hR
      refine wpAny_bind (ge i h1 _ _ ?_)
      cases eb : e i with
      | true => rw [eb] at hR; wp_walk; exact ⟨_, rfl, by simpa using hR⟩
      | false => rw [eb] at hR; wp_walk; exact ⟨rfl, rfl, i + 1, e2, by simpa using hR⟩
    case fin =>
      rintro ⟨b1, b2⟩ s' ⟨hb, rfl, i, hz, hR⟩
      simp only at hb
      subst hb
      have ge' : xs.size ≤ i := by
        rcases Nat.lt_or_ge i xs.toList.length with k | k
        · rw [List.drop_eq_getElem_cons k] at hz; cases hz
        · simpa using k
      rw [List.drop_of_length_le (by simpa using ge')] at hR
      wp_walk
      exact ⟨_, rfl, by simpa using hR⟩
    case h => exact ⟨rfl, rfl, 0, by simp, by simpa using hq⟩
end
section
variable {P : Program} {w : World} {A : Around} {E : Value → Shared → Prop} {s : Shared} {l b : Addr} {xs ys : Array Value} {x : Value} {e : Nat → Bool}
theorem rcP_tups (g1 : s.heap.IsTuple l xs) (g2 : s.heap.IsTuple b ys) (hu : A.units < cLine) (he : ∀ j (h1 : j < xs.size) (h2 : j < ys.size), EqP P w A.in1 s xs[j] ys[j] (e j)) (E Q : Value → Shared → Prop)
    (h : Q (.bool ((List.range (min xs.size ys.size)).all e && xs.size == ys.size)) s) : wpAny (model P w) A (richCompare .Eq (.ref l) (.ref b)) Q E s := by
  obtain ⟨⟨c1, d1, da1, s1⟩, o1, e1, n1, f1⟩ := id g1
  obtain ⟨⟨c2, d2, da2, s2⟩, o2, e2, n2, f2⟩ := id g2
  simp only at e1 f1 e2 f2
  subst e1 f1 e2 f2
  have ta : s.TypeIs (.ref l) "tuple" := ⟨_, o1, rfl⟩
  have tb : s.TypeIs (.ref b) "tuple" := ⟨_, o2, rfl⟩
  exact wpAny_richCompare_same_room (op := .Eq) ta tb F.slot_tuple_eq (call_meetsIn F.slot_tuple_eq ta F.entry_tuple_eq (F.args_tuple_eq_2 _ _) (eqTupM l b xs ys n1 n2 d1 d2 s1 s2 e)
    ⟨o1, o2, he, show Value.bool ((List.range (min xs.size ys.size)).all e && xs.size == ys.size) ≠ Value.notImplemented ∧ Q (.bool ((List.range (min xs.size ys.size)).all e && xs.size == ys.size)) s from ⟨(fun z => nomatch z), h⟩⟩) hu
theorem containsP {T id : String} {B : Builtin} {c : Value} {S : _root_.PySem.Spec} {Q : Bool → Shared → Prop} (hT : s.TypeIs c T) (slot : Slot T "__contains__" id) (entry : entryFor table id = some B) (args : argsOk id ⟨[c, x], []⟩) (g : MeetsIn P w (B ⟨[c, x], []⟩) S)
    (h : S A (wants (fun v s' => ∃ r, v = .bool r ∧ Q r s') E) s) : wpAny (model P w) A (contains c x) Q E s := by
  refine wpAny_contains_slot hT slot (wpAny_mono (call_meetsIn slot hT entry args g h) (fun v s' hv => ?_) fun _ _ z => z)
  obtain ⟨r, rfl, hq⟩ := hv
  exact wpAny_truthy_bool hq
theorem inListP {Q : Bool → Shared → Prop} (g1 : s.heap.IsList l xs) (he : ∀ j (h1 : j < xs.size), EqP P w A.in1 s xs[j] x (e j)) (h : Q ((List.range xs.size).any e) s) : wpAny (model P w) A (contains (.ref l) x) Q E s := by
  obtain ⟨⟨c1, d1, da1, s1⟩, o1, e1, n1, f1⟩ := id g1
  simp only at e1 f1
  subst e1 f1
  exact containsP ⟨_, o1, rfl⟩ F.slot_list_contains F.entry_list_contains (F.args_list_contains_2 _ _) (inListM l xs n1 d1 s1 x e) ⟨o1, he, _, rfl, h⟩
theorem inTupP {Q : Bool → Shared → Prop} (g1 : s.heap.IsTuple l xs) (he : ∀ j (h1 : j < xs.size), EqP P w A.in1 s xs[j] x (e j)) (h : Q ((List.range xs.size).any e) s) : wpAny (model P w) A (contains (.ref l) x) Q E s := by
  obtain ⟨⟨c1, d1, da1, s1⟩, o1, e1, n1, f1⟩ := id g1
  simp only at e1 f1
  subst e1 f1
  exact containsP ⟨_, o1, rfl⟩ F.slot_tuple_contains F.entry_tuple_contains (F.args_tuple_contains_2 _ _) (inTupM l xs n1 d1 s1 x e) ⟨o1, he, _, rfl, h⟩
end
end Ab
/-! B2: == and in of data. -/
namespace Ab
open PySem PySem.Spec PyProof.Rows L2 SeqAt
/-- == of data answers b; n bounds the nesting -/
inductive EqD (m : Mu) : Nat → D → D → Bool → Prop
  | flat {n : Nat} {d d' : D} {x y : V} (h : scD d = some x) (h' : scD d' = some y) : EqD m n d d' (eqV x y)
  | lst {n : Nat} {d d' : D} {xs ys : List D} {e : Nat → Bool} (hx : IsL m d xs) (hy : IsL m d' ys) (l : xs.length = ys.length) (h : ∀ i a b, xs[i]? = some a → ys[i]? = some b → EqD m n a b (e i)) : EqD m (n + 1) d d' ((List.range xs.length).all e)
  | lstN {n : Nat} {d d' : D} {xs ys : List D} (hx : IsL m d xs) (hy : IsL m d' ys) (l : xs.length ≠ ys.length) : EqD m n d d' false
  | tup {n : Nat} {xs ys : List D} {e : Nat → Bool} (h : ∀ i a b, xs[i]? = some a → ys[i]? = some b → EqD m n a b (e i)) : EqD m (n + 1) (.tup xs) (.tup ys) ((List.range (min xs.length ys.length)).all e && xs.length == ys.length)
  | dic {n : Nat} {d d' : D} {ks ls : List (Key × D)} {e : Key → Bool} (hx : IsD m d ks) (hy : IsD m d' ls) (h : ∀ k a b, (k, a) ∈ ks → getK ls k = some b → EqD m n a b (e k)) :
      EqD m (n + 1) d d' (ks.length == ls.length && ks.all fun p => (getK ls p.1).isSome && e p.1)
theorem eqV_refl : ∀ {x : V}, flatV x = true → eqV x x = true
  | .non, _ => rfl
  | .bl b, _ => by simp [eqV]
  | .int i, _ => by simp [eqV]
  | .str i, _ => by simp [eqV]
theorem scD_flat {d : D} {x : V} (h : scD d = some x) : flatV x = true := by
  cases d <;> simp [scD] at h <;> subst h <;> rfl
def unV : Value → V
  | .none => .non
  | .bool b => .bl b
  | .int i _ => .int i
  | .str x _ => .str x
  | .bytes b _ => .byt b
  | .float b _ => .flt b
  | .ref a => .ref a
  | .type n => .ty n
  | _ => .non
theorem unV_of : ∀ {x : V} {v : Value}, L2.RelV x v → unV v = x
  | .non, _, h => by cases h; rfl
  | .bl _, _, h => by cases h; rfl
  | .int _, _, h => by obtain ⟨t, rfl⟩ := h; rfl
  | .str _, _, h => by obtain ⟨t, rfl⟩ := h; rfl
  | .byt _, _, h => by obtain ⟨t, rfl⟩ := h; rfl
  | .flt _, _, h => by obtain ⟨t, rfl⟩ := h; rfl
  | .ref _, _, h => by cases h; rfl
  | .ty _, _, h => by cases h; rfl
theorem relV_fun {x y : V} {v : Value} (rx : L2.RelV x v) (ry : L2.RelV y v) : x = y := by rw [← unV_of rx, unV_of ry]
theorem vals_fun : ∀ {xs ys : List V} {us : List Value}, Vals xs us → Vals ys us → xs = ys
  | _, _, _, .nil, .nil => rfl
  | _, _, _, .cons r t, .cons r' t' => by rw [relV_fun r r', vals_fun t t']
section
variable {X : Cx} {pins : List (Addr × Obj)} {σ : L2.St} {H : Hp} {s : Shared} {m : Mu}
theorem rd_one {a : Addr} {v1 v2 : List (Key × V)} {H : Hp} (h1 : Rd H a (.dK v1)) (h2 : Rd H a (.dK v2)) : v1 = v2 := by
  rcases h1 with h1 | ⟨o, h1⟩ <;> rcases h2 with h2 | ⟨o2, h2⟩ <;> rw [h1] at h2 <;> cases h2 <;> rfl
theorem dkeys {a : Addr} {kvs : List (Key × V)} (I : Inv X pins σ H s) (h : Rd H a (.dK kvs)) : (kvs.map (·.1)).Nodup := by
  have k := h.ok I.hok
  obtain ⟨_, _, vs, kv, _, _, _, _, _, _, _, _, nd⟩ := k
  have e : ∀ {kvs : List (Key × V)} {vs : List (Key × Value)}, KV kvs vs → kvs.map (·.1) = vs.map (·.1) := by
    intro kvs vs kv
    unfold KV at kv
    induction kv with
    | nil => rfl
    | cons h _ ih => simp [h.1, ih]
  rw [e kv]; exact nd
theorem getK_mem {k : Key} {d : D} : ∀ {ks : List (Key × D)}, (ks.map (·.1)).Nodup → (k, d) ∈ ks → getK ks k = some d
  | (k', d') :: ks, nd, h => by
    simp only [List.map_cons, List.nodup_cons] at nd
    rcases List.mem_cons.mp h with e | h
    · cases e; simp [getK]
    · have : k' ≠ k := fun e => nd.1 (e ▸ List.mem_map.mpr ⟨_, h, rfl⟩)
      have g : getK ((k', d') :: ks) k = getK ks k := by simp [getK, this]
      rw [g]; exact getK_mem nd.2 h
theorem lst_one {a : Addr} {xs ys : List V} (h : Rd H a (.lst xs)) (h' : Rd H a (.lst ys)) : xs = ys := by
  rcases h with h | ⟨o, h⟩ <;> rcases h' with h' | ⟨o', h'⟩ <;> rw [h] at h' <;> cases h' <;> rfl
theorem tup_one (I : Inv X pins σ H s) {a : Addr} {xs ys : List V} (h : SqT X.K H a xs) (h' : SqT X.K H a ys) : xs = ys := by
  obtain ⟨us, k1, p1, _⟩ := I.tuple h
  obtain ⟨ws, k2, p2, _⟩ := I.tuple h'
  have eu : us = ws := by
    obtain ⟨o, h1, _, _, h3⟩ := p1
    obtain ⟨o', h1', _, _, h3'⟩ := p2
    rw [h1] at h1'; cases h1'
    rw [h3] at h3'; injection h3' with h4
    exact congrArg Array.toList h4
  subst eu
  exact vals_fun k1 k2
/-- of one and the same object the answer is True -/
theorem EqD.same (I : Inv X pins σ H s) (hm : HM X.K m H) {n : Nat} {d d' : D} {b : Bool} (h : EqD m n d d' b) : ∀ {x : V}, Rep X.K (dom m) H d x → Rep X.K (dom m) H d' x → b = true := by
  induction h with
  | flat h h' =>
    intro x r r'
    rw [← scD_rep r h, ← scD_rep r' h']
    exact eqV_refl (by rw [scD_rep r h]; exact scD_flat h)
  | @lst n d d' xs ys e hx hy l h ih =>
    intro x r r'
    obtain ⟨a1, v1, e1, s1, q1⟩ := hx.rd hm r
    obtain ⟨a2, v2, e2, s2, q2⟩ := hy.rd hm r'
    rw [e1] at e2; cases e2
    cases lst_one s1 s2
    refine List.all_eq_true.mpr fun i hi => ?_
    have hi : i < xs.length := by simpa using hi
    obtain ⟨w1, hw1, r1⟩ := q1.get (List.getElem?_eq_getElem hi)
    obtain ⟨c2, hc2, r2⟩ := q2.getV hw1
    exact ih i _ c2 (List.getElem?_eq_getElem hi) hc2 r1 r2
  | @lstN n d d' xs ys hx hy l =>
    intro x r r'
    obtain ⟨a1, v1, e1, s1, q1⟩ := hx.rd hm r
    obtain ⟨a2, v2, e2, s2, q2⟩ := hy.rd hm r'
    rw [e1] at e2; cases e2
    cases lst_one s1 s2
    exact absurd (by rw [q1.length, q2.length]) l
  | @tup n xs ys e h ih =>
    intro x r r'
    obtain ⟨a1, v1, e1, s1, q1⟩ := IsT.im.at hm r
    obtain ⟨a2, v2, e2, s2, q2⟩ := IsT.im.at hm r'
    rw [e1] at e2; cases e2
    cases tup_one I s1 s2
    have el : xs.length = ys.length := by rw [q1.length, q2.length]
    rw [el, Nat.min_self, beq_self_eq_true, Bool.and_true]
    refine List.all_eq_true.mpr fun i hi => ?_
    have hi : i < xs.length := by rw [el]; simpa using hi
    obtain ⟨w1, hw1, r1⟩ := q1.get (List.getElem?_eq_getElem hi)
    obtain ⟨c2, hc2, r2⟩ := q2.getV hw1
    exact ih i _ c2 (List.getElem?_eq_getElem hi) hc2 r1 r2
  | @dic n d d' ks ls e hx hy h ih =>
    intro x r r'
    obtain ⟨a1, v1, e1, s1, z1, q1⟩ := hx.at hm r
    obtain ⟨a2, v2, e2, s2, z2, q2⟩ := hy.at hm r'
    rw [e1] at e2; cases e2
    cases rd_one s1 s2
    have nd := dkeys I s1
    have ek : ks.map (·.1) = ls.map (·.1) := by rw [← z1, z2]
    have el : ks.length = ls.length := by have := congrArg List.length ek; simpa using this
    rw [el, beq_self_eq_true, Bool.true_and]
    refine List.all_eq_true.mpr fun p hp => ?_
    obtain ⟨i, hi, ei⟩ := List.mem_iff_getElem.mp hp
    have hl : i < ls.length := by rw [← el]; exact hi
    have kk : ks[i].1 = ls[i].1 := by
      have := congrArg (fun l => l[i]?) ek
      simpa [hi, hl] using this
    have g : getK ls p.1 = some ls[i].2 := by
      refine getK_mem (by rw [← z2]; exact nd) ?_
      rw [← ei, kk]
      exact List.getElem_mem hl
    obtain ⟨w1, hw1, r1⟩ := q1.get (i := i) (d := ks[i].2) (by simp [hi])
    obtain ⟨w2, hw2, r2⟩ := q2.get (i := i) (d := ls[i].2) (by simp [hl])
    rw [hw1] at hw2; cases hw2
    rw [g, show (some ls[i].2).isSome = true from rfl, Bool.true_and, ← ei]
    exact ih ks[i].1 ks[i].2 ls[i].2 (List.getElem_mem hi) (by rw [ei]; exact g) r1 r2
theorem keq_run {P : Program} {w : World} {A : Around} {K : PySem.W.Frag} {ls : List (Key × D)} {lv : List (Key × V)} {vb : List (Key × Value)} {e : Key → Bool} (zb : lv.map (·.1) = ls.map (·.1)) (rb : Reps K (dom m) H (ls.map (·.2)) (lv.map (·.2))) (kb : KV lv vb) :
    ∀ {ks : List (Key × D)} {kv : List (Key × V)} {va : List (Key × Value)}, kv.map (·.1) = ks.map (·.1) → Reps K (dom m) H (ks.map (·.2)) (kv.map (·.2)) → KV kv va →
    (∀ k a b x y u v, (k, a) ∈ ks → getK ls k = some b → Rep K (dom m) H a x → Rep K (dom m) H b y → L2.RelV x u → L2.RelV y v → EqP P w A s u v (e k)) → PySem.W.KeqHitsP P w A s vb va (ks.all fun p => (getK ls p.1).isSome && e p.1)
  | [], [], _, _, _, .nil, _ => .nil
  | [], _ :: _, _, z, _, _, _ => by cases z
  | _ :: _, [], _, z, _, _, _ => by cases z
  | (k1, d1) :: ks, (k2, v2) :: kv, (k3, u3) :: va, z, r, .cons ⟨e1, rv⟩ t, h => by
    simp only [List.map_cons, List.cons.injEq] at z
    obtain ⟨z1, z2⟩ := z
    simp only at e1 rv
    subst z1 e1
    cases r with
    | cons r rr =>
      rw [List.all_cons]
      obtain ⟨g1, g2⟩ := getK_rep (k := k2) zb rb
      have vv := kb.val k2
      cases hg : getK ls k2 with
      | none =>
        rw [g2 hg] at vv
        rw [show (none : Option D).isSome = false from rfl, Bool.false_and, Bool.false_and]
        exact .miss vv.none_of
      | some b =>
        obtain ⟨y, hy, ry⟩ := g1 b hg
        rw [hy] at vv
        obtain ⟨v, hv, rv'⟩ := vv.some_of
        rw [show (some b).isSome = true from rfl, Bool.true_and]
        exact .hit hv (h k2 d1 b v2 y u3 v List.mem_cons_self hg r ry rv rv') (keq_run zb rb kb z2 rr t fun k a b x y u v hm => h k a b x y u v (List.mem_cons_of_mem _ hm))
/-- the answer of == inside a builtin -/
def RunAt (X : Cx) (s : Shared) (m : Mu) (H : Hp) (n : Nat) : Prop := ∀ d d' b, EqD m n d d' b → ∀ (A : Around) (x y : V) (u v : Value), A.units + n < cLine → Rep X.K (dom m) H d x → Rep X.K (dom m) H d' y → L2.RelV x u → L2.RelV y v → EqP X.prog X.w A s u v b
/-- .. of ==, of two objects -/
theorem EqD.rc (I : Inv X pins σ H s) (hm : HM X.K m H) {n : Nat} (ih : ∀ n', n = n' + 1 → RunAt X s m H n') {d d' : D} {b : Bool} (h : EqD m n d d' b) (nf : scD d = none) {A : Around} {x y : V} {u v : Value} (hu : A.units + n < cLine)
    (r : Rep X.K (dom m) H d x) (r' : Rep X.K (dom m) H d' y) (rx : L2.RelV x u) (ry : L2.RelV y v) (E Q : Value → Shared → Prop) (hq : Q (.bool b) s) : wpAny (model X.prog X.w) A (richCompare .Eq u v) Q E s := by
  cases h with
  | flat h h' => rw [h] at nf; cases nf
  | @lst n d d' xs ys e hx hy l h =>
    obtain ⟨a1, v1, e1, s1, q1⟩ := hx.at hm r
    obtain ⟨a2, v2, e2, s2, q2⟩ := hy.at hm r'
    subst e1 e2; cases rx; cases ry
    obtain ⟨us, k1, p1, _⟩ := I.list s1
    obtain ⟨ws, k2, p2, _⟩ := I.list s2
    have n1 : xs.length = us.length := by rw [q1.length, k1.length]
    have n2 : ys.length = ws.length := by rw [q2.length, k2.length]
    refine rcP_lists (e := e) p1.isList p2.isList (by simp; omega) (by omega) (fun j h1 h2 => ?_) E Q (by rw [List.size_toArray, ← n1]; exact hq)
    have j1 : j < xs.length := by simpa [n1] using h1
    have j2 : j < ys.length := by omega
    obtain ⟨w1, g1, r1⟩ := q1.get (List.getElem?_eq_getElem j1)
    obtain ⟨w2, g2, r2⟩ := q2.get (List.getElem?_eq_getElem j2)
    obtain ⟨t1, f1, o1⟩ := Vals.get k1 g1
    obtain ⟨t2, f2, o2⟩ := Vals.get k2 g2
    have z := ih n rfl _ _ _ (h j _ _ (List.getElem?_eq_getElem j1) (List.getElem?_eq_getElem j2)) A.in1 _ _ _ _ (by show A.units + 1 + n < cLine; omega) r1 r2 o1 o2
    have i1 : us.toArray[j] = t1 := by have := (List.getElem?_eq_some_iff.mp f1).2; simpa using this
    have i2 : ws.toArray[j] = t2 := by have := (List.getElem?_eq_some_iff.mp f2).2; simpa using this
    rw [i1, i2]; exact z
  | @lstN n d d' xs ys hx hy l =>
    obtain ⟨a1, v1, e1, s1, q1⟩ := hx.at hm r
    obtain ⟨a2, v2, e2, s2, q2⟩ := hy.at hm r'
    subst e1 e2; cases rx; cases ry
    obtain ⟨us, k1, p1, _⟩ := I.list s1
    obtain ⟨ws, k2, p2, _⟩ := I.list s2
    have n1 : xs.length = us.length := by rw [q1.length, k1.length]
    have n2 : ys.length = ws.length := by rw [q2.length, k2.length]
    exact RcAt.lists_lengths p1.isList p2.isList (by simp; omega) (by omega) X.prog X.w E Q hq
  | @tup n xs ys e h =>
    obtain ⟨a1, v1, e1, s1, q1⟩ := IsT.im.at hm r
    obtain ⟨a2, v2, e2, s2, q2⟩ := IsT.im.at hm r'
    subst e1 e2; cases rx; cases ry
    obtain ⟨us, k1, p1, _⟩ := I.tuple s1
    obtain ⟨ws, k2, p2, _⟩ := I.tuple s2
    have n1 : xs.length = us.length := by rw [q1.length, k1.length]
    have n2 : ys.length = ws.length := by rw [q2.length, k2.length]
    refine rcP_tups (e := e) p1 p2 (by omega) (fun j h1 h2 => ?_) E Q (by rw [List.size_toArray, List.size_toArray, ← n1, ← n2]; exact hq)
    have j1 : j < xs.length := by simpa [n1] using h1
    have j2 : j < ys.length := by simpa [n2] using h2
    obtain ⟨w1, g1, r1⟩ := q1.get (List.getElem?_eq_getElem j1)
    obtain ⟨w2, g2, r2⟩ := q2.get (List.getElem?_eq_getElem j2)
    obtain ⟨t1, f1, o1⟩ := Vals.get k1 g1
    obtain ⟨t2, f2, o2⟩ := Vals.get k2 g2
    have z := ih n rfl _ _ _ (h j _ _ (List.getElem?_eq_getElem j1) (List.getElem?_eq_getElem j2)) A.in1 _ _ _ _ (by show A.units + 1 + n < cLine; omega) r1 r2 o1 o2
    have i1 : us.toArray[j] = t1 := by have := (List.getElem?_eq_some_iff.mp f1).2; simpa using this
    have i2 : ws.toArray[j] = t2 := by have := (List.getElem?_eq_some_iff.mp f2).2; simpa using this
    rw [i1, i2]; exact z
  | @dic n d d' ks ls e hx hy h =>
    obtain ⟨a1, v1, e1, s1, z1, q1⟩ := hx.at hm r
    obtain ⟨a2, v2, e2, s2, z2, q2⟩ := hy.at hm r'
    subst e1 e2; cases rx; cases ry
    obtain ⟨_, y1, va, ra, d1⟩ := (show ObjOk X.prog X.w H s.heap a1 (.dK v1) from s1.ok I.hok)
    obtain ⟨_, y2, vb, rb, d2⟩ := (show ObjOk X.prog X.w H s.heap a2 (.dK v2) from s2.ok I.hok)
    have n1 : ks.length = va.length := by rw [← ra.length]; have := congrArg List.length z1; simpa using this.symm
    have n2 : ls.length = vb.length := by rw [← rb.length]; have := congrArg List.length z2; simpa using this.symm
    refine PySem.W.rcP_dicts (knd := mixKind X.prog X.w) (r := ks.all fun p => (getK ls p.1).isSome && e p.1) y1 y2 d1 d2 (by omega) (fun _ => ?_) E Q (by rw [← n1, ← n2]; exact hq)
    exact keq_run z2 q2 rb z1 q1 ra fun k a b x y u v hk hg r1 r2 o1 o2 => ih n rfl _ _ _ (h k a b hk hg) A.in1 _ _ _ _ (by show A.units + 1 + n < cLine; omega) r1 r2 o1 o2
theorem EqD.obj (hm : HM X.K m H) {n : Nat} {d d' : D} {b : Bool} (h : EqD m n d d' b) (nf : scD d = none) {x y : V} (r : Rep X.K (dom m) H d x) (r' : Rep X.K (dom m) H d' y) : ∃ a1 a2, x = .ref a1 ∧ y = .ref a2 := by
  cases h with
  | flat h h' => rw [h] at nf; cases nf
  | lst hx hy l h =>
    obtain ⟨a1, v1, e1, _⟩ := hx.at hm r
    obtain ⟨a2, v2, e2, _⟩ := hy.at hm r'
    exact ⟨a1, a2, e1, e2⟩
  | lstN hx hy l =>
    obtain ⟨a1, v1, e1, _⟩ := hx.at hm r
    obtain ⟨a2, v2, e2, _⟩ := hy.at hm r'
    exact ⟨a1, a2, e1, e2⟩
  | tup h =>
    obtain ⟨a1, v1, e1, _⟩ := IsT.im.at hm r
    obtain ⟨a2, v2, e2, _⟩ := IsT.im.at hm r'
    exact ⟨a1, a2, e1, e2⟩
  | dic hx hy h =>
    obtain ⟨a1, v1, e1, _⟩ := hx.at hm r
    obtain ⟨a2, v2, e2, _⟩ := hy.at hm r'
    exact ⟨a1, a2, e1, e2⟩
theorem runAt (I : Inv X pins σ H s) (hm : HM X.K m H) (n : Nat) : RunAt X s m H n := by
  induction n with
  | zero =>
    intro d d' b h A x y u v hu r r' rx ry
    by_cases nf : scD d = none
    · obtain ⟨a1, a2, e1, e2⟩ := h.obj hm nf r r'
      by_cases ea : a1 = a2
      · subst ea
        rw [h.same I hm r (by rw [e1, ← e2]; exact r')]; subst e1 e2; cases rx; cases ry
        exact (SeqAt.EqAt.same _).eqP
      · subst e1 e2; cases rx; cases ry
        exact eqP_refs ea (h.rc I hm (fun n' e => absurd e (by omega)) nf hu r r' rfl rfl)
    · cases h with
      | flat h h' => rw [scD_rep r h] at rx; rw [scD_rep r' h'] at ry; exact (eqAt_V rx ry (scD_flat h) (scD_flat h')).eqP
      | lstN hx hy l => cases hx <;> exact absurd rfl nf
  | succ n ih =>
    intro d d' b h A x y u v hu r r' rx ry
    by_cases nf : scD d = none
    · obtain ⟨a1, a2, e1, e2⟩ := h.obj hm nf r r'
      by_cases ea : a1 = a2
      · subst ea
        rw [h.same I hm r (by rw [e1, ← e2]; exact r')]; subst e1 e2; cases rx; cases ry
        exact (SeqAt.EqAt.same _).eqP
      · subst e1 e2; cases rx; cases ry
        exact eqP_refs ea (h.rc I hm (fun n' e => by cases e; exact ih) nf hu r r' rfl rfl)
    · cases h with
      | flat h h' => rw [scD_rep r h] at rx; rw [scD_rep r' h'] at ry; exact (eqAt_V rx ry (scD_flat h) (scD_flat h')).eqP
      | lst hx hy l h => cases hx <;> exact absurd rfl nf
      | lstN hx hy l => cases hx <;> exact absurd rfl nf
      | tup h => exact absurd rfl nf
      | dic hx hy h => cases hx <;> exact absurd rfl nf
end
section
variable {X : Cx} {fb : FB} {k : Nat} {ρ : Rho} {m : Mu} {e o a b c : Expr} {pos : Pos}
/-- a == b, of objects -/
theorem oa_eqG (hx : XF X fb k) : OpA X (compareOp .Eq) fun da db m Q => ∃ n r, n ≤ 60 ∧ EqD m n da db r ∧ scD da = none ∧ Q (.bl r) m := ⟨fun x y H Q => ∃ da db m n r, n ≤ 60 ∧ EqD m n da db r ∧ scD da = none ∧ HM X.K m H ∧ Rep X.K (dom m) H da x ∧ Rep X.K (dom m) H db y ∧ Q (.bl r) H,
  fun pins s σ H x y v u Q I rx ry ⟨da, db, m, n, r, hn, h, nf, hm, ra, rb, q⟩ => by
    have hu := hx.room.units
    exact h.rc I hm (fun n' _ => runAt I hm n') nf (by omega) ra rb rx ry _ _ ⟨.bl r, H, I, rfl, q⟩,
  fun da db x y m H Q hm ra rb ⟨n, r, hn, h, nf, q⟩ => ⟨da, db, m, n, r, hn, h, nf, hm, ra, rb, .now hm .bl q⟩⟩
theorem in_at {pins : List (Addr × Obj)} {σ : L2.St} {H : Hp} {s : Shared} {n : Nat} {xs : List D} {da db : D} {e : Nat → Bool} {x y : V} {v u : Value} (I : Inv X pins σ H s) (hm : HM X.K m H) (hu : X.A.units + n + 1 < cLine) (hq : IsQ m db xs) (he : ∀ i a, xs[i]? = some a → EqD m n a da (e i))
    (ra : Rep X.K (dom m) H da x) (rb : Rep X.K (dom m) H db y) (rx : L2.RelV x v) (ry : L2.RelV y u) {E : Value → Shared → Prop} {Q : Bool → Shared → Prop} (q : Q ((List.range xs.length).any e) s) : wpAny (model X.prog X.w) X.A (contains u v) Q E s := by
  obtain ⟨a, vs, ev, sq, rs⟩ := hq.at hm rb
  subst ev
  cases ry
  have item : ∀ (us : List Value), Vals vs us → ∀ j (h1 : j < us.toArray.size), EqP X.prog X.w X.A.in1 s us.toArray[j] v (e j) := fun us k1 j h1 => by
    have j1 : j < us.length := by simpa using h1
    have j2 : j < xs.length := by rw [rs.length, k1.length]; exact j1
    obtain ⟨w1, g1, r1⟩ := rs.get (List.getElem?_eq_getElem j2)
    obtain ⟨t1, f1, o1⟩ := Vals.get k1 g1
    have z := runAt I hm n _ _ _ (he j _ (List.getElem?_eq_getElem j2)) X.A.in1 _ _ _ _ (by show X.A.units + 1 + n < cLine; omega) r1 ra o1 rx
    have i1 : us.toArray[j] = t1 := by have := (List.getElem?_eq_some_iff.mp f1).2; simpa using this
    rw [i1]; exact z
  rcases sq with sq | sq
  · obtain ⟨us, k1, p1, _⟩ := I.list sq
    have n1 : xs.length = us.toArray.size := by rw [rs.length, k1.length, List.size_toArray]
    exact inListP p1.isList (item us k1) (by rw [← n1]; exact q)
  · obtain ⟨us, k1, p1, _⟩ := I.tuple sq
    have n1 : xs.length = us.toArray.size := by rw [rs.length, k1.length, List.size_toArray]
    exact inTupP p1 (item us k1) (by rw [← n1]; exact q)
theorem oa_inG (hx : XF X fb k) : OpA X (compareOp .In) fun da db m Q => ∃ n xs e, n ≤ 60 ∧ IsQ m db xs ∧ (∀ i a, xs[i]? = some a → EqD m n a da (e i)) ∧ Q (.bl ((List.range xs.length).any e)) m :=
  ⟨fun x y H Q => ∃ da db m n xs e, n ≤ 60 ∧ IsQ m db xs ∧ (∀ i a, xs[i]? = some a → EqD m n a da (e i)) ∧ HM X.K m H ∧ Rep X.K (dom m) H da x ∧ Rep X.K (dom m) H db y ∧ Q (.bl ((List.range xs.length).any e)) H,
  fun pins s σ H x y v u Q I rx ry ⟨da, db, m, n, xs, e, hn, hq, he, hm, ra, rb, q⟩ => by
    have hu := hx.room.units
    show wpAny _ _ ((contains u v) >>= fun r => pure (Value.bool r)) _ _ s
    exact wpAny_bind (in_at I hm (by omega) hq he ra rb rx ry (wpAny_pure ⟨.bl _, H, I, rfl, q⟩)),
  fun da db x y m H Q hm ra rb ⟨n, xs, e, hn, hq, he, q⟩ => ⟨da, db, m, n, xs, e, hn, hq, he, hm, ra, rb, .now hm .bl q⟩⟩
theorem oa_notInG (hx : XF X fb k) : OpA X (compareOp .NotIn) fun da db m Q => ∃ n xs e, n ≤ 60 ∧ IsQ m db xs ∧ (∀ i a, xs[i]? = some a → EqD m n a da (e i)) ∧ Q (.bl (!(List.range xs.length).any e)) m :=
  ⟨fun x y H Q => ∃ da db m n xs e, n ≤ 60 ∧ IsQ m db xs ∧ (∀ i a, xs[i]? = some a → EqD m n a da (e i)) ∧ HM X.K m H ∧ Rep X.K (dom m) H da x ∧ Rep X.K (dom m) H db y ∧ Q (.bl (!(List.range xs.length).any e)) H,
  fun pins s σ H x y v u Q I rx ry ⟨da, db, m, n, xs, e, hn, hq, he, hm, ra, rb, q⟩ => by
    have hu := hx.room.units
    show wpAny _ _ ((contains u v) >>= fun r => pure (Value.bool (!r))) _ _ s
    exact wpAny_bind (in_at I hm (by omega) hq he ra rb rx ry (wpAny_pure ⟨.bl _, H, I, rfl, q⟩)),
  fun da db x y m H Q hm ra rb ⟨n, xs, e, hn, hq, he, q⟩ => ⟨da, db, m, n, xs, e, hn, hq, he, hm, ra, rb, .now hm .bl q⟩⟩
theorem AE.eqG {Q : QD} (hx : XF X fb k) (h : AE X a ρ m fun da m1 => AE X b ρ m1 fun db m2 => ∃ n r, n ≤ 60 ∧ EqD m2 n da db r ∧ scD da = none ∧ Q (.bl r) m2) (hm : behindInMarks .Eq b = false := by rfl) : AE X (.Compare a [.Eq] [b] pos) ρ m Q := AE.cmp (oa_eqG hx) h hm
theorem AT.eqG {Q : Bool → Mu → Prop} (hx : XF X fb k) (h : AE X a ρ m fun da m1 => AE X b ρ m1 fun db m2 => ∃ n r, n ≤ 60 ∧ EqD m2 n da db r ∧ scD da = none ∧ Q r m2) (hm : behindInMarks .Eq b = false := by rfl) : AT X (.Compare a [.Eq] [b] pos) ρ m Q := AT.cmp (oa_eqG hx) (h.imp fun _ _ g => g.imp fun _ _ ⟨n, r, h1, h2, h3, q⟩ => ⟨n, r, h1, h2, h3, _, rfl, q⟩) hm
theorem AT.inG {Q : Bool → Mu → Prop} (hx : XF X fb k) (h : AE X a ρ m fun da m1 => AE X b ρ m1 fun db m2 => ∃ n xs e, n ≤ 60 ∧ IsQ m2 db xs ∧ (∀ i a, xs[i]? = some a → EqD m2 n a da (e i)) ∧ Q ((List.range xs.length).any e) m2) (hm : behindInMarks .In b = false := by rfl) : AT X (.Compare a [.In] [b] pos) ρ m Q :=
  AT.cmp (oa_inG hx) (h.imp fun _ _ g => g.imp fun _ _ ⟨n, xs, e, h1, h2, h3, q⟩ => ⟨n, xs, e, h1, h2, h3, _, rfl, q⟩) hm
theorem AT.notinG {Q : Bool → Mu → Prop} (hx : XF X fb k) (h : AE X a ρ m fun da m1 => AE X b ρ m1 fun db m2 => ∃ n xs e, n ≤ 60 ∧ IsQ m2 db xs ∧ (∀ i a, xs[i]? = some a → EqD m2 n a da (e i)) ∧ Q (!(List.range xs.length).any e) m2) (hm : behindInMarks .NotIn b = false := by rfl) : AT X (.Compare a [.NotIn] [b] pos) ρ m Q :=
  AT.cmp (oa_notInG hx) (h.imp fun _ _ g => g.imp fun _ _ ⟨n, xs, e, h1, h2, h3, q⟩ => ⟨n, xs, e, h1, h2, h3, _, rfl, q⟩) hm
/-- data whose == is the equality of what they stand for -/
structure EqF {α : Type} [DecidableEq α] (f : α → D) (n : Nat) : Prop where
  run : ∀ m x y, EqD m n (f x) (f y) (decide (x = y))
theorem eqF_int : EqF D.int 0 := ⟨fun m x y => by
  have h : EqD m 0 (.int x) (.int y) (eqV (.int x) (.int y)) := .flat rfl rfl
  rw [show decide (x = y) = eqV (.int x) (.int y) from rfl]; exact h⟩
theorem eqF_str : EqF D.str 0 := ⟨fun m x y => by
  have h : EqD m 0 (.str x) (.str y) (eqV (.str x) (.str y)) := .flat rfl rfl
  rw [show decide (x = y) = eqV (.str x) (.str y) by simp [eqV]; by_cases e : x = y <;> simp [e]]; exact h⟩
theorem all_eq_iff {α : Type} [DecidableEq α] {xs ys : List α} (l : xs.length = ys.length) : ((List.range xs.length).all fun i => decide (xs[i]? = ys[i]?)) = decide (xs = ys) := by
  rw [Bool.eq_iff_iff, List.all_eq_true, decide_eq_true_iff]
  constructor
  · intro h
    refine List.ext_getElem? fun i => ?_
    by_cases hi : i < xs.length
    · simpa using h i (by simpa using hi)
    · rw [List.getElem?_eq_none (by omega), List.getElem?_eq_none (by omega)]
  · intro h i _; rw [h]; simp
theorem EqF.lstM {α : Type} [DecidableEq α] {f : α → D} {n : Nat} (F : EqF f n) {m : Mu} {d d' : D} {xs ys : List α} (hx : IsL m d (xs.map f)) (hy : IsL m d' (ys.map f)) : EqD m (n + 1) d d' (decide (xs = ys)) := by
  by_cases l : xs.length = ys.length
  · have h : EqD m (n + 1) d d' ((List.range (xs.map f).length).all fun i => decide (xs[i]? = ys[i]?)) := .lst hx hy (by simpa using l) fun i a b ha hb => by
      rw [List.getElem?_map] at ha hb
      cases h1 : xs[i]? with
      | none => rw [h1] at ha; cases ha
      | some u =>
        cases h2 : ys[i]? with
        | none => rw [h2] at hb; cases hb
        | some v => rw [h1] at ha; rw [h2] at hb; cases ha; cases hb; rw [show decide (some u = some v) = decide (u = v) by simp]; exact F.run m u v
    rw [List.length_map, all_eq_iff l] at h
    exact h
  · rw [decide_eq_false fun e => l (by rw [e])]
    exact .lstN hx hy (by simpa using l)
theorem EqF.list {α : Type} [DecidableEq α] {f : α → D} {n : Nat} (F : EqF f n) : EqF (fun xs : List α => .lst (xs.map f)) (n + 1) := ⟨fun m xs ys => F.lstM .im .im⟩
theorem EqF.pair {α β : Type} [DecidableEq α] [DecidableEq β] {f : α → D} {g : β → D} {n : Nat} (F : EqF f n) (G : EqF g n) : EqF (fun x : α × β => .tup [f x.1, g x.2]) (n + 1) := ⟨fun m x y => by
  have h : EqD m (n + 1) (.tup [f x.1, g x.2]) (.tup [f y.1, g y.2]) ((List.range (min [f x.1, g x.2].length [f y.1, g y.2].length)).all (fun i => if i = 0 then decide (x.1 = y.1) else decide (x.2 = y.2)) && [f x.1, g x.2].length == [f y.1, g y.2].length) := .tup fun i a b ha hb => by
    match i with
    | 0 => simp at ha hb; subst ha hb; simpa using F.run m x.1 y.1
    | 1 => simp at ha hb; subst ha hb; simpa using G.run m x.2 y.2
    | i + 2 => simp at ha
  rw [show decide (x = y) = ((List.range (min [f x.1, g x.2].length [f y.1, g y.2].length)).all (fun i => if i = 0 then decide (x.1 = y.1) else decide (x.2 = y.2)) && [f x.1, g x.2].length == [f y.1, g y.2].length) by
    simp [List.range, List.range.loop, Prod.ext_iff, Bool.decide_and]]
  exact h⟩
theorem any_mem {α : Type} [DecidableEq α] {xs : List α} {x : α} : ((List.range xs.length).any fun i => decide (xs[i]? = some x)) = decide (x ∈ xs) := by
  rw [Bool.eq_iff_iff, List.any_eq_true, decide_eq_true_iff, List.mem_iff_getElem?]
  constructor
  · rintro ⟨i, _, h⟩; exact ⟨i, by simpa using h⟩
  · rintro ⟨i, h⟩; exact ⟨i, by simpa using (List.getElem?_eq_some_iff.mp h).1, by simpa using h⟩
theorem EqF.mem {α : Type} [DecidableEq α] {f : α → D} {n : Nat} (F : EqF f n) {m : Mu} {xs : List α} {x : α} : ∀ (i : Nat) (a : D), (xs.map f)[i]? = some a → EqD m n a (f x) (decide (xs[i]? = some x)) := fun i a h => by
  rw [List.getElem?_map] at h
  cases h1 : xs[i]? with
  | none => rw [h1] at h; cases h
  | some u => rw [h1] at h; cases h; rw [show decide (some u = some x) = decide (u = x) by simp]; exact F.run m u x
end
end Ab
/-! B3: class attributes, starred calls, pairs, dict comprehensions, slices with a step. -/
namespace Ab
open L2 PySem PySem.Spec PyProof.Rows
/-- K's words of a staticmethod of C: its def at g -/
structure SMet (K : PySem.W.Frag) (C : Addr) (mc : Value) (m : Str) (p g : Addr) : Prop where
  rd : ClX.CRead K C mc
  at_ : PySem.W.findCls K (.ref C) mc m = some (.get (.builtin "staticmethod.__get__") (.ref p) .none (.ref C))
  rc : ∃ rest, PySem.W.recIn K p "staticmethod" = some (.ref g :: rest)
  kp : PySem.W.keepIn K (.ref g) = true
theorem scRep {K : PySem.W.Frag} {M : Addr → Prop} {H : Hp} {d : D} {v : V} (e : scD d = some v) : Rep K M H d v := by
  cases d <;> simp [scD] at e <;> subst e <;> constructor
section
variable {X : Cx} {fb : FB} {k j : Nat} {ρ : Rho} {m : Mu} {e o a b : Expr} {es : List Expr} {x y nm : Str} {p pos apos sp_ : Pos} {f C : Addr} {asp : ASp}
/-- C.m(e, ..), m a staticmethod -/
theorem AE.sm {Q : QD} {pl : Sem Bool} {mc : Value} {pp : Addr} (c : SMet X.K C mc nm pp f) (F : AFn X.prog X.w X.K X.mg X.base j f asp) (hx : XF X fb k) (hj : j ≤ k)
    (h : AE X o ρ m fun d m1 => d = .ref C ∧ AA X (e :: es) ρ m1 fun ds m2 => asp ds m2 Q)
    (hst : starEach (e :: es) X.env = (false, eval e X.env) :: starEach es X.env := by rfl) (hpl : (backTo pos (starEach es X.env)).any (·.1) = false := by rfl)
    (ht : eval (.Call (.Attribute o nm apos) (e :: es) [] pos) X.env = (do let ov ← eval o X.env; standAt apos.atName; let (f, first) ← holding [ov] (getMethod ov nm pl); callWith pos f first (backTo pos (starEach (e :: es) X.env)) (backToKw pos (keywordEach [] X.env))) := by rfl) :
    AE X (.Call (.Attribute o nm apos) (e :: es) [] pos) ρ m Q := .mk fun σ H S pins s I => by
  refine PySem.W.methodCall_KW (pl := pl) (thn (h σ H S pins s I) fun u s1 ⟨x, H1, I1, rx, d, m1, hm1, l1, r1, ed, q1⟩ => ?_) ht
  subst ed
  cases r1
  obtain rfl : u = Value.ref C := rx
  obtain ⟨rest, hp⟩ := c.rc
  refine PySem.W.method_cls I1.kIn c.rd.ga (PySem.W.cls_bind I1.kIn c.rd.rd c.at_ (wpAny_call (PySem.W.sm_get (s := { s1 with toks := s1.toks + 1 }) I1.kIn hp (PySem.W.handed_on rfl ?_))))
  have I1' := I1.tok (s1.toks + 1)
  refine PySem.W.callWith_K (first := []) (h₀ := X.base) I1'.ok.mod.kin c.kp (thn (q1 σ H1 (S.later hm1 l1) pos pins _ I1') fun us s2 ⟨vs, H2, I2, r, ds, m2, hm2, l2, r2, q2⟩ => ⟨I2.kIn, ?_⟩) hst hpl
  exact F.run (hx.room.mono hj) I2 r hm2 r2 q2 fun _ _ p => p.from (l1.trans l2)
/-- C.m(e, ..), m a classmethod -/
theorem AE.cm {Q : QD} {pl : Sem Bool} {mc : Value} {pp : Addr} (rd : ClX.CRead X.K C mc) (c : ClX.CMet X.K C mc nm pp f) (F : AFn X.prog X.w X.K X.mg X.base j f asp) (hx : XF X fb k) (hj : j ≤ k)
    (h : AE X o ρ m fun d m1 => d = .ref C ∧ AA X (e :: es) ρ m1 fun ds m2 => asp (.ref C :: ds) m2 Q)
    (hst : starEach (e :: es) X.env = (false, eval e X.env) :: starEach es X.env := by rfl) (hpl : (backTo pos (starEach es X.env)).any (·.1) = false := by rfl)
    (ht : eval (.Call (.Attribute o nm apos) (e :: es) [] pos) X.env = (do let ov ← eval o X.env; standAt apos.atName; let (f, first) ← holding [ov] (getMethod ov nm pl); callWith pos f first (backTo pos (starEach (e :: es) X.env)) (backToKw pos (keywordEach [] X.env))) := by rfl) :
    AE X (.Call (.Attribute o nm apos) (e :: es) [] pos) ρ m Q := .mk fun σ H S => by
  refine WE.of (ClX.pe_cmeth (pl := pl) (E := E0) peW rd c F (hx.room.mono hj) pass0 paW hst hpl ht) ((h σ H S).mono fun x H1 ⟨d, m1, hm1, l1, r1, ed, q1⟩ => ?_)
  subst ed
  cases r1
  refine ⟨rfl, WA.mono (X := X) (q1 σ H1 (S.later hm1 l1)) fun vs H2 ⟨ds, m2, hm2, l2, r2, q2⟩ => ?_⟩
  exact ⟨.ref C :: ds, m2, Q, hm2, .cons .ref r2, q2, fun d m' v H' a b c e => Post.from (l1.trans l2) ⟨d, m', a, b, c, e⟩⟩
/-- C.f, a constant -/
theorem AE.cval {Q : QD} (h : AE X e ρ m fun d m1 => ∃ C mc v u dv, d = .ref C ∧ ClX.CRead X.K C mc ∧ ClX.CVal X.K C mc nm v u ∧ scD dv = some v ∧ Q dv m1) (hb : attributeBase e nm X.env (eval e X.env) = eval e X.env := by rfl) : AE X (.Attribute e nm pos) ρ m Q := .mk fun σ H S =>
  WE.of (ClX.pe_cval peW hb) ((h σ H S).mono fun x H1 ⟨d, m1, hm1, l1, r1, C, mc, v, u, dv, ed, c1, c2, hs, q⟩ => by
    subst ed
    cases r1
    exact ⟨C, mc, v, u, rfl, c1, c2, (Post.now hm1 (scRep hs) q).from l1⟩)
/-- c(*e), c a name that holds the class -/
theorem AE.clsStar {Q : QD} (M : Mk X.K C f) (F : AFn X.prog X.w X.K X.mg X.base j f asp) (hx : XF X fb k) (hj : j + 1 ≤ k) (hN : AE X (.Name x p) ρ m fun d m1 => d = .ref C ∧ AE X e ρ m1 fun d m2 => ∃ ds, IsQ m2 d ds ∧ ∀ a, m2 a = none → asp (.ref a :: ds) (updM m2 a (.ins C [])) fun d m3 => d = .non ∧ Q (.ref a) m3)
    (hst : starEach [.Starred e sp_] X.env = [(true, eval e X.env)] := by rfl) : AE X (.Call (.Name x p) [.Starred e sp_] [] pos) ρ m Q := .mk fun σ H S pins s I => by
  refine wpAny_Call_Name_kw (thn (hN σ H S pins s I) fun u s1 ⟨v, H1, I1, rv, d, m1, hm1, l1, r1, ed, h⟩ => ?_)
  subst ed
  cases r1
  obtain rfl : u = Value.ref C := rv
  refine PySem.W.callWith_S (h₀ := X.base) I1.ok.mod.kin M.kp (thn (h σ H1 (S.later hm1 l1) pins s1 I1) fun v s2 ⟨y, H2, I2, ry, d, m2, hm2, l2, r2, ds, hq, q⟩ => ?_) hst
  obtain ⟨a, vs, ev, sq, rs⟩ := hq.at hm2 r2
  subst ev
  obtain rfl : v = Value.ref a := ry
  refine StX.star_any I2 sq.symm fun us s3 I3 rv => ⟨I3.kIn, ?_⟩
  refine StX.run_makeR (E := E0) M F (hx.room.mono hj) pass0 I3 rv fun a dx na nd ne => ?_
  obtain ⟨h2, l3⟩ := make_ready (C := C) X.K hm2 na nd ne
  exact ⟨.ref a :: ds, _, _, h2, .cons .ref (l3.reps rs), q a (hm2.fresh na), fun d m' v H' a b c ⟨e, q⟩ => by subst e; cases c; exact ⟨rfl, _, m', a, l1.trans (l2.trans (l3.trans b)), .ref, q⟩⟩
/-- o.m(*e): as a method of an instance -/
theorem AS.par {D' : AEnds} {i j : Nat} {px py pt : Pos} {kt k2 pt2} (hx : XF X fb k) (hi : Nth fb.N i x) (hj : Nth fb.N j y) (hij : i ≠ j) (hlx : X.env.scope.names.lookup x = some .local) (hly : X.env.scope.names.lookup y = some .local)
    (hw : swappedStores [.Tuple [.Name x px, .Name y py] kt pt] (.Tuple [a, b] k2 pt2) X.env = pure (some [x, y]))
    (h : AA X [a, b] ρ m fun ds m1 => ∃ d1 d2 ρ1 ρ2, ds = [d1, d2] ∧ SetR i d1 ρ ρ1 ∧ SetR j d2 ρ1 ρ2 ∧ D'.nx ρ2 m1)
    (hs : swapsWithSole [.Tuple [.Name x px, .Name y py] kt pt] (.Tuple [a, b] k2 pt2) pos.line X.env = pure false := by rfl) : AS X (.Assign [.Tuple [.Name x px, .Name y py] kt pt] (.Tuple [a, b] k2 pt2) pos) ρ m D' := .mk fun σ H S => by
  refine WS.of (ps_par hx.calm hx.nd (by rw [hx.nN]; exact hi.at) (by rw [hx.nN]; exact hj.at) hij hlx hly paW hw hs) (WA.mono (X := X) (h σ H S) fun vs H1 ⟨ds, m1, hm1, l1, r1, d1, d2, ρ1, ρ2, e, s1, s2, q⟩ => ?_)
  subst e
  cases r1 with
  | cons r t => cases t with
    | cons r2 t =>
      cases t
      have z := ((S.rs.later l1).set i r).set j r2
      rw [← s1.eq, ← s2.eq] at z
      exact ⟨_, _, rfl, ρ2, m1, hm1, l1, z, q⟩
/-- slices with a step -/
def pickD (ds : List D) (lo hi : Option Int) (st : Int) : List D := (sliceRange (sliceBounds lo hi (some st) ds.length).1 (sliceBounds lo hi (some st) ds.length).2.1 (sliceBounds lo hi (some st) ds.length).2.2).filterMap (ds[·]?)
theorem reps_pick {K : PySem.W.Frag} {M : Addr → Prop} {H : Hp} {ds : List D} {vs : List V} (r : Reps K M H ds vs) : ∀ is : List Nat, Reps K M H (is.filterMap (ds[·]?)) (is.filterMap (vs[·]?))
  | [] => .nil
  | i :: is => by
    have ih := reps_pick r is
    rw [List.filterMap_cons, List.filterMap_cons]
    cases h : ds[i]? with
    | none =>
      have : vs[i]? = none := by rw [List.getElem?_eq_none_iff] at h ⊢; rw [← r.length]; exact h
      rw [this]; exact ih
    | some d =>
      obtain ⟨v, hv, rv⟩ := r.get h
      rw [hv]; exact .cons rv ih
theorem vals_pick {vs : List V} {us : List Value} (r : Vals vs us) : ∀ is : List Nat, Vals (is.filterMap (vs[·]?)) (is.filterMap (us[·]?))
  | [] => .nil
  | i :: is => by
    have ih := vals_pick r is
    rw [List.filterMap_cons, List.filterMap_cons]
    cases h : vs[i]? with
    | none =>
      have : us[i]? = none := by rw [List.getElem?_eq_none_iff] at h ⊢; rw [← r.length]; exact h
      rw [this]; exact ih
    | some d =>
      obtain ⟨v, hv, rv⟩ := Vals.get r h
      rw [hv]; exact .cons rv ih
theorem bounds_size {lo hi st : Option Int} {n m : Nat} (h : n = m) : sliceBounds lo hi st n = sliceBounds lo hi st m := by rw [h]
theorem AE.sliceBy {Q : QD} {lo hi : Option Expr} {ste : Expr} {st : Int} {p2 : Pos} (h0 : st ≠ 0) (h : AE X e ρ m fun d m1 => AO X lo ρ m1 fun i m2 => AO X hi ρ m2 fun j m3 => AE X ste ρ m3 fun dst m4 => dst = .int st ∧ ∃ ds, IsL m4 d ds ∧ Q (.lst (pickD ds i j st)) m4) : AE X (.Subscript e (.Slice lo hi (some ste) p2) pos) ρ m Q := .mk fun σ H S pins s I => by
  refine Subscript_ (thn (h σ H S pins s I) fun v s1 ⟨x, H1, I1, rx, d, m1, hm1, l1, r1, q1⟩ => ?_)
  have w1 := ao_w (R := fun i H2 => ∃ m2, HM X.K m2 H2 ∧ Later m1 H1 m2 H2 ∧ AO X hi ρ m2 fun j m3 => AE X ste ρ m3 fun dst m4 => dst = .int st ∧ ∃ ds, IsL m4 d ds ∧ Q (.lst (pickD ds i j st)) m4) q1 (S.later hm1 l1) fun i m2 H2 hm2 l2 q => ⟨m2, hm2, l2, q⟩
  refine wpAny_Slice (thn (poW.run pins s1 σ H1 _ I1 w1) fun vl s2 ⟨i, H2, I2, pl, m2, hm2, l2, q2⟩ => ?_)
  have w2 := ao_w (R := fun j H3 => ∃ m3, HM X.K m3 H3 ∧ Later m2 H2 m3 H3 ∧ AE X ste ρ m3 fun dst m4 => dst = .int st ∧ ∃ ds, IsL m4 d ds ∧ Q (.lst (pickD ds i j st)) m4) q2 (S.later hm2 (l1.trans l2)) fun j m3 H3 hm3 l3 q => ⟨m3, hm3, l3, q⟩
  refine thn (poW.run pins s2 σ H2 _ I2 w2) fun vu s3 ⟨j, H3, I3, pu, m3, hm3, l3, q3⟩ => ?_
  rw [evalPart_some]
  refine thn (q3 σ H3 (S.later hm3 (l1.trans (l2.trans l3))) pins s3 I3) fun vt s4 ⟨y, H4, I4, ry, d4, m4, hm4, l4, r4, ed, ds, hl, q⟩ => ?_
  subst ed
  cases r4
  obtain ⟨tk, et⟩ := ry
  subst et
  have I5 : Inv X pins σ H4 { s4 with heap := s4.heap.push { cls := .type "slice", data := .fields #[vl, vu, Value.int st tk] } } := I4.kept (t' := s4.toks) fun b ob q => Heap.get?_push_of_some _ q
  have rd := (l2.trans (l3.trans l4)).rep r1
  obtain ⟨a, vs, ev, sq, rs⟩ := hl.at hm4 rd
  subst ev
  obtain rfl : v = Value.ref a := rx
  obtain ⟨its, rv, pl', hz⟩ := I5.list sq
  have n1 : ds.length = its.length := by rw [rs.length, rv.length]
  have n2 : ds.length = vs.length := rs.length
  show wpAny (model X.prog X.w) X.A (subscriptTail e (.Slice lo hi (some ste) p2) (.ref a) (.ref s4.heap.objs.size)) _ X.xe { s4 with heap := s4.heap.push { cls := .type "slice", data := .fields #[vl, vu, Value.int st tk] } }
  refine tail_any (ops := [.ref a, .ref s4.heap.objs.size]) pl'.isList.typeIs (PySem.slot_list_getitem.lookup) ?_ (by with_unfolding_all rfl)
  refine wpAny_getItem_list_slice pl'.isList (Heap.IsSliceOf.new _ vl vu _) pl pu (.int st tk) (by simpa using h0) ?_ (by rw [List.size_toArray, ← n1, n2]; exact hz)
  have ep : slicePick its.toArray i j (some st) = ((sliceRange (sliceBounds i j (some st) vs.length).1 (sliceBounds i j (some st) vs.length).2.1 (sliceBounds i j (some st) vs.length).2.2).filterMap (its[·]?)).toArray := by
    unfold slicePick
    rw [List.size_toArray, ← n1, n2]
    simp
  rw [ep]
  refine ⟨.ref _, _, I5.laid (t' := s4.toks) (o := .lst ((sliceRange (sliceBounds i j (some st) vs.length).1 (sliceBounds i j (some st) vs.length).2.1 (sliceBounds i j (some st) vs.length).2.2).filterMap (vs[·]?))) (fun b ob q => Heap.get?_push_of_some _ q) (Nat.le_refl _) ?_, rfl, ?_⟩
  · have z := slicePick_size_le its.toArray i j (some st)
    rw [ep, List.size_toArray, List.size_toArray, ← (vals_pick rv _).length, ← rv.length] at z
    refine ⟨Nat.le_trans z hz, _, 0, vals_pick rv _, Heap.get?_push_size _ rfl⟩
  · have hp := I5.hok.fresh (Nat.le_refl _)
    refine (post_lst hm4 hp (ds := pickD ds i j st) ?_ q).from (l1.trans (l2.trans (l3.trans l4)))
    unfold pickD
    rw [n2]
    exact reps_pick rs _
end
end Ab
/-! B4: dict comprehensions, items, pairs, index, enumerate, defs with a star. -/
namespace Ab
open L2 PySem PySem.Spec PyProof.Rows
section
variable {X : Cx} {fb : FB} {k j : Nat} {ρ : Rho} {m : Mu} {e o a b : Expr} {es : List Expr} {x y nm : Str} {p pos apos cpos sp_ : Pos} {f C : Addr} {asp : ASp} {tg iter elt kx vx : Expr} {ifs : List Expr} {scope : Scope}
/-- {kx: vx for tg in iter if ..}, a changing dict -/
theorem AE.dcM {own : List (Str × Nat)} {g : TG} {gr : D → Rho → Mu → (Rho → Prop) → Prop} (hx : XF X fb k) (hok : BlkOk X.N X.env.scope scope own) (T : CTg X tg scope own g gr) {Q : QD}
    (h : AI X tg iter ρ m fun ds G m1 => ∃ I : Nat → List (Key × D) → Mu → Prop, I 0 [] m1 ∧ (∀ i out mi a o, I i out mi → mi a = none → G (updM mi a o)) ∧
      (∀ i d out mi a, ds[i]? = some d → I i out mi → mi a = none → gr d (wipeR ρ (own.map (·.2))) (updM mi a (.dic out)) fun ρ2 => ABT X scope ifs ρ2 (updM mi a (.dic out)) fun b m3 =>
        (b = true → ABE X scope kx ρ2 m3 fun y m4 => ABE X scope vx ρ2 m4 fun r m5 => ∃ kk, keyD y = some kk ∧ out.length < sizeLine ∧ ∃ mj, m5 = updM mj a (.dic out) ∧ mj a = none ∧ I (i + 1) (putKD out kk r) mj) ∧ (b = false → ∃ mj, m3 = updM mj a (.dic out) ∧ mj a = none ∧ I (i + 1) out mj)) ∧
      ∀ out mj a, mj a = none → I ds.length out mj → Q (.ref a) (updM mj a (.dic out))) (hs : ∀ x, foldedSetIterable iter X.env x = pure x := by intro _; rfl) : AE X (.DictComp kx vx [⟨tg, iter, ifs, 0⟩] scope pos) ρ m Q := .mk fun σ H S => by
  refine WE.of (pe_dc hx.calm hx.nd piW hok T.pg (fun _ _ _ _ _ => ptB) (fun _ _ _ _ _ => peB) (fun _ _ _ _ _ => peB) hs) ?_
  refine WI.mono (X := X) (h σ H S) ?_
  rintro J H1 ⟨ds, G, m1, hm1, l1, jok, I, i0, iG, turn, fin⟩ a na
  have na1 : m1 a = none := hm1.fresh na
  have n0 : HM X.K (updM m1 a (.dic [])) (upd H1 a (.dK [])) := hm1.put (u := .dic []) (.inl na) ⟨[], upd_same, rfl, .nil⟩
  have ln : Later m1 H1 (updM m1 a (.dic [])) (upd H1 a (.dK [])) := Later.new na
  refine ⟨fun i n H2 => n = ds.length - i ∧ i ≤ ds.length ∧ ∃ mi out, HM X.K (updM mi a (.dic out)) H2 ∧ Later m1 H1 (updM mi a (.dic out)) H2 ∧ mi a = none ∧ I i out mi, ⟨_, rfl, Nat.zero_le _, m1, [], n0, ln, na1, i0⟩, ?_⟩
  rintro i n H2 ⟨rfl, hi, mi, out, hm', l', nai, q⟩
  obtain ⟨j1, j2⟩ := jok i (updM mi a (.dic out)) H2 hm' l' (iG i out mi a _ q nai)
  by_cases hlt : i < ds.length
  · obtain ⟨go, y⟩ := j1 ds[i] (by simp [hlt])
    refine .inr ⟨go, fun H3 => ∃ mj out', HM X.K (updM mj a (.dic out')) H3 ∧ Later m1 H1 (updM mj a (.dic out')) H3 ∧ mj a = none ∧ I (i + 1) out' mj, fun H3 h3 => ⟨ds.length - (i + 1), by omega, rfl, hlt, h3⟩, fun x H' hy => ?_⟩
    obtain ⟨hm2, l2, r2⟩ := y x H' hy
    refine T.run ds[i] x _ (updM mi a (.dic out)) _ H' _ _ hm2 (wipe_rs (S.rs.later (l1.trans (l'.trans l2))) _) r2 (turn i ds[i] out mi a (by simp [hlt]) q nai) (wipe_wipe fun _ h => h) fun ρ2 σ2 rs2 ew q2 => ⟨ew, ?_⟩
    refine abt_w q2 ⟨hm2, rs2⟩ ?_
    rintro b H3 ⟨m3, hm3, l3, q3, q4⟩
    cases b with
    | false =>
      rw [if_neg Bool.false_ne_true]
      obtain ⟨mj, e, nj, qj⟩ := q4 rfl
      subst e
      exact ⟨mj, out, hm3, l'.trans (l2.trans l3), nj, qj⟩
    | true =>
      rw [if_pos rfl]
      refine WBE.mono (abe_w (q3 rfl) ⟨hm3, rs2.later l3⟩) ?_
      rintro ky H4 ⟨dk, m4, hm4, l4, rk, q5⟩
      refine WBE.mono (abe_w q5 ⟨hm4, (rs2.later l3).later l4⟩) ?_
      rintro v H5 ⟨r, m5, hm5, l5, rr, kk, ek, z, mj, e, nj, qj⟩
      subst e
      obtain ⟨vs, hv, ev, rv⟩ := hm5 a (.dic out) updM_same
      have dm : dom (updM mj a (.dic out)) a := by unfold dom; rw [updM_same]; simp
      have lw : Later (updM mj a (.dic out)) H5 (updM (updM mj a (.dic out)) a (.dic (putKD out kk r))) (upd H5 a (.dK (putK vs kk v))) := Later.write dm
      have hw := hm5.put (u := .dic (putKD out kk r)) (o := .dK (putK vs kk v)) (.inr dm) ⟨_, upd_same, putK_fst ev, putK_snd (lw.rep rr) ev (lw.reps rv)⟩
      rw [updM_updM] at lw hw
      have le : vs.length = out.length := by have := congrArg List.length ev; simpa using this
      exact ⟨vs, kk, keyD_rep rk ek, hv, by rw [le]; exact z, mj, _, hw, l'.trans (l2.trans (l3.trans (l4.trans (l5.trans lw)))), nj, qj⟩
  · have e : i = ds.length := by omega
    subst e
    exact .inl ⟨j2 (Nat.le_refl _), .ref a, updM mi a (.dic out), hm', l1.trans l', .ref, fin out mi a nai q⟩
/-- a pair of a dict as data -/
def kD : Key → D
  | .inl i => .int i
  | .inr x => .str x
theorem kD_rep {K : PySem.W.Frag} {M : Addr → Prop} {H : Hp} : ∀ k : Key, Rep K M H (kD k) (kV k)
  | .inl _ => .int
  | .inr _ => .str
/-- list(e.items()) -/
theorem AE.items {Q : QD} (hx : XF X fb k) (hg : fb.glb "list" = true) (hm : X.mg "list" = none) (hv : bootBuiltins "list" = some (.type "list")) (h : AE X e ρ m fun d m1 => ∃ b ks, d = .ref b ∧ m1 b = some (.dic ks) ∧ Q (.lst (ks.map fun p => .tup [kD p.1, p.2])) m1)
    (hbase : attributeBase e "items" X.env (eval e X.env) = eval e X.env := by rfl) (hline : (apos.endLine == cpos.line) = true := by rfl)
    (hs : starEach [.Call (.Attribute e "items" apos) [] [] cpos] X.env = (false, eval (.Call (.Attribute e "items" apos) [] [] cpos) X.env) :: starEach [] X.env := by rfl) :
    AE X (.Call (.Name "list" p) [.Call (.Attribute e "items" apos) [] [] cpos] [] pos) ρ m Q := .mk fun σ H S => by
  refine WE.of (LiI.pe_listItems hx.calm peW (hx.glb _ hg) hm hv hbase hline hs) ((h σ H S).mono fun v H1 ⟨d, m1, hm1, l1, r1, c, ks, ed, hd, q⟩ => ?_)
  subst ed
  cases r1
  obtain ⟨kvs, z, ek, rs⟩ := hm1 _ _ hd
  refine ⟨c, kvs, rfl, z, fun H' p ts keep np nts npt hp hts => ?_⟩
  have sm : Same H1 H' := keep
  refine (Post.now (d := .lst (ks.map fun p => .tup [kD p.1, p.2])) (hm1.same sm) (.lst (notdom hm1 np) (.inl hp) ?_) q).from (l1.trans (Later.same sm))
  have rs' := Reps.same rs sm
  clear q z keep npt hp hd
  have key : ∀ {ts : List Addr} {kvs : List (Key × V)} {ks : List (Key × D)}, (∀ t ∈ ts, H1 t = none) → kvs.map (·.1) = ks.map (·.1) → Reps X.K (dom m1) H' (ks.map (·.2)) (kvs.map (·.2)) → Paired (fun (t : Addr) (q : Key × V) => H' t = some (.tup [kV q.1, q.2])) ts kvs → Reps X.K (dom m1) H' (ks.map fun p => .tup [kD p.1, p.2]) (ts.map V.ref) := by
    intro ts
    induction ts with
    | nil => intro kvs ks _ e _ h; cases h; cases ks with
      | nil => exact .nil
      | cons _ _ => cases e
    | cons t ts ih => intro kvs ks hn e r h; cases h with
      | @cons _ q _ qs hh ht =>
        cases ks with
        | nil => cases e
        | cons k ks =>
          simp only [List.map_cons, List.cons.injEq] at e
          cases r with
          | cons r rr =>
            refine .cons (.tup (notdom hm1 (hn t List.mem_cons_self)) hh (.cons ?_ (.cons r .nil))) (ih (fun t ht => hn t (List.mem_cons_of_mem _ ht)) e.2 rr ht)
            rw [e.1]; exact kD_rep _
  exact key nts ek rs' hts
/-- dict(xs), xs a list of pairs -/
def mergeD (ks more : List (Key × D)) : List (Key × D) := more.foldl (fun acc kv => putKD acc kv.1 kv.2) ks
theorem merge_rep {K : PySem.W.Frag} {M : Addr → Prop} {H : Hp} : ∀ {more : List (Key × D)} {mv : List (Key × V)} {ks : List (Key × D)} {kv : List (Key × V)}, mv.map (·.1) = more.map (·.1) → Reps K M H (more.map (·.2)) (mv.map (·.2)) → kv.map (·.1) = ks.map (·.1) → Reps K M H (ks.map (·.2)) (kv.map (·.2)) →
    (mergeK kv mv).map (·.1) = (mergeD ks more).map (·.1) ∧ Reps K M H ((mergeD ks more).map (·.2)) ((mergeK kv mv).map (·.2))
  | [], [], _, _, _, _, e, r => ⟨e, r⟩
  | [], _ :: _, _, _, z, _, _, _ => by cases z
  | _ :: _, [], _, _, z, _, _, _ => by cases z
  | (k1, d1) :: more, (k2, v2) :: mv, ks, kv, z, rr, e, r => by
    simp only [List.map_cons, List.cons.injEq] at z
    obtain ⟨z1, z2⟩ := z
    subst z1
    cases rr with
    | cons r1 rr => exact merge_rep (ks := putKD ks k2 d1) (kv := putK kv k2 v2) z2 rr (putK_fst e) (putK_snd r1 e r)
theorem ca_dictP (hc : X.calm = true) : CallA X (.type "dict") fun ds m Q => ∃ d ks, ds = [d] ∧ IsL m d (ks.map fun p => .tup [kD p.1, p.2]) ∧ ∀ p, m p = none → Q (.ref p) (updM m p (.dic (mergeD [] ks))) := callA (call_dictP hc) fun ds m vs H Q hm rs ⟨d, ks, e, hl, q⟩ => by
  subst e
  cases rs with
  | cons r t =>
    cases t
    obtain ⟨c, us, ev, s, r2⟩ := hl.at hm r
    subst ev
    have key : ∀ {ks : List (Key × D)} {us : List V}, Reps X.K (dom m) H (ks.map fun p => .tup [kD p.1, p.2]) us → ∃ (ps : List Addr) (kvs : List (Key × V)), us = ps.map V.ref ∧ Paired (fun p kv => SqT X.K H p [kV kv.1, kv.2]) ps kvs ∧ kvs.map (·.1) = ks.map (·.1) ∧ Reps X.K (dom m) H (ks.map (·.2)) (kvs.map (·.2)) := by
      intro ks
      induction ks with
      | nil => intro us r; cases r; exact ⟨[], [], rfl, .nil, rfl, .nil⟩
      | cons k ks ih => intro us r; cases r with
        | cons r t =>
          obtain ⟨ps, kvs, e1, e2, e3, e4⟩ := ih t
          obtain ⟨a, vs, ea, sq, rr⟩ := IsT.im.at hm r
          cases rr with
          | cons rk rr => cases rr with
            | @cons _ v _ _ rv rr =>
              cases rr
              have ek : ∀ {v : V}, Rep X.K (dom m) H (kD k.1) v → v = kV k.1 := by
                intro v h
                cases hk : k.1 <;> rw [hk] at h <;> cases h <;> rfl
              rw [ek rk] at sq
              refine ⟨a :: ps, (k.1, v) :: kvs, by rw [ea, e1]; rfl, .cons sq e2, by simp [e3], .cons rv e4⟩
    obtain ⟨ps, kvs, e1, e2, e3, e4⟩ := key r2
    subst e1
    obtain ⟨m1, m2⟩ := merge_rep (ks := []) (kv := []) e3 e4 rfl .nil
    exact ⟨c, ps, kvs, rfl, s, e2, fun p n => Post.newM (u := .dic (mergeD [] ks)) hm n ⟨_, upd_same, m1, (Later.new n).reps m2⟩ q⟩
/-- xs.index(y), texts -/
theorem ma_indexS : MethA X "list.index" fun d ds m Q => ∃ (ss : List Str) (z : Str) (i : Nat), IsQ m d (ss.map D.str) ∧ IsL m d (ss.map D.str) ∧ ds = [.str z] ∧ ss[i]? = some z ∧ (∀ i', i' < i → ss[i']? ≠ some z) ∧ Q (.int (i : Nat)) m := methA mt_index fun d ds m x vs H Q hm rx rs ⟨ss, z, i, _, hl, e, hi, hno, q⟩ => by
  subst e
  cases rs with
  | cons r t =>
    cases t; cases r
    obtain ⟨c, us, ev, s, r2⟩ := hl.at hm rx
    rw [reps_strs r2] at s
    refine ⟨c, _, .str z, i, .str z, ev, rfl, s, rfl, by simp [flatV], by simp [hi], by simp [eqV], fun i' z' hi' hz' => ?_, .now hm .int q⟩
    rw [List.getElem?_map] at hz'
    cases h : ss[i']? with
    | none => rw [h] at hz'; cases hz'
    | some u =>
      rw [h] at hz'; cases hz'
      simp only [eqV]
      exact beq_eq_false_iff_ne.mpr fun eu => hno i' hi' (by rw [h, eu])
/-- c in s, c one sign -/
theorem oa_inSign : OpA X (compareOp .In) fun da db m Q => ∃ (c : Nat) (z : Str), da = .str ⟨#[c]⟩ ∧ db = .str z ∧ Q (.bl (decide (c ∈ z.cps.toList))) m := ⟨_, op_in_sign, fun da db x y m H Q hm ra rb ⟨c, z, e1, e2, q⟩ => by
  subst e1 e2; cases ra; cases rb; exact ⟨c, z, rfl, rfl, .now hm .bl q⟩⟩
theorem Reps.split {K : PySem.W.Frag} {M : Addr → Prop} {H : Hp} : ∀ {ds es : List D} {vs : List V}, Reps K M H (ds ++ es) vs → ∃ v1 v2, vs = v1 ++ v2 ∧ Reps K M H ds v1 ∧ Reps K M H es v2
  | [], _, vs, r => ⟨[], vs, rfl, .nil, r⟩
  | _ :: ds, es, _, .cons h t => by
    obtain ⟨v1, v2, e, r1, r2⟩ := Reps.split (ds := ds) t
    exact ⟨_ :: v1, v2, by rw [e]; rfl, .cons h r1, r2⟩
theorem cxup0 : StX.CXUp CX0 := fun _ _ _ _ _ _ _ _ _ _ _ h => h
/-- def f(a, .., *v): the tuple of what is left over -/
theorem afn_star {P : Program} {w : World} {K : PySem.W.Frag} {mg : Str → Option Value} {base : Heap} {qual : Str} {params : Arguments} {body : List Stmt} {scope : Scope} {dvs : List V} {kws : List (Str × V)} {N ps : List Str} {pv : Str} {fd : FuncData} (F : FunD K x qual params body scope dvs kws f fd) (S : FnScope N (ps ++ [pv]) scope)
    (hb : ∀ us rest : List Value, us.length = ps.length → bindArgs fd ⟨us ++ rest, []⟩ = (newTuple rest >>= fun t => pure (ps.zip us ++ [(pv, t)])))
    (h : ∀ X : Cx, XG P w K mg base X → XF X (fbOf N scope) k → X.xe = (fun _ _ => False) → X.env.scope = scope → ∀ ds m Q, asp ds m Q → ASs X body (startR N ds) m { nx := fun _ m' => Q .non m', rt := Q }) :
    AFn P w K mg base (k + 1) f (fun ds m Q => ∃ ws rest, ds = ws ++ rest ∧ ws.length = ps.length ∧ rest.length ≤ sizeLine ∧ asp (ws ++ [.tup rest]) m Q) := by
  obtain ⟨oc, od, dV, kV, doc, pm, an, cdv, ct, osl, rfl, lk, hcd, _, _⟩ := F.ex
  refine FnR.imp (StX.fn_star (sp := liftSp K asp) lk hcd S cxup0 hb fun A outer s H vs Q E hr ⟨ds, m, Q', hm, r, q, fin⟩ => ?_) fun vs H Q E ⟨ds, m, Q', hm, r, ⟨ws, rest, e, hl, hz, q⟩, fin⟩ => ?_
  · refine ⟨WSs (cxOf CX0 P w K mg base N qual scope f cdv A outer s H E).nox body, pssW.nox, ?_⟩
    refine WSs.mono ((h (cxOf CX0 P w K mg base N qual scope f cdv A outer s H E).nox ⟨rfl, rfl, rfl, rfl, rfl⟩ (xf_start S hr) rfl rfl ds m Q' q).run _ _ ⟨hm, startR_ok r⟩) ?_ ?_ ?_ ?_
    · rintro σ' H' ⟨ρ', m', hm', l, rs, q'⟩
      exact fin .non m' .non H' hm' l .non q'
    · rintro v H' ⟨d, m', hm', l, rd, q'⟩
      exact fin d m' v H' hm' l rd q'
    · rintro σ' H' ⟨ρ', m', hm', l, rs, q'⟩
      exact q'
    · rintro σ' H' ⟨ρ', m', hm', l, rs, q'⟩
      exact q'
  · subst e
    obtain ⟨v1, v2, ev, r1, r2⟩ := r.split
    subst ev
    refine ⟨v1, v2, rfl, by rw [← r1.length]; exact hl, by rw [← r2.length]; exact hz, fun p hp => ?_⟩
    have sm : Same H (upd H p (.tup v2)) := same_upd hp
    exact ⟨ws ++ [.tup rest], m, Q', hm.same sm, (r1.same sm).append (.cons (.tup (notdom hm hp) upd_same (r2.same sm)) .nil), q, fun d m' v H' a b c e => fin d m' v H' a ((Later.same sm).trans b) c e⟩
end
end Ab
/-! B5: bundles of facts; objects that change no more. -/
namespace Ab
open L2 PySem PySem.Spec PyProof.Rows
section
variable (P : Program) (w : World) (K : PySem.W.Frag) (mg : Str → Option Value) (base : Heap)
/-- a def that may be called by its name -/
structure Cal (j : Nat) (x : Str) (asp : ASp) : Prop where
  ex : ∃ f, AFn P w K mg base j f asp ∧ mg x = some (.ref f) ∧ PySem.W.keepIn K (.ref f) = true
/-- a class that is made by its name -/
structure Mkc (j : Nat) (x : Str) (C : Addr) (asp : ASp) : Prop where
  ex : ∃ f, Mk K C f ∧ AFn P w K mg base j f asp
  gl : mg x = some (.ref C)
structure Prp (j : Nat) (C : Addr) (nm : Str) (asp : ASp) : Prop where
  ex : ∃ pa f fd ps, Cls K C ∧ PropOf K C nm pa f ∧ AFd P w K mg base j f fd ps asp ∧ Binds K fd ps []
structure Mth (j : Nat) (C : Addr) (nm : Str) (asp : ASp) : Prop where
  ex : ∃ f, Cls K C ∧ Meth K C nm f ∧ AFn P w K mg base j f asp
structure Stm (j : Nat) (C : Addr) (nm : Str) (asp : ASp) : Prop where
  ex : ∃ mc p g, SMet K C mc nm p g ∧ AFn P w K mg base j g asp
structure Clm (j : Nat) (C : Addr) (nm : Str) (asp : ASp) : Prop where
  ex : ∃ mc p g, ClX.CRead K C mc ∧ ClX.CMet K C mc nm p g ∧ AFn P w K mg base j g asp
end
section
variable {X : Cx} {fb : FB} {k j : Nat} {ρ : Rho} {m : Mu} {e o : Expr} {es : List Expr} {x nm : Str} {p pos apos sp_ : Pos} {C : Addr} {asp : ASp} {Q : QD}
theorem AE.callC (c : Cal X.prog X.w X.K X.mg X.base j x asp) (hx : XF X fb k) (hj : j ≤ k) (hg : fb.glb x = true) (h : AA X (e :: es) ρ m fun ds m1 => asp ds m1 Q)
    (hdb : (x == ("__debug__" : Str)) = false := by decide +kernel) (he : starEach (e :: es) X.env = (false, eval e X.env) :: starEach es X.env := by rfl) (hpl : (backTo pos (starEach es X.env)).any (·.1) = false := by rfl) : AE X (.Call (.Name x p) (e :: es) [] pos) ρ m Q := by
  obtain ⟨f, F, gm, gk⟩ := c.ex
  exact AE.call F hx hj hg gm gk h hdb he hpl
theorem AE.callC0 (c : Cal X.prog X.w X.K X.mg X.base j x asp) (hx : XF X fb k) (hj : j ≤ k) (hg : fb.glb x = true) (h : asp [] m Q) (hdb : (x == ("__debug__" : Str)) = false := by decide +kernel) : AE X (.Call (.Name x p) [] [] pos) ρ m Q := by
  obtain ⟨f, F, gm, gk⟩ := c.ex
  exact AE.call0 F hx hj hg gm gk h hdb
theorem AE.mkC (c : Mkc X.prog X.w X.K X.mg X.base j x C asp) (hx : XF X fb k) (hj : j + 1 ≤ k) (hg : fb.glb x = true) (h : AA X (e :: es) ρ m fun ds m1 => ∀ a, m1 a = none → asp (.ref a :: ds) (updM m1 a (.ins C [])) fun d m2 => d = .non ∧ Q (.ref a) m2)
    (hdb : (x == ("__debug__" : Str)) = false := by decide +kernel) (he : starEach (e :: es) X.env = (false, eval e X.env) :: starEach es X.env := by rfl) (hpl : (backTo pos (starEach es X.env)).any (·.1) = false := by rfl) : AE X (.Call (.Name x p) (e :: es) [] pos) ρ m Q := by
  obtain ⟨f, M, F⟩ := c.ex
  exact AE.make M F hx hj hg c.gl h hdb he hpl
theorem AE.mkC0 (c : Mkc X.prog X.w X.K X.mg X.base j x C asp) (hx : XF X fb k) (hj : j + 1 ≤ k) (hg : fb.glb x = true) (h : ∀ a, m a = none → asp [.ref a] (updM m a (.ins C [])) fun d m2 => d = .non ∧ Q (.ref a) m2)
    (hdb : (x == ("__debug__" : Str)) = false := by decide +kernel) : AE X (.Call (.Name x p) [] [] pos) ρ m Q := by
  obtain ⟨f, M, F⟩ := c.ex
  exact AE.make0 M F hx hj hg c.gl h hdb
theorem AE.prp (c : Prp X.prog X.w X.K X.mg X.base j C nm asp) (hx : XF X fb k) (hj : j + 1 ≤ k) (h : AE X e ρ m fun d m1 => ∃ fs, IsI m1 d C fs ∧ asp [d] m1 Q) (hab : attributeBase e nm X.env (eval e X.env) = eval e X.env := by rfl) : AE X (.Attribute e nm pos) ρ m Q := by
  obtain ⟨pa, f, fd, ps, c1, c2, F, hb⟩ := c.ex
  exact AE.prop c1 c2 F hb hx hj h hab
theorem AE.mth {pl : Sem Bool} (c : Mth X.prog X.w X.K X.mg X.base j C nm asp) (hx : XF X fb k) (hj : j ≤ k)
    (h : AE X o ρ m fun d m1 => ∃ fs, IsI m1 d C fs ∧ fs.lookup nm = none ∧ AA X (e :: es) ρ m1 fun ds m2 => asp (d :: ds) m2 Q)
    (hst : starEach (e :: es) X.env = (false, eval e X.env) :: starEach es X.env := by rfl) (hpl : (backTo pos (starEach es X.env)).any (·.1) = false := by rfl)
    (ht : eval (.Call (.Attribute o nm apos) (e :: es) [] pos) X.env = (do let ov ← eval o X.env; standAt apos.atName; let (f, first) ← holding [ov] (getMethod ov nm pl); callWith pos f first (backTo pos (starEach (e :: es) X.env)) (backToKw pos (keywordEach [] X.env))) := by rfl) :
    AE X (.Call (.Attribute o nm apos) (e :: es) [] pos) ρ m Q := by
  obtain ⟨f, c1, c2, F⟩ := c.ex
  exact AE.meth c1 c2 F hx hj h hst hpl ht
theorem AE.mth0 {pl : Sem Bool} (c : Mth X.prog X.w X.K X.mg X.base j C nm asp) (hx : XF X fb k) (hj : j ≤ k) (h : AE X o ρ m fun d m1 => ∃ fs, IsI m1 d C fs ∧ fs.lookup nm = none ∧ asp [d] m1 Q)
    (ht : eval (.Call (.Attribute o nm apos) [] [] pos) X.env = (do let ov ← eval o X.env; standAt apos.atName; let (f, first) ← holding [ov] (getMethod ov nm pl); callWith pos f first (backTo pos (starEach [] X.env)) (backToKw pos (keywordEach [] X.env))) := by rfl) :
    AE X (.Call (.Attribute o nm apos) [] [] pos) ρ m Q := by
  obtain ⟨f, c1, c2, F⟩ := c.ex
  exact AE.meth0 c1 c2 F hx hj h ht
theorem AE.stm {pl : Sem Bool} (c : Stm X.prog X.w X.K X.mg X.base j C nm asp) (hx : XF X fb k) (hj : j ≤ k)
    (h : AE X o ρ m fun d m1 => d = .ref C ∧ AA X (e :: es) ρ m1 fun ds m2 => asp ds m2 Q)
    (hst : starEach (e :: es) X.env = (false, eval e X.env) :: starEach es X.env := by rfl) (hpl : (backTo pos (starEach es X.env)).any (·.1) = false := by rfl)
    (ht : eval (.Call (.Attribute o nm apos) (e :: es) [] pos) X.env = (do let ov ← eval o X.env; standAt apos.atName; let (f, first) ← holding [ov] (getMethod ov nm pl); callWith pos f first (backTo pos (starEach (e :: es) X.env)) (backToKw pos (keywordEach [] X.env))) := by rfl) :
    AE X (.Call (.Attribute o nm apos) (e :: es) [] pos) ρ m Q := by
  obtain ⟨mc, pp, g, c1, F⟩ := c.ex
  exact AE.sm c1 F hx hj h hst hpl ht
theorem AE.clm {pl : Sem Bool} (c : Clm X.prog X.w X.K X.mg X.base j C nm asp) (hx : XF X fb k) (hj : j ≤ k)
    (h : AE X o ρ m fun d m1 => d = .ref C ∧ AA X (e :: es) ρ m1 fun ds m2 => asp (.ref C :: ds) m2 Q)
    (hst : starEach (e :: es) X.env = (false, eval e X.env) :: starEach es X.env := by rfl) (hpl : (backTo pos (starEach es X.env)).any (·.1) = false := by rfl)
    (ht : eval (.Call (.Attribute o nm apos) (e :: es) [] pos) X.env = (do let ov ← eval o X.env; standAt apos.atName; let (f, first) ← holding [ov] (getMethod ov nm pl); callWith pos f first (backTo pos (starEach (e :: es) X.env)) (backToKw pos (keywordEach [] X.env))) := by rfl) :
    AE X (.Call (.Attribute o nm apos) (e :: es) [] pos) ρ m Q := by
  obtain ⟨mc, pp, g, c1, c2, F⟩ := c.ex
  exact AE.cm c1 c2 F hx hj h hst hpl ht
end
/-! ### the store -/
theorem updM_comm {m : Mu} {a b : Addr} {o u : MO} (h : a ≠ b) : updM (updM m a o) b u = updM (updM m b u) a o := by
  funext c; unfold updM
  by_cases h1 : c = a
  · subst h1; rw [if_neg h, if_pos rfl, if_pos rfl]
  · by_cases h2 : c = b
    · subst h2; rw [if_pos rfl, if_neg h1, if_pos rfl]
    · rw [if_neg h2, if_neg h1, if_neg h1, if_neg h2]
theorem updM_id {m : Mu} {a : Addr} {o : MO} (h : m a = some o) : updM m a o = m := by
  funext c; unfold updM; split
  · rename_i e; rw [e, h]
  · rfl
theorem delM_updM2 {m : Mu} {a b : Addr} {o : MO} (h : a ≠ b) : delM (updM m b o) a = updM (delM m a) b o := by
  funext c
  show (if c = a then none else if c = b then some o else m c) = (if c = b then some o else if c = a then none else m c)
  by_cases h1 : c = a
  · subst h1; rw [if_pos rfl, if_neg h, if_pos rfl]
  · rw [if_neg h1, if_neg h1]
theorem delM_id {m : Mu} {a : Addr} (h : m a = none) : delM m a = m := by
  funext c; unfold delM; split
  · rename_i e; rw [e, h]
  · rfl
theorem updM_none {m : Mu} {a b : Addr} {o : MO} (h : updM m a o b = none) : b ≠ a ∧ m b = none := by
  unfold updM at h
  by_cases e : b = a
  · rw [if_pos e] at h; cases h
  · rw [if_neg e] at h; exact ⟨e, h⟩
/-! ### what changes no more -/
def imD : MO → D
  | .lst ds => .lst ds
  | .dic ks => .dic ks
  | .ins C fs => .ins C fs
theorem MOk.im {K : PySem.W.Frag} {m : Mu} {H : Hp} {a : Addr} {o : MO} (h : MOk K (dom m) H a o) : Rep K (dom (delM m a)) H (imD o) (.ref a) := by
  cases o with
  | lst ds => obtain ⟨vs, z, r⟩ := h; exact .lst nodel (.inl z) (Later.del.reps r)
  | dic ks => obtain ⟨vs, z, e, r⟩ := h; exact .dic nodel (.inl z) e (Later.del.reps r)
  | ins C fs => obtain ⟨dx, gs, z, e, r⟩ := h; exact .ins nodel z e (Later.del.reps r)
/-- d in the store m is d' in the store m' -/
def VW (K : PySem.W.Frag) (m m' : Mu) (d d' : D) : Prop := ∀ H v, HM K m H → Rep K (dom m) H d v → HM K m' H ∧ Later m H m' H ∧ Rep K (dom m') H d' v
section
variable {K : PySem.W.Frag} {m m' m2 : Mu} {d d' d2 : D} {a b C : Addr} {fs : List (Str × D)} {f : Str} {u : MO}
theorem VW.refl : VW K m m d d := fun H v h r => ⟨h, Later.refl, r⟩
theorem VW.trans (x : VW K m m' d d') (y : VW K m' m2 d' d2) : VW K m m2 d d2 := fun H v h r =>
  let ⟨h1, l1, r1⟩ := x H v h r
  let ⟨h2, l2, r2⟩ := y H v h1 r1
  ⟨h2, l1.trans l2, r2⟩
theorem VW.frz (h : m a = some u) : VW K m (delM m a) (.ref a) (imD u) := fun H v hm r => by
  cases r
  exact ⟨hm.del, Later.del, (hm _ _ h).im⟩
theorem putD_rep {M : Addr → Prop} {H : Hp} : ∀ {fs : List (Str × D)} {gs : List (Str × V)}, gs.map (·.1) = fs.map (·.1) → Reps K M H (fs.map (·.2)) (gs.map (·.2)) → (∃ d1, fs.lookup f = some d1 ∧ ∀ v, Rep K M H d1 v → Rep K M H d' v) → gs.map (·.1) = (putD f d' fs).map (·.1) ∧ Reps K M H ((putD f d' fs).map (·.2)) (gs.map (·.2))
  | [], _, _, _, ⟨_, e, _⟩ => by cases e
  | _ :: _, [], e, _, _ => by cases e
  | (g, u) :: fs, (g', v) :: gs, e, r, ⟨d1, l, w⟩ => by
    simp only [List.map_cons, List.cons.injEq] at e
    cases r with
    | cons r t =>
      unfold putD
      by_cases h : g = f
      · subst h
        rw [List.lookup_cons_self] at l; cases l
        rw [if_pos rfl]
        exact ⟨by simp [e], .cons (w _ r) t⟩
      · rw [if_neg h]
        have l' : fs.lookup f = some d1 := by
          rw [List.lookup_cons] at l
          have : (f == g) = false := by simpa using fun z : f = g => h z.symm
          rw [this] at l; exact l
        obtain ⟨h1, h2⟩ := putD_rep e.2 t ⟨d1, l', w⟩
        exact ⟨by simp [e.1, h1], .cons r h2⟩
theorem dom_write {o : MO} (d : dom m a) : ∀ c, dom (updM m a o) c ↔ dom m c := fun c => by
  rw [dom_upd]; exact ⟨fun z => z.elim (fun e => e ▸ d) id, .inr⟩
/-- a field's object changes no more -/
theorem VW.inn (h : m a = some (.ins C fs)) (l : fs.lookup f = some (.ref b)) (hb : m b = some u) (ne : a ≠ b) : VW K m (updM (delM m b) a (.ins C (putD f (imD u) fs))) d d := fun H v hm r => by
  have h1 := hm.del (a := b)
  have l1 : Later m H (delM m b) H := Later.del
  have ha : delM m b a = some (.ins C fs) := by unfold delM; rw [if_neg ne]; exact h
  have da : dom (delM m b) a := by unfold dom; rw [ha]; simp
  obtain ⟨dx, gs, z, e, rr⟩ := h1 _ _ ha
  have ib := (hm _ _ hb).im
  have l2 : Later (delM m b) H (updM (delM m b) a (.ins C (putD f (imD u) fs))) H := fun c o n e => .of e fun z => n ((dom_write da c).mp z)
  obtain ⟨p1, p2⟩ := putD_rep e rr ⟨_, l, fun v r => by cases r; exact ib⟩
  refine ⟨fun c o ec => ?_, l1.trans l2, l2.rep (l1.rep r)⟩
  by_cases hc : c = a
  · subst hc
    rw [updM_same] at ec; cases ec
    exact ⟨dx, gs, z, p1, l2.reps p2⟩
  · rw [updM_ne hc] at ec
    exact (h1 c o ec).later l2 rfl
end
section
variable {X : Cx} {ρ : Rho} {m m' : Mu} {e : Expr} {Q : QD} {sts : List Stmt}
theorem AE.vw (h : AE X e ρ m fun d m1 => ∃ d' m2, VW X.K m1 m2 d d' ∧ Q d' m2) : AE X e ρ m Q := .mk fun σ H S =>
  (h σ H S).mono fun v H1 ⟨d, m1, hm1, l1, r1, d', m2, w, q⟩ =>
    let ⟨h2, l2, r2⟩ := w _ _ hm1 r1
    ⟨d', m2, h2, l1.trans l2, r2, q⟩
theorem ASs.vw {D' : AEnds} (w : VW X.K m m' .non .non) (h : ASs X sts ρ m' D') : ASs X sts ρ m D' := .mk fun σ H S => by
  obtain ⟨h2, l2, _⟩ := w _ _ S.hm .non
  exact WSs.from l2 (h σ H (S.later h2 l2))
end
/-! ### enumerate -/
def enumD : Nat → List D → List D
  | _, [] => []
  | n, d :: ds => .tup [.int (n : Int), d] :: enumD (n + 1) ds
theorem enumD_get : ∀ {ds : List D} {n i : Nat}, (enumD n ds)[i]? = (ds[i]?).map fun d => D.tup [.int ((n + i : Nat) : Int), d]
  | [], _, _ => by simp [enumD]
  | _ :: _, n, 0 => by simp [enumD]
  | _ :: ds, n, i + 1 => by
    rw [enumD, List.getElem?_cons_succ, List.getElem?_cons_succ, enumD_get, show n + 1 + i = n + (i + 1) by omega]
theorem AI.enum {X : Cx} {fb : FB} {k : Nat} {ρ : Rho} {m : Mu} {e : Expr} {elts : List Expr} {kk : Nat} {p pos tpos : Pos} {R : List D → (Mu → Prop) → Mu → Prop} (hx : XF X fb k) (hg : fb.glb "enumerate" = true) (hm : X.mg "enumerate" = none)
    (h : AE X e ρ m fun d m1 => ∃ ds, IsL m1 d ds ∧ R (enumD 0 ds) (fun m2 => IsL m2 d ds) m1) (hs : starEach [e] X.env = [(false, eval e X.env)] := by rfl) (hs1 : starEach (e :: []) X.env = (false, eval e X.env) :: starEach [] X.env := by rfl) :
    AI X (.Tuple elts kk tpos) (.Call (.Name "enumerate" p) [e] [] pos) ρ m R := .mk fun σ H S => by
  refine WI.of (pi_enum (hx.glb _ hg) hm paW hs) ?_
  refine WA.mono (X := X) ((AA.cons (Q := fun ds m1 => ∃ d, ∃ es, ds = [d] ∧ IsL m1 d es ∧ R (enumD 0 es) (fun m2 => IsL m2 d es) m1) (h.imp fun d m1 ⟨es, hi, q⟩ => AA.nil ⟨d, es, rfl, hi, q⟩) hs1) σ H S) ?_
  rintro vs H1 ⟨ds, m1, hm1, l1, r1, d, es, e, hi, q⟩
  subst e
  cases r1 with
  | cons r t =>
    cases t
    obtain ⟨a, us, ev, sq, rs⟩ := hi.at hm1 r
    subst ev
    refine ⟨a, us, rfl, sq, enumD 0 es, _, m1, hm1, l1, fun i m2 H2 hm2 l2 hi2 => ⟨fun x hx => ?_, fun hl => ?_⟩, q⟩
    · obtain ⟨a', us', e', sq', rs'⟩ := hi2.at hm2 (l2.rep r)
      cases e'
      rw [enumD_get] at hx
      cases hd : es[i]? with
      | none => rw [hd] at hx; cases hx
      | some d' =>
        rw [hd] at hx; cases hx
        obtain ⟨u, hu, ru⟩ := rs'.get hd
        refine ⟨⟨us', u, sq', hu⟩, fun y H' hy => ?_⟩
        obtain ⟨T, x', eT, hT, eH, hy⟩ := hy
        have e2 := hy us' sq'
        rw [hu] at e2; cases e2
        subst eT eH
        have sm : Same H2 (upd H2 T (.tup [.int (i : Nat), u])) := same_upd hT
        refine ⟨hm2.same sm, Later.same sm, .tup (notdom hm2 hT) upd_same (.cons ?_ (.cons ((Later.same sm).rep ru) .nil))⟩
        rw [Nat.zero_add]; exact .int
    · obtain ⟨a', us', e', sq', rs'⟩ := hi2.at hm2 (l2.rep r)
      cases e'
      refine ⟨us', sq', ?_⟩
      rw [← rs'.length]
      have : ∀ {ds : List D} {n : Nat}, (enumD n ds).length = ds.length := by
        intro ds
        induction ds with
        | nil => intro n; rfl
        | cons d ds ih => intro n; simp [enumD, ih]
      rw [this] at hl
      exact hl
end Ab
/-! B6: comprehensions and loops over data, ready to use. -/
namespace Ab
open L2 PySem PySem.Spec PyProof.Rows
section
variable {X : Cx} {fb : FB} {k j : Nat} {ρ : Rho} {m : Mu} {e o elt iter kx vx tg : Expr} {ifs : List Expr} {scope sc : Scope} {es : List Expr} {x y nm : Str} {p pos apos px py spos : Pos} {C : Addr} {Q : QD} {i : Nat}
theorem ext_trans {m m' m'' : Mu} (a : Ext m m') (b : Ext m' m'') : Ext m m'' := fun c o e => b c o (a c o e)
/-- what a comprehension without effects needs: of each item of xs, kept as sel says -/
def LcT (X : Cx) (scope : Scope) (ifs : List Expr) (elt : Expr) (is : List Nat) (set : D → Rho → Rho → Prop) {α : Type} (f : α → D) (xs : List α) (sel : α → Option D) (ρ : Rho) (m : Mu) : Prop :=
  ∀ x, x ∈ xs → ∀ m', Ext m m' → ∃ ρ2, set (f x) (wipeR ρ is) ρ2 ∧ ABT X scope ifs ρ2 m' fun b m3 => m3 = m' ∧ (b = true → ABE X scope elt ρ2 m' fun r m4 => m4 = m' ∧ sel x = some r) ∧ (b = false → sel x = none)
/-- [elt for x in iter if ..], no effects, the result as data -/
theorem AE.lcP {α : Type} (f : α → D) (hx : XF X fb k) (hsc : X.env.scope = sc) (hN : Nth fb.N i x) (ho : ownB scope x = true)
    (h : AI X (.Name x px) iter ρ m fun ds G m1 => ∃ (xs : List α) (sel : α → Option D), ds = xs.map f ∧ xs.length < sizeLine ∧ (∀ m', Ext m1 m' → G m') ∧ LcT X scope ifs elt [i] (SetR i) f xs sel ρ m1 ∧ Q (.lst (xs.filterMap sel)) m1)
    (hb : blkC fb.N sc scope [(x, i)] = true := by decide +kernel) (hs : ∀ x, foldedSetIterable iter X.env x = pure x := by intro _; rfl) : AE X (.ListComp elt [⟨.Name x px, iter, ifs, 0⟩] scope pos) ρ m Q :=
  AE.frz (AE.lcM (own := [(x, i)]) hx (by rw [hx.nN, hsc]; exact blkOk_by hb) (ctg_name hx hN ho) (.mk fun σ H S => WI.mono (X := X) (h σ H S) fun J H' ⟨ds, G, m1, hm, l, jk, xs, sel, e, hz, hG, ht, q⟩ => ⟨ds, G, m1, hm, l, jk, by
    subst e
    refine lcPure (gr := fun d ρ m Q => ∃ ρ', SetR i d ρ ρ' ∧ Q ρ') (own := [(x, i)]) (R := fun out mj a => ∃ a' ds', D.ref a = .ref a' ∧ updM mj a (.lst out) a' = some (.lst ds') ∧ Q (.lst ds') (delM (updM mj a (.lst out)) a')) sel hz hG (fun y hy m' hm' => ht y hy m' hm') (fun d ρ m' Q Q' w ⟨ρ', e, q⟩ => ⟨ρ', e, w _ q⟩) (fun a na => ⟨a, _, rfl, updM_same, ?_⟩)
    rw [delM_updM na]; exact q⟩) hs)
/-- y = [..] where the name is local: the result as data -/
theorem AS.setLcP {α : Type} {D' : AEnds} {v : Nat} (f : α → D) (hx : XF X fb k) (hsc : X.env.scope = sc) (hN : Nth fb.N i x) (ho : ownB scope x = true) (hy : Nth fb.N v y) (hl : sc.names.lookup y = some .local)
    (hsw : swapsWith (.ListComp elt [⟨.Name x px, iter, ifs, 0⟩] scope pos) (some (.Name y py)) spos.line X.env = pure true)
    (h : AI X (.Name x px) iter ρ m fun ds G m1 => ∃ (xs : List α) (sel : α → Option D), ds = xs.map f ∧ xs.length < sizeLine ∧ (∀ m', Ext m1 m' → G m') ∧ LcT X scope ifs elt [i] (SetR i) f xs sel ρ m1 ∧ ∃ ρ', SetR v (.lst (xs.filterMap sel)) ρ ρ' ∧ D'.nx ρ' m1)
    (hb : blkC fb.N sc scope [(x, i)] = true := by decide +kernel) (hs : ∀ x, foldedSetIterable iter X.env x = pure x := by intro _; rfl) : AS X (.Assign [.Name y py] (.ListComp elt [⟨.Name x px, iter, ifs, 0⟩] scope pos) spos) ρ m D' := .mk fun σ H S => by
  refine WS.of (ps_setLc hx.calm hx.nd (by rw [hx.nN]; exact hy.at) (by rw [hsc]; exact hl) hsw piW (by rw [hx.nN, hsc]; exact blkOk_by hb) (ctg_name (scope := scope) (pos := px) hx hN ho).pg (fun _ _ _ _ _ => ptB) (fun _ _ _ _ _ => peB) hs) ?_
  refine lc_at (Q := fun d m1 => ∃ a ds, d = .ref a ∧ m1 a = some (.lst ds) ∧ ∃ ρ', SetR v (.lst ds) ρ ρ' ∧ D'.nx ρ' (delM m1 a)) (ctg_name (scope := scope) (pos := px) hx hN ho) (.mk fun σ H S => WI.mono (X := X) (h σ H S) fun J H' ⟨ds, G, m1, hm, l, jk, xs, sel, e, hz, hG, ht, q⟩ => ⟨ds, G, m1, hm, l, jk, ?_⟩) S ?_
  · subst e
    refine lcPure (gr := fun d ρ m Q => ∃ ρ', SetR i d ρ ρ' ∧ Q ρ') (own := [(x, i)]) (R := fun out mj a => ∃ a' ds', D.ref a = .ref a' ∧ updM mj a (.lst out) a' = some (.lst ds') ∧ ∃ ρ', SetR v (.lst ds') ρ ρ' ∧ D'.nx ρ' (delM (updM mj a (.lst out)) a')) sel hz hG (fun y hy m' hm' => ht y hy m' hm') (fun d ρ m' Q Q' w ⟨ρ', e, q⟩ => ⟨ρ', e, w _ q⟩) (fun a na => ⟨a, _, rfl, updM_same, ?_⟩)
    rw [delM_updM na]; exact q
  · rintro v' H' ⟨d, m1, hm1, l1, r1, a, ds, e1, e2, ρ', st, q⟩
    subst e1
    cases r1
    obtain ⟨vs, z, r⟩ := hm1 _ _ e2
    have l2 : Later m1 H' (delM m1 a) H' := Later.del
    rw [st.eq] at q
    exact ⟨_, delM m1 a, hm1.del, l1.trans l2, (S.rs.later (l1.trans l2)).set v (.lst nodel (.inl z) (l2.reps r)), q⟩
/-- for over data: the invariant by what has been taken -/
theorem AS.forT {α : Type} {body : List Stmt} {D' : AEnds} (f : α → D) (hxe : X.xe = fun _ _ => False) (hx : XF X fb k)
    (h : AI X tg iter ρ m fun ds G m1 => ∃ (xs : List α) (I : List α → Rho → Mu → Prop), ds = xs.map f ∧ I [] ρ m1 ∧ (∀ pre ρ' m', I pre ρ' m' → G m') ∧
      (∀ pre x post ρ' m', xs = pre ++ x :: post → I pre ρ' m' → AG X tg (f x) ρ' m' fun ρ2 m2 => ASs X body ρ2 m2 { D' with nx := I (pre ++ [x]), ct := I (pre ++ [x]), bk := D'.nx }) ∧ ∀ ρ' m', I xs ρ' m' → D'.nx ρ' m')
    (hs : ∀ x, foldedSetIterable iter X.env x = pure x := by intro _; rfl) : AS X (.For tg iter body [] pos) ρ m D' :=
  AS.for (by rw [hxe]; exact PassesOwn.never) hx (.mk fun σ H S => WI.mono (X := X) (h σ H S) fun J H' ⟨ds, G, m1, hm, l, jk, xs, I, e, i0, iG, turn, fin⟩ => ⟨ds, G, m1, hm, l, jk, by
    subst e
    exact forL I i0 iG turn fin⟩) hs
/-- {kx: vx for x in iter}, no effects, the result as data -/
theorem AE.dcP {α : Type} (f : α → D) (hx : XF X fb k) (hsc : X.env.scope = sc) (hN : Nth fb.N i x) (ho : ownB scope x = true)
    (h : AI X (.Name x px) iter ρ m fun ds G m1 => ∃ (xs : List α) (sel : α → Key × D), ds = xs.map f ∧ xs.length < sizeLine ∧ (∀ m', Ext m1 m' → G m') ∧ (∀ x, x ∈ xs → ∀ m', Ext m1 m' → ∃ ρ2, SetR i (f x) (wipeR ρ [i]) ρ2 ∧ ABE X scope kx ρ2 m' fun dk m3 => m3 = m' ∧ keyD dk = some (sel x).1 ∧ ABE X scope vx ρ2 m' fun r m4 => m4 = m' ∧ r = (sel x).2) ∧ Q (.dic (mergeD [] (xs.map sel))) m1)
    (hb : blkC fb.N sc scope [(x, i)] = true := by decide +kernel) (hs : ∀ x, foldedSetIterable iter X.env x = pure x := by intro _; rfl) : AE X (.DictComp kx vx [⟨.Name x px, iter, [], 0⟩] scope pos) ρ m Q := by
  refine AE.frzD (AE.dcM (own := [(x, i)]) hx (by rw [hx.nN, hsc]; exact blkOk_by hb) (ctg_name hx hN ho) (.mk fun σ H S => WI.mono (X := X) (h σ H S) fun J H' ⟨ds, G, m1, hm, l, jk, xs, sel, e, hz, hG, ht, q⟩ => ⟨ds, G, m1, hm, l, jk, ?_⟩) hs)
  subst e
  have ml : ∀ (ys ks : List (Key × D)), (mergeD ks ys).length ≤ ks.length + ys.length := by
    intro ys
    induction ys with
    | nil => intro ks; exact Nat.le_refl _
    | cons y ys ih =>
      intro ks
      refine Nat.le_trans (ih _) ?_
      have : (putKD ks y.1 y.2).length ≤ ks.length + 1 := by unfold putKD; split <;> simp
      simp only [List.length_cons]; omega
  refine ⟨fun n out mi => mi = m1 ∧ out = mergeD [] ((xs.take n).map sel), ⟨rfl, rfl⟩, fun n out mi a o ⟨e, _⟩ na => hG _ (by subst e; exact ext_upd na), fun n d out mi a hd ⟨e, eo⟩ na => ?_, fun out mj a na ⟨e, eo⟩ => ⟨a, _, rfl, updM_same, ?_⟩⟩
  · subst e
    rw [List.getElem?_map] at hd
    cases hxn : xs[n]? with
    | none => rw [hxn] at hd; cases hd
    | some u =>
      rw [hxn] at hd; cases hd
      obtain ⟨ρ2, st, hk⟩ := ht u (List.mem_of_getElem? hxn) _ (ext_upd na)
      refine ⟨ρ2, st, fun _ => ?_, fun e => nomatch e⟩
      refine fun s H C cl fp => (hk s H C cl fp).imp fun dk m4 ⟨e4, ek, hv⟩ => ?_
      subst e4
      refine fun s H C cl fp => (hv s H C cl fp).imp fun r m5 ⟨e5, er⟩ => ?_
      subst e5 er
      refine ⟨_, ek, ?_, mi, rfl, na, rfl, ?_⟩
      · rw [eo]
        refine Nat.lt_of_le_of_lt (ml _ _) (Nat.lt_of_le_of_lt ?_ hz)
        simp [Nat.min_le_right]
      · rw [List.take_succ, hxn, eo]
        simp [mergeD, List.foldl_append]
  · subst e
    rw [List.length_map, List.take_length] at eo
    subst eo
    rw [delM_updM na]; exact q
theorem blk_sc {s : Shared} {H : Hp} {cl : List (Str × Addr)} {fp : List Addr} (h : X.env.scope = sc) : (X.blk s H scope (compEnvC scope cl C X.env) fp).env.scope = relS scope sc := by rw [← h]; rfl
theorem AT.call {Q : Bool → Mu → Prop} (h : AE X e ρ m fun d m1 => ∃ c, d = .bl c ∧ Q c m1) (he : ∀ whole, isTrue e X.env whole = (do let v ← whole; standAt e.pos; holding [v] (truthy v)) := by intro _; rfl) : AT X e ρ m Q := AT.val h he
theorem ABE.of (hx : XF X fb k) (hs : X.env.scope = sc) (h : ∀ (s : Shared) (H : Hp) (C : Addr) (cl : List (Str × Addr)) (fp : List Addr), XF (X.blk s H scope (compEnvC scope cl C X.env) fp) (fbBlk fb scope sc) k → (X.blk s H scope (compEnvC scope cl C X.env) fp).env.scope = relS scope sc → AE (X.blk s H scope (compEnvC scope cl C X.env) fp) e ρ m Q) : ABE X scope e ρ m Q :=
  fun s H C cl fp => h s H C cl fp (xf_blk hx hs) (blk_sc hs)
theorem ABT.of {Q : Bool → Mu → Prop} (hx : XF X fb k) (hs : X.env.scope = sc) (h : ∀ (s : Shared) (H : Hp) (C : Addr) (cl : List (Str × Addr)) (fp : List Addr), XF (X.blk s H scope (compEnvC scope cl C X.env) fp) (fbBlk fb scope sc) k → (X.blk s H scope (compEnvC scope cl C X.env) fp).env.scope = relS scope sc → AT (X.blk s H scope (compEnvC scope cl C X.env) fp) e ρ m Q) : ABT X scope [e] ρ m Q :=
  fun s H C cl fp => h s H C cl fp (xf_blk hx hs) (blk_sc hs)
end
end Ab
/-! B7: small things. -/
namespace Ab
open L2 PySem PySem.Spec PyProof.Rows
theorem strs_ext {x y : Str} (h : x.cps.toList = y.cps.toList) : x = y := by
  cases x; cases y; simp at h; cases h; rfl
theorem rising_pw : ∀ (l : List Str) (p : Str), risingS p l = true → (∀ y ∈ l, p.cps.toList ≤ y.cps.toList) ∧ l.Pairwise (fun a b => a.cps.toList ≤ b.cps.toList)
  | [], _, _ => ⟨fun _ h => by simp at h, .nil⟩
  | x :: r, p, h => by
    unfold risingS at h
    rw [Bool.and_eq_true] at h
    have h1 : p.cps.toList ≤ x.cps.toList := by
      have := h.1
      rw [ltCps_eq] at this
      simpa using this
    obtain ⟨a, b⟩ := rising_pw r x h.2
    refine ⟨fun y hy => ?_, List.pairwise_cons.mpr ⟨a, b⟩⟩
    rcases List.mem_cons.mp hy with rfl | hy
    · exact h1
    · exact List.le_trans h1 (a y hy)
theorem sorted_pw {l : List Str} (h : sortedS l = true) : l.Pairwise (fun a b => a.cps.toList ≤ b.cps.toList) := by
  cases l with
  | nil => exact .nil
  | cons x r => obtain ⟨a, b⟩ := rising_pw r x h; exact List.pairwise_cons.mpr ⟨a, b⟩
theorem sortedS_unique {ys zs : List Str} (h : ys.Perm zs) (h1 : sortedS ys = true) (h2 : sortedS zs = true) : ys = zs :=
  List.Perm.eq_of_pairwise (fun a b _ _ x y => strs_ext (List.le_antisymm x y)) (sorted_pw h1) (sorted_pw h2) h
theorem sortedI_unique {ys zs : List Int} (h : ys.Perm zs) (h1 : ys.Pairwise (· ≤ ·)) (h2 : zs.Pairwise (· ≤ ·)) : ys = zs :=
  List.Perm.eq_of_pairwise (fun a b _ _ x y => Int.le_antisymm x y) h1 h2 h
theorem putKD_new {ks : List (Key × D)} {k : Key} {d : D} (h : k ∉ ks.map (·.1)) : putKD ks k d = ks ++ [(k, d)] := by
  unfold putKD
  rw [if_neg]
  intro z
  rw [List.any_eq_true] at z
  obtain ⟨u, hu, e⟩ := z
  exact h (List.mem_map.mpr ⟨u, hu, by simpa using e⟩)
theorem mergeD_new : ∀ {xs ks : List (Key × D)}, ((ks ++ xs).map (·.1)).Nodup → mergeD ks xs = ks ++ xs
  | [], ks, _ => by simp [mergeD]
  | (k, d) :: xs, ks, h => by
    have hk : k ∉ ks.map (·.1) := by
      intro z
      rw [List.map_append, List.nodup_append] at h
      exact h.2.2 k z k (by simp) rfl
    show mergeD (putKD ks k d) xs = _
    rw [putKD_new hk, mergeD_new (by rw [List.append_assoc]; exact h), List.append_assoc]; rfl
theorem cutD_take {α : Type} (f : α → D) (xs : List α) {n : Nat} (h : n ≤ xs.length) : cutD (xs.map f) none (some (n : Int)) = (xs.take n).map f := by
  unfold cutD
  rw [HT.sIx_none, HT.sIx_nat, List.length_map, List.drop_zero, Nat.sub_zero, Nat.min_eq_left h, List.map_take]
theorem cutD_drop {α : Type} (f : α → D) (xs : List α) {n : Nat} (h : n ≤ xs.length) : cutD (xs.map f) (some (n : Int)) none = (xs.drop n).map f := by
  unfold cutD
  rw [HT.sIx_none, HT.sIx_nat, List.length_map, Nat.min_eq_left h, List.take_of_length_le (by simp), List.map_drop]
section
variable {K : PySem.W.Frag} {m : Mu} {d : D} {a : Addr}
theorem VW.drop : VW K m (delM m a) d d := fun H v hm r => ⟨hm.del, Later.del, Later.del.rep r⟩
end
section
variable {X : Cx} {fb : FB} {k j n : Nat} {ρ : Rho} {m : Mu} {a e : Expr} {es : List Expr} {kws : List Keyword} {x : Str} {p pos : Pos} {C : Addr} {Q : QD} {asp : ASp} {ks : List Str}
theorem AO.no {Q : Option Int → Mu → Prop} (q : Q none m) : AO X none ρ m Q := q
theorem AO.at {Q : Option Int → Mu → Prop} (h : AE X e ρ m fun d m1 => ∃ i : Int, d = .int i ∧ Q (some i) m1) : AO X (some e) ρ m Q := h
theorem AE.neg (h : AE X a ρ m fun d m1 => ∃ i : Int, d = .int i ∧ Q (.int (-i)) m1) : AE X (.UnaryOp .USub a pos) ρ m Q := .mk fun σ H S =>
  WE.of (pe_un un_neg peW) ((h σ H S).mono fun v H1 ⟨d, m1, hm1, l1, r1, i, e, q⟩ => by
    subst e
    cases r1
    exact ⟨i, rfl, (Post.now hm1 .int q).from l1⟩)
/-- a class that is made by its name with keywords -/
structure Mkk (P : Program) (w : World) (K : PySem.W.Frag) (mg : Str → Option Value) (base : Heap) (j n : Nat) (ks : List Str) (x : Str) (C : Addr) (asp : ASp) : Prop where
  ex : ∃ f fd ps, ∃ g : List Value → List Value → List Value, Mk K C f ∧ AFd P w K mg base j f fd ps asp ∧ KBn K fd ps (n + 1) ks g (fun vs zs => vs ++ zs)
  gl : mg x = some (.ref C)
theorem AE.mkk (c : Mkk X.prog X.w X.K X.mg X.base j n ks x C asp) (hx : XF X fb k) (hj : j + 1 ≤ k) (hg : fb.glb x = true)
    (h : AA X (e :: es) ρ m fun ds m1 => AK X kws ρ m1 fun zs m2 => ds.length = n ∧ zs.length = ks.length ∧ ∀ a, m2 a = none → asp (.ref a :: (ds ++ zs)) (updM m2 a (.ins C [])) fun d m3 => d = .non ∧ Q (.ref a) m3)
    (hall : (backToKw pos (keywordEach kws X.env)).all (·.1.isSome) = true := by rfl) (hks : (backToKw pos (keywordEach kws X.env)).filterMap (·.1) = ks := by rfl) (hdb : (x == ("__debug__" : Str)) = false := by decide +kernel)
    (he : starEach (e :: es) X.env = (false, eval e X.env) :: starEach es X.env := by rfl) (hpl : ((backTo pos (starEach (e :: es) X.env)).any (·.1) || (backToKw pos (keywordEach kws X.env)).any (·.1.isNone)) = false := by rfl) : AE X (.Call (.Name x p) (e :: es) kws pos) ρ m Q := by
  obtain ⟨f, fd, ps, g, M, F, hb⟩ := c.ex
  exact AE.makeK M F hx hj hg c.gl hb h hall hks hdb he hpl
end
end Ab
/-! B8: the head's facts, functions behind properties, staticmethods and classmethods too. -/
namespace Ab
open PySem PySem.Spec PyProof.Rows L2 He
open He5 (wf wrapB wrapB_ok)
/-- where a function stands -/
inductive Loc where
  | glo (x : Str) | meth (C m : Str) | prop (C m : Str) | stat (C m : Str) | clsm (C m : Str)
def Loc.ad (K : PySem.W.Frag) : Loc → Addr
  | .glo x => ga K x
  | .meth C m => ma K (ga K C) m
  | .prop C m => wf K (ga K C) "property" m
  | .stat C m => wf K (ga K C) "staticmethod" m
  | .clsm C m => wf K (ga K C) "classmethod" m
structure DefL where
  at_ : Loc
  name : Str
  qual : Str
  st : Stmt
  kwd : List (Str × Dv) := []
def fnL (K : PySem.W.Frag) (p : Loc) : FnW := match K.lookup (p.ad K) with
  | some ⟨_, _, .func d, _⟩ => some (d.name, d.qualname, d.params, d.body, d.scope, d.globals, d.closure, d.builtins)
  | _ => none
def DefL.want (d : DefL) : FnW := some (d.name, d.qual, defArgs d.st, .stmts (defBody d.st), defScope d.st, mainGlobals, [], builtinsNs)
def DefL.kws (K : PySem.W.Frag) (d : DefL) : List (Str × V) := d.kwd.map fun q => (q.1, q.2.v K)
def DefL.good (K : PySem.W.Frag) (d : DefL) : Bool := PySem.W.keepIn K (.ref (d.at_.ad K)) && (match K.lookup (d.at_.ad K) with
  | some ⟨_, _, .func z, _⟩ => PySem.W.codeIn K z.code d.qual && (dflB K z.defaults [] && kwdB K z.kwdefaults (d.kws K))
  | _ => false)
theorem DefL.funD {K : PySem.W.Frag} {d : DefL} (e : fnL K d.at_ = d.want) (c : d.good K = true) : ∃ fd, FunD K d.name d.qual (defArgs d.st) (defBody d.st) (defScope d.st) [] (d.kws K) (d.at_.ad K) fd := by
  obtain ⟨kp, c2⟩ := ba c
  unfold fnL at e
  cases q : K.lookup (d.at_.ad K) with
  | none => rw [q] at c2; cases c2
  | some o =>
    obtain ⟨oc, od, dt, os⟩ := o
    rw [q] at c2 e
    cases dt with
    | func fd =>
      obtain ⟨a1, a2, a3, a4, a5, a6, a7, a8, a9, b1, b2, b3, b4, b5, b6⟩ := fd
      have z : (some (a1, a2, a3, a4, a5, a6, a7, b6) : FnW) = d.want := e
      unfold DefL.want at z
      simp only [Option.some.injEq, Prod.mk.injEq] at z
      obtain ⟨z1, z2, z3, z4, z5, z6, z7, z8⟩ := z
      subst z1 z2 z3 z4 z5 z6 z7 z8
      obtain ⟨k1, k2⟩ := ba (show (PySem.W.codeIn K b4 d.qual && (dflB K a8 [] && kwdB K a9 (d.kws K))) = true from c2)
      obtain ⟨k3, k4⟩ := ba k2
      exact ⟨_, ⟨oc, od, a8, a9, b1, b2, b3, b4, b5, os, rfl, q, k1, dflB_ok k3, kwdB_ok k4⟩, kp⟩
    | _ => cases c2
/-- facts of my own -/
inductive Fx where
  | prop (C m : Str) | cread (C : Str) | stat (C m : Str) | clsm (C m : Str) | cint (C f : Str) (i : Int) | insty (C : Str) | kit (C : Str) | bm (C m : Str)
def Fx.ok (K : PySem.W.Frag) : Fx → Bool
  | .prop C m => eqO (PySem.W.findIn K (.ref (ga K C)) m) (some (some (.ref (ma K (ga K C) m)))) && (eqO (PySem.W.specialIn K (.ref (ma K (ga K C) m)) "__get__") (some (some (.builtin "property.__get__"))) && (decide (PySem.W.takesIn K (.ref (ma K (ga K C) m)) = some true) && (match PySem.W.recIn K (ma K (ga K C) m) "property" with
    | some (.ref _ :: _) => true
    | _ => false)))
  | .cread C => PySem.W.readsIn K (ga K C) (.type "type") && eqO (PySem.W.specialIn K (.ref (ga K C)) "__getattribute__") (some (some (.builtin "type.__getattribute__")))
  | .stat C m => wrapB K (ga K C) "staticmethod" "staticmethod.__get__" m
  | .clsm C m => wrapB K (ga K C) "classmethod" "classmethod.__get__" m && PySem.W.fnIn K (wf K (ga K C) "classmethod" m)
  | .cint C f i => (match PySem.W.findCls K (.ref (ga K C)) (.type "type") f with
    | some (.val (.int j _)) => decide (j = i)
    | _ => false)
  | .insty C => eqO (PySem.W.findIn K (.ref (ga K C)) "__class__") (some (some (.builtin "object.__class__"))) && (eqO (PySem.W.specialIn K (.builtin "object.__class__") "__get__") (some (some (.builtin "getset_descriptor.__get__"))) && (decide (PySem.W.takesIn K (.builtin "object.__class__") = some true) && decide (PySem.W.mroIn K (ga K C) (.type "object") = some true)))
  | .kit C => decide (PySem.W.kitOne K (.ref (ga K C)) (.ref (ga K C)) = some true)
  | .bm C m => eqO (PySem.W.specialIn K (.ref (ma K (ga K C) m)) "__get__") (some (some (.builtin "function.__get__"))) && (decide (PySem.W.takesIn K (.ref (ma K (ga K C) m)) = some false) && (decide (PySem.W.copiedNames.contains m = false) && PySem.W.fnIn K (ma K (ga K C) m)))
section
variable {K : PySem.W.Frag} {C m f : Str}
theorem fx_prop (c : (Fx.prop C m).ok K = true) : PropOf K (ga K C) m (ma K (ga K C) m) (wf K (ga K C) "property" m) := by
  obtain ⟨c1, c⟩ := ba c
  obtain ⟨c2, c⟩ := ba c
  obtain ⟨c3, c4⟩ := ba c
  refine ⟨eqO_ok c1, eqO_ok c2, of_decide_eq_true c3, ?_⟩
  unfold wf
  split at c4
  · rename_i g r e
    exact ⟨r, by rw [e]⟩
  · cases c4
theorem fx_cread (c : (Fx.cread C).ok K = true) : ClX.CRead K (ga K C) (.type "type") := by
  obtain ⟨c1, c2⟩ := ba c
  exact ⟨c1, eqO_ok c2⟩
theorem fx_stat (c : (Fx.stat C m).ok K = true) (r : ClX.CRead K (ga K C) (.type "type")) (k : PySem.W.keepIn K (.ref (wf K (ga K C) "staticmethod" m)) = true) : SMet K (ga K C) (.type "type") m (ma K (ga K C) m) (wf K (ga K C) "staticmethod" m) := by
  obtain ⟨h1, h2⟩ := wrapB_ok c
  exact ⟨r, h1, h2, k⟩
theorem fx_clsm (c : (Fx.clsm C m).ok K = true) : ClX.CMet K (ga K C) (.type "type") m (ma K (ga K C) m) (wf K (ga K C) "classmethod" m) := by
  obtain ⟨c1, c2⟩ := ba c
  obtain ⟨h1, h2⟩ := wrapB_ok c1
  exact ⟨h1, h2, c2⟩
theorem fx_cint {i : Int} (c : (Fx.cint C f i).ok K = true) : ∃ u, ClX.CVal K (ga K C) (.type "type") f (.int i) u := by
  have c2 : (match PySem.W.findCls K (.ref (ga K C)) (.type "type") f with
    | some (.val (.int j _)) => decide (j = i)
    | _ => false) = true := c
  split at c2
  · rename_i j t e
    have z := of_decide_eq_true c2
    subst z
    exact ⟨_, e, t, rfl⟩
  · cases c2
theorem fx_insty (c : (Fx.insty C).ok K = true) (cl : Cls K (ga K C)) : InsTy K (ga K C) := by
  obtain ⟨c1, c⟩ := ba c
  obtain ⟨c2, c⟩ := ba c
  obtain ⟨c3, c4⟩ := ba c
  exact ⟨cl, eqO_ok c1, eqO_ok c2, of_decide_eq_true c3, of_decide_eq_true c4⟩
theorem fx_kit (c : (Fx.kit C).ok K = true) : PySem.W.kitOne K (.ref (ga K C)) (.ref (ga K C)) = some true := of_decide_eq_true c
/-- a method that may be taken off its object -/
theorem fx_bm (c : (Fx.bm C m).ok K = true) : PySem.W.specialIn K (.ref (ma K (ga K C) m)) "__get__" = some (some (.builtin "function.__get__")) ∧ PySem.W.takesIn K (.ref (ma K (ga K C) m)) = some false ∧ PySem.W.copiedNames.contains m = false ∧ PySem.W.fnIn K (ma K (ga K C) m) = true := by
  obtain ⟨c1, c⟩ := ba c
  obtain ⟨c2, c⟩ := ba c
  obtain ⟨c3, c4⟩ := ba c
  exact ⟨eqO_ok c1, of_decide_eq_true c2, of_decide_eq_true c3, c4⟩
end
/-! ### the hook -/
def obsL (fa : List Fa) (fx : List Fx) (fn : List DefL) (K : PySem.W.Frag) : Bool × List FnW := ((fa.all fun f => f.ok K) && ((fx.all fun f => f.ok K) && fn.all fun d => d.good K), fn.map fun d => fnL K d.at_)
def wantL (fn : List DefL) : Bool × List FnW := (true, fn.map DefL.want)
def SaysL (fa : List Fa) (fx : List Fx) (fn : List DefL) (K : PySem.W.Frag) : Prop := obsL fa fx fn K = wantL fn
def obsLG (n : Nat) (fa : List Fa) (fx : List Fx) (fn : List DefL) (g : Addr → Option Obj) : Bool × List FnW := obsL fa fx fn (frG g (cStatics :: asD g n))
def hookL (n : Nat) (fa : List Fa) (fx : List Fx) (fn : List DefL) : PySem.W.Hook where
  α := Bool × List FnW
  obs := fun s => obsLG n fa fx fn s.heap.get?
  val := fun _ => wantL fn
  says := fun _ h => ∃ K : PySem.W.Frag, K.In h ∧ SaysL fa fx fn K
  of := fun _ _ e => ⟨_, frG_in, e⟩
  keeps := fun _ _ _ ⟨K, hK, c⟩ k => ⟨K, hK.keeps k, c⟩
theorem obsLG_eq {n : Nat} {fa : List Fa} {fx : List Fx} {fn : List DefL} {g : Addr → Option Obj} {s : Shared} (h : ∀ a, g a = s.heap.get? a) : obsLG n fa fx fn g = (hookL n fa fx fn).obs s := by
  rw [show g = s.heap.get? from funext h] <;> rfl
section
variable {fa : List Fa} {fx : List Fx} {fn : List DefL} {K : PySem.W.Frag}
theorem SaysL.fact (c : SaysL fa fx fn K) {f : Fa} (h : f ∈ fa) : f.ok K = true :=
  List.all_eq_true.mp (ba (congrArg Prod.fst c : ((fa.all fun f => f.ok K) && ((fx.all fun f => f.ok K) && fn.all fun d => d.good K)) = true)).1 f h
theorem SaysL.own (c : SaysL fa fx fn K) {f : Fx} (h : f ∈ fx) : f.ok K = true :=
  List.all_eq_true.mp (ba (ba (congrArg Prod.fst c : ((fa.all fun f => f.ok K) && ((fx.all fun f => f.ok K) && fn.all fun d => d.good K)) = true)).2).1 f h
theorem SaysL.def_ (c : SaysL fa fx fn K) (i : Nat) {d : DefL} (h : fn[i]? = some d := by rfl) : ∃ fd, FunD K d.name d.qual (defArgs d.st) (defBody d.st) (defScope d.st) [] (d.kws K) (d.at_.ad K) fd := by
  have c2 := (ba (ba (congrArg Prod.fst c : ((fa.all fun f => f.ok K) && ((fx.all fun f => f.ok K) && fn.all fun d => d.good K)) = true)).2).2
  have e : (fn.map fun d => fnL K d.at_)[i]? = (fn.map DefL.want)[i]? := by rw [show (fn.map fun d => fnL K d.at_) = fn.map DefL.want from congrArg Prod.snd c]
  rw [List.getElem?_map, List.getElem?_map, h] at e
  exact DefL.funD (Option.some.inj e) (List.all_eq_true.mp c2 d (List.mem_of_getElem? h))
end
/-! ### from defs to promises -/
section
variable {P : Program} {w : World} {K : PySem.W.Frag} {mg : Str → Option Value} {base : Heap} {j : Nat} {x : Str} {f C : Addr} {fd : FuncData} {ps : List Str} {asp : ASp}
theorem Cal.of (F : AFd P w K mg base j f fd ps asp) (hb : Binds K fd ps []) (g : mg x = some (.ref f)) (k : PySem.W.keepIn K (.ref f) = true) : Cal P w K mg base j x asp := ⟨f, F.pos hb, g, k⟩
end
end Ab
/-! G1: code that does not wake the sleeping generators leaves them as they are: it runs alike where they are poisoned. -/
namespace Slp
open PySem PyProof.Rows
open Sem (wp)
/-- a frame that no run comes through -/
def deadF (F : Frame) : Frame := .ret (fun _ => .unsupported "") none false [] F.where_.1 F.where_.2 []
/-- a sleeping generator that cannot be woken; it looks the same -/
def psn : GenState → GenState
  | .suspended _ l c p fs cl => .suspended (fun _ => .unsupported "") l c p (fs.map deadF) cl
  | x => x
theorem psn_seen (x : GenState) : (psn x).seen = x.seen := by
  cases x <;> try rfl
  simp [psn, GenState.seen, deadF, Frame.where_, Function.comp_def]
theorem dead_split : ∀ fs : List Frame, splitAtGen (fs.map deadF) = none
  | [] => rfl
  | F :: fs => by show (splitAtGen (fs.map deadF)).map _ = none; rw [dead_split fs]; rfl
theorem no_run0 {M : Model} {Γ : Ctx} {p : Pos} {m : String} {s s' : Shared} {e : End} (h : Runs M Γ p (.unsupported m) [] s e s') : False := by
  cases h
theorem no_run {M : Model} {Γ : Ctx} {p : Pos} {m : String} {fs : List Frame} {s s' : Shared} {e : End} (h : Runs M Γ p (.unsupported m) fs s e s') : False := by
  cases h with
  | segRet a b => exact no_run0 a
  | segGen a b => exact no_run0 a
  | segSuspOut n a => exact no_run0 a
  | segSuspGen n a q b => exact no_run0 a
def GensOk (G : Array GenState) : Prop := ∀ (i : Nat) k l c p fs cl, G[i]? = some (.suspended k l c p fs cl) → splitAtGen fs = none
def EndOk : End → Prop
  | .ret _ => True
  | .susp _ _ _ _ _ _ fs => splitAtGen fs = none
/-- I: the generators that sleep all the time -/
structure Sim (I : Nat → Option GenState) (G0 G : Array GenState) : Prop where
  size : G.size = G0.size
  on : ∀ i st, I i = some st → G0[i]? = some (psn st) ∧ G[i]? = some st ∧ st.status = .suspended
  off : ∀ i, I i = none → G[i]? = G0[i]?
section
variable {I : Nat → Option GenState} {G0 G : Array GenState}
theorem Sim.none_of (S : Sim I G0 G) {i : Nat} {x : GenState} (h : G0[i]? = some x) (hx : x.status ≠ .suspended) : I i = none := by
  cases q : I i with
  | none => rfl
  | some st =>
    obtain ⟨a, b, c⟩ := S.on i st q
    rw [h] at a
    cases st with
    | suspended k l c' p fs cl =>
      have e : x = psn (.suspended k l c' p fs cl) := Option.some.inj a
      subst e
      exact absurd rfl hx
    | fresh _ => cases c
    | running => cases c
    | finished => cases c
theorem Sim.seen (S : Sim I G0 G) {i : Nat} {x : GenState} (h : G0[i]? = some x) : ∃ y, G[i]? = some y ∧ y.seen = x.seen := by
  cases q : I i with
  | none => exact ⟨x, by rw [S.off i q, h], rfl⟩
  | some st =>
    obtain ⟨a, b, _⟩ := S.on i st q
    rw [h] at a
    exact ⟨st, b, by rw [Option.some.inj a, psn_seen]⟩
theorem Sim.set (S : Sim I G0 G) {i : Nat} (x : GenState) (h : I i = none) : Sim I (G0.setIfInBounds i x) (G.setIfInBounds i x) where
  size := by simp [S.size]
  on := fun j st e => by
    have ne : i ≠ j := fun z => by rw [z, e] at h; cases h
    rw [Array.getElem?_setIfInBounds_ne ne, Array.getElem?_setIfInBounds_ne ne]
    exact S.on j st e
  off := fun j e => by
    by_cases ne : i = j
    · subst ne
      by_cases hi : i < G0.size
      · rw [Array.getElem?_setIfInBounds_self_of_lt (by rw [S.size]; exact hi), Array.getElem?_setIfInBounds_self_of_lt hi]
      · rw [Array.getElem?_eq_none (by simp [S.size]; omega), Array.getElem?_eq_none (by simp; omega)]
    · rw [Array.getElem?_setIfInBounds_ne ne, Array.getElem?_setIfInBounds_ne ne]
      exact S.off j e
theorem Sim.push (S : Sim I G0 G) (x : GenState) : Sim I (G0.push x) (G.push x) where
  size := by simp [S.size]
  on := fun j st e => by
    obtain ⟨a, b, c⟩ := S.on j st e
    have h1 : j < G0.size := (Array.getElem?_eq_some_iff.mp a).1
    have h2 : j < G.size := by rw [S.size]; exact h1
    rw [Array.getElem?_push_lt h1, Array.getElem?_push_lt h2]
    rw [Array.getElem?_eq_getElem h1] at a
    rw [Array.getElem?_eq_getElem h2] at b
    exact ⟨a, b, c⟩
  off := fun j e => by
    rw [Array.getElem?_push, Array.getElem?_push, S.size, S.off j e]
theorem GensOk.set {G : Array GenState} (h : GensOk G) {i : Nat} {x : GenState} (hx : ∀ k l c p fs cl, x = .suspended k l c p fs cl → splitAtGen fs = none) : GensOk (G.setIfInBounds i x) := fun j k l c p fs cl e => by
  by_cases ne : i = j
  · subst ne
    by_cases hi : i < G.size
    · rw [Array.getElem?_setIfInBounds_self_of_lt hi] at e
      exact hx k l c p fs cl (Option.some.inj e)
    · rw [Array.getElem?_eq_none (by simp; omega)] at e; cases e
  · rw [Array.getElem?_setIfInBounds_ne ne] at e
    exact h j k l c p fs cl e
theorem GensOk.push {G : Array GenState} (h : GensOk G) {c : Code} : GensOk (G.push (.fresh c)) := fun j k l c p fs cl e => by
  rw [Array.getElem?_push] at e
  split at e
  · cases e
  · exact h j k l c p fs cl e
theorem endOk_gen {e : End} (h : EndOk e) : ∀ k l c p fs cl, e.genState = .suspended k l c p fs cl → splitAtGen fs = none := fun k l c p fs cl q => by
  cases e with
  | ret r => cases q
  | susp v g l' k' c' p' fs' =>
    unfold End.genState at q
    injection q with q1 q2 q3 q4 q5 q6
    subst q5
    exact h
theorem split_append : ∀ {fs gs : List Frame}, splitAtGen fs = none → splitAtGen gs = none → splitAtGen (fs ++ gs) = none
  | [], _, _, h => h
  | .gen .. :: _, _, h, _ => by cases h
  | .ret k h g l c p kp :: fs, gs, a, b => by
    have a' : (splitAtGen fs).map (fun (fs, b, r) => (Frame.ret k h g l c p kp :: fs, b, r)) = none := a
    have a2 : splitAtGen fs = none := by
      cases q : splitAtGen fs with
      | none => rfl
      | some z => rw [q] at a'; cases a'
    show (splitAtGen (fs ++ gs)).map _ = none
    rw [split_append a2 b]; rfl
theorem split_tail {k h g l c p kp} {fs : List Frame} (a : splitAtGen (.ret k h g l c p kp :: fs) = none) : splitAtGen fs = none := by
  have a' : (splitAtGen fs).map (fun (fs, b, r) => (Frame.ret k h g l c p kp :: fs, b, r)) = none := a
  cases q : splitAtGen fs with
  | none => rfl
  | some z => rw [q] at a'; cases a'
end
/-- the run goes on beside the sleepers -/
theorem sim_runs {I : Nat → Option GenState} {M : Model} {Γ : Ctx} {p : Pos} {t : Sem PySem.Fin} {fs : List Frame} {s s' : Shared} {e : End} (h : Runs M Γ p t fs s e s') :
    splitAtGen fs = none → GensOk s.gens → ∀ G, Sim I s.gens G → ∃ G', Sim I s'.gens G' ∧ GensOk s'.gens ∧ EndOk e ∧ Runs M Γ p t fs { s with gens := G } e { s' with gens := G' } := by
  induction h with
  | done => intro _ ok G S; exact ⟨G, S, ok, trivial, .done⟩
  | raise => intro _ ok G S; exact ⟨G, S, ok, trivial, .raise⟩
  | again q _ ih => intro n ok G S; obtain ⟨G', a, b, c, d⟩ := ih n ok G S; exact ⟨G', a, b, c, .again q d⟩
  | rule _ ih => intro n ok G S; obtain ⟨G', a, b, c, d⟩ := ih n ok G S; exact ⟨G', a, b, c, .rule d⟩
  | «at» _ ih => intro n ok G S; obtain ⟨G', a, b, c, d⟩ := ih n ok G S; exact ⟨G', a, b, c, .at d⟩
  | load q _ ih => intro n ok G S; obtain ⟨G', a, b, c, d⟩ := ih n ok G S; exact ⟨G', a, b, c, .load q d⟩
  | update q _ ih => intro n ok G S; obtain ⟨G', a, b, c, d⟩ := ih n ok G S; exact ⟨G', a, b, c, .update q d⟩
  | loadIfAlive _ ih => intro n ok G S; obtain ⟨G', a, b, c, d⟩ := ih n ok G S; exact ⟨G', a, b, c, .loadIfAlive d⟩
  | point _ ih => intro n ok G S; obtain ⟨G', a, b, c, d⟩ := ih n ok G S; exact ⟨G', a, b, c, .point d⟩
  | alloc _ ih => intro n ok G S; obtain ⟨G', a, b, c, d⟩ := ih n ok G S; exact ⟨G', a, b, c, .alloc d⟩
  | fresh _ ih => intro n ok G S; obtain ⟨G', a, b, c, d⟩ := ih n ok G S; exact ⟨G', a, b, c, .fresh d⟩
  | ask _ ih => intro n ok G S; obtain ⟨G', a, b, c, d⟩ := ih n ok G S; exact ⟨G', a, b, c, .ask d⟩
  | choose q _ ih => intro n ok G S; obtain ⟨G', a, b, c, d⟩ := ih n ok G S; exact ⟨G', a, b, c, .choose q d⟩
  | os _ ih => intro n ok G S; obtain ⟨G', a, b, c, d⟩ := ih n ok G S; exact ⟨G', a, b, c, .os d⟩
  | handled _ ih => intro n ok G S; obtain ⟨G', a, b, c, d⟩ := ih n ok G S; exact ⟨G', a, b, c, .handled d⟩
  | genState q _ ih =>
    intro n ok G S
    obtain ⟨G', a, b, c, d⟩ := ih n ok G S
    obtain ⟨st, h1, h2⟩ := S.seen q
    rw [← h2] at d
    exact ⟨G', a, b, c, .genState h1 d⟩
  | stack _ ih => intro n ok G S; obtain ⟨G', a, b, c, d⟩ := ih n ok G S; exact ⟨G', a, b, c, .stack d⟩
  | thread _ ih => intro n ok G S; obtain ⟨G', a, b, c, d⟩ := ih n ok G S; exact ⟨G', a, b, c, .thread d⟩
  | newGen _ ih =>
    intro n ok G S
    obtain ⟨G', a, b, c, d⟩ := ih n ok.push _ (S.push _)
    refine ⟨G', a, b, c, .newGen ?_⟩
    rw [S.size]
    exact d
  | call _ _ ih1 ih2 =>
    intro n ok G S
    obtain ⟨G1, a1, b1, _, d1⟩ := ih1 rfl ok G S
    obtain ⟨G2, a2, b2, c2, d2⟩ := ih2 n b1 G1 a1
    exact ⟨G2, a2, b2, c2, .call d1 d2⟩
  | callSusp _ ih =>
    intro n ok G S
    obtain ⟨G', a, b, c, d⟩ := ih rfl ok G S
    exact ⟨G', a, b, split_append c rfl, .callSusp d⟩
  | yield => intro _ ok G S; exact ⟨G, S, ok, rfl, .yield⟩
  | resumeFresh q _ hq _ ih1 ih2 =>
    intro n ok G S
    have hI := S.none_of q (by simp [GenState.status])
    obtain ⟨G1, a1, b1, c1, d1⟩ := ih1 rfl (ok.set (fun _ _ _ _ _ _ z => by cases z)) _ (S.set .running hI)
    obtain ⟨G2, a2, b2, c2, d2⟩ := ih2 n (b1.set (endOk_gen c1)) _ (a1.set _ hI)
    exact ⟨G2, a2, b2, c2, .resumeFresh (by show G[_]? = _; rw [S.off _ hI, q]) d1 hq d2⟩
  | @resumeSuspended Γ p g r l k s k₀ l₀ c₀ p₀ fs cl e₁ s₁ e s' q hr hq _ ih1 ih2 =>
    intro n ok G S
    cases hI : I g with
    | some st0 =>
      obtain ⟨h1, _, h3⟩ := S.on g st0 hI
      rw [q] at h1
      cases st0 with
      | suspended k l c' p fs' cl' =>
        have z := Option.some.inj h1
        unfold psn at z
        injection z with z1 z2 z3 z4 z5 z6
        subst z1
        exact (no_run hr).elim
      | fresh _ => cases h3
      | running => cases h3
      | finished => cases h3
    | none =>
      obtain ⟨G1, a1, b1, c1, d1⟩ := ih1 (ok _ _ _ _ _ _ _ q) (ok.set (fun _ _ _ _ _ _ z => by cases z)) _ (S.set .running hI)
      obtain ⟨G2, a2, b2, c2, d2⟩ := ih2 n (b1.set (endOk_gen c1)) _ (a1.set _ hI)
      exact ⟨G2, a2, b2, c2, .resumeSuspended (by show G[g]? = _; rw [S.off _ hI, q]) d1 hq d2⟩
  | resumeJustStarted q hv _ ih =>
    intro n ok G S
    have hI := S.none_of q (by simp [GenState.status])
    obtain ⟨G', a, b, c, d⟩ := ih n ok G S
    exact ⟨G', a, b, c, .resumeJustStarted (by show G[_]? = _; rw [S.off _ hI, q]) hv d⟩
  | resumeThrowFresh q _ ih =>
    intro n ok G S
    have hI := S.none_of q (by simp [GenState.status])
    obtain ⟨G', a, b, c, d⟩ := ih n (ok.set (fun _ _ _ _ _ _ z => by cases z)) _ (S.set .finished hI)
    exact ⟨G', a, b, c, .resumeThrowFresh (by show G[_]? = _; rw [S.off _ hI, q]) d⟩
  | resumeRunning q _ ih =>
    intro n ok G S
    have hI := S.none_of q (by simp [GenState.status])
    obtain ⟨G', a, b, c, d⟩ := ih n ok G S
    exact ⟨G', a, b, c, .resumeRunning (by show G[_]? = _; rw [S.off _ hI, q]) d⟩
  | resumeFinished q _ ih =>
    intro n ok G S
    have hI := S.none_of q (by simp [GenState.status])
    obtain ⟨G', a, b, c, d⟩ := ih n ok G S
    exact ⟨G', a, b, c, .resumeFinished (by show G[_]? = _; rw [S.off _ hI, q]) d⟩
  | segRet _ _ ih1 ih2 =>
    intro n ok G S
    obtain ⟨G1, a1, b1, _, d1⟩ := ih1 rfl ok G S
    obtain ⟨G2, a2, b2, c2, d2⟩ := ih2 (split_tail n) b1 G1 a1
    exact ⟨G2, a2, b2, c2, .segRet d1 d2⟩
  | segGen _ _ _ _ => intro n; cases n
  | segSuspOut q _ ih =>
    intro n ok G S
    obtain ⟨G', a, b, c, d⟩ := ih rfl ok G S
    exact ⟨G', a, b, split_append c n, .segSuspOut q d⟩
  | segSuspGen q _ _ _ _ _ => intro n; rw [n] at q; cases q
end Slp
/-! G2: the same of wp, of wpAny; what a walk over the layer keeps of the sleepers. -/
namespace Slp
open PySem PyProof.Rows
open Sem (wp)
variable {I : Nat → Option GenState}
/-- behind it: the same end in a table where the sleepers stand -/
def Beside (I : Nat → Option GenState) {α : Type} (Q : α → Shared → Prop) : α → Shared → Prop := fun a s1 => ∃ s', Sim I s'.gens s1.gens ∧ GensOk s'.gens ∧ s1 = { s' with gens := s1.gens } ∧ Q a s'
theorem sim_returns {M : Model} {Γ : Ctx} {p : Pos} {s s' : Shared} {r : Result} (h : Returns M Γ p s r s') (ok : GensOk s.gens) {G : Array GenState} (S : Sim I s.gens G) : ∃ G', Sim I s'.gens G' ∧ GensOk s'.gens ∧ Returns M Γ p { s with gens := G } r { s' with gens := G' } :=
  let ⟨G', a, b, _, d⟩ := sim_runs h rfl ok G S
  ⟨G', a, b, d⟩
theorem sim_wakes {M : Model} {Γ : Ctx} {p : Pos} {g : Nat} {r : Resume} {s s' : Shared} {res : GenResult} (h : Wakes M Γ p g r s res s') (ok : GensOk s.gens) {G : Array GenState} (S : Sim I s.gens G) : ∃ G', Sim I s'.gens G' ∧ GensOk s'.gens ∧ Wakes M Γ p g r { s with gens := G } res { s' with gens := G' } := by
  unfold Wakes at h
  cases q : s.gens[g]? with
  | none => rw [q] at h; exact h.elim
  | some x =>
    rw [q] at h
    cases x with
    | fresh c =>
      have hI := S.none_of q (by simp [GenState.status])
      have hG : ({ s with gens := G } : Shared).gens[g]? = some (.fresh c) := by show G[g]? = _; rw [S.off _ hI, q]
      cases r with
      | send v =>
        by_cases hv : v = .none
        · subst hv
          obtain ⟨e₁, s₁, hr, hq, rfl, rfl⟩ := h
          obtain ⟨G1, a1, b1, c1, d1⟩ := sim_runs hr rfl (ok.set (fun _ _ _ _ _ _ z => by cases z)) _ (S.set .running hI)
          refine ⟨_, a1.set e₁.genState hI, b1.set (endOk_gen c1), ?_⟩
          unfold Wakes
          rw [hG]
          exact ⟨e₁, _, d1, hq, rfl, rfl⟩
        · have h2 : res = .justStarted ∧ s' = s := by
            cases v <;> first | exact absurd rfl hv | exact h
          obtain ⟨rfl, rfl⟩ := h2
          refine ⟨G, S, ok, ?_⟩
          unfold Wakes
          rw [hG]
          cases v <;> first | exact absurd rfl hv | exact ⟨rfl, rfl⟩
      | throw x =>
        obtain ⟨rfl, rfl⟩ := h
        refine ⟨_, S.set .finished hI, ok.set (fun _ _ _ _ _ _ z => by cases z), ?_⟩
        unfold Wakes
        rw [hG]
        exact ⟨rfl, rfl⟩
    | suspended k l c p₀ fs cl =>
      obtain ⟨e₁, s₁, hr, hq, rfl, rfl⟩ := h
      cases hI : I g with
      | some st0 =>
        obtain ⟨h1, _, h3⟩ := S.on g st0 hI
        rw [q] at h1
        cases st0 with
        | suspended k' l' c' p' fs' cl' =>
          have z := Option.some.inj h1
          unfold psn at z
          injection z with z1 z2 z3 z4 z5 z6
          subst z1
          exact (no_run hr).elim
        | fresh _ => cases h3
        | running => cases h3
        | finished => cases h3
      | none =>
        have hG : ({ s with gens := G } : Shared).gens[g]? = some (.suspended k l c p₀ fs cl) := by show G[g]? = _; rw [S.off _ hI, q]
        obtain ⟨G1, a1, b1, c1, d1⟩ := sim_runs hr (ok _ _ _ _ _ _ _ q) (ok.set (fun _ _ _ _ _ _ z => by cases z)) _ (S.set .running hI)
        refine ⟨_, a1.set e₁.genState hI, b1.set (endOk_gen c1), ?_⟩
        unfold Wakes
        rw [hG]
        exact ⟨e₁, _, d1, hq, rfl, rfl⟩
    | running =>
      have hI := S.none_of q (by simp [GenState.status])
      have hG : ({ s with gens := G } : Shared).gens[g]? = some .running := by show G[g]? = _; rw [S.off _ hI, q]
      obtain ⟨rfl, e⟩ := h
      rw [e]
      refine ⟨G, S, ok, ?_⟩
      unfold Wakes
      rw [hG]
      exact ⟨rfl, rfl⟩
    | finished =>
      have hI := S.none_of q (by simp [GenState.status])
      have hG : ({ s with gens := G } : Shared).gens[g]? = some .finished := by show G[g]? = _; rw [S.off _ hI, q]
      obtain ⟨rfl, e⟩ := h
      rw [e]
      refine ⟨G, S, ok, ?_⟩
      unfold Wakes
      rw [hG]
      exact ⟨rfl, rfl⟩
theorem sim_wp {α : Type} {M : Model} {Γ : Ctx} {Q : α → Shared → Prop} {E : Value → Shared → Prop} (t : Sem α) : ∀ (p : Pos) (s : Shared), wp M Γ t (fun a _ s' => Q a s') (fun e _ s' => E e s') p s → GensOk s.gens → ∀ G, Sim I s.gens G →
    wp M Γ t (fun a _ s' => Beside I Q a s') (fun e _ s' => Beside I E e s') p { s with gens := G } := by
  induction t with
  | pure a => intro p s h ok G S; exact ⟨s, S, ok, rfl, h⟩
  | raise e => intro p s h ok G S; exact ⟨s, S, ok, rfl, h⟩
  | unsupported _ => intro p s h; exact h.elim
  | finish _ => intro p s h; exact h.elim
  | rule _ k ih => intro p s h ok G S; exact ih () p s h ok G S
  | «at» p' k ih => intro p s h ok G S; exact ih () p' s h ok G S
  | load a _ k ih => intro p s h ok G S; obtain ⟨o, ho, h⟩ := h; exact ⟨o, ho, ih o p s h ok G S⟩
  | update a _ f k ih => intro p s h ok G S; exact ⟨h.1, ih () p _ h.2 ok G S⟩
  | loadIfAlive a k ih => intro p s h ok G S; exact ih _ p s h ok G S
  | point _ k ih => intro p s h ok G S; exact ih () p s h ok G S
  | register _ _ => intro p s h; exact h.elim
  | alloc o k ih => intro p s h ok G S; exact ih _ p _ h ok G S
  | fresh k ih => intro p s h ok G S; exact ih _ p _ h ok G S
  | ask k ih => intro p s h ok G S; exact ih _ p s h ok G S
  | choose src m k ih => intro p s h ok G S; exact ⟨h.1, ih _ p _ h.2 ok G S⟩
  | os q _ k ih => intro p s h ok G S; exact ih _ p _ h ok G S
  | call c hd _ _ k ih =>
    intro p s h ok G S
    obtain ⟨r, s', hr, h⟩ := h
    obtain ⟨G', a, b, d⟩ := sim_returns hr ok S
    exact ⟨r, _, d, ih r p s' h b G' a⟩
  | handled own k ih => intro p s h ok G S; exact ih _ p s h ok G S
  | genState g k ih =>
    intro p s h ok G S
    obtain ⟨st, hs, h⟩ := h
    obtain ⟨y, h1, h2⟩ := S.seen hs
    refine ⟨y, h1, ?_⟩
    rw [h2]
    exact ih _ p s h ok G S
  | newGen c k ih =>
    intro p s h ok G S
    have z := ih _ p _ h ok.push _ (S.push _)
    show wp M Γ (k G.size) _ _ p { s with gens := G.push (.fresh c) }
    rw [S.size]
    exact z
  | resume g r _ k ih =>
    intro p s h ok G S
    obtain ⟨res, s', hw, h⟩ := h
    obtain ⟨G', a, b, d⟩ := sim_wakes hw ok S
    exact ⟨res, _, d, ih res p s' h b G' a⟩
  | yield _ _ _ _ => intro p s h; exact h.elim
  | stack k ih => intro p s h ok G S; exact ih _ p s h ok G S
  | fork _ _ => intro p s h; exact h.elim
  | thread k ih => intro p s h ok G S; exact ih _ p s h ok G S
  | await _ _ _ _ _ => intro p s h; exact h.elim
/-- the sleepers of a table -/
def slp (G : Array GenState) : Nat → Option GenState := fun i => match G[i]? with
  | some (.suspended k l c p fs cl) => some (.suspended k l c p fs cl)
  | _ => none
theorem slp_some {G : Array GenState} {i : Nat} {st : GenState} (h : slp G i = some st) : G[i]? = some st ∧ st.status = .suspended := by
  unfold slp at h
  split at h
  · rename_i q; cases h; exact ⟨q, rfl⟩
  · cases h
theorem slp_of {G : Array GenState} {i : Nat} {st : GenState} (h : G[i]? = some st) (hs : st.status = .suspended) : slp G i = some st := by
  unfold slp
  rw [h]
  cases st with
  | suspended k l c p fs cl => rfl
  | fresh _ => cases hs
  | running => cases hs
  | finished => cases hs
theorem slp_none {G : Array GenState} {i : Nat} {st : GenState} (h : slp G i = none) (e : G[i]? = some st) : psn st = st := by
  cases st with
  | suspended k l c p fs cl => rw [slp_of e rfl] at h; cases h
  | fresh _ => rfl
  | running => rfl
  | finished => rfl
theorem sim_slp (G : Array GenState) : Sim (slp G) (G.map psn) G where
  size := by simp
  on := fun i st h => by
    obtain ⟨a, b⟩ := slp_some h
    exact ⟨by simp [a], a, b⟩
  off := fun i h => by
    rw [Array.getElem?_map]
    cases e : G[i]? with
    | none => rfl
    | some st => show some st = some (psn st); rw [slp_none h e]
theorem gensOk_psn (G : Array GenState) : GensOk (G.map psn) := fun i k l c p fs cl e => by
  rw [Array.getElem?_map] at e
  cases q : G[i]? with
  | none => rw [q] at e; cases e
  | some st =>
    rw [q] at e
    have z : psn st = .suspended k l c p fs cl := Option.some.inj e
    cases st with
    | suspended k' l' c' p' fs' cl' =>
      unfold psn at z
      injection z with z1 z2 z3 z4 z5 z6
      rw [← z5]
      exact dead_split fs'
    | fresh _ => cases z
    | running => cases z
    | finished => cases z
theorem psn_bare (x : GenState) : (psn x).bare = x.bare := by cases x <;> rfl
theorem bare_psn {G : Array GenState} (h : AllBare G) : AllBare (G.map psn) := fun y hy => by
  obtain ⟨x, hx, rfl⟩ := Array.mem_map.mp hy
  rw [psn_bare]; exact h x hx
theorem Sim.bare {G0 G : Array GenState} (S : Sim I G0 G) (h : AllBare G0) : AllBare G := fun y hy => by
  obtain ⟨i, hi⟩ := Array.mem_iff_getElem?.mp hy
  cases q : I i with
  | none => rw [S.off i q] at hi; exact h y (Array.mem_of_getElem? hi)
  | some st =>
    obtain ⟨a, b, _⟩ := S.on i st q
    rw [b] at hi; cases hi
    have := h _ (Array.mem_of_getElem? a)
    rw [psn_bare] at this
    exact this
/-- THE RULE: what holds where the sleepers are poisoned holds beside the sleepers, and they are as before -/
theorem wpAny_beside {α : Type} {M : Model} {A : Around} {t : Sem α} {Q : α → Shared → Prop} {E : Value → Shared → Prop} {s : Shared} (h : wpAny M A t Q E { s with gens := s.gens.map psn }) : wpAny M A t (Beside (slp s.gens) Q) (Beside (slp s.gens) E) s := fun Γ p hΓ =>
  sim_wp t p _ (h Γ p hΓ) (gensOk_psn _) s.gens (sim_slp _)
/-- a sleeper is as before -/
theorem Beside.slept {α : Type} {Q : α → Shared → Prop} {a : α} {G : Array GenState} {s1 : Shared} (h : Beside (slp G) Q a s1) {i : Nat} {st : GenState} (e : G[i]? = some st) (hs : st.status = .suspended) : s1.gens[i]? = some st := by
  obtain ⟨s', S, _⟩ := h
  exact (S.on i st (slp_of e hs)).2.1
end Slp
/-! G3: for in a generator's body (no exception). -/
namespace Slp
open PySem PyProof.Rows
open Sem (wp)
section
variable {prog : Program} {w : World} {A : Around} {R : GenEnd} {Y : Protocol} {n : Nat} {s₀ : Shared} {c : Code} {fs : List Frame} {s : Shared} {env : Env} {K : Flow → Sem PySem.Fin} {J : Value → Sem PySem.Fin} {gd : Bool → Bool} {lv : List Value → List Value}
/-- what a loop's call does with what comes back -/
abbrev backK (env : Env) (K : Flow → Sem PySem.Fin) (J : Value → Sem PySem.Fin) (gd : Bool → Bool) (lv : List Value → List Value) : Result → Sem PySem.Fin := fun r => ((match r with | .ok f => (.pure f : Sem Flow) | .error e => .raise e).onRaise fun (x : Value) => do
  if (← field x 1) == Value.none then unsupported "frame.own-activation:exception-without-traceback"
  setFlight x env.frame).wrap K J gd lv
theorem seg_For {tg iter : Expr} {body : List Stmt} {pos : Pos} (hs : ∀ x, foldedSetIterable iter env x = pure x)
    (h : wpAny (model prog w) (A.over c fs) (eval iter env) (fun v s1 => wpAny (model prog w) (A.over c fs) (pyIter v) (fun it s2 => ∀ p, Seg (model prog w) A R Y n s₀ (.forLoop tg it body [] env) ((model prog w).den (.forLoop tg it body [] env)) (.ret (backK env K J gd lv) none (gd false) (lv []) c p [] :: fs) s2) (fun _ _ => False) s1) (fun _ _ => False) s) :
    Seg (model prog w) A R Y n s₀ c ((exec (.For tg iter body [] pos) env).wrap K J gd lv) fs s := by
  have e : exec (.For tg iter body [] pos) env = (standAt pos >>= fun _ => eval iter env >>= fun v => standAt iter.pos >>= fun _ => holding [v] (pyIter v) >>= fun it => runOwn (.forLoop tg it body [] env) env) := by
    rw [exec_For]
    simp only [hs, pure_bind]
  rw [e, Sem.bind_eq_wrap', Sem.wrap_wrap]
  refine seg_wrap (wpAny_standAt ?_)
  rw [Sem.bind_eq_wrap', Sem.wrap_wrap]
  refine seg_wrap (wpAny_mono h (fun v s1 h1 => ?_) fun _ _ z => z.elim)
  rw [Sem.bind_eq_wrap', Sem.wrap_wrap]
  refine seg_wrap (wpAny_standAt ?_)
  rw [Sem.bind_eq_wrap', Sem.wrap_wrap]
  refine seg_wrap (wpAny_holding (wpAny_mono h1 (fun it s2 h2 => ?_) fun _ _ z => z.elim))
  exact seg_call h2
/-- what follows a turn's body -/
abbrev turnK (tg : Expr) (it : Value) (body : List Stmt) (env : Env) : Flow → Sem PySem.Fin := fun f => match f with
  | .next | .cont => .pure (.again (.forLoop tg it body [] env))
  | .brk => .pure (.done .next)
  | .ret v => .pure (.done (.ret v))
abbrev turnJ (env : Env) : Value → Sem PySem.Fin := fun e => (do noteFrame e env; theTreesLotGoes e : Sem Unit).wrap (fun _ => .raise e) .raise id id
theorem seg_forLoop {tg : Expr} {it : Value} {body : List Stmt}
    (h : wpAny (model prog w) (A.over (.forLoop tg it body [] env) fs) (pyNext it) (fun r s1 => match r with
      | none => Seg (model prog w) A R Y n s₀ (.block [] env) ((model prog w).den (.block [] env)) fs s1
      | some v => wpAny (model prog w) (A.over (.forLoop tg it body [] env) fs) (letOwnedTupleGo tg it v) (fun _ s2 => wpAny (model prog w) (A.over (.forLoop tg it body [] env) fs) (assign tg env v) (fun _ s3 =>
          Seg (model prog w) A R Y n s₀ (.forLoop tg it body [] env) ((execs body env).wrap (turnK tg it body env) (turnJ env) id id) fs s3) (fun _ _ => False) s2) (fun _ _ => False) s1) (fun _ _ => False) s) :
    Seg (model prog w) A R Y n s₀ (.forLoop tg it body [] env) ((model prog w).den (.forLoop tg it body [] env)) fs s := by
  show Seg _ A R Y n s₀ _ ((forTurn tg it body [] env).onRaise (fun x => do noteFrame x env; theTreesLotGoes x)) fs s
  unfold forTurn
  rw [Sem.onRaise_eq_wrap, Sem.bind_eq_wrap', Sem.wrap_wrap]
  refine seg_wrap (wpAny_standAt ?_)
  rw [Sem.bind_eq_wrap', Sem.wrap_wrap]
  refine seg_wrap (wpAny_onRaise (wpAny_mono h (fun r s1 h1 => ?_) fun _ _ z => z.elim))
  cases r with
  | none => exact seg_again rfl h1
  | some v =>
    show Seg _ A R Y n s₀ _ (Sem.wrap _ _ _ _ (letOwnedTupleGo tg it v >>= fun _ => assign tg env v >>= fun _ => execs body env >>= _)) fs s1
    rw [Sem.bind_eq_wrap', Sem.wrap_wrap]
    refine seg_wrap (wpAny_mono h1 (fun _ s2 h2 => ?_) fun _ _ z => z.elim)
    rw [Sem.bind_eq_wrap', Sem.wrap_wrap]
    refine seg_wrap (wpAny_mono h2 (fun _ s3 h3 => ?_) fun _ _ z => z.elim)
    rw [Sem.bind_eq_wrap', Sem.wrap_wrap]
    rw [Sem.wrap_congr (execs body env) _ _ (K' := turnK tg it body env) (H' := turnJ env) (fun f => by cases f <;> rfl)
      (fun e => by first | exact Sem.bind_eq_wrap _ _ | (show (do noteFrame e env; theTreesLotGoes e : Sem Unit).bind (fun _ => .raise e) = _; rw [Sem.bind_eq_wrap]))]
    exact h3
end
end Slp
/-! G4: a walk over the layer beside sleeping generators. -/
namespace Slp
open PySem PySem.Spec PyProof.Rows L2 Ab
section
variable {X : Cx} {pins : List (Addr × Obj)} {σ : L2.St} {H : Hp} {s : Shared}
/-- the table of generators may be another one -/
theorem inv_gens (I : Inv X pins σ H s) {G : Array GenState} (hb : AllBare G) : Inv X pins σ H { s with gens := G } :=
  ⟨I.ok, I.os, hb, I.base, I.loc, I.cell, I.free, I.freeC, I.pin, I.hok, I.len⟩
/-- every sleeper of s is as before in s1 -/
def Keeps (s s1 : Shared) : Prop := ∀ (i : Nat) st, s.gens[i]? = some st → st.status = .suspended → s1.gens[i]? = some st
theorem Keeps.refl : Keeps s s := fun _ _ e _ => e
theorem Keeps.trans {s1 s2 : Shared} (a : Keeps s s1) (b : Keeps s1 s2) : Keeps s s2 := fun i st e h => b i st (a i st e h) h
/-- what is shown by Inv alone holds beside the sleepers too -/
theorem beside {α : Type} {A : Around} {t : Sem α} {Q : α → Shared → Prop} (hQ : ∀ a s1 G, Q a s1 → (AllBare s1.gens → AllBare G) → Q a { s1 with gens := G }) (h : wpAny (model X.prog X.w) A t Q (fun _ _ => False) { s with gens := s.gens.map psn }) :
    wpAny (model X.prog X.w) A t (fun a s1 => Q a s1 ∧ Keeps s s1) (fun _ _ => False) s := by
  refine wpAny_mono (wpAny_beside h) (fun a s1 hb => ?_) fun e s1 ⟨_, _, _, _, z⟩ => z
  have k : Keeps s s1 := fun i st e hs => hb.slept e hs
  obtain ⟨s', S, ok, e, q⟩ := hb
  refine ⟨?_, k⟩
  rw [e]
  exact hQ a s' _ q S.bare
theorem ep_gens {Q : VK} {u : Value} {G : Array GenState} (h : EP X pins σ Q u s) (hb : AllBare s.gens → AllBare G) : EP X pins σ Q u { s with gens := G } := by
  obtain ⟨v, H', I, r, q⟩ := h
  exact ⟨v, H', inv_gens I (hb I.bare), r, q⟩
theorem sp_gens {D : Ends} {f : Flow} {G : Array GenState} (h : SP X pins D f s) (hb : AllBare s.gens → AllBare G) : SP X pins D f { s with gens := G } := by
  cases f with
  | next => obtain ⟨σ', H', I, q⟩ := h; exact ⟨σ', H', inv_gens I (hb I.bare), q⟩
  | brk => obtain ⟨σ', H', I, q⟩ := h; exact ⟨σ', H', inv_gens I (hb I.bare), q⟩
  | cont => obtain ⟨σ', H', I, q⟩ := h; exact ⟨σ', H', inv_gens I (hb I.bare), q⟩
  | ret u => obtain ⟨v, σ', H', I, r, q⟩ := h; exact ⟨v, σ', H', inv_gens I (hb I.bare), r, q⟩
variable (hxe : X.xe = fun _ _ => False)
theorem we_beside {e : Expr} {Q : VK} (hxe : X.xe = fun _ _ => False) (h : WE X e σ H Q) (I : Inv X pins σ H s) : wpAny (model X.prog X.w) X.A (eval e X.env) (fun u s1 => EP X pins σ Q u s1 ∧ Keeps s s1) (fun _ _ => False) s := by
  refine beside (fun a s1 G q hb => ep_gens q hb) ?_
  have z := h pins { s with gens := s.gens.map psn } (inv_gens I (bare_psn I.bare))
  rw [hxe] at z
  exact z
theorem wss_beside {st : List Stmt} {D : Ends} (hxe : X.xe = fun _ _ => False) (h : WSs X st D σ H) (I : Inv X pins σ H s) : wpAny (model X.prog X.w) X.A (execs st X.env) (fun f s1 => SP X pins D f s1 ∧ Keeps s s1) (fun _ _ => False) s := by
  refine beside (fun a s1 G q hb => sp_gens q hb) ?_
  have z := h pins { s with gens := s.gens.map psn } (inv_gens I (bare_psn I.bare))
  rw [hxe] at z
  exact z
theorem wg_beside {tg : Expr} {v : V} {u : Value} {Q : L2.St → Hp → Prop} (hxe : X.xe = fun _ _ => False) (h : WG X tg v σ H Q) (I : Inv X pins σ H s) (r : L2.RelV v u) : wpAny (model X.prog X.w) X.A (assign tg X.env u) (fun _ s1 => (∃ σ' H', Inv X pins σ' H' s1 ∧ Q σ' H') ∧ Keeps s s1) (fun _ _ => False) s := by
  refine beside (Q := fun _ s1 => ∃ σ' H', Inv X pins σ' H' s1 ∧ Q σ' H') (fun a s1 G ⟨σ', H', J, q⟩ hb => ⟨σ', H', inv_gens J (hb J.bare), q⟩) ?_
  have z := h pins { s with gens := s.gens.map psn } u (inv_gens I (bare_psn I.bare)) r
  rw [hxe] at z
  exact z
end
end Slp
/-! G5: the ghost ground of a generator's segment: the heap at the waking, cut below its frame. -/
namespace Slp
open PySem PySem.Spec PyProof.Rows L2 Ab
def trunc (h : Heap) (n : Nat) : Heap := { h with objs := h.objs.extract 0 n }
theorem trunc_lt {h : Heap} {n b : Nat} (hb : b < n) : (trunc h n).get? b = h.get? b := by
  unfold trunc Heap.get?
  have e : (h.objs.extract 0 n)[b]? = h.objs[b]? := by
    rw [Array.getElem?_extract]
    by_cases hs : b < h.objs.size
    · simp [hb]; omega
    · simp [Array.getElem?_eq_none (Nat.le_of_not_lt hs)]
  rw [e]
theorem trunc_ge {h : Heap} {n b : Nat} (hb : n ≤ b) : (trunc h n).get? b = none := by
  unfold trunc Heap.get?
  have e : (h.objs.extract 0 n)[b]? = none := by
    rw [Array.getElem?_eq_none]
    simp; omega
  rw [e]
theorem trunc_size {h : Heap} {n : Nat} (hn : n ≤ h.objs.size) : (trunc h n).objs.size = n := by
  show (h.objs.extract 0 n).size = n
  simp; omega
theorem trunc_some {h : Heap} {n b : Nat} {o : Obj} (e : (trunc h n).get? b = some o) : b < n ∧ h.get? b = some o := by
  by_cases hb : b < n
  · exact ⟨hb, by rw [trunc_lt hb] at e; exact e⟩
  · rw [trunc_ge (Nat.le_of_not_lt hb)] at e; cases e
/-- the context of a segment that begins at s, H -/
def gx (X : Cx) (s : Shared) (H : Hp) : Cx := { X with s_0 := { s with heap := trunc s.heap X.env.locals }, H_0 := H, ex := [], pn := [] }
/-- what of a generator's frame stays through its life -/
structure GSt (X : Cx) : Prop where
  mod : Mod X.K X.mg X.base
  kind : X.env.scope.kind = .function
  glob : X.env.globals = mainGlobals
  blt : X.env.builtins = builtinsNs
  inj : ∀ x y c, X.env.cells.lookup x = some c → X.env.cells.lookup y = some c → x = y
  has : ∀ x, (X.env.kindOf x = some .cell ∨ X.env.kindOf x = some .free) → ∃ c, X.env.cells.lookup x = some c
  cab : ∀ x c, X.env.cells.lookup x = some c → X.env.locals ≤ c
  hd : X.calm = true → X.A.handled = none
  frames : X.A.frames = some X.stack
  stk : X.stack = X.env :: X.outer ∧ X.env.frame = some X.env.locals
  low : ∀ b ∈ frs X.outer, b < X.env.locals
  bsz : X.base.objs.size ≤ X.env.locals
/-- the ground at a waking -/
structure Ground (X : Cx) (s : Shared) (H : Hp) : Prop where
  sz : X.env.locals ≤ s.heap.objs.size
  bs : ∀ b o, X.base.get? b = some o → s.heap.get? b = some o ∧ H b = none
  funs : s.heap.FunFrames X.base X.outer
  frf : ∀ b ∈ frs X.outer, H b = none
  hok : HOk X.prog X.w H s.heap
  bare : AllBare s.gens
theorem ground_ok {X : Cx} {s : Shared} {H : Hp} (S : GSt X) (G : Ground X s H) : (gx X s H).Ok where
  mod := S.mod
  kind := S.kind
  glob := S.glob
  blt := S.blt
  above := by show (trunc s.heap X.env.locals).objs.size ≤ _; rw [trunc_size G.sz]; exact Nat.le_refl _
  inj := S.inj
  has := S.has
  cab := fun x c _ h => by show (trunc s.heap X.env.locals).objs.size ≤ _; rw [trunc_size G.sz]; exact S.cab x c h
  hd := S.hd
  frames := S.frames
  stk := .inr S.stk
  exf := fun b hb => by cases hb
  bs := fun b o e => by
    obtain ⟨h1, h2⟩ := G.bs b o e
    have lt : b < X.env.locals := Nat.lt_of_lt_of_le (Heap.lt_size e) S.bsz
    exact ⟨(trunc_lt lt).trans h1, h2⟩
  bsz := by show _ ≤ (trunc s.heap X.env.locals).objs.size; rw [trunc_size G.sz]; exact S.bsz
  noex := fun b o e hb => by cases hb
  exfs := fun b hb => by cases hb
  funs := by
    have key : ∀ {l : List Env}, s.heap.FunFrames X.base l → (∀ b ∈ frs l, b < X.env.locals) → (trunc s.heap X.env.locals).FunFrames X.base l := by
      intro l
      induction l with
      | nil => intro _ _; trivial
      | cons e l ih =>
        intro ⟨h1, ⟨L, o, h2, h3, h4, h5⟩, h6⟩ low
        refine ⟨h1, ⟨L, o, h2, h3, ?_, h5⟩, ih h6 fun b hb => low b ?_⟩
        · rw [trunc_lt (low L (by unfold frs; simp [h2]))]; exact h4
        · unfold frs at hb ⊢
          simp [h2]
          exact .inr (by simpa using hb)
    exact key G.funs S.low
  frf := G.frf
/-- woken: the frame's objects stand, so the frame's Inv stands over the new ground -/
theorem inv_woken {X X0 : Cx} {s s1 : Shared} {H H1 : Hp} {σ : L2.St} {pins pins' : List (Addr × Obj)} (S : GSt X) (G : Ground X s H) (he : X0.env = X.env) (hN : X0.N = X.N) (I : Inv X0 pins σ H1 s1) (hl : ∀ o, s1.heap.get? X.env.locals = some o → s.heap.get? X.env.locals = some o)
    (hc : ∀ x c, X.env.cells.lookup x = some c → ∀ o, s1.heap.get? c = some o → s.heap.get? c = some o) (hn : H X.env.locals = none) (hcn : ∀ x c, X.env.cells.lookup x = some c → H c = none)
    (hp : ∀ p ∈ pins', s.heap.get? p.1 = some p.2 ∧ H p.1 = none ∧ p.1 ≠ X.env.locals ∧ p.1 ∉ frs X.outer ∧ ∀ v, p.2.data ≠ .cell v) : Inv (gx X s H) pins' σ H s where
  ok := ground_ok S G
  os := rfl
  bare := G.bare
  base := {
    keep := fun b o e _ _ _ => (trunc_some e).2
    slot := fun b o e _ _ _ => ⟨o.slots, (trunc_some e).2⟩
    free := fun b o _ n _ => n
    there := fun b o e _ => ⟨o, (trunc_some e).2⟩
    tups := fun _ _ e => e
    frzs := fun _ _ _ e => e
    tbls := fun _ ps e => ⟨#[], by rw [show (gx X s H).H_0 = H from rfl] at e; rw [e]; simp⟩ }
  loc := by
    obtain ⟨m, hns, h⟩ := I.loc
    rw [he] at hns h
    rw [hN] at h
    refine ⟨m, hns.at' hl, fun i x v h1 h2 h3 => ?_⟩
    obtain ⟨u, r, l⟩ := h i x v h1 h2 h3
    refine ⟨u, r, ?_⟩
    rcases l with l | ⟨k, c, e, o, ho, hd⟩
    · exact .inl l
    · exact .inr ⟨k, c, e, o, hc x c e o ho, hd⟩
  cell := fun x c e => by
    obtain ⟨v, o, ho, hd⟩ := I.cell x c (by rw [he]; exact e)
    exact ⟨v, o, hc x c e o ho, hd⟩
  free := hn
  freeC := hcn
  pin := fun p h => hp p (by simpa [gx] using h)
  hok := G.hok
  len := by have z := I.len; rw [hN] at z; exact z
end Slp
/-! G6: bodies with yield over data. -/
namespace Slp
open PySem PySem.Spec PyProof.Rows L2 Ab GenW
/-- one generator's life: its frame's context, its number, what the consumer protects, its own object, what holds of the consumer when i items are out, the data -/
structure Gen where
  X : Cx
  g : Nat
  ca : List Addr
  Φ : Nat → Mu → Hp → Shared → Prop
  ds : List D
/-- what the consumer protects, as it stood at the waking -/
def Gen.cp (G : Gen) (s₀ : Shared) : List (Addr × Obj) := pinsAt G.ca s₀.heap
/-- an object may be pinned in the generator's frame's context -/
def PinOk (X : Cx) (H : Hp) (s : Shared) (p : Addr × Obj) : Prop := s.heap.get? p.1 = some p.2 ∧ H p.1 = none ∧ p.1 ≠ X.env.locals ∧ p.1 ∉ frs X.outer ∧ ∀ v, p.2.data ≠ .cell v
/-- what the consumer's invariant must give -/
structure Gen.Fit (G : Gen) : Prop where
  st : GSt G.X
  xe : G.X.xe = fun _ _ => False
  ground : ∀ i m H s, G.Φ i m H s → Ground G.X s H
  hm : ∀ i m H s, G.Φ i m H s → HM G.X.K m H
  cp : ∀ i m H s, G.Φ i m H s → ∀ b ∈ G.ca, ∃ o, PinOk G.X H s (b, o)
/-- the frame's own objects stand -/
structure Stand (X : Cx) (ip : List (Addr × Obj)) (s : Shared) (H' : Hp) (s' : Shared) : Prop where
  loc : ∀ o, s.heap.get? X.env.locals = some o → s'.heap.get? X.env.locals = some o
  cell : ∀ x c, X.env.cells.lookup x = some c → ∀ o, s.heap.get? c = some o → s'.heap.get? c = some o
  free : H' X.env.locals = none
  freeC : ∀ x c, X.env.cells.lookup x = some c → H' c = none
  ip : ∀ p ∈ ip, PinOk X H' s' p
/-- a segment began at s₀: the consumer's invariant held there -/
def Gen.Start (G : Gen) (i : Nat) (m : Mu) (H : Hp) (s₀ : Shared) : Prop := ∃ s, s₀ = s.setGen G.g .running ∧ G.Φ i m H s
/-- a place of the generator's own, no frame's, not the consumer's -/
def Own0 (X : Cx) (ca : List Addr) (b : Addr) : Prop := b ≠ X.env.locals ∧ b ∉ frs X.outer ∧ X.env.locals ≤ b ∧ b ∉ ca
/-- running: i items out, the own iterators as they stand -/
structure Gen.Run (G : Gen) (s₀ : Shared) (i : Nat) (ip : List (Addr × Obj)) (ρ : Rho) (m : Mu) (σ : L2.St) (H : Hp) (s : Shared) : Prop where
  ex : ∃ H₀, G.Start i m H₀ s₀ ∧ Later m H₀ m H ∧ Inv (gx G.X s₀ H₀) (G.cp s₀ ++ ip) σ H s
  hm : HM G.X.K m H
  rs : RS G.X.K (dom m) H ρ σ
  ow : ∀ p ∈ ip, Own0 G.X G.ca p.1
def Gen.Y (G : Gen) : Protocol := fun n s₀ v s kap => ∃ i d m H x ip σ H₀, n + i = G.ds.length ∧ G.ds[i]? = some d ∧ G.Start i m H₀ s₀ ∧ Later m H₀ m H ∧ Inv (gx G.X s₀ H₀) (G.cp s₀ ++ ip) σ H s ∧ HM G.X.K m H ∧ Rep G.X.K (dom m) H d x ∧ L2.RelV x v ∧ (∀ p ∈ ip, Own0 G.X G.ca p.1) ∧
  ∀ s' H' m', G.Φ (i + 1) m' H' s' → Later m H m' H' → Stand G.X ip s H' s' → kap (.send .none) (s'.setGen G.g .running)
def Gen.F (G : Gen) (n : Nat) (s₀ s : Shared) : Prop := ∃ m H ip σ H₀, n = 1 ∧ G.Start G.ds.length m H₀ s₀ ∧ Later m H₀ m H ∧ Inv (gx G.X s₀ H₀) (G.cp s₀ ++ ip) σ H s ∧ HM G.X.K m H
def Gen.R (G : Gen) : GenEnd := fun n s₀ r s => ((r = .ok (.ret .none) ∨ r = .ok .next) ∧ G.F n s₀ s) ∨ ∃ e, r = .error e ∧ False
/-- where its code stands -/
structure GCx (X : Cx) (A : Around) (c : Code) (fs : List Frame) (gd : Bool → Bool) : Prop where
  over : A.over c fs = X.A
  split : splitAtGen fs = none
  guard : fs.any Frame.guarded = false
  gd : gd false = false
/-- a piece of the body: from i items out and slots ρ it comes to nx -/
structure AYs (G : Gen) (st : List Stmt) (ip : List (Addr × Obj)) (i : Nat) (ρ : Rho) (nx : Nat → Rho → Prop) : Prop where
  run : ∀ (A : Around) (n : Nat) (s₀ : Shared) (c : Code) (fs : List Frame) (K : Flow → Sem PySem.Fin) (J : Value → Sem PySem.Fin) (gd : Bool → Bool) (lv : List Value → List Value) (m : Mu) (σ : L2.St) (H : Hp) (s : Shared),
    GCx G.X A c fs gd → n + i = G.ds.length + 1 → G.Run s₀ i ip ρ m σ H s →
    (∀ n' i' s₀' ρ' m' σ' H' s', n' + i' = G.ds.length + 1 → G.Run s₀' i' ip ρ' m' σ' H' s' → Later m H m' H' → nx i' ρ' → Seg (model G.X.prog G.X.w) A G.R G.Y n' s₀' c (K .next) fs s') →
    Seg (model G.X.prog G.X.w) A G.R G.Y n s₀ c ((execs st G.X.env).wrap K J gd lv) fs s
structure AY (G : Gen) (st : Stmt) (ip : List (Addr × Obj)) (i : Nat) (ρ : Rho) (nx : Nat → Rho → Prop) : Prop where
  run : ∀ (A : Around) (n : Nat) (s₀ : Shared) (c : Code) (fs : List Frame) (K : Flow → Sem PySem.Fin) (J : Value → Sem PySem.Fin) (gd : Bool → Bool) (lv : List Value → List Value) (m : Mu) (σ : L2.St) (H : Hp) (s : Shared),
    GCx G.X A c fs gd → n + i = G.ds.length + 1 → G.Run s₀ i ip ρ m σ H s →
    (∀ n' i' s₀' ρ' m' σ' H' s', n' + i' = G.ds.length + 1 → G.Run s₀' i' ip ρ' m' σ' H' s' → Later m H m' H' → nx i' ρ' → Seg (model G.X.prog G.X.w) A G.R G.Y n' s₀' c (K .next) fs s') →
    Seg (model G.X.prog G.X.w) A G.R G.Y n s₀ c ((exec st G.X.env).wrap K J gd lv) fs s
section
variable {G : Gen} {st : Stmt} {sts : List Stmt} {ip : List (Addr × Obj)} {i : Nat} {ρ : Rho} {nx : Nat → Rho → Prop}
theorem AYs.nil (h : nx i ρ) : AYs G [] ip i ρ nx := ⟨fun A n s₀ c fs K J gd lv m σ H s g hn r k => seg_execs_nil (k n i s₀ ρ m σ H s hn r Later.refl h)⟩
theorem AYs.cons (h : AY G st ip i ρ fun i' ρ' => AYs G sts ip i' ρ' nx) : AYs G (st :: sts) ip i ρ nx := ⟨fun A n s₀ c fs K J gd lv m σ H s g hn r k => by
  refine seg_execs_cons ?_
  refine h.run A n s₀ c fs _ J gd lv m σ H s g hn r fun n' i' s₀' ρ' m' σ' H' s' hn' r' l' q => ?_
  exact q.run A n' s₀' c fs K J gd lv m' σ' H' s' g hn' r' fun n2 i2 s2 ρ2 m2 σ2 H2 t2 hn2 r2 l2 => k n2 i2 s2 ρ2 m2 σ2 H2 t2 hn2 r2 (l'.trans l2)⟩
theorem AYs.imp {nx' : Nat → Rho → Prop} (h : AYs G sts ip i ρ nx) (w : ∀ i ρ, nx i ρ → nx' i ρ) : AYs G sts ip i ρ nx' := ⟨fun A n s₀ c fs K J gd lv m σ H s g hn r k => h.run A n s₀ c fs K J gd lv m σ H s g hn r fun n' i' s₀' ρ' m' σ' H' s' hn' r' l' q => k n' i' s₀' ρ' m' σ' H' s' hn' r' l' (w _ _ q)⟩
theorem xe_gx {X : Cx} {s : Shared} {H : Hp} (h : X.xe = fun _ _ => False) : (gx X s H).xe = fun _ _ => False := h
/-- a statement that hands out nothing and changes no object -/
theorem AY.plain (F : G.Fit) (h : ∀ s₀ H₀ m, AS (gx G.X s₀ H₀) st ρ m { nx := fun ρ' m' => m' = m ∧ nx i ρ', rt := fun _ _ => False }) : AY G st ip i ρ nx := ⟨fun A n s₀ c fs K J gd lv m σ H s g hn r k => by
  obtain ⟨H₀, hst, hl, I⟩ := r.ex
  refine seg_wrap ?_
  rw [g.over]
  have z := (h s₀ H₀ m).run σ H ⟨r.hm, r.rs⟩ (G.cp s₀ ++ ip) s I
  rw [xe_gx F.xe] at z
  refine wpAny_mono z (fun f s' hf => ?_) fun _ _ q => q.elim
  cases f with
  | next =>
    obtain ⟨σ', H', I', ρ', m', hm', l', rs', e, q⟩ := hf
    subst e
    exact k n i s₀ ρ' m' σ' H' s' hn ⟨⟨H₀, hst, hl.trans l', I'⟩, hm', rs', r.ow⟩ l' q
  | brk => obtain ⟨_, _, _, _, _, _, _, _, q⟩ := hf; exact q.elim
  | cont => obtain ⟨_, _, _, _, _, _, _, _, q⟩ := hf; exact q.elim
  | ret u => obtain ⟨_, _, _, _, _, _, _, _, _, _, q⟩ := hf; exact q.elim⟩
/-- if: the branches may hand out -/
theorem AY.ifs {c : Expr} {as bs : List Stmt} {pos : Pos} {b : Bool} (F : G.Fit) (h : ∀ s₀ H₀ m, AT (gx G.X s₀ H₀) c ρ m fun t m' => m' = m ∧ t = b) (ht : b = true → AYs G as ip i ρ nx) (hf : b = false → AYs G bs ip i ρ nx) : AY G (.If c as bs pos) ip i ρ nx := ⟨fun A n s₀ cc fs K J gd lv m σ H s g hn r k => by
  obtain ⟨H₀, hst, hl, I⟩ := r.ex
  have e : exec (.If c as bs pos) G.X.env = (standAt pos >>= fun _ => isTrue c G.X.env (eval c G.X.env) >>= fun t => if t = true then execs as G.X.env else execs bs G.X.env) := rfl
  rw [e, Sem.bind_eq_wrap', Sem.wrap_wrap]
  refine seg_wrap (wpAny_standAt ?_)
  rw [Sem.bind_eq_wrap', Sem.wrap_wrap]
  refine seg_wrap ?_
  rw [g.over]
  have z := (h s₀ H₀ m).run σ H ⟨r.hm, r.rs⟩ (G.cp s₀ ++ ip) s I
  rw [xe_gx F.xe] at z
  refine wpAny_mono z (fun t s' hf' => ?_) fun _ _ q => q.elim
  obtain ⟨H', I', m', hm', l', e', et⟩ := hf'
  subst e' et
  have r' : G.Run s₀ i ip ρ m' σ H' s' := ⟨⟨H₀, hst, hl.trans l', I'⟩, hm', r.rs.later l', r.ow⟩
  cases t with
  | true =>
    show Seg _ A G.R G.Y n s₀ cc (Sem.wrap _ _ _ _ (if true = true then execs as G.X.env else execs bs G.X.env)) fs s'
    rw [if_pos rfl]
    exact (ht rfl).run A n s₀ cc fs K J gd lv m' σ H' s' g hn r' fun n2 i2 s2 ρ2 m2 σ2 H2 t2 hn2 r2 l2 => k n2 i2 s2 ρ2 m2 σ2 H2 t2 hn2 r2 (l'.trans l2)
  | false =>
    show Seg _ A G.R G.Y n s₀ cc (Sem.wrap _ _ _ _ (if false = true then execs as G.X.env else execs bs G.X.env)) fs s'
    rw [if_neg Bool.false_ne_true]
    exact (hf rfl).run A n s₀ cc fs K J gd lv m' σ H' s' g hn r' fun n2 i2 s2 ρ2 m2 σ2 H2 t2 hn2 r2 l2 => k n2 i2 s2 ρ2 m2 σ2 H2 t2 hn2 r2 (l'.trans l2)⟩
/-- yield e -/
theorem AY.yield {e : Expr} {yp pos : Pos} (F : G.Fit) (lt : i < G.ds.length) (h : ∀ s₀ H₀ m, AE (gx G.X s₀ H₀) e ρ m fun d m' => m' = m ∧ G.ds[i]? = some d) (q : nx (i + 1) ρ) (hco : G.X.env.scope.isCoroutine = false := by rfl) (hi : interactive G.X.env = false := by rfl) : AY G (.Expr (.Yield (some e) yp) pos) ip i ρ nx := ⟨fun A n s₀ c fs K J gd lv m σ H s g hn r k => by
  obtain ⟨H₀, hst, hl, I⟩ := r.ex
  have z := (h s₀ H₀ m).run σ H ⟨r.hm, r.rs⟩ (G.cp s₀ ++ ip) s I
  rw [xe_gx F.xe] at z
  cases n with
  | zero =>
    exact absurd lt (by omega)
  | succ n =>
    refine seg_Expr_Yield g.split g.gd g.guard ?_ hco hi
    rw [g.over]
    refine wpAny_mono z (fun v s' hf => ?_) fun _ _ q => q.elim
    obtain ⟨x, H', I', rx, d, m', hm', l', rd, e', hd⟩ := hf
    subst e'
    intro kap hkap
    refine ⟨i, d, m', H', x, ip, σ, H₀, by omega, hd, hst, hl.trans l', I', hm', rd, rx, r.ow, fun s2 H2 m2 hΦ l2 sd => ?_⟩
    refine hkap .none _ ?_
    refine k n (i + 1) _ ρ m2 σ H2 _ (by omega) ⟨⟨H2, ⟨s2, rfl, hΦ⟩, Later.refl, ?_⟩, F.hm _ _ _ _ hΦ, (r.rs.later l').later l2, r.ow⟩ (l'.trans l2) q
    have gr := F.ground _ _ _ _ hΦ
    have J := inv_woken (X0 := gx G.X s₀ H₀) (s := s2.setGen G.g .running) F.st { sz := gr.sz, bs := gr.bs, funs := gr.funs, frf := gr.frf, hok := gr.hok, bare := allBare_setGen gr.bare rfl } rfl rfl I' sd.loc sd.cell sd.free sd.freeC (pins' := G.cp (s2.setGen G.g .running) ++ ip) fun p hp => ?_
    · exact J
    · rcases List.mem_append.mp hp with hp | hp
      · obtain ⟨hb, e⟩ := of_pinsAt hp
        obtain ⟨o, q⟩ := F.cp _ _ _ _ hΦ p.1 hb
        have e2 : s2.heap.get? p.1 = some p.2 := e
        obtain ⟨q1, q2⟩ := q
        have e3 : s2.heap.get? p.1 = some o := q1
        rw [e2] at e3
        cases e3
        exact ⟨q1, q2⟩
      · exact sd.ip p hp⟩
end
end Slp
/-! G7: for in a body with yield, over what is not changed. -/
namespace Slp
open PySem PySem.Spec PyProof.Rows L2 Ab GenW
theorem gcx_loop {X : Cx} {A : Around} {c c' : Code} {fs : List Frame} {gd : Bool → Bool} {k : Result → Sem PySem.Fin} {l kp : List Value} {p : Pos} (g : GCx X A c fs gd) (hw : c'.weight = 0) (hu : c'.cUnits = 0) :
    GCx X A c' (.ret k none (gd false) l c p kp :: fs) id where
  over := (over_loop hw hu).trans g.over
  split := by
    show (splitAtGen fs).map _ = none
    rw [g.split]; rfl
  guard := by
    show (gd false || fs.any Frame.guarded) = false
    rw [g.gd, g.guard]; rfl
  gd := rfl
/-- an own record of the generator's, by place -/
def Own (X : Cx) (L : List Addr) (b : Addr) : Prop := b ≠ X.env.locals ∧ b ∉ frs X.outer ∧ X.env.locals ≤ b ∧ (∀ x c, X.env.cells.lookup x = some c → c ≠ b) ∧ ∀ a ∈ L, a ≠ b
theorem own_of {X : Cx} {s : Shared} {H H' : Hp} {pins : List (Addr × Obj)} {b : Addr} {L : List Addr} (hz : X.env.locals ≤ s.heap.objs.size) (hL : ∀ a ∈ L, ∃ o, (a, o) ∈ pins) (h : FpOk (gx X s H) pins H' b) : Own X L b := by
  obtain ⟨_, h1, h2, h3, h4, h5⟩ := h
  refine ⟨h1, h2, ?_, h4, fun a ha => let ⟨o, hp⟩ := hL a ha; h5 (a, o) (List.mem_append_right _ hp)⟩
  rcases h3 with h3 | h3
  · cases h3
  · have e : (gx X s H).s_0.heap.objs.size = X.env.locals := trunc_size hz
    rw [e] at h3
    exact h3
theorem own_fp {X : Cx} {s : Shared} {H H' : Hp} {pins : List (Addr × Obj)} {b : Addr} {L : List Addr} (hz : X.env.locals ≤ s.heap.objs.size) (hL : ∀ p ∈ pins, p.1 ∈ L) (h : Own X L b) (hn : H' b = none) : FpOk (gx X s H) pins H' b := by
  obtain ⟨h1, h2, h3, h4, h5⟩ := h
  refine ⟨hn, h1, h2, .inr ?_, h4, fun p hp => ?_⟩
  · have e : (gx X s H).s_0.heap.objs.size = X.env.locals := trunc_size hz
    rw [e]; exact h3
  · rcases List.mem_append.mp hp with hp | hp
    · cases hp
    · exact h5 p.1 (hL p hp)
theorem Gen.Start.size {G : Gen} (F : G.Fit) {i : Nat} {m : Mu} {H : Hp} {s₀ : Shared} (h : G.Start i m H s₀) : G.X.env.locals ≤ s₀.heap.objs.size := by
  obtain ⟨s, e, hΦ⟩ := h
  subst e
  exact (F.ground _ _ _ _ hΦ).sz
theorem Gen.Start.cp {G : Gen} (F : G.Fit) {i : Nat} {m : Mu} {H : Hp} {s₀ : Shared} {ip : List (Addr × Obj)} (h : G.Start i m H s₀) : ∀ a ∈ G.ca ++ ip.map (·.1), ∃ o, (a, o) ∈ G.cp s₀ ++ ip := fun a ha => by
  rcases List.mem_append.mp ha with ha | ha
  · obtain ⟨s, e, hΦ⟩ := h
    subst e
    obtain ⟨o, q, _⟩ := F.cp _ _ _ _ hΦ a ha
    exact ⟨o, List.mem_append_left _ (mem_pinsAt ha q)⟩
  · obtain ⟨p, hp, e⟩ := List.mem_map.mp ha
    exact ⟨p.2, List.mem_append_right _ (by rw [← e]; exact hp)⟩
theorem Gen.cp_ca {G : Gen} {s₀ : Shared} {ip : List (Addr × Obj)} : ∀ p ∈ G.cp s₀ ++ ip, p.1 ∈ G.ca ++ ip.map (·.1) := fun p hp => by
  rcases List.mem_append.mp hp with hp | hp
  · exact List.mem_append_left _ (of_pinsAt hp).1
  · exact List.mem_append_right _ (List.mem_map.mpr ⟨p, hp, rfl⟩)
section
variable {G : Gen} {ip : List (Addr × Obj)} {i : Nat} {ρ : Rho} {nx : Nat → Rho → Prop}
theorem AY.for {tg iter : Expr} {body : List Stmt} {pos : Pos} (F : G.Fit) (hc : G.X.calm = true) (es : List D) (Iv Mid : Nat → Nat → Rho → Prop)
    (h : ∀ s₀ H₀ m, AI (gx G.X s₀ H₀) tg iter ρ m fun es' Gm m1 => m1 = m ∧ es' = es ∧ ∀ i' m' H s, G.Φ i' m' H s → Gm m')
    (h0 : Iv 0 i ρ)
    (bind : ∀ k d i' ρ' s₀ H₀ m, es[k]? = some d → Iv k i' ρ' → AG (gx G.X s₀ H₀) tg d ρ' m fun ρ2 m2 => m2 = m ∧ Mid k i' ρ2)
    (turn : ∀ k d i' ρ' ip', es[k]? = some d → Mid k i' ρ' → AYs G body ip' i' ρ' (Iv (k + 1)))
    (fin : ∀ i' ρ', Iv es.length i' ρ' → nx i' ρ')
    (hs : ∀ x, foldedSetIterable iter G.X.env x = pure x := by intro _; rfl) : AY G (.For tg iter body [] pos) ip i ρ nx := ⟨fun A n s₀ c fs K J gd lv m σ H s g hn r kk => by
  obtain ⟨H₀, hst, hl, I⟩ := r.ex
  refine seg_For hs ?_
  rw [g.over]
  have z := (h s₀ H₀ m).run σ H ⟨r.hm, r.rs⟩ (G.cp s₀ ++ ip) s I
  rw [xe_gx F.xe] at z
  refine wpAny_mono z (fun v s1 h1 => ?_) fun _ _ q => q.elim
  refine wpAny_mono h1 (fun itv s2 h2 => ?_) fun _ _ q => q.elim
  obtain ⟨it, fp, tn, Jt, H2, e, I2, T, t2, f2, es', Gm, m2, hm2, l2, jok, em, ee, hG⟩ := h2
  subst e em ee
  have own : ∀ b ∈ fp, Own G.X (G.ca ++ ip.map (·.1)) b := fun b hb => own_of (hst.size F) (hst.cp F) (f2 b hb)
  intro p
  have gl : ∀ kb : Result → Sem PySem.Fin, GCx G.X A (.forLoop tg (.ref it) body [] G.X.env) (.ret kb none (gd false) (lv []) c p [] :: fs) id := fun kb => gcx_loop g rfl rfl
  have loop : ∀ (j k : Nat), j + k = es'.length → ∀ (n i : Nat) (s₀ : Shared) (ρ : Rho) (m : Mu) (σ : L2.St) (H : Hp) (s : Shared), n + i = G.ds.length + 1 → G.Run s₀ i ip ρ m σ H s → Later m2 H2 m H → tn k s.heap → (∀ b ∈ fp, H b = none) → Iv k i ρ →
      Seg (model G.X.prog G.X.w) A G.R G.Y n s₀ (.forLoop tg (.ref it) body [] G.X.env) ((model G.X.prog G.X.w).den (.forLoop tg (.ref it) body [] G.X.env)) (.ret (backK G.X.env K J gd lv) none (gd false) (lv []) c p [] :: fs) s := by
    intro j
    induction j with
    | zero =>
      intro k hk n i s₀ ρ m σ H s hn r hl2 tk fn iv
      have ek : k = es'.length := by omega
      subst ek
      obtain ⟨H₀, hst, hl, I⟩ := r.ex
      have sz := hst.size F
      obtain ⟨s9, es9, hΦ⟩ := hst
      have jk := (jok _ m H r.hm hl2 (hG _ _ _ _ hΦ)).2 (Nat.le_refl _)
      refine seg_forLoop ?_
      rw [(gl _).over]
      refine wpAny_mono (T.done (gx G.X s₀ H₀) rfl rfl rfl hc _ (G.cp s₀ ++ ip) s σ H (fun _ _ => False) I (fun b hb => own_fp sz Gen.cp_ca (own b hb) (fn b hb)) tk jk) (fun r' s' ⟨er, I'⟩ => ?_) fun _ _ q => q
      subst er
      refine seg_leaf (.ok .next) ?_
      exact kk n i s₀ ρ m σ H s' hn ⟨⟨H₀, ⟨s9, es9, hΦ⟩, hl, I'⟩, r.hm, r.rs, r.ow⟩ (l2.trans hl2) (fin _ _ iv)
    | succ j ih =>
      intro k hk n i s₀ ρ m σ H s hn r hl2 tk fn iv
      obtain ⟨H₀, hst, hl, I⟩ := r.ex
      have sz := hst.size F
      obtain ⟨s9, es9, hΦ⟩ := hst
      have hlt : k < es'.length := by omega
      have hd : es'[k]? = some es'[k] := by simp [hlt]
      obtain ⟨go, y⟩ := (jok _ m H r.hm hl2 (hG _ _ _ _ hΦ)).1 es'[k] hd
      refine seg_forLoop ?_
      rw [(gl _).over]
      refine wpAny_mono (T.item (gx G.X s₀ H₀) rfl rfl rfl hc _ (G.cp s₀ ++ ip) s σ H (fun _ _ => False) I (fun b hb => own_fp sz Gen.cp_ca (own b hb) (fn b hb)) tk go) (fun r' s' ⟨u, er, hu⟩ => ?_) fun _ _ q => q
      subst er
      refine wpAny_mono hu (fun _ s5 ⟨x, H5, I5, r5, y5, t5, f5⟩ => ?_) fun _ _ q => q
      obtain ⟨hm5, l5, rp5⟩ := y x H5 y5
      have I5' := I5.pinned (fun b hb => own_fp sz Gen.cp_ca (own b hb) (f5 b hb)) (T.obj _ _ t5)
      rw [List.append_assoc] at I5'
      have ow5 : ∀ p ∈ ip ++ pinsAt fp s5.heap, Own0 G.X G.ca p.1 := fun p hp => (List.mem_append.mp hp).elim (r.ow p) fun hp => by
        obtain ⟨h1, h2, h3, _, h5⟩ := own p.1 (of_pinsAt hp).1
        exact ⟨h1, h2, h3, fun z => h5 p.1 (List.mem_append_left _ z) rfl⟩
      have b := (bind k es'[k] i ρ s₀ H₀ m hd iv).run x σ H5 ⟨hm5, r.rs.later l5⟩ rp5 (G.cp s₀ ++ (ip ++ pinsAt fp s5.heap)) s5 u I5' r5
      rw [xe_gx F.xe] at b
      refine wpAny_mono b (fun _ s6 ⟨σ6, H6, I6, ρ6, m6, hm6, l6, rs6, e6, q6⟩ => ?_) fun _ _ q => q.elim
      subst e6
      refine (turn k es'[k] i ρ6 (ip ++ pinsAt fp s5.heap) hd q6).run A n s₀ _ _ _ _ id id m6 σ6 H6 s6 (gl _) hn ⟨⟨H₀, ⟨s9, es9, hΦ⟩, hl.trans (l5.trans l6), I6⟩, hm6, rs6, ow5⟩ fun n' i' s₀' ρ' m' σ' H' s' hn' r' l' iv' => ?_
      obtain ⟨H₀', hst', hl', I'⟩ := r'.ex
      refine seg_again rfl ?_
      have I'' : L2.Inv (gx G.X s₀' H₀') ((G.cp s₀' ++ ip) ++ pinsAt fp s5.heap) σ' H' s' := by rw [List.append_assoc]; exact I'
      refine ih (k + 1) (by omega) n' i' s₀' ρ' m' σ' H' s' hn' ⟨⟨H₀', hst', hl', I''.unpinned⟩, r'.hm, r'.rs, r.ow⟩ ?_ (T.keep _ _ _ t5 fun b hb o e => (I''.pin (b, o) (List.mem_append_right _ (List.mem_append_right _ (mem_pinsAt hb e)))).1) (fun b hb => ?_) iv'
      · exact hl2.trans (l5.trans (l6.trans l'))
      · obtain ⟨o, e, d⟩ := T.obj _ _ t5 b hb
        exact (I''.pin (b, o) (List.mem_append_right _ (List.mem_append_right _ (mem_pinsAt hb e)))).2.1
  exact loop es'.length 0 (by omega) n i s₀ ρ m2 σ H2 s2 hn ⟨⟨H₀, hst, hl.trans l2, I2⟩, hm2, r.rs.later l2, r.ow⟩ Later.refl t2 (fun b hb => (f2 b hb).1) h0⟩
end
end Slp
/-! G8: statements ahead that hand out nothing; the body of a def. -/
namespace Slp
open PySem PySem.Spec PyProof.Rows L2 Ab GenW
theorem execs_app_wrap {env : Env} {K : Flow → Sem PySem.Fin} {J : Value → Sem PySem.Fin} {gd : Bool → Bool} {lv : List Value → List Value} (b : List Stmt) : ∀ (a : List Stmt), (execs (a ++ b) env).wrap K J gd lv =
    (execs a env).wrap (fun f => match f with | .next => (execs b env).wrap K J gd lv | f => K f) J gd lv
  | [] => rfl
  | st :: a => by
    rw [List.cons_append, execs_cons_wrap, execs_cons_wrap]
    refine Sem.wrap_congr _ _ _ (fun f => ?_) fun _ => rfl
    cases f with
    | next => exact execs_app_wrap b a
    | brk => rfl
    | cont => rfl
    | ret v => rfl
section
variable {G : Gen} {pr rest : List Stmt} {ip : List (Addr × Obj)} {i : Nat} {ρ : Rho} {nx : Nat → Rho → Prop}
theorem AYs.pre (F : G.Fit) (h : ∀ s₀ H₀ m, ASs (gx G.X s₀ H₀) pr ρ m { nx := fun ρ' m' => m' = m ∧ AYs G rest ip i ρ' nx, rt := fun _ _ => False }) : AYs G (pr ++ rest) ip i ρ nx := ⟨fun A n s₀ c fs K J gd lv m σ H s g hn r k => by
  obtain ⟨H₀, hst, hl, I⟩ := r.ex
  rw [execs_app_wrap]
  refine seg_wrap ?_
  rw [g.over]
  have z := (h s₀ H₀ m).run σ H ⟨r.hm, r.rs⟩ (G.cp s₀ ++ ip) s I
  rw [xe_gx F.xe] at z
  refine wpAny_mono z (fun f s' hf => ?_) fun _ _ q => q.elim
  cases f with
  | next =>
    obtain ⟨σ', H', I', ρ', m', hm', l', rs', e, q⟩ := hf
    subst e
    exact q.run A n s₀ c fs K J gd lv m' σ' H' s' g hn ⟨⟨H₀, hst, hl.trans l', I'⟩, hm', rs', r.ow⟩ fun n2 i2 s2 ρ2 m2 σ2 H2 t2 hn2 r2 l2 => k n2 i2 s2 ρ2 m2 σ2 H2 t2 hn2 r2 (l'.trans l2)
  | brk => obtain ⟨_, _, _, _, _, _, _, _, q⟩ := hf; exact q.elim
  | cont => obtain ⟨_, _, _, _, _, _, _, _, q⟩ := hf; exact q.elim
  | ret u => obtain ⟨_, _, _, _, _, _, _, _, _, _, q⟩ := hf; exact q.elim⟩
/-- a generator's body, from its first waking -/
theorem seg_body {body : List Stmt} {A : Around} {m : Mu} {σ : L2.St} {H : Hp} {s : Shared} (hA : (A.over (.func body G.X.env) []) = G.X.A) (h : AYs G body [] 0 ρ fun i _ => i = G.ds.length)
    (r : G.Run s 0 [] ρ m σ H s) : Seg (model G.X.prog G.X.w) A G.R G.Y (G.ds.length + 1) s (.func body G.X.env) ((model G.X.prog G.X.w).den (.func body G.X.env)) [] s := by
  refine seg_func ?_
  refine h.run A (G.ds.length + 1) s _ [] _ _ id id m σ H s ⟨hA, rfl, rfl, rfl⟩ (Nat.add_zero _) r fun n' i' s₀' ρ' m' σ' H' s' hn' r' l' e => ?_
  subst e
  refine seg_end (.ok (.ret .none)) (.inl ⟨.inl rfl, ?_⟩)
  obtain ⟨H₀, hst, hl, I⟩ := r'.ex
  exact ⟨m', H', [], σ', H₀, by omega, hst, hl, I, r'.hm⟩
end
end Slp
/-! G9: the call of a generator def. -/
namespace Slp
open PySem PySem.Spec PyProof.Rows L2 Ab GenW
/-- the context of a generator def's body; no exception leaves it -/
def gcx (P : Program) (w : World) (K : PySem.W.Frag) (mg : Str → Option Value) (base : Heap) (N : List Str) (qual : Str) (scope : Scope) (f : Addr) (cd : Value) (A : Around) (outer : List Env) (s : Shared) (H : Hp) : Cx :=
  { gcxOf P w K mg base N qual scope f cd A outer s H (fun _ _ _ => False) [] with xe := fun _ _ => False }
/-- what the call gives: it has not begun; its frame stands -/
structure GBorn (P : Program) (w : World) (K : PySem.W.Frag) (mg : Str → Option Value) (base : Heap) (N : List Str) (qual : Str) (scope : Scope) (body : List Stmt) (f : Addr) (cd : Value) (outer : List Env) (vs : List V) (s : Shared) (H : Hp) (a : Addr) (g : Nat) (s' : Shared) : Prop where
  lt : s.heap.objs.size < a
  top : s'.heap.objs.size = a + 1
  gen : s'.heap.IsGen a g
  at' : s'.gens[g]? = some (.fresh (.func body (envOfC qual scope s.heap.objs.size f cd)))
  new : s.gens.size ≤ g
  keeps : Keeps s s'
  os : s'.os = s.os
  bare : AllBare s'.gens
  kept : ∀ b o, s.heap.get? b = some o → s'.heap.get? b = some o
  inv : ∀ (j : Nat) (A : Around), Room j A → A.frames = some outer → Inv (gcxOf P w K mg base N qual scope f cd A outer s H (fun _ _ _ => False) []) [] (start N vs) H s'
theorem gen_call {P : Program} {w : World} {K : PySem.W.Frag} {mg : Str → Option Value} {base : Heap} {k : Nat} {f : Addr} {name qual : Str} {params : Arguments} {body : List Stmt} {scope : Scope} {dV kV doc pm cdv ct oc : Value} {an od : Option Addr}
    {osl : Array (Option Value)} {N ps : List Str} (lk : K.lookup f = some ⟨oc, od, .func (PySem.W.fnOf name qual params body scope dV kV doc pm an cdv ct), osl⟩) (hcd : PySem.W.codeIn K cdv qual = true) (S : GScope N ps scope)
    {A : Around} {outer : List Env} {s : Shared} {H : Hp} {args : Args} {us : List Value} {vs : List V} (hr : Room (k + 1) A) (e0 : Env0 P w K mg base A outer s H) (hb : BindsTo s (PySem.W.fnOf name qual params body scope dV kV doc pm an cdv ct) args (ps.zip us)) (r : Vals vs us) (hl : vs.length = ps.length) :
    codeAny (model P w) A (.call (.ref f) args) (fun r s' => match r with | .ok (.ret u) => ∃ a g, u = .ref a ∧ GBorn P w K mg base N qual scope body f cdv outer vs s H a g s' | _ => False) s := by
  have KX : K.In s.heap := e0.mod.kin.keeps fun b o e => (e0.bs b o e).1
  have lim : s.heap.NoLimit := e0.mod.nolimit.keeps fun b o e => (e0.bs b o e).1
  have hkind : ∀ y ∈ ps.zip us, scope.names.lookup y.1 = some .local ∨ (scope.names.lookup y.1 = some .cell ∧ ((cellsFrom (s.heap.objs.size + 1) scope.names []).lookup y.1).isSome = true) := fun ⟨n, v⟩ hy => by
    rcases S.par n (List.of_mem_zip hy).1 with q | q
    · exact .inl q
    · exact .inr ⟨q, PySem.W.cellsFrom_some _ _ _ (.inl q)⟩
  refine codeAny_call_generator hr.depth (KX _ _ lk) rfl S.co S.gen rfl (PySem.W.codeRec_of KX hcd) (hb _ _ _ _ ?_)
  refine wpAny_newFunctionEnv_cells S.kind hkind fun env he s1 x => ?_
  subst he
  have lim1 : s1.heap.NoLimit := lim.keeps x.toInCall.keep
  refine ⟨lim1, ?_⟩
  obtain ⟨h1, tk, es1, hk1⟩ := x.done
  have os1 : s1.os = s.os := by rw [es1]
  have gen1 : s1.gens = s.gens := by rw [es1]
  have lt1 : s.heap.objs.size < s1.heap.objs.size := x.toInCall.ns.lt
  have kp1 : ∀ b o, s.heap.get? b = some o → s1.heap.get? b = some o := x.toInCall.keep
  have main : ∀ (go : Obj) (nm qn : Value) (tk2 : Nat), go.cls = .type "generator" → go.data = .fields #[.int s1.gens.size 0, nm, qn] → go.slots = #[] → (∀ h : Heap, (h.push go).get? h.objs.size = some go) →
      ∃ a g, Value.ref s1.heap.objs.size = .ref a ∧ GBorn P w K mg base N qual scope body f cdv outer vs s H a g { s1 with gens := s1.gens.push (.fresh (.func body (envOfC qual scope s.heap.objs.size f cdv))), toks := tk2, heap := s1.heap.push go } := by
    intro go nm qn tk2 hgc hgd0 hgs hgp
    have hba : AllBare (s1.gens.push (.fresh (.func body (envOfC qual scope s.heap.objs.size f cdv)))) := AllBare.push (by rw [gen1]; exact e0.bare) rfl
    have kp2 : ∀ b o, s1.heap.get? b = some o → (s1.heap.push go).get? b = some o := fun b o e => Heap.get?_push_of_some _ e
    refine ⟨s1.heap.objs.size, s1.gens.size, rfl, ?_⟩
    refine { lt := lt1, top := ?_, gen := ⟨go, nm, qn, hgp _, hgc, hgd0, hgs⟩, at' := Array.getElem?_push_size .., new := ?_, keeps := ?_, os := os1, bare := hba, kept := fun b o e => kp2 b o (kp1 b o e), inv := ?_ }
    · exact Heap.size_push _ _
    · rw [gen1]; exact Nat.le_refl _
    · intro i st e hs
      show (s1.gens.push _)[i]? = some st
      rw [gen1]
      have hi := (Array.getElem?_eq_some_iff.mp e).1
      rw [Array.getElem?_push_lt hi]
      rw [Array.getElem?_eq_getElem hi] at e
      exact e
    · intro j Aw hrw hfr
      have e0w : Env0 P w K mg base Aw outer s H := ⟨hfr, e0.mod, e0.bs, e0.bsz, e0.funs, e0.frf, e0.hok, e0.bare⟩
      have I1 : Inv (gcxOf P w K mg base N qual scope f cdv Aw outer s H (fun _ _ _ => False) []) [] (start N vs) H s1 := inv_startG S hrw.hd e0w hl r x
      exact I1.call' (ch := []) rfl (Un.kept kp2) (I1.hok.kept kp2) hba fun b z => by simp at z
  exact main _ _ _ _ rfl rfl rfl fun h => Heap.get?_push_size _ rfl
end Slp
/-! G10: from the call of a generator def to its first waking. -/
namespace Slp
open PySem PySem.Spec PyProof.Rows L2 Ab GenW
section
variable {P : Program} {w : World} {K : PySem.W.Frag} {mg : Str → Option Value} {base : Heap} {N : List Str} {qual : Str} {scope : Scope} {body : List Stmt} {f : Addr} {cd : Value} {outer : List Env} {vs : List V} {s s' : Shared} {H : Hp} {a : Addr} {g : Nat}
theorem gst_born (B : GBorn P w K mg base N qual scope body f cd outer vs s H a g s') {j : Nat} {A : Around} (hr : Room j A) (hf : A.frames = some outer) : GSt (gcx P w K mg base N qual scope f cd A outer s H) := by
  have I := B.inv j A hr hf
  refine ⟨I.ok.mod, I.ok.kind, I.ok.glob, I.ok.blt, I.ok.inj, I.ok.has, fun x c h => I.ok.cab x c rfl h, fun _ => hr.hd, I.ok.frames, ⟨rfl, rfl⟩, fun b hb => ?_, I.ok.bsz⟩
  obtain ⟨_, o, e, _⟩ := I.ok.funs.mem hb
  exact Heap.lt_size e
/-- its own frame's objects stand in s2 as in s' -/
theorem born_run {G : Gen} {A : Around} {j : Nat} {m : Mu} {H2 : Hp} {s2 : Shared} {ρ : Rho} (hX : G.X = gcx P w K mg base N qual scope f cd A outer s H) (F : G.Fit) (B : GBorn P w K mg base N qual scope body f cd outer vs s H a g s') (hr : Room j A) (hf : A.frames = some outer)
    (hΦ : G.Φ 0 m H2 s2) (sd : Stand G.X [] s' H2 s2) (rs : RS K (dom m) H2 ρ (start N vs)) : G.Run (s2.setGen G.g .running) 0 [] ρ m (start N vs) H2 (s2.setGen G.g .running) := by
  have gr := F.ground _ _ _ _ hΦ
  have I := B.inv j A hr hf
  refine ⟨⟨H2, ⟨s2, rfl, hΦ⟩, Later.refl, ?_⟩, F.hm _ _ _ _ hΦ, by rw [hX]; exact rs, fun p hp => by cases hp⟩
  refine inv_woken (X0 := gcxOf P w K mg base N qual scope f cd A outer s H (fun _ _ _ => False) []) (s := s2.setGen G.g .running) (s1 := s') F.st { sz := gr.sz, bs := gr.bs, funs := gr.funs, frf := gr.frf, hok := gr.hok, bare := allBare_setGen gr.bare rfl } (by rw [hX]; rfl) (by rw [hX]; rfl) I sd.loc sd.cell sd.free sd.freeC fun p hp => ?_
  rcases List.mem_append.mp hp with hp | hp
  · obtain ⟨hb, e⟩ := of_pinsAt hp
    obtain ⟨o, q1, q2⟩ := F.cp _ _ _ _ hΦ p.1 hb
    have e2 : s2.heap.get? p.1 = some p.2 := e
    have e3 : s2.heap.get? p.1 = some o := q1
    rw [e2] at e3
    cases e3
    exact ⟨e2, q2⟩
  · cases hp
/-- it may be woken -/
theorem born_goes {G : Gen} {A : Around} {j : Nat} {m : Mu} {H2 : Hp} {s2 : Shared} {ρ : Rho} (hX : G.X = gcx P w K mg base N qual scope f cd A outer s H) (F : G.Fit) (B : GBorn P w K mg base N qual scope body f cd outer vs s H a g s') (hr : Room j A) (hf : A.frames = some outer)
    (hΦ : G.Φ 0 m H2 s2) (sd : Stand G.X [] s' H2 s2) (rs : RS K (dom m) H2 ρ (start N vs)) (h : AYs G body [] 0 ρ fun i _ => i = G.ds.length) :
    (GenState.fresh (.func body (envOfC qual scope s.heap.objs.size f cd))).Goes (model P w) A G.R G.Y (G.ds.length + 1) (.send .none) (s2.setGen G.g .running) := by
  have r := born_run hX F B hr hf hΦ sd rs
  have z := seg_body (A := A) (by rw [hX]; exact over_func) h r
  rw [hX] at z
  exact ⟨rfl, z⟩
end
end Slp
/-! G11: next of a generator, by the consumer. -/
namespace Slp
open PySem PySem.Spec PyProof.Rows L2 Ab GenW
open Sem (wp)
/-- waking: behind a yield it sleeps -/
theorem wake_slp {M : Model} {A : Around} {R : GenEnd} {Y : Protocol} {n : Nat} {E : Value → Shared → Prop} {s : Shared} {g : Nat} {gs : GenState} {r : Resume} {l : List Value} {α : Type} {k : GenResult → Sem α} {Q : α → Shared → Prop}
    (hg : s.gens[g]? = some gs) (hgo : gs.Goes M A R Y n r (s.setGen g .running)) (hR : ∀ x s₁, R n (s.setGen g .running) x s₁ → wpAny M A (k (End.ret x).result) Q E (s₁.setGen g .finished))
    (hY : ∀ v s₁ gs', gs'.bare = true → gs'.status = .suspended → Y (n - 1) (s.setGen g .running) v s₁ (fun r' s'' => match n with | 0 => False | m + 1 => gs'.Goes M A R Y m r' s'') → wpAny M A (k (.yielded v)) Q E (s₁.setGen g gs')) : wpAny M A (.resume g r l k) Q E s := fun Γ p hΓ => by
  have both : ∀ en sn, SegEnd R Y n (Seg.next M A R Y n) (s.setGen g .running) en sn → en.quiet = true ∧ wp M Γ (k en.result) (fun a _ z => Q a z) (fun x _ z => E x z) p (sn.setGen g en.genState) := fun en sn he => by
    cases en with
    | ret x => exact ⟨rfl, hR x sn he Γ p hΓ⟩
    | susp v _ _ _ _ _ _ =>
      refine ⟨he.1, hY v sn _ (End.bare_of_quiet he.1) rfl ?_ Γ p hΓ⟩
      cases n <;> exact he.2
  rw [Sem.wp_resume]
  cases gs with
  | running => exact hgo.elim
  | finished => exact hgo.elim
  | fresh c =>
    have h2 := hgo.2
    have h1 := hgo.1
    subst h1
    obtain ⟨en, sn, hr, he⟩ := seg_iff.mp h2 (Γ.wake c p) p rfl (hΓ.wake c p)
    exact ⟨_, _, by unfold Wakes; rw [hg]; exact ⟨en, sn, hr, (both en sn he).1, rfl, rfl⟩, (both en sn he).2⟩
  | suspended kz lz cz pz fz clz =>
    obtain ⟨en, sn, hr, he⟩ := seg_iff.mp hgo (Γ.wake cz p) pz rfl (hΓ.wake cz p)
    exact ⟨_, _, by unfold Wakes; rw [hg]; exact ⟨en, sn, hr, (both en sn he).1, rfl, rfl⟩, (both en sn he).2⟩
/-- the generator sleeps at item i; what it handed out; how it may be woken again -/
structure Out (G : Gen) (A : Around) (i n : Nat) (s₀ : Shared) (gs' : GenState) (v : Value) (d : D) (m : Mu) (H : Hp) (s₁ : Shared) : Prop where
  bare : gs'.bare = true
  slp : gs'.status = .suspended
  get : G.ds[i]? = some d
  ex : ∃ H₀ ip σ x, G.Start i m H₀ s₀ ∧ Later m H₀ m H ∧ Inv (gx G.X s₀ H₀) (G.cp s₀ ++ ip) σ H s₁ ∧ Rep G.X.K (dom m) H d x ∧ L2.RelV x v ∧ (∀ p ∈ ip, Own0 G.X G.ca p.1) ∧
    ∀ s' H' m', G.Φ (i + 1) m' H' s' → Later m H m' H' → Stand G.X ip s₁ H' s' → gs'.Goes (model G.X.prog G.X.w) A.in1 G.R G.Y (n - 1) (.send .none) (s'.setGen G.g .running)
  hm : HM G.X.K m H
theorem gen_next {G : Gen} {A : Around} {a : Addr} {n i : Nat} {gs : GenState} {s : Shared} {Q : Option Value → Shared → Prop} {E : Value → Shared → Prop} (hh : A.handled = none) (hl : s.heap.NoLimit) (hroom : A.depth < recursionLimit) (hg : s.heap.IsGen a G.g) (hgs : s.gens[G.g]? = some gs)
    (hgo : gs.Goes (model G.X.prog G.X.w) A.in1 G.R G.Y n (.send .none) (s.setGen G.g .running)) (hn : n + i = G.ds.length + 1)
    (hY : ∀ v s₁ gs' d m H, Out G A i n (s.setGen G.g .running) gs' v d m H s₁ → Q (some v) (s₁.setGen G.g gs'))
    (hP : ∀ s₁ m H₀ H ip σ, i = G.ds.length → G.Start i m H₀ (s.setGen G.g .running) → Later m H₀ m H → Inv (gx G.X (s.setGen G.g .running) H₀) (G.cp (s.setGen G.g .running) ++ ip) σ H s₁ → HM G.X.K m H → ∀ h', (∀ b o, s₁.heap.get? b = some o → h'.get? b = some o) → Q none { s₁.setGen G.g .finished with heap := h' }) :
    wpAny (model G.X.prog G.X.w) A (pyNext (.ref a)) Q E s := by
  unfold pyNext
  refine wpAny_bind (wpAny_attempt (wpAny_callSpecial?_slot (name := Str.ofString "__next__") hg.typeIs slot_gen_next (wpAny_call_entry slot_gen_next hg.typeIs entry_gen_next ?_ (args_gen_next _))))
  show wpAny _ A.in1 (Builtin.Generator.genWake (.ref a) (.send .none)) _ _ s
  unfold Builtin.Generator.genWake
  refine wpAny_bind (wpAny_holding (wpAny_genNumber hg (wpAny_bind (wpAny_genState hgs ?_))))
  have go : ∀ {α : Type} {k : GenResult → Sem α} {Q' : α → Shared → Prop} {E' : Value → Shared → Prop} {l : List Value}, (∀ x s₁, G.R n (s.setGen G.g .running) x s₁ → wpAny (model G.X.prog G.X.w) A.in1 (k (End.ret x).result) Q' E' (s₁.setGen G.g .finished)) →
      (∀ v s₁ gs', gs'.bare = true → gs'.status = .suspended → G.Y (n - 1) (s.setGen G.g .running) v s₁ (fun r' s'' => match n with | 0 => False | m + 1 => gs'.Goes (model G.X.prog G.X.w) A.in1 G.R G.Y m r' s'') → wpAny (model G.X.prog G.X.w) A.in1 (k (.yielded v)) Q' E' (s₁.setGen G.g gs')) →
      wpAny (model G.X.prog G.X.w) A.in1 (.resume G.g (.send .none) l k) Q' E' s := fun h1 h2 => wake_slp hgs hgo h1 h2
  have yl : ∀ v s₁ gs', gs'.bare = true → gs'.status = .suspended → G.Y (n - 1) (s.setGen G.g .running) v s₁ (fun r' s'' => match n with | 0 => False | m + 1 => gs'.Goes (model G.X.prog G.X.w) A.in1 G.R G.Y m r' s'') → Q (some v) (s₁.setGen G.g gs') := fun v s₁ gs' hb hs hv => by
    obtain ⟨i', d, m, H, x, ip, σ, H₀, hn', hd, hst, hl', I, hm, rd, rv, ow, cont⟩ := hv
    have hlt : i' < G.ds.length := (List.getElem?_eq_some_iff.mp hd).1
    have e : i' = i := by omega
    subst e
    refine hY v s₁ gs' d m H ⟨hb, hs, hd, ⟨H₀, ip, σ, x, hst, hl', I, rd, rv, ow, fun s' H' m' h1 h2 h3 => ?_⟩, hm⟩
    have z := cont s' H' m' h1 h2 h3
    cases n with
    | zero => exact z.elim
    | succ n => exact z
  have en : ∀ s₁, G.F n (s.setGen G.g .running) s₁ → ∀ h', (∀ b o, s₁.heap.get? b = some o → h'.get? b = some o) → Q none { s₁.setGen G.g .finished with heap := h' } := fun s₁ hp h' hk => by
    obtain ⟨m, H, ip, σ, H₀, hn', hst, hl', I, hm⟩ := hp
    have e : i = G.ds.length := by omega
    rw [e] at hP
    exact hP s₁ m H₀ H ip σ rfl hst hl' I hm h' hk
  cases gs with
  | running => exact hgo.elim
  | finished => exact hgo.elim
  | _ =>
    refine wpAny_bind (wpAny_roomToWake hl hroom ?_)
    show wpAny _ A.in1 (.resume G.g (.send .none) [] _) _ _ s
    refine go (fun x s₁ hx => ?_) (fun v s₁ gs' hb hsl hv => wpAny_pure ⟨v, rfl, wpAny_pure (yl v s₁ gs' hb hsl hv)⟩)
    rcases hx with ⟨hr, hp⟩ | ⟨e, rfl, he⟩
    · have hres : (End.ret x).result = .returned .none := by rcases hr with hr | hr <;> rw [hr] <;> rfl
      first | rw [hres] | simp only [hres]
      show wpAny _ A.in1 (newExc (.type "StopIteration") [] >>= _) _ _ _
      refine wpAny_bind ?_
      simp only [newExc, newTuple]
      refine wpAny_bind (wpAny_newObj_type ?_ (by size_fits))
      refine wpAny_bind (m := firstArgMember _ _) (wpAny_of_eq (a := Value.none) (by first | rfl | (simp only [firstArgMember]; rfl)) ?_)
      refine wpAny_newObj_type ?_ (by size_fits)
      simp only [raiseNew]
      refine wpAny_bind (wpAny_bind (wpAny_handled ?_))
      first | rw [show A.in1.handled = none from hh] | rw [hh]
      refine wpAny_throw (wpAny_bind (wpAny_isInstance (T := "StopIteration") (b := true) ⟨_, Heap.get?_push_size _ rfl, rfl⟩ isSubtype_stop ?_))
      exact wpAny_pure (en s₁ hp _ fun b o hb => Heap.get?_push_of_some _ (Heap.get?_push_of_some _ hb))
    · exact he.elim
end Slp
/-! G12: the consumer's invariant over a segment. -/
namespace Slp
open PySem PySem.Spec PyProof.Rows L2 Ab GenW
open Classical in
/-- what a segment may have changed -/
noncomputable def Gen.ch (G : Gen) (s₀ : Shared) (H₀ : Hp) : List Addr := (List.range s₀.heap.objs.size).filter fun b => decide (G.X.env.locals ≤ b ∧ b ∉ G.ca ∧ H₀ b = none)
theorem Gen.ch_mem {G : Gen} {s₀ : Shared} {H₀ : Hp} {b : Addr} : b ∈ G.ch s₀ H₀ ↔ b < s₀.heap.objs.size ∧ G.X.env.locals ≤ b ∧ b ∉ G.ca ∧ H₀ b = none := by
  unfold Gen.ch
  rw [List.mem_filter, List.mem_range, decide_eq_true_iff]
theorem un_seg {G : Gen} {m : Mu} {s₀ s₁ : Shared} {H₀ H' : Hp} {σ : L2.St} {ip : List (Addr × Obj)} (hl : Later m H₀ m H') (hm : HM G.X.K m H') (I : Inv (gx G.X s₀ H₀) (G.cp s₀ ++ ip) σ H' s₁) : Un (frs G.X.outer) (G.ch s₀ H₀) H₀ H' s₀.heap s₁.heap := by
  have side : ∀ {b : Addr} {o : Obj}, s₀.heap.get? b = some o → H₀ b = none → b ∉ G.ch s₀ H₀ → b < G.X.env.locals ∨ (G.X.env.locals ≤ b ∧ s₁.heap.get? b = some o ∧ H' b = none ∧ b ∉ frs G.X.outer) := fun {b o} e n hb => by
    by_cases lt : b < G.X.env.locals
    · exact .inl lt
    · refine .inr ⟨Nat.le_of_not_lt lt, ?_⟩
      have hc : b ∈ G.ca := Classical.byContradiction fun z => hb (Gen.ch_mem.mpr ⟨Heap.lt_size e, Nat.le_of_not_lt lt, z, n⟩)
      obtain ⟨h1, h2, _, h4, _⟩ := I.pin (b, o) (List.mem_append_right _ (List.mem_append_left _ (mem_pinsAt hc e)))
      exact ⟨h1, h2, h4⟩
  have B : Un (frs G.X.outer) [] H₀ H' (trunc s₀.heap G.X.env.locals) s₁.heap := I.base
  have no : ∀ b : Addr, b ∉ ([] : List Addr) := fun b hb => by cases hb
  have hok : HOk G.X.prog G.X.w H' s₁.heap := I.hok
  refine ⟨fun b o e n hf hc => ?_, fun b o e n hf hc => ?_, fun b o e n hc => ?_, fun b o e hc => ?_, B.tups, B.frzs, B.tbls⟩
  · rcases side e n hc with lt | ⟨_, q, _, _⟩
    · exact B.keep b o ((trunc_lt lt).trans e) n hf (no b)
    · exact q
  · rcases side e n hc with lt | ⟨_, q, _, z⟩
    · exact B.slot b o ((trunc_lt lt).trans e) n hf (no b)
    · exact absurd hf z
  · rcases side e n hc with lt | ⟨_, _, q, _⟩
    · exact B.free b o ((trunc_lt lt).trans e) n (no b)
    · exact q
  · cases n : H₀ b with
    | none =>
      rcases side e n hc with lt | ⟨_, q, _, _⟩
      · exact B.there b o ((trunc_lt lt).trans e) (no b)
      · exact ⟨o, q⟩
    | some u =>
      have st : ∃ u', H' b = some u' := by
        by_cases d : dom m b
        · exact hm.there d
        · exact let ⟨o2, e2, _⟩ := hl b u d n; ⟨o2, e2⟩
      obtain ⟨u', e'⟩ := st
      cases q : s₁.heap.get? b with
      | none => rw [hok.gone q] at e'; cases e'
      | some o' => exact ⟨o', rfl⟩
/-- the consumer's own places: older than the generator's frame, or protected -/
structure Safe (G : Gen) (X : Cx) (pins : List (Addr × Obj)) : Prop where
  out : G.X.outer = X.stack
  prog : G.X.prog = X.prog
  w : G.X.w = X.w
  base : G.X.base = X.base
  ex : ∀ i m H s, G.Φ i m H s → ∀ b, G.X.env.locals ≤ b → b ∉ G.ca → H b = none → b ∈ X.ex ∨ X.s_0.heap.objs.size ≤ b
  loc : X.env.locals < G.X.env.locals ∨ X.env.locals ∈ G.ca
  cell : ∀ x c, X.env.cells.lookup x = some c → c < G.X.env.locals ∨ c ∈ G.ca
  pin : ∀ p ∈ X.pn ++ pins, p.1 < G.X.env.locals ∨ p.1 ∈ G.ca
  nca : G.X.env.locals ∉ G.ca
theorem inv_back {G : Gen} {X : Cx} {pins : List (Addr × Obj)} {i : Nat} {m : Mu} {s₀ s₁ s2 : Shared} {H₀ H' : Hp} {σ σg : L2.St} {ip : List (Addr × Obj)} (Sf : Safe G X pins) (st : G.Start i m H₀ s₀) (hl : Later m H₀ m H') (hm : HM G.X.K m H') (I : Inv X pins σ H₀ s₀) (J : Inv (gx G.X s₀ H₀) (G.cp s₀ ++ ip) σg H' s₁)
    (hh : ∀ b o, s₁.heap.get? b = some o → s2.heap.get? b = some o) (ho : s2.os = s₁.os) (hb : AllBare s2.gens) : Inv X pins σ H' s2 := by
  have u := un_seg hl hm J
  rw [Sf.out] at u
  have hok : HOk X.prog X.w H' s₁.heap := by rw [← Sf.prog, ← Sf.w]; exact J.hok
  have no : ∀ {b c : Addr}, b ∈ G.ch s₀ H₀ → (c < G.X.env.locals ∨ c ∈ G.ca) → c ≠ b := fun {b c} hb hc e => by
    subst e
    obtain ⟨_, h1, h2, _⟩ := Gen.ch_mem.mp hb
    rcases hc with hc | hc
    · exact absurd (Nat.lt_of_lt_of_le hc h1) (Nat.lt_irrefl _)
    · exact h2 hc
  obtain ⟨sb, _, hΦ⟩ := st
  refine I.call' (ch := G.ch s₀ H₀) (ho.trans J.os) (u.trans (Un.kept hh)) (hok.kept hh) hb fun b hb' => ?_
  obtain ⟨_, h1, h2, h3⟩ := Gen.ch_mem.mp hb'
  exact ⟨Sf.ex _ _ _ _ hΦ b h1 h2 h3, (no hb' Sf.loc).symm, fun x c e => no hb' (Sf.cell x c e), fun p hp => no hb' (Sf.pin p hp)⟩
end Slp
/-! G13: a waking's ground from the consumer's invariant; the frame's objects as the consumer's pins. -/
namespace Slp
open PySem PySem.Spec PyProof.Rows L2 Ab GenW
theorem ground_of {G : Gen} {X : Cx} {pins : List (Addr × Obj)} {s : Shared} {H : Hp} {σ : L2.St} (Sf : Safe G X pins) (I : Inv X pins σ H s) (hz : G.X.env.locals ≤ s.heap.objs.size) : Ground G.X s H where
  sz := hz
  bs := fun b o e => I.env0.bs b o (by rw [Sf.base] at e; exact e)
  funs := by rw [Sf.base, Sf.out]; exact I.env0.funs
  frf := by rw [Sf.out]; exact I.env0.frf
  hok := by rw [Sf.prog, Sf.w]; exact I.hok
  bare := I.bare
/-- the sleeping generator's own places, as they stand (its def has no cells) -/
def Gen.own (G : Gen) (ip : List (Addr × Obj)) (h : Heap) : List (Addr × Obj) := pinsAt [G.X.env.locals] h ++ ip
/-- .. may be pinned by the consumer -/
theorem own_pins {G : Gen} {X : Cx} {pins ip : List (Addr × Obj)} {s₀ s₁ s2 : Shared} {H₀ H' : Hp} {σ σg : L2.St} (Sf : Safe G X pins) (S : GSt G.X) (I : Inv X pins σ H' s2) (J : Inv (gx G.X s₀ H₀) (G.cp s₀ ++ ip) σg H' s₁) (hh : s2.heap = s₁.heap) (ow : ∀ p ∈ ip, Own0 G.X G.ca p.1) :
    Inv X (pins ++ G.own ip s₁.heap) σ H' s2 := by
  have fs : ∀ b ∈ X.fs, b ∈ frs G.X.outer ∨ b ∈ X.fs := fun b hb => .inr hb
  have sub : ∀ b ∈ X.fs, b ∈ frs G.X.outer := fun b hb => by
    rw [Sf.out]
    rcases I.ok.stk with e | ⟨e, hf⟩
    · rw [e]; exact hb
    · rw [e]
      unfold frs
      rw [List.filterMap_cons, hf]
      exact List.mem_cons_of_mem _ hb
  refine I.pins_of fun p hp => ?_
  rcases List.mem_append.mp hp with hp | hp
  · exact I.pin p (List.mem_append_right _ hp)
  rcases List.mem_append.mp hp with hp | hp
  · obtain ⟨hb, e⟩ := of_pinsAt hp
    have hb := List.mem_singleton.mp hb
    obtain ⟨mm, ⟨oL, es, ep, ho, hdat, _⟩, _⟩ := J.loc
    have ho : s₁.heap.get? G.X.env.locals = some oL := ho
    rw [hb] at e ⊢
    rw [e] at ho
    have eo : p.2 = oL := Option.some.inj ho
    refine ⟨by rw [hh]; exact e, J.free, fun z => ?_, fun z => ?_, fun v z2 => ?_⟩
    · rcases Sf.loc with l | l
      · rw [← z] at l; exact absurd l (Nat.lt_irrefl _)
      · rw [← z] at l; exact Sf.nca l
    · exact absurd (S.low _ (sub _ z)) (Nat.lt_irrefl _)
    · rw [eo, hdat] at z2; cases z2
  · obtain ⟨o1, o2, o3, o4⟩ := ow p hp
    obtain ⟨h1, h2, _, _, h5⟩ := J.pin p (List.mem_append_right _ (List.mem_append_right _ hp))
    refine ⟨by rw [hh]; exact h1, h2, fun z => ?_, fun z => o2 (sub _ z), h5⟩
    rcases Sf.loc with l | l
    · rw [← z] at l; exact absurd (Nat.lt_of_lt_of_le l o3) (Nat.lt_irrefl _)
    · rw [← z] at l; exact o4 l
theorem stand_of {G : Gen} {X : Cx} {pins ip : List (Addr × Obj)} {s s' : Shared} {H' : Hp} {σ : L2.St} (Sf : Safe G X pins) (I : Inv X (pins ++ G.own ip s.heap) σ H' s') (ow : ∀ p ∈ ip, Own0 G.X G.ca p.1) (hl : ∃ o, s.heap.get? G.X.env.locals = some o) (hc : G.X.env.cells = []) : Stand G.X ip s H' s' := by
  have nc : ∀ {x : Str} {c : Addr}, G.X.env.cells.lookup x = some c → False := fun {x c} e => by rw [hc] at e; cases e
  obtain ⟨o, e⟩ := hl
  have at' := I.pin (G.X.env.locals, o) (List.mem_append_right _ (List.mem_append_right _ (List.mem_append_left _ (mem_pinsAt (List.mem_singleton.mpr rfl) e))))
  refine ⟨fun o' e' => ?_, fun x c hx => (nc hx).elim, at'.2.1, fun x c hx => (nc hx).elim, fun p hp => ?_⟩
  · rw [e] at e'; cases e'; exact at'.1
  · obtain ⟨h1, h2, _, _, h5⟩ := I.pin p (List.mem_append_right _ (List.mem_append_right _ (List.mem_append_right _ hp)))
    obtain ⟨o1, o2, _, _⟩ := ow p hp
    exact ⟨h1, h2, o1, o2, h5⟩
end Slp
/-! G14: a consumer's call of a generator def. -/
namespace Slp
open PySem PySem.Spec PyProof.Rows L2 Ab GenW
/-- a generator def of the program -/
structure GD (K : PySem.W.Frag) (f : Addr) (ps N : List Str) (qual : Str) (scope : Scope) (body : List Stmt) (cd : Value) : Prop where
  ex : ∃ (name : Str) (params : Arguments) (dV kV doc pm ct oc : Value) (an od : Option Addr) (osl : Array (Option Value)), K.lookup f = some ⟨oc, od, .func (PySem.W.fnOf name qual params body scope dV kV doc pm an cd ct), osl⟩ ∧ Binds K (PySem.W.fnOf name qual params body scope dV kV doc pm an cd ct) ps []
  code : PySem.W.codeIn K cd qual = true
  sc : GScope N ps scope
  nc : ∀ n, cellsFrom n scope.names [] = []
section
variable {X : Cx} {pins : List (Addr × Obj)} {σ : L2.St} {H : Hp} {s : Shared} {k : Nat} {f : Addr} {ps N : List Str} {qual : Str} {scope : Scope} {body : List Stmt} {cd : Value}
theorem gmake (Df : GD X.K f ps N qual scope body cd) (hr : Room (k + 1) X.A) (I : Inv X pins σ H s) {us : List Value} {vs : List V} (r : Vals vs us) (hl : vs.length = ps.length) {E : Value → Shared → Prop} :
    wpAny (model X.prog X.w) X.A (call (.ref f) us) (fun u s1 => ∃ a g, u = .ref a ∧ GBorn X.prog X.w X.K X.mg X.base N qual scope body f cd X.stack vs s H a g s1 ∧ Inv X pins σ H s1) E s := by
  obtain ⟨name, params, dV, kV, doc, pm, ct, oc, an, od, osl, lk, hb⟩ := Df.ex
  have hb' := hb s us I.kIn (by rw [List.append_nil, ← r.length]; exact hl)
  rw [List.append_nil] at hb'
  refine wpAny_call (codeAny_mono (gen_call lk Df.code Df.sc hr I.env0 hb' r hl) fun r s' hq => ?_)
  cases r with
  | error e => exact hq.elim
  | ok fl =>
    cases fl with
    | ret u =>
      obtain ⟨a, g, e, B⟩ := hq
      exact ⟨a, g, e, B, I.call' (ch := []) B.os (Un.kept B.kept) (I.hok.kept B.kept) B.bare fun b z => by simp at z⟩
    | next => exact hq.elim
    | brk => exact hq.elim
    | cont => exact hq.elim
end
end Slp
/-! G15: expressions that make a generator. -/
namespace Slp
open PySem PySem.Spec PyProof.Rows L2 Ab GenW
/-- a generator def of the program, as one thing -/
structure GK where
  f : Addr
  ps : List Str
  N : List Str
  qual : Str
  scope : Scope
  body : List Stmt
  cd : Value
abbrev GK.Ok (g : GK) (K : PySem.W.Frag) : Prop := GD K g.f g.ps g.N g.qual g.scope g.body g.cd
abbrev GK.Born (d : GK) (X : Cx) (vs : List V) (s : Shared) (H : Hp) (a : Addr) (g : Nat) (s' : Shared) : Prop := GBorn X.prog X.w X.K X.mg X.base d.N d.qual d.scope d.body d.f d.cd X.stack vs s H a g s'
/-- e makes a generator of d; Q: of its arguments -/
structure AK (X : Cx) (d : GK) (e : Expr) (ρ : Rho) (m : Mu) (Q : List D → Prop) : Prop where
  run : ∀ σ H, SR X.K ρ m σ H → ∀ pins s, Inv X pins σ H s → wpAny (model X.prog X.w) X.A (eval e X.env) (fun u s1 => ∃ ds vs H1 sc a g, u = .ref a ∧ d.Born X vs sc H1 a g s1 ∧ Inv X pins σ H1 sc ∧ Inv X pins σ H1 s1 ∧ HM X.K m H1 ∧ Later m H m H1 ∧ Reps X.K (dom m) H1 ds vs ∧ Q ds) X.xe s
section
variable {X : Cx} {fb : FB} {k j : Nat} {ρ : Rho} {m : Mu} {e o : Expr} {es : List Expr} {x nm : Str} {p pos apos : Pos} {C : Addr} {d : GK} {Q : List D → Prop}
theorem AK.call (Df : d.Ok X.K) (hx : XF X fb k) (hj : j + 1 ≤ k) (hg : fb.glb x = true) (hm : X.mg x = some (.ref d.f)) (hk : PySem.W.keepIn X.K (.ref d.f) = true) (h : AA X (e :: es) ρ m fun ds m1 => m1 = m ∧ ds.length = d.ps.length ∧ Q ds)
    (hdb : (x == ("__debug__" : Str)) = false := by decide +kernel) (he : starEach (e :: es) X.env = (false, eval e X.env) :: starEach es X.env := by rfl) (hpl : (backTo pos (starEach es X.env)).any (·.1) = false := by rfl) : AK X d (.Call (.Name x p) (e :: es) [] pos) ρ m Q := .mk fun σ H S pins s I => by
  refine wpAny_Call_Name_kw (ld_glob I (hx.glb x hg) hm ?_ hdb)
  refine PySem.W.callWith_K (h₀ := X.base) I.ok.mod.kin hk (thn (h σ H S pos pins s I) fun us s1 ⟨vs, H1, I1, r, ds, m1, hm1, l1, r1, em, el, q1⟩ => ⟨I1.kIn, ?_⟩) he hpl
  subst em
  exact wpAny_mono (gmake Df (hx.room.mono hj) I1 r (by rw [← r1.length]; exact el) (E := X.xe)) (fun u s2 ⟨a, g, e, B, I2⟩ => ⟨ds, vs, H1, s1, a, g, e, B, I1, I2, hm1, l1, r1, q1⟩) fun _ _ z => z
theorem AK.meth0 {pl : Sem Bool} (c : Cls X.K C) (hm : Meth X.K C nm d.f) (Df : d.Ok X.K) (hx : XF X fb k) (hj : j + 1 ≤ k) (hps : d.ps.length = 1)
    (h : AE X o ρ m fun dd m1 => m1 = m ∧ ∃ fs, IsI m1 dd C fs ∧ fs.lookup nm = none ∧ Q [dd])
    (ht : eval (.Call (.Attribute o nm apos) [] [] pos) X.env = (do let ov ← eval o X.env; standAt apos.atName; let (f, first) ← holding [ov] (getMethod ov nm pl); callWith pos f first (backTo pos (starEach [] X.env)) (backToKw pos (keywordEach [] X.env))) := by rfl) :
    AK X d (.Call (.Attribute o nm apos) [] [] pos) ρ m Q := .mk fun σ H S pins s I => by
  refine PySem.W.methodCall_KW (pl := pl) (thn (h σ H S pins s I) fun u s1 ⟨x, H1, I1, rx, dd, m1, hm1, l1, r1, em, fs, hi, hl, q1⟩ => ?_) ht
  subst em
  obtain ⟨a, dx, gs, ex, ea, eg, rg⟩ := hi.at hm1 r1
  subst ex
  obtain rfl : u = Value.ref a := rx
  refine getmeth_ok I1 ea c hm (lookup_no eg hl) ?_
  exact PySem.W.callWith_K0 (first := [.ref a]) I1.kIn hm.kp (wpAny_mono (gmake Df (hx.room.mono hj) I1 (us := [.ref a]) (vs := [.ref a]) (.cons rfl .nil) hps.symm (E := X.xe)) (fun u s2 ⟨a', g, e, B, I2⟩ => ⟨[dd], _, H1, s1, a', g, e, B, I1, I2, hm1, l1, .cons r1 .nil, q1⟩) fun _ _ z => z)
end
end Slp
/-! G16: a generator def's promise. -/
namespace Slp
open PySem PySem.Spec PyProof.Rows L2 Ab GenW
/-- of the arguments ds it hands out es -/
structure YLaw (P : Program) (w : World) (K : PySem.W.Frag) (mg : Str → Option Value) (base : Heap) (j : Nat) (d : GK) (asp : List D → List D → Prop) : Prop where
  ok : d.Ok K
  run : ∀ ds es, asp ds es → ds.length = d.ps.length ∧ ∃ ρ, (∀ m H vs, Reps K (dom m) H ds vs → RS K (dom m) H ρ (start d.N vs)) ∧
    ∀ (G : Gen) (A : Around) (outer : List Env) (s : Shared) (H : Hp), G.X = gcx P w K mg base d.N d.qual d.scope d.f d.cd A outer s H → Room j G.X.A → G.Fit → G.ds = es → AYs G d.body [] 0 ρ fun i _ => i = G.ds.length
end Slp
/-! G17: a generator and its consumer: one step. -/
namespace Slp
open PySem PySem.Spec PyProof.Rows L2 Ab GenW
/-- the consumer between two wakings -/
def PhiC (X : Cx) (pins : List (Addr × Obj)) (Θ : Nat → L2.St → Mu → Hp → Prop) (i : Nat) (m : Mu) (H : Hp) (s : Shared) : Prop := ∃ σ, Inv X pins σ H s ∧ HM X.K m H ∧ Θ i σ m H
def genC (X : Cx) (d : GK) (pins : List (Addr × Obj)) (sc : Shared) (H1 : Hp) (g : Nat) (ca : List Addr) (Θ : Nat → L2.St → Mu → Hp → Prop) (es : List D) (As : Around) : Gen where
  X := gcx X.prog X.w X.K X.mg X.base d.N d.qual d.scope d.f d.cd As X.stack sc H1
  g := g
  ca := ca
  Φ := PhiC X pins Θ
  ds := es
section
variable {X : Cx} {d : GK} {pins : List (Addr × Obj)} {vs : List V} {sc : Shared} {H1 : Hp} {a : Addr} {g : Nat} {s1 : Shared} {go : Obj} {ca : List Addr} {Θ : Nat → L2.St → Mu → Hp → Prop} {es : List D} {As : Around}
theorem fit_c {j : Nat} (B : d.Born X vs sc H1 a g s1) (hr : Room j As) (hf : As.frames = some X.stack) (Sf : Safe (genC X d pins sc H1 g ca Θ es As) X pins) (hpin : (a, go) ∈ pins) (hca : ∀ b ∈ ca, ∃ o, (b, o) ∈ pins ∨ (b = X.env.locals ∧ b ∉ frs X.stack)) (hlt : ∀ b ∈ ca, sc.heap.objs.size < b) :
    (genC X d pins sc H1 g ca Θ es As).Fit where
  st := gst_born B hr hf
  xe := rfl
  ground := fun i m H s ⟨σ, I, _, _⟩ => ground_of Sf I (by
    have e := (I.pin (a, go) (List.mem_append_right _ hpin)).1
    exact Nat.le_of_lt (Nat.lt_trans B.lt (Heap.lt_size e)))
  hm := fun i m H s ⟨σ, I, h, _⟩ => h
  cp := fun i m H s ⟨σ, I, _, _⟩ b hb => by
    obtain ⟨o, h | ⟨h, hn⟩⟩ := hca b hb
    · obtain ⟨h1, h2, h3, h4, h5⟩ := I.pin (b, o) (List.mem_append_right _ h)
      refine ⟨o, h1, h2, Nat.ne_of_gt (hlt b hb), fun z => ?_, h5⟩
      rcases List.mem_cons.mp (I.stkSub b z) with q | q
      · exact h3 q
      · exact h4 q
    · obtain ⟨mm, ⟨oL, es', ep, ho, hdat, _⟩, _⟩ := I.loc
      refine ⟨oL, by rw [h]; exact ho, by rw [h]; exact I.free, Nat.ne_of_gt (hlt b hb), hn, fun v z => ?_⟩
      have z : oL.data = .cell v := z
      rw [hdat] at z; cases z
/-- the state between two turns: it sleeps, n to come, i out -/
structure Sleeps (X : Cx) (G : Gen) (Aw : Around) (n i : Nat) (s : Shared) : Prop where
  sum : n + i = G.ds.length + 1
  φ : ∃ m H, G.Φ i m H s
  gen : ∃ gs, s.gens[G.g]? = some gs ∧ gs.Goes (model X.prog X.w) Aw G.R G.Y n (.send .none) (s.setGen G.g .running)
/-- behind a waking that handed out d: what stands, and how one goes on -/
structure Woke (X : Cx) (G : Gen) (pins : List (Addr × Obj)) (Θ : Nat → L2.St → Mu → Hp → Prop) (Aw : Around) (n i : Nat) (u : Value) (s : Shared) : Prop where
  lt : i < G.ds.length
  ex : ∃ d x σ m H₀ H pl, G.ds[i]? = some d ∧ Θ i σ m H₀ ∧ Later m H₀ m H ∧ HM X.K m H ∧ Rep X.K (dom m) H d x ∧ L2.RelV x u ∧ Inv X (pins ++ pl) σ H s ∧
    ∀ s' H' m' σ', Inv X (pins ++ pl) σ' H' s' → HM X.K m' H' → Later m H m' H' → Θ (i + 1) σ' m' H' → Keeps s s' → ∃ n', n = n' + 1 ∧ Sleeps X G Aw n' (i + 1) s'
theorem step_c {A : Around} {Q : Option Value → Shared → Prop} {E : Value → Shared → Prop} {n i : Nat} {s : Shared} {G : Gen} (hG : G.Φ = PhiC X pins Θ) (hK : G.X.K = X.K) (hP : G.X.prog = X.prog) (hw : G.X.w = X.w) (F : G.Fit) (Sf : Safe G X pins) (hcell : G.X.env.cells = []) (hpin : (a, go) ∈ pins)
    (hgo : ∃ nm qn, go.cls = .type "generator" ∧ go.data = .fields #[.int G.g 0, nm, qn] ∧ go.slots = #[]) (hh : A.handled = none) (hroom : A.depth < recursionLimit) (S : Sleeps X G A.in1 n i s)
    (item : ∀ u s', Woke X G pins Θ A.in1 n i u s' → Q (some u) s') (done : i = G.ds.length → ∀ s' σ m H₀ H, Θ i σ m H₀ → Later m H₀ m H → HM X.K m H → Inv X pins σ H s' → Q none s') : wpAny (model X.prog X.w) A (pyNext (.ref a)) Q E s := by
  obtain ⟨gs, hgs, goes⟩ := S.gen
  obtain ⟨m9, H9, hΦ⟩ := S.φ
  rw [hG] at hΦ
  obtain ⟨σ9, I9, hm9, θ9⟩ := hΦ
  have ha := I9.pin (a, go) (List.mem_append_right _ hpin)
  obtain ⟨nm, qn, hg1, hg2, hg3⟩ := hgo
  have back : ∀ {i m H₀ s₀}, G.Start i m H₀ s₀ → s₀.gens.size = s₀.gens.size → ∃ σ, Inv X pins σ H₀ s₀ ∧ HM X.K m H₀ ∧ Θ i σ m H₀ := fun {i m H₀ s₀} ⟨sb, e, h⟩ _ => by
    rw [hG] at h
    obtain ⟨σ, I, hm, θ⟩ := h
    subst e
    exact ⟨σ, inv_gens I (allBare_setGen I.bare rfl), hm, θ⟩
  rw [← hP, ← hw]
  rw [← hP, ← hw] at goes
  have hgl : G.g < s.gens.size := (Array.getElem?_eq_some_iff.mp hgs).1
  refine wpAny_gsz (n := G.g + 1) hgl (gen_next hh I9.nolimit hroom ⟨go, nm, qn, ha.1, hg1, hg2, hg3⟩ hgs goes S.sum (fun v s₁ gs' d m H O hsz => ?_) fun s₁ m H₀ H ip σg ei st hl J hm h' hk _ => ?_)
  · obtain ⟨H₀, ip, σg, x, st, hl, J, rd, rv, ow, cont⟩ := O.ex
    obtain ⟨σ, I, hm0, θ⟩ := back st rfl
    have hm' : HM X.K m H := hK ▸ O.hm
    have I2 : Inv X pins σ H (s₁.setGen G.g gs') := inv_back Sf st hl O.hm I J (fun b o e => e) rfl (allBare_setGen J.bare O.bare)
    have I3 := own_pins (s2 := s₁.setGen G.g gs') Sf F.st I2 J rfl ow
    have lt : i < G.ds.length := (List.getElem?_eq_some_iff.mp O.get).1
    refine item v _ ⟨lt, d, x, σ, m, H₀, H, G.own ip s₁.heap, O.get, θ, hl, hm', hK ▸ rd, rv, I3, fun s' H' m' σ' I' hm2 l2 θ2 kp => ?_⟩
    have hn := S.sum
    cases n with
    | zero => omega
    | succ n =>
      have hΦ' : G.Φ (i + 1) m' H' s' := by rw [hG]; exact ⟨σ', I'.unpinned, hm2, θ2⟩
      have sd : Stand G.X ip s₁ H' s' := stand_of (s := s₁) Sf I' ow (by
        obtain ⟨mm, ⟨oL, es', ep, ho, _⟩, _⟩ := J.loc
        exact ⟨oL, ho⟩) hcell
      have z := cont s' H' m' hΦ' l2 sd
      refine ⟨n, rfl, by omega, ⟨m', H', hΦ'⟩, gs', kp _ _ ?_ O.slp, by rw [← hP, ← hw]; exact z⟩
      have hz : G.g < s₁.gens.size := by
        have q : (s₁.setGen G.g gs').gens.size = s₁.gens.size := setGen_size _ _ _
        have hsz' : G.g + 1 ≤ (s₁.setGen G.g gs').gens.size := hsz
        omega
      exact setGen_at hz
  · obtain ⟨σ, I, hm0, θ⟩ := back st rfl
    have I2 : Inv X pins σ H { s₁.setGen G.g .finished with heap := h' } := inv_back Sf st hl hm I J hk rfl (allBare_setGen J.bare rfl)
    exact done ei _ σ m H₀ H θ hl (hK ▸ hm) I2
end
end Slp
/-! G18: for over a generator. -/
namespace Slp
open PySem PySem.Spec PyProof.Rows L2 Ab GenW
section
variable {X : Cx} {d : GK} {pins : List (Addr × Obj)} {vs : List V} {sc : Shared} {H1 : Hp} {a : Addr} {g : Nat} {s1 : Shared} {go : Obj} {σ : L2.St}
/-- a generator that was just made: its object may be pinned -/
theorem born_pin (B : d.Born X vs sc H1 a g s1) (Ic : Inv X pins σ H1 sc) (I1 : Inv X pins σ H1 s1) (h1 : s1.heap.get? a = some go) (h2 : ∀ v, go.data ≠ .cell v) : Inv X (pins ++ [(a, go)]) σ H1 s1 := I1.pins_of fun p hp => by
  rcases List.mem_append.mp hp with hp | hp
  · exact I1.pin p (List.mem_append_right _ hp)
  · obtain rfl := List.mem_singleton.mp hp
    exact ⟨h1, Ic.hok.fresh (Nat.le_of_lt B.lt), Nat.ne_of_gt (Nat.lt_trans Ic.lt B.lt), Ic.nofs (Nat.le_of_lt B.lt), h2⟩
/-- it sleeps, nothing is out -/
theorem born_sleeps {G : Gen} {j k : Nat} {asp : List D → List D → Prop} {ds : List D} {As : Around} {m : Mu} (Y : YLaw X.prog X.w X.K X.mg X.base j d asp) (hX : G.X = gcx X.prog X.w X.K X.mg X.base d.N d.qual d.scope d.f d.cd As X.stack sc H1) (hg : G.g = g) (F : G.Fit) (hr : Room (j + 1) As) (hf : As.frames = some X.stack)
    (B : d.Born X vs sc H1 a g s1) (Ic : Inv X pins σ H1 sc) (hasp : asp ds G.ds) (rs : Reps X.K (dom m) H1 ds vs) (hΦ : G.Φ 0 m H1 s1) : Sleeps X G As (G.ds.length + 1) 0 s1 := by
  obtain ⟨hlen, ρ0, hρ0, body⟩ := Y.run ds G.ds hasp
  have eL : G.X.env.locals = sc.heap.objs.size := by rw [hX]; rfl
  have eC : G.X.env.cells = [] := by rw [hX]; exact Y.ok.nc _
  have hA : G.X.A = As.deeper (envOfC d.qual d.scope sc.heap.objs.size d.f d.cd) := by rw [hX]; rfl
  have sd : Stand G.X [] s1 H1 s1 := ⟨fun o e => e, fun x c hx o e => e, by rw [eL]; exact Ic.hok.fresh (Nat.le_refl _), fun x c hx => (by rw [eC] at hx; cases hx), fun p hp => (by cases hp)⟩
  have bd := body G As X.stack sc H1 hX (by rw [hA]; exact hr.deeper _) F rfl
  refine ⟨rfl, ⟨m, H1, hΦ⟩, _, by rw [hg]; exact B.at', ?_⟩
  exact born_goes hX F B hr hf hΦ sd (hρ0 m H1 vs rs) bd
end
section
variable {X : Cx} {fb : FB} {k j : Nat} {d : GK} {ρ : Rho} {m : Mu} {tg iter : Expr} {body : List Stmt} {pos : Pos} {asp : List D → List D → Prop} {D' : AEnds}
theorem AS.forG (hx : XF X fb k) (hxe : X.xe = fun _ _ => False) (Y : YLaw X.prog X.w X.K X.mg X.base j d asp) (hj : j + 2 ≤ k)
    (h : AK X d iter ρ m fun ds => ∃ es, asp ds es ∧ ∃ Iv : Nat → Rho → Mu → Prop, Iv 0 ρ m ∧
      (∀ i dd ρ' m', es[i]? = some dd → Iv i ρ' m' → AG X tg dd ρ' m' fun ρ2 m2 => ASs X body ρ2 m2 { D' with nx := Iv (i + 1), ct := Iv (i + 1), bk := D'.nx }) ∧ ∀ ρ' m', Iv es.length ρ' m' → D'.nx ρ' m')
    (hs : ∀ x, foldedSetIterable iter X.env x = pure x := by intro _; rfl) : AS X (.For tg iter body [] pos) ρ m D' := .mk fun σ H S pins s I => by
  refine wpAny_For (thn (h.run σ H S pins s I) fun v s1 hv => ?_) hs
  obtain ⟨ds, vs, H1, sc, a, g, ev, B, Ic, I1, hm1, l1, rds, es, hasp, Iv, iv0, turn, fin⟩ := hv
  subst ev
  refine wpAny_pyIter_gen B.gen ?_
  obtain ⟨go, nm, qn, hgo0, hgc, hgd, hgs⟩ := B.gen
  have I1' := born_pin B Ic I1 hgo0 (fun v z => by rw [hgd] at z; cases z)
  let Θ : Nat → L2.St → Mu → Hp → Prop := fun i σ' m' H' => ∃ ρ', RS X.K (dom m') H' ρ' σ' ∧ Iv i ρ' m' ∧ Later m H m' H'
  let G : Gen := genC X d (pins ++ [(a, go)]) sc H1 g [a] Θ es X.A.in1
  have r1 : Room (j + 1) X.A.in1 := (hx.room.mono hj).in1
  have Sf : Safe G X (pins ++ [(a, go)]) := {
    out := rfl, prog := rfl, w := rfl, base := rfl
    ex := fun i m H s _ b hb _ _ => .inr (Nat.le_trans Ic.sz hb)
    loc := .inl Ic.lt
    cell := fun x c e => .inl (let ⟨v, q⟩ := Ic.cell x c e; q.lt)
    pin := fun p hp => by
      rw [← List.append_assoc] at hp
      rcases List.mem_append.mp hp with hp | hp
      · exact .inl (Heap.lt_size (Ic.pin p hp).1)
      · obtain rfl := List.mem_singleton.mp hp
        exact .inr (List.mem_singleton.mpr rfl)
    nca := fun z => absurd B.lt (by have z' : sc.heap.objs.size = a := List.mem_singleton.mp z; rw [z']; exact Nat.lt_irrefl _) }
  have hpin : (a, go) ∈ pins ++ [(a, go)] := List.mem_append_right _ (List.mem_singleton.mpr rfl)
  have F : G.Fit := fit_c B r1 Ic.ok.frames Sf hpin (fun b hb => ⟨go, .inl (by rw [List.mem_singleton.mp hb]; exact hpin)⟩) fun b hb => by rw [List.mem_singleton.mp hb]; exact B.lt
  have hp : PassesOwn (model X.prog X.w) X.A X.env X.xe := by rw [hxe]; exact PassesOwn.never
  have S0 : Sleeps X G X.A.in1 (es.length + 1) 0 s1 := born_sleeps (G := G) (k := k) (pins := pins) Y rfl rfl F r1 Ic.ok.frames B Ic hasp rds ⟨σ, I1', hm1, ρ, S.rs.later l1, iv0, l1⟩
  refine codeAny_forLoop_any (fun n s' => ∃ i, Sleeps X G X.A.in1 n i s') ?_ (es.length + 1) ⟨0, S0⟩
  rintro n s2 ⟨i, S2⟩
  refine wpAny_passesOwn hp (step_c (G := G) (pins := pins ++ [(a, go)]) (Θ := Θ) (go := go) rfl rfl rfl rfl F Sf (Y.ok.nc _) hpin ⟨nm, qn, hgc, hgd, hgs⟩ hx.room.hd hx.room.depth S2 (fun u s3 W => ?_) fun ei s3 σ3 m3 H0 H3 θ l3 hm3 I3 => ?_)
  · obtain ⟨dd, x, σ3, m3, H0, H3, pl, hdd, ⟨ρ3, rs3, iv3, l03⟩, l3, hm3, rd, ru, I3, cont⟩ := W.ex
    have ho := (I3.pin (a, go) (List.mem_append_right _ (List.mem_append_left _ hpin))).1
    refine wpAny_passesOwn hp (go_of ho hgc hgd rfl ?_)
    have bind := (turn i dd ρ3 m3 hdd iv3).run x σ3 H3 ⟨hm3, rs3.later l3⟩ rd
    refine wpAny_passesOwn hp (thnF (wg_beside hxe bind I3 ru) fun _ s4 ⟨⟨σ4, H4, I4, ρ4, m4, hm4, l4, rs4, q4⟩, k4⟩ => ?_)
    refine wpAny_passesOwn hp (thnF (wss_beside hxe (q4.run σ4 H4 ⟨hm4, rs4⟩) I4) fun f s5 ⟨q5, k5⟩ => ?_)
    have lg : Later m H m4 H4 := l03.trans (l3.trans l4)
    have again : ∀ {σ5 : L2.St} {H5 : Hp}, Inv X ((pins ++ [(a, go)]) ++ pl) σ5 H5 s5 → PostS X.K m4 H4 (Iv (i + 1)) σ5 H5 → ∃ mm, mm < n ∧ ∃ i, Sleeps X G X.A.in1 mm i s5 := fun {σ5 H5} I5 ⟨ρ5, m5, hm5, l5, rs5, iv5⟩ => by
      obtain ⟨n', en, S5⟩ := cont s5 H5 m5 σ5 I5 hm5 (l4.trans l5) ⟨ρ5, rs5, iv5, lg.trans l5⟩ (k4.trans k5)
      exact ⟨n', by omega, i + 1, S5⟩
    cases f with
    | next => obtain ⟨σ5, H5, I5, q⟩ := q5; exact again I5 q
    | cont => obtain ⟨σ5, H5, I5, q⟩ := q5; exact again I5 q
    | brk =>
      obtain ⟨σ5, H5, I5, q⟩ := q5
      exact ⟨σ5, H5, I5.unpinned.unpinned, PostS.from lg q⟩
    | ret v =>
      obtain ⟨x5, σ5, H5, I5, r5, q⟩ := q5
      exact ⟨x5, σ5, H5, I5.unpinned.unpinned, r5, Post.from lg q⟩
  · obtain ⟨ρ3, rs3, iv3, l03⟩ := θ
    rw [ei] at iv3
    exact wpAny_execs_nil ⟨σ3, H3, I3.unpinned, ρ3, m3, hm3, l03.trans l3, rs3.later l3, fin _ _ iv3⟩
end
end Slp
/-! G19: a list comprehension over a generator. -/
namespace Slp
open PySem PySem.Spec PyProof.Rows L2 Ab GenW
section
variable {X : Cx} {fb : FB} {k j : Nat} {d : GK} {ρ : Rho} {m : Mu} {tg iter elt : Expr} {ifs : List Expr} {scope sc : Scope} {pos : Pos} {asp : List D → List D → Prop} {own : List (Str × Nat)} {g : TG} {gr : D → Rho → Mu → (Rho → Prop) → Prop}
/-- what the turn of a comprehension over es asks -/
def LcG (X : Cx) (scope : Scope) (ifs : List Expr) (elt : Expr) (own : List (Str × Nat)) (gr : D → Rho → Mu → (Rho → Prop) → Prop) (ρ : Rho) (m : Mu) (es : List D) (Q : QD) : Prop :=
  ∃ I : Nat → List D → Mu → Prop, I 0 [] m ∧
    (∀ i dd out mi a, es[i]? = some dd → I i out mi → mi a = none → gr dd (wipeR ρ (own.map (·.2))) (updM mi a (.lst out)) fun ρ2 => ABT X scope ifs ρ2 (updM mi a (.lst out)) fun b m3 =>
      (b = true → ABE X scope elt ρ2 m3 fun r m4 => out.length < sizeLine ∧ ∃ mj, m4 = updM mj a (.lst out) ∧ mj a = none ∧ I (i + 1) (out ++ [r]) mj) ∧ (b = false → ∃ mj, m3 = updM mj a (.lst out) ∧ mj a = none ∧ I (i + 1) out mj)) ∧
    ∀ out mj a, mj a = none → I es.length out mj → Q (.ref a) (updM mj a (.lst out))
theorem lcg_core (hx : XF X fb k) (Y : YLaw X.prog X.w X.K X.mg X.base j d asp) (hj : j + 2 ≤ k) (hok : BlkOk X.N X.env.scope scope own) (T : CTg X tg scope own g gr) (hnc : ∀ y ∈ scope.names, y.2 ≠ .cell) {Q : QD} (hs : ∀ x, foldedSetIterable iter X.env x = pure x)
    (h : AK X d iter ρ m fun ds => ∃ es, asp ds es ∧ LcG X scope ifs elt own gr ρ m es Q) {σ : L2.St} {H : Hp} (S : SR X.K ρ m σ H) {pins : List (Addr × Obj)} {s : Shared} (I : Inv X pins σ H s) {use : Option (Value → Sem Unit)} {Qf : Value → Shared → Prop} {pos' : Pos}
    (hRR : ∀ Da C s' mm H', Inv X pins σ H' s' → Post X.K m H Q (.ref Da) H' → s'.heap.Ns C mm → FpOk X pins H' C → compPost (model X.prog X.w) X.A X.xe use Qf (.ref Da) C (.ok .next) s') :
    wpAny (model X.prog X.w) X.A (comprehension (.ListComp elt [⟨tg, iter, ifs, 0⟩] scope pos) scope X.env pos' (newList []) false (eval iter X.env) use) Qf X.xe s := by
  have hfree : ∀ y ∈ scope.names, y.2 = .free → ∃ c, X.env.cells.lookup y.1 = some c := fun y hy e => (hok.free y hy e).elim (fun z => I.ok.has _ (.inl z)) fun z => I.ok.has _ (.inr z)
  refine wpAny_comprehension_free (use := use) rfl hs (closure_ok hfree) hok.kind (fun y hy e => by rw [hok.uniq y hy, e]) (thn (h.run σ H S pins s I) fun xv s1 hv => ?_)
  obtain ⟨ds, vs, H1, sb, a, gn, ev, B, Ic, I1, hm1, l1, rds, es, hasp, Iv, iv0, turn, fin⟩ := hv
  subst ev
  refine wpAny_pyIter_gen B.gen ?_
  obtain ⟨go, nm, qn, hgo0, hgc, hgd, hgs⟩ := B.gen
  refine wpAny_newObj_type (newEnv_comp ?_) (by show 0 ≤ sizeLine; decide)
  obtain ⟨Da, hD⟩ : ∃ Da, Da = s1.heap.objs.size := ⟨_, rfl⟩
  rw [← hD]
  have hDn : H1 Da = none := I1.hok.fresh (Nat.le_of_eq hD.symm)
  have mD : m Da = none := hm1.fresh hDn
  generalize hs3 : ({ s1 with heap := s1.heap.push { cls := .type "list", data := .seq ([] : List Value).toArray } } : Shared) = s3
  have h3 : s3.heap = s1.heap.push { cls := .type "list", data := .seq ([] : List Value).toArray } := by rw [← hs3]
  have z3 : s3.heap.objs.size = Da + 1 := by rw [h3, Heap.size_push, ← hD]
  have I3 : Inv X pins σ (upd H1 Da (.lst [])) s3 := by
    rw [← hs3]
    refine I1.laid (t' := s1.toks) (fun b o e => Heap.get?_push_of_some _ e) (Nat.le_of_eq hD.symm) ⟨Nat.zero_le _, [], 0, .nil, ?_⟩
    rw [hD]
    exact Heap.get?_push_size _ rfl
  -- what may turn: all between the generator's frame and the list, but its object
  let fp : List Addr := (List.range s1.heap.objs.size).filter fun b => decide (sb.heap.objs.size ≤ b) && decide (b ≠ a)
  have fpm : ∀ {b}, b ∈ fp ↔ b < s1.heap.objs.size ∧ sb.heap.objs.size ≤ b ∧ b ≠ a := fun {b} => by
    show b ∈ List.filter _ _ ↔ _
    rw [List.mem_filter, List.mem_range, Bool.and_eq_true, decide_eq_true_iff, decide_eq_true_iff]
  have f3 : ∀ b ∈ fp, FpOk X pins (upd H1 Da (.lst [])) b ∧ b < s3.heap.objs.size := fun b hb => by
    obtain ⟨q1, q2, q3⟩ := fpm.mp hb
    exact ⟨Ic.fpOk q2 (by rw [upd_ne (by rw [hD]; exact Nat.ne_of_lt q1)]; exact Ic.hok.fresh q2), by rw [z3, hD]; exact Nat.lt_succ_of_lt q1⟩
  have I4 := block_start I3 hok hx.nd f3
  have pg := T.pg s3 (upd H1 Da (.lst [])) s3.heap.objs.size (cellsFrom (s3.heap.objs.size + 1) scope.names (cloFrom X.env.cells scope.names [])) fp
  have pt := ptB (X := X) (ifs := ifs) (s := s3) (H := upd H1 Da (.lst [])) (C := s3.heap.objs.size) (cl := cellsFrom (s3.heap.objs.size + 1) scope.names (cloFrom X.env.cells scope.names [])) (fp := fp) (scope := scope)
  have pe := peB (X := X) (e := elt) (s := s3) (H := upd H1 Da (.lst [])) (C := s3.heap.objs.size) (cl := cellsFrom (s3.heap.objs.size + 1) scope.names (cloFrom X.env.cells scope.names [])) (fp := fp) (scope := scope)
  show codeAny _ _ (.compStart (.ListComp elt [⟨tg, iter, ifs, 0⟩] scope pos) 0 (.ref a) (.ref Da) (compEnvC scope (cellsFrom (s3.heap.objs.size + 1) scope.names (cloFrom X.env.cells scope.names [])) s3.heap.objs.size X.env)) (compPost (model X.prog X.w) X.A X.xe use Qf (.ref Da) s3.heap.objs.size) { s3 with heap := pushCells (s3.heap.push { cls := .type "dict", data := .dict #[] }) scope.names }
  generalize hce : compEnvC scope (cellsFrom (s3.heap.objs.size + 1) scope.names (cloFrom X.env.cells scope.names [])) s3.heap.objs.size X.env = ce at I4 pg pt pe ⊢
  have cL : ce.locals = s3.heap.objs.size := by subst hce; rfl
  have cC : ∀ x c, ce.cells.lookup x = some c → c < sb.heap.objs.size := fun x c e => by
    subst hce
    have e : (cellsFrom (s3.heap.objs.size + 1) scope.names (cloFrom X.env.cells scope.names [])).lookup x = some c := e
    rw [← Heap.size_push s3.heap { cls := .type "dict", data := .dict #[] }] at e
    rcases cells_mem (PySem.mem_of_lookup e) with hm | ⟨h1, _, _⟩
    · rcases cloFrom_mem hm with hm | ⟨h1, e2⟩
      · cases hm
      · obtain ⟨c', hc'⟩ := hfree _ h1 rfl
        rw [hc'] at e2
        obtain ⟨v, q⟩ := Ic.cell _ _ hc'
        rw [e2]; exact q.lt
    · exact absurd rfl (hnc _ h1)
  generalize hH3 : upd H1 Da (.lst []) = H3 at I3 I4 pg pt pe f3
  generalize hs4 : ({ s3 with heap := pushCells (s3.heap.push { cls := .type "dict", data := .dict #[] }) scope.names } : Shared) = s4 at I4 ⊢
  have kp4 : ∀ b o, s1.heap.get? b = some o → s4.heap.get? b = some o := fun b o e => by
    rw [← hs4]
    refine pushCells_keeps _ _ _ _ (Heap.get?_push_of_some _ ?_)
    rw [h3]; exact Heap.get?_push_of_some _ e
  have ge4 : s4.gens = s1.gens := by rw [← hs4, ← hs3]
  have aD : a < Da := by rw [hD, B.top]; exact Nat.lt_succ_self _
  have nfs : ∀ b ∈ frs X.stack, b < sb.heap.objs.size := fun b hb => by
    rcases List.mem_cons.mp (Ic.stkSub b hb) with z | z
    · rw [z]; exact Ic.lt
    · exact Nat.lt_of_not_le fun q => Ic.nofs q z
  have m4 : HM X.K (updM m Da (.lst [])) H3 := by rw [← hH3]; exact hm1.put (u := .lst []) (.inl hDn) ⟨[], upd_same, .nil⟩
  have l4 : Later m H1 (updM m Da (.lst [])) H3 := by rw [← hH3]; exact Later.new hDn
  have I4' : Inv (X.blk s3 H3 scope ce fp) [(a, go)] (wipe σ (own.map (·.2))) H3 s4 := I4.pins_of fun p hp => by
    obtain rfl := List.mem_singleton.mp hp
    refine ⟨kp4 _ _ hgo0, by rw [← hH3, upd_ne (Nat.ne_of_lt aD)]; exact Ic.hok.fresh (Nat.le_of_lt B.lt), ?_, fun z => ?_, fun v z => by rw [hgd] at z; cases z⟩
    · show a ≠ ce.locals
      rw [cL, z3]; exact Nat.ne_of_lt (Nat.lt_succ_of_lt aD)
    · exact absurd (Nat.lt_trans (nfs a z) B.lt) (Nat.lt_irrefl _)
  let Xb : Cx := X.blk s3 H3 scope ce fp
  let Θ : Nat → L2.St → Mu → Hp → Prop := fun i σ' m' H' => σ' = wipe σ (own.map (·.2)) ∧ ∃ mi out, m' = updM mi Da (.lst out) ∧ mi Da = none ∧ Iv i out mi ∧ RS X.K (dom m') H' (wipeR ρ (own.map (·.2))) σ' ∧ Later m H m' H'
  let G : Gen := genC Xb d [(a, go)] sb H1 gn [a, s3.heap.objs.size] Θ es X.A.in1
  have r1 : Room (j + 1) X.A.in1 := (hx.room.mono hj).in1
  have hlt : ∀ b ∈ [a, s3.heap.objs.size], sb.heap.objs.size < b := fun b hb => by
    rcases List.mem_cons.mp hb with z | z
    · rw [z]; exact B.lt
    · rw [List.mem_singleton.mp z, z3]; exact Nat.lt_succ_of_lt (Nat.lt_trans B.lt aD)
  have Sf : Safe G Xb [(a, go)] := {
    out := rfl, prog := rfl, w := rfl, base := rfl
    ex := fun i m' H' s' hΦ b hb hca hn => by
      obtain ⟨σ', _, hm', _, mi, out, em, _⟩ := hΦ
      have hb : sb.heap.objs.size ≤ b := hb
      have hca : b ∉ [a, s3.heap.objs.size] := hca
      by_cases hlt : b < Da
      · exact .inl (fpm.mpr ⟨by rw [← hD]; exact hlt, hb, fun z => hca (by rw [z]; exact List.mem_cons_self)⟩)
      · refine .inr ?_
        show s3.heap.objs.size ≤ b
        rw [z3]
        rcases Nat.lt_or_ge Da b with q | q
        · exact q
        · have e : b = Da := Nat.le_antisymm q (Nat.le_of_not_lt hlt)
          obtain ⟨vs', z, _⟩ := hm' Da (.lst out) (by rw [em]; exact updM_same)
          rw [e, z] at hn; cases hn
    loc := .inr (by show ce.locals ∈ [a, s3.heap.objs.size]; rw [cL]; exact List.mem_cons_of_mem _ (List.mem_singleton.mpr rfl))
    cell := fun x c e => .inl (cC x c e)
    pin := fun p hp => .inr (by
      have hp : p ∈ ([] : List (Addr × Obj)) ++ [(a, go)] := hp
      rw [List.nil_append] at hp
      rw [List.mem_singleton.mp hp]; exact List.mem_cons_self)
    nca := fun z => absurd (hlt _ z) (Nat.lt_irrefl _) }
  have hpin : (a, go) ∈ [(a, go)] := List.mem_singleton.mpr rfl
  have F : G.Fit := fit_c (X := Xb) B r1 Ic.ok.frames Sf hpin (fun b hb => by
    rcases List.mem_cons.mp hb with z | z
    · exact ⟨go, .inl (by rw [z]; exact hpin)⟩
    · refine ⟨go, .inr ⟨by rw [List.mem_singleton.mp z]; exact cL.symm, fun q => ?_⟩⟩
      exact absurd (Nat.lt_trans (hlt b hb) (nfs b q)) (Nat.lt_irrefl _)) hlt
  -- it sleeps ahead of the first turn
  have S0 : Sleeps Xb G X.A.in1 (es.length + 1) 0 s4 := by
    obtain ⟨hlen, ρ0, hρ0, body⟩ := Y.run ds es hasp
    have sd : Stand G.X [] s1 H3 s4 := ⟨fun o e => kp4 _ _ e, fun x c hx o e => kp4 _ _ e, by
      show H3 sb.heap.objs.size = none
      rw [← hH3, upd_ne (Nat.ne_of_lt (Nat.lt_trans B.lt aD))]
      exact Ic.hok.fresh (Nat.le_refl _), fun x c hx => (by rw [show G.X.env.cells = [] from Y.ok.nc _] at hx; cases hx), fun p hp => (by cases hp)⟩
    have hΦ : G.Φ 0 (updM m Da (.lst [])) H3 s4 := ⟨_, I4', m4, rfl, m, [], rfl, mD, iv0, wipe_rs (S.rs.later (l1.trans l4)) _, l1.trans l4⟩
    have bd := body G X.A.in1 X.stack sb H1 rfl (r1.deeper _) F rfl
    exact ⟨rfl, ⟨_, _, hΦ⟩, _, by rw [ge4]; exact B.at', born_goes (G := G) rfl F B r1 Ic.ok.frames hΦ sd (hρ0 _ _ vs (l4.reps rds)) bd⟩
  have loop : codeAny (model X.prog X.w) X.A (.compLoop (.ListComp elt [⟨tg, iter, ifs, 0⟩] scope pos) 0 (.ref a) (.ref Da) ce) (compPost (model X.prog X.w) X.A X.xe use Qf (.ref Da) s3.heap.objs.size) s4 := by
    refine compLoop_any (fun n s' => ∃ i, Sleeps Xb G X.A.in1 n i s') ?_ (es.length + 1) ⟨0, S0⟩
    rintro n s5 ⟨i, S5⟩
    refine step_c (X := Xb) (G := G) (pins := [(a, go)]) (Θ := Θ) (go := go) rfl rfl rfl rfl F Sf (Y.ok.nc _) hpin ⟨nm, qn, hgc, hgd, hgs⟩ hx.room.hd hx.room.depth S5 (fun u s6 W => ?_) fun ei s6 σ6 m6 H0 H6 θ l6 hm6 I6 => ?_
    · obtain ⟨dd, x, σ6, m6, H0, H6, pl, hdd, ⟨eσ, mi, out, em, nD, iv, rs6, l06⟩, l6, hm6, rd, ru, I6, cont⟩ := W.ex
      have ho := (I6.pin (a, go) (List.mem_append_right _ (List.mem_append_left _ hpin))).1
      refine go_of ho hgc hgd rfl ?_
      subst em eσ
      have tn := turn i dd out mi Da hdd iv nD
      have lg : Later m H (updM mi Da (.lst out)) H6 := l06.trans l6
      have bind : WG Xb tg x (wipe σ (own.map (·.2))) H6 fun σ7 H7 => wipe σ7 (own.map (·.2)) = wipe σ (own.map (·.2)) ∧ H7 = H6 ∧ ∃ ρ7, RS X.K (dom (updM mi Da (.lst out))) H6 ρ7 σ7 ∧ ABT X scope ifs ρ7 (updM mi Da (.lst out)) fun b m3 =>
          (b = true → ABE X scope elt ρ7 m3 fun r m4 => out.length < sizeLine ∧ ∃ mj, m4 = updM mj Da (.lst out) ∧ mj Da = none ∧ Iv (i + 1) (out ++ [r]) mj) ∧ (b = false → ∃ mj, m3 = updM mj Da (.lst out) ∧ mj Da = none ∧ Iv (i + 1) out mj) := fun pins' s' u' I' r' => by
        refine pg.run pins' s' _ H6 x u' _ I' r' (T.run dd x _ _ _ H6 _ _ hm6 (rs6.later l6) rd tn (wipe_wipe fun _ h => h) fun ρ7 σ7 rs7 ew q7 => ⟨ew, rfl, ρ7, rs7, q7⟩)
      refine thnF (wg_beside (X := Xb) rfl bind I6 ru) fun _ s7 ⟨⟨σ7, H7, I7, ew, eH, ρ7, rs7, q7⟩, k7⟩ => ?_
      subst eH
      -- the tests
      have tests : wpAny (model X.prog X.w) X.A (forIn ifs true fun c r => if r = true then do let ok ← isTrue c ce (eval c ce); pure (ForInStep.yield ok) else pure (ForInStep.yield r)) (fun b s' => (∃ H', Inv Xb ([(a, go)] ++ pl) σ7 H' s' ∧ PostB X.K (updM mi Da (.lst out)) H7 (fun b m3 =>
          (b = true → ABE X scope elt ρ7 m3 fun r m4 => out.length < sizeLine ∧ ∃ mj, m4 = updM mj Da (.lst out) ∧ mj Da = none ∧ Iv (i + 1) (out ++ [r]) mj) ∧ (b = false → ∃ mj, m3 = updM mj Da (.lst out) ∧ mj Da = none ∧ Iv (i + 1) out mj)) b H') ∧ Keeps s7 s') (fun _ _ => False) s7 := by
        refine beside (X := Xb) (fun b s' G' ⟨H', J, q⟩ hb => ⟨H', inv_gens J (hb J.bare), q⟩) ?_
        exact pt.run _ { s7 with gens := s7.gens.map psn } σ7 H7 _ (inv_gens I7 (bare_psn I7.bare)) (abt_w q7 ⟨hm6, rs7⟩ fun b H' q => q)
      refine thnF tests fun b s8 ⟨⟨H8, I8, m8, hm8, l8, q8, q9⟩, k8⟩ => ?_
      have again : ∀ {s' : Shared} {H' : Hp} {mj : Mu} {o2 : List D}, Inv Xb ([(a, go)] ++ pl) σ7 H' s' → HM X.K (updM mj Da (.lst o2)) H' → Later (updM mi Da (.lst out)) H7 (updM mj Da (.lst o2)) H' → mj Da = none → Iv (i + 1) o2 mj → Keeps s6 s' → ∃ mm, mm < n ∧ ∃ i, Sleeps Xb G X.A.in1 mm i s' := fun {s' H' mj o2} J hmj lj nj ivj kj => by
        have lw : (wipe σ (own.map (·.2))).length = σ7.length := by rw [← ew, wipe_length]
        obtain ⟨n', en, S'⟩ := cont s' H' _ (wipe σ (own.map (·.2))) (J.weak lw fun j v e => by rw [← ew] at e; exact (wipe_some e).1) hmj lj ⟨rfl, mj, o2, rfl, nj, ivj, rs6.later (l6.trans lj), lg.trans lj⟩ kj
        exact ⟨n', by omega, i + 1, S'⟩
      cases b with
      | false =>
        simp only [Bool.false_eq_true, if_false]
        obtain ⟨mj, em, nj, ivj⟩ := q9 rfl
        subst em
        exact again I8 hm8 l8 nj ivj (k7.trans k8)
      | true =>
        simp only [if_true]
        have ee : WE Xb elt σ7 H8 (Post X.K m8 H8 fun r m4 => out.length < sizeLine ∧ ∃ mj, m4 = updM mj Da (.lst out) ∧ mj Da = none ∧ Iv (i + 1) (out ++ [r]) mj) := fun pins' s' I' => pe.run pins' s' σ7 H8 _ I' (abe_w (q8 rfl) ⟨hm8, rs7.later l8⟩)
        refine thnF (we_beside (X := Xb) rfl ee I8) fun z s9 ⟨⟨yv, H9, I9, r9, dr, m9, hm9, l9, rr, hz, mj, em, nj, ivj⟩, k9⟩ => ?_
        subst em
        obtain ⟨ovs, hv, rv⟩ := hm9 Da (.lst out) updM_same
        have dm : dom (updM mj Da (.lst out)) Da := by unfold dom; rw [updM_same]; simp
        have lw : Later (updM mj Da (.lst out)) H9 (updM (updM mj Da (.lst out)) Da (.lst (out ++ [dr]))) (upd H9 Da (.lst (ovs ++ [yv]))) := Later.write dm
        have hw := hm9.put (u := .lst (out ++ [dr])) (o := .lst (ovs ++ [yv])) (.inr dm) ⟨_, upd_same, (lw.reps rv).append (.cons (lw.rep rr) .nil)⟩
        rw [updM_updM] at lw hw
        have app : wpAny (model X.prog X.w) X.A (call (.builtin "list.append") [.ref Da, z]) (fun _ s' => Inv Xb ([(a, go)] ++ pl) σ7 (upd H9 Da (.lst (ovs ++ [yv]))) s' ∧ Keeps s9 s') (fun _ _ => False) s9 := by
          refine beside (X := Xb) (Q := fun _ s' => Inv Xb ([(a, go)] ++ pl) σ7 (upd H9 Da (.lst (ovs ++ [yv]))) s') (fun _ s' G' J hb => inv_gens J (hb J.bare)) ?_
          exact app_ok (X := Xb) (inv_gens I9 (bare_psn I9.bare)) hv (by rw [← rv.length]; exact hz) r9 fun s' J => J
        refine thnF app fun _ s10 ⟨I10, k10⟩ => ?_
        exact again I10 hw (l8.trans (l9.trans lw)) nj ivj (k7.trans (k8.trans (k9.trans k10)))
    · obtain ⟨eσ, mi, out, em, nD, iv, rs6, l06⟩ := θ
      subst em
      rw [ei] at iv
      have I7 : Inv X pins σ H6 s6 := I3.call' (ch := fp) I6.os I6.base I6.hok I6.bare fun b hb => ⟨(f3 b hb).1.2.2.2.1, (f3 b hb).1.2.1, (f3 b hb).1.2.2.2.2.1, (f3 b hb).1.2.2.2.2.2⟩
      have nC : H6 s3.heap.objs.size = none := by
        have z : H6 ce.locals = none := I6.free
        rw [cL] at z
        exact z
      obtain ⟨mm, hn, _⟩ := I6.loc
      have hn : s6.heap.Ns ce.locals mm := hn
      rw [cL] at hn
      exact hRR Da s3.heap.objs.size s6 mm H6 I7 ⟨.ref Da, _, hm6, l06.trans l6, .ref, fin out mi Da nD iv⟩ hn (I3.fpOk (Nat.le_refl _) nC)
  exact codeAny_compStart_list loop (wpAny_pyIter_gen (Heap.IsGen.keeps B.gen kp4) loop)
end
end Slp
/-! G20: comprehensions over generators, ready to use. -/
namespace Slp
open PySem PySem.Spec PyProof.Rows L2 Ab GenW
section
variable {X : Cx} {fb : FB} {k j : Nat} {d : GK} {ρ : Rho} {m : Mu} {tg iter elt : Expr} {ifs : List Expr} {scope sc : Scope} {pos px py spos : Pos} {x y : Str} {asp : List D → List D → Prop} {own : List (Str × Nat)} {g : TG} {gr : D → Rho → Mu → (Rho → Prop) → Prop} {Q : QD} {i : Nat}
theorem AE.lcG (hx : XF X fb k) (Y : YLaw X.prog X.w X.K X.mg X.base j d asp) (hj : j + 2 ≤ k) (hok : BlkOk X.N X.env.scope scope own) (T : CTg X tg scope own g gr) (hnc : ∀ y ∈ scope.names, y.2 ≠ .cell) (hs : ∀ x, foldedSetIterable iter X.env x = pure x)
    (h : AK X d iter ρ m fun ds => ∃ es, asp ds es ∧ LcG X scope ifs elt own gr ρ m es Q) : AE X (.ListComp elt [⟨tg, iter, ifs, 0⟩] scope pos) ρ m Q := .mk fun σ H S pins s I => by
  rw [eval_ListComp]
  refine lcg_core hx Y hj hok T hnc hs h S I fun Da C s' mm H' I' q hn f => ⟨mm, hn, fun h'' sb => ?_⟩
  obtain ⟨f0, f1, _, f3, f4, f5⟩ := f
  exact ⟨.ref Da, H', I'.turned (t' := s'.toks) (fun b o hb e => (sb.2 b hb).trans e) f0 f1 f3 f4 f5, rfl, q⟩
theorem AS.setLcG {D' : AEnds} {v : Nat} (hx : XF X fb k) (Y : YLaw X.prog X.w X.K X.mg X.base j d asp) (hj : j + 2 ≤ k) (hok : BlkOk X.N X.env.scope scope own) (T : CTg X tg scope own g gr) (hnc : ∀ y ∈ scope.names, y.2 ≠ .cell) (hs : ∀ x, foldedSetIterable iter X.env x = pure x)
    (hy : Nth fb.N v y) (hl : X.env.scope.names.lookup y = some .local) (hsw : swapsWith (.ListComp elt [⟨tg, iter, ifs, 0⟩] scope pos) (some (.Name y py)) spos.line X.env = pure true)
    (w : ∀ H V H', Post X.K m H Q V H' → ∀ σ, RS X.K (dom m) H ρ σ → PostS X.K m H D'.nx (σ.set v (some V)) H')
    (h : AK X d iter ρ m fun ds => ∃ es, asp ds es ∧ LcG X scope ifs elt own gr ρ m es Q) : AS X (.Assign [.Name y py] (.ListComp elt [⟨tg, iter, ifs, 0⟩] scope pos) spos) ρ m D' := .mk fun σ H S pins s I => by
  rw [exec_Assign_Name_used _ _ _ _ hsw]
  refine wpAny_bind (wpAny_standAt (wpAny_bind ?_))
  show wpAny _ X.A (do let _ ← comprehension (.ListComp elt [⟨tg, iter, ifs, 0⟩] scope pos) scope X.env (firstIterPos [⟨tg, iter, ifs, 0⟩] pos) (newList []) false (eval iter X.env) (some (assign (.Name y py) X.env))) _ _ s
  refine wpAny_bind (thn (lcg_core (Qf := fun _ s' => SP X pins (D'.lift X.K m H) .next s') hx Y hj hok T hnc hs h S I fun L C s' mm H' I' q hn f => ?_) fun _ s' hq => wpAny_pure (wpAny_pure hq))
  show wpAny _ _ (assign (.Name y py) X.env (.ref L)) _ _ _
  have hN : X.N[v]? = some y := by rw [hx.nN]; exact hy.at
  refine wpAny_assign_Name (store_ok2 (v := V.ref L) I' hx.nd hN (.inl hl) rfl (fun s2 I2 ⟨a, sb, ha⟩ => ?_) (.inr hl))
  obtain ⟨f0, f1, _, f3, f4, f5⟩ := f
  have haC : C ≠ a := ha.elim (fun z => by rw [z]; exact f1) fun z e => f4 y a z e.symm
  refine ⟨mm, hn.sameBut sb haC, fun h3 sb3 => ⟨_, H', I2.turned (t' := s2.toks) (fun b o hb e => (sb3.2 b hb).trans e) f0 f1 f3 f4 f5, ?_⟩⟩
  exact w H _ _ q σ S.rs
/-- without effects, the result as data -/
theorem lcg_pure {α : Type} {f : α → D} {xs : List α} {R : List D → Prop} (sel : α → Option D) (hz : xs.length < sizeLine) (ht : LcT X scope ifs elt [i] (SetR i) f xs sel ρ m) (q : R (xs.filterMap sel)) :
    LcG X scope ifs elt [(x, i)] (fun d ρ m Q => ∃ ρ', SetR i d ρ ρ' ∧ Q ρ') ρ m (xs.map f) fun dd m1 => ∃ a ds, dd = .ref a ∧ m1 a = some (.lst ds) ∧ R ds ∧ delM m1 a = m := by
  obtain ⟨I, h1, _, h2, h3⟩ := lcPure (X := X) (scope := scope) (ifs := ifs) (elt := elt) (ρ := ρ) (m := m) (G := fun _ => True) (gr := fun d ρ m Q => ∃ ρ', SetR i d ρ ρ' ∧ Q ρ') (own := [(x, i)]) (f := f) (xs := xs) (R := fun out mj a => ∃ a' ds', D.ref a = .ref a' ∧ updM mj a (.lst out) a' = some (.lst ds') ∧ R ds' ∧ delM (updM mj a (.lst out)) a' = m) sel hz (fun _ _ => trivial) (fun y hy m' hm' => ht y hy m' hm') (fun d ρ m' Q Q' w ⟨ρ', e, q⟩ => ⟨ρ', e, w _ q⟩) (fun a na => ⟨a, _, rfl, updM_same, q, delM_updM na⟩)
  exact ⟨I, h1, h2, h3⟩
theorem AE.lcPG {α : Type} (f : α → D) (hx : XF X fb k) (Y : YLaw X.prog X.w X.K X.mg X.base j d asp) (hj : j + 2 ≤ k) (hsc : X.env.scope = sc) (hN : Nth fb.N i x) (ho : ownB scope x = true)
    (h : AK X d iter ρ m fun ds => ∃ (xs : List α) (sel : α → Option D), asp ds (xs.map f) ∧ xs.length < sizeLine ∧ LcT X scope ifs elt [i] (SetR i) f xs sel ρ m ∧ Q (.lst (xs.filterMap sel)) m)
    (hb : blkC fb.N sc scope [(x, i)] = true := by decide +kernel) (hnc : ∀ y ∈ scope.names, y.2 ≠ .cell := by decide +kernel) (hs : ∀ x, foldedSetIterable iter X.env x = pure x := by intro _; rfl) : AE X (.ListComp elt [⟨.Name x px, iter, ifs, 0⟩] scope pos) ρ m Q := by
  refine AE.frz (AE.lcG hx Y hj (own := [(x, i)]) (by rw [hx.nN, hsc]; exact blkOk_by hb) (ctg_name hx hN ho) hnc hs (.mk fun σ H S pins s I => ?_))
  refine wpAny_mono (h.run σ H S pins s I) (fun u s1 ⟨ds, vs, H1, sc, a, g, e1, e2, e3, e4, e5, e6, e7, xs, sel, ha, hz, ht, q⟩ => ?_) fun _ _ z => z
  refine ⟨ds, vs, H1, sc, a, g, e1, e2, e3, e4, e5, e6, e7, xs.map f, ha, ?_⟩
  obtain ⟨I, h1, h2, h3⟩ := lcg_pure (x := x) (R := fun ds => Q (.lst ds) m) sel hz ht q
  exact ⟨I, h1, h2, fun out mj a nj iv => by
    obtain ⟨a', ds', q1, q2, q3, q4⟩ := h3 out mj a nj iv
    exact ⟨a', ds', q1, q2, by rw [q4]; exact q3⟩⟩
theorem AS.setLcPG {α : Type} {D' : AEnds} {v : Nat} (f : α → D) (hx : XF X fb k) (Y : YLaw X.prog X.w X.K X.mg X.base j d asp) (hj : j + 2 ≤ k) (hsc : X.env.scope = sc) (hN : Nth fb.N i x) (ho : ownB scope x = true) (hy : Nth fb.N v y) (hl : sc.names.lookup y = some .local)
    (hsw : swapsWith (.ListComp elt [⟨.Name x px, iter, ifs, 0⟩] scope pos) (some (.Name y py)) spos.line X.env = pure true)
    (h : AK X d iter ρ m fun ds => ∃ (xs : List α) (sel : α → Option D), asp ds (xs.map f) ∧ xs.length < sizeLine ∧ LcT X scope ifs elt [i] (SetR i) f xs sel ρ m ∧ ∃ ρ', SetR v (.lst (xs.filterMap sel)) ρ ρ' ∧ D'.nx ρ' m)
    (hb : blkC fb.N sc scope [(x, i)] = true := by decide +kernel) (hnc : ∀ y ∈ scope.names, y.2 ≠ .cell := by decide +kernel) (hs : ∀ x, foldedSetIterable iter X.env x = pure x := by intro _; rfl) : AS X (.Assign [.Name y py] (.ListComp elt [⟨.Name x px, iter, ifs, 0⟩] scope pos) spos) ρ m D' := by
  refine AS.setLcG (Q := fun dd m1 => ∃ a ds, dd = .ref a ∧ m1 a = some (.lst ds) ∧ (∃ ρ', SetR v (.lst ds) ρ ρ' ∧ D'.nx ρ' m) ∧ delM m1 a = m) hx Y hj (own := [(x, i)]) (by rw [hx.nN, hsc]; exact blkOk_by hb) (ctg_name hx hN ho) hnc hs hy (by rw [hsc]; exact hl) hsw ?_ (.mk fun σ H S pins s I => ?_)
  · rintro H V H' ⟨dd, m1, hm1, l1, r1, a, ds, e1, e2, ⟨ρ', st, q⟩, e3⟩ σ rs
    subst e1
    cases r1
    obtain ⟨vs, z, r⟩ := hm1 _ _ e2
    have l2 : Later m1 H' (delM m1 a) H' := Later.del
    rw [st.eq, ← e3] at q
    exact ⟨_, delM m1 a, hm1.del, l1.trans l2, (rs.later (l1.trans l2)).set v (.lst nodel (.inl z) (l2.reps r)), q⟩
  · refine wpAny_mono (h.run σ H S pins s I) (fun u s1 ⟨ds, vs, H1, sc, a, g, e1, e2, e3, e4, e5, e6, e7, xs, sel, ha, hz, ht, q⟩ => ?_) fun _ _ z => z
    exact ⟨ds, vs, H1, sc, a, g, e1, e2, e3, e4, e5, e6, e7, xs.map f, ha, lcg_pure (x := x) (R := fun ds => ∃ ρ', SetR v (.lst ds) ρ ρ' ∧ D'.nx ρ' m) sel hz ht q⟩
end
end Slp
/-! G21: list of a generator. -/
namespace Slp
open PySem PySem.Spec PyProof.Rows L2 Ab GenW
section
variable {X : Cx} {d : GK} {pins : List (Addr × Obj)} {a S : Addr} {go : Obj} {m0 : Mu} {H0 : Hp} {ρ0 : Rho} {es : List D} {σ0 : L2.St}
/-- the consumer: its list has what is out -/
def ThL (X : Cx) (m0 : Mu) (H0 : Hp) (S : Addr) (es : List D) (σ0 : L2.St) (i : Nat) (σ : L2.St) (m : Mu) (H : Hp) : Prop := σ = σ0 ∧ ∃ mi, m = updM mi S (.lst (es.take i)) ∧ mi = m0 ∧ m0 S = none ∧ Later m0 H0 m H
theorem write_lst {σ : L2.St} {H : Hp} {s : Shared} {vs : List V} {x : V} {u : Value} (I : Inv X pins σ H s) (hv : H S = some (.lst vs)) (hz : vs.length < sizeLine) (r : L2.RelV x u) : ∃ its n, s.heap.get? S = some { cls := .type "list", data := .seq its n } ∧ its.size = vs.length ∧
    Inv X pins σ (upd H S (.lst (vs ++ [x]))) { s with heap := s.heap.update S (Obj.mapSeq (·.push u)) } := by
  obtain ⟨hz', its, n, ri, e⟩ := I.hok S _ hv
  have hl := ri.length
  refine ⟨its.toArray, n, e, by simp [hl], ?_⟩
  have ho' := Heap.get?_update_self (Obj.mapSeq (·.push u)) e rfl
  refine I.write (t' := s.toks) (by rw [hv]; trivial) (.inl rfl) (fun b w hb q => (Heap.get?_update_other _ _ (Ne.symm hb)).trans q) ⟨_, ho'⟩ ⟨by rw [List.length_append]; exact hz, its ++ [u], n + 1, ri.append (.cons r .nil), ?_⟩
  rw [ho']
  simp [Obj.mapSeq]
theorem drainG {As : Around} {sc : Shared} {H1 : Hp} {g : Nat} {R : Result → Shared → Prop} {res : Value} {G : Gen} (hGe : G = genC X d (pins ++ [(a, go)]) sc H1 g [a] (ThL X m0 H0 S es σ0) es As.in1.in1) (Ft : G.Fit) (Sf : Safe G X (pins ++ [(a, go)])) (hc : G.X.env.cells = []) (hgo : ∃ nm qn, go.cls = .type "generator" ∧ go.data = .fields #[.int G.g 0, nm, qn] ∧ go.slots = #[])
    (hh : As.handled = none) (hd : As.depth < recursionLimit) (hz : es.length < sizeLine)
    (hend : ∀ s' H', Inv X (pins ++ [(a, go)]) σ0 H' s' → HM X.K (updM m0 S (.lst es)) H' → Later m0 H0 (updM m0 S (.lst es)) H' → m0 S = none → R (.ok (.ret res)) s') :
    ∀ (n i : Nat) (s : Shared), Sleeps X G As.in1.in1 n i s → codeAny (model X.prog X.w) As (.builtin "list.extend.loop" ⟨[.ref S, .ref a, res], []⟩) R s := by
  intro n
  induction n with
  | zero =>
    intro i s Sl
    have z := Sl.sum
    subst hGe
    refine codeAny_builtin F.entry_extend_loop ?_
    rw [Around.under_plainId F.plain_extend_loop _]
    show wpAny _ As.in1 (pyNext (.ref a) >>= _) _ _ s
    refine wpAny_bind (step_c (pins := pins ++ [(a, go)]) (Θ := ThL X m0 H0 S es σ0) (go := go) rfl rfl rfl rfl Ft Sf hc (List.mem_append_right _ (List.mem_singleton.mpr rfl)) hgo hh hd Sl (fun u s' W => ?_) fun ei s' σ m H₀ H θ l hm I => ?_)
    · exact absurd W.lt (by omega)
    · exact absurd z (by omega)
  | succ n ih =>
    intro i s Sl
    subst hGe
    refine codeAny_builtin F.entry_extend_loop ?_
    rw [Around.under_plainId F.plain_extend_loop _]
    show wpAny _ As.in1 (pyNext (.ref a) >>= _) _ _ s
    refine wpAny_bind (step_c (pins := pins ++ [(a, go)]) (Θ := ThL X m0 H0 S es σ0) (go := go) rfl rfl rfl rfl Ft Sf hc (List.mem_append_right _ (List.mem_singleton.mpr rfl)) hgo hh hd Sl (fun u s' W => ?_) fun ei s' σ m H₀ H θ l hm I => ?_)
    · obtain ⟨dd, x, σ, m, H₀, H, pl, hdd, ⟨eσ, mi, em, emi, nS, l0⟩, l, hm, rd, ru, I', cont⟩ := W.ex
      subst em emi eσ
      obtain ⟨vs', hv, rv⟩ := hm S (.lst (es.take i)) updM_same
      have lt : i < es.length := W.lt
      have il : vs'.length = i := by rw [← rv.length, List.length_take]; omega
      obtain ⟨its, c, hS, hsz, I2⟩ := write_lst I' hv (by omega) ru
      have dm : dom (updM mi S (.lst (es.take i))) S := by unfold dom; rw [updM_same]; simp
      have lw : Later (updM mi S (.lst (es.take i))) H (updM (updM mi S (.lst (es.take i))) S (.lst (es.take i ++ [dd]))) (upd H S (.lst (vs' ++ [x]))) := Later.write dm
      have hw := hm.put (u := .lst (es.take i ++ [dd])) (o := .lst (vs' ++ [x])) (.inr dm) ⟨_, upd_same, (lw.reps rv).append (.cons (lw.rep rd) .nil)⟩
      rw [updM_updM] at lw hw
      have e2 : es.take i ++ [dd] = es.take (i + 1) := by rw [List.take_succ, show es[i]? = some dd from hdd]; rfl
      rw [e2] at lw hw
      show wpAny _ As.in1 (updateSeq S (·.push u) >>= _) _ _ _
      refine wpAny_bind (wpAny_updateSeq hS rfl (wpAny_pure ⟨plainId_quiet F.plain_extend_loop _, ?_⟩) (by omega) (by show (its.push u).size ≤ sizeLine + 1; rw [Array.size_push]; omega))
      obtain ⟨n', en, S'⟩ := cont _ _ (updM mi S (.lst (es.take (i + 1)))) σ I2 hw lw ⟨rfl, mi, rfl, rfl, nS, (l0.trans l).trans lw⟩ Keeps.refl
      obtain rfl : n = n' := by omega
      exact ih (i + 1) _ S'
    · obtain ⟨eσ, mi, em, emi, nS, l0⟩ := θ
      subst em emi eσ
      have ei : i = es.length := ei
      rw [ei, List.take_length] at hm l0 l
      exact wpAny_pure (hend s' H I hm (l0.trans l) nS)
end
section
variable {X : Cx} {fb : FB} {k j : Nat} {d : GK} {ρ : Rho} {m : Mu} {e : Expr} {pos p : Pos} {nm : Str} {asp : List D → List D → Prop} {Q : QD}
theorem AE.listG (hx : XF X fb k) (Y : YLaw X.prog X.w X.K X.mg X.base j d asp) (hj : j + 4 ≤ k) (hg : fb.glb nm = true) (hm : X.mg nm = none) (hv : bootBuiltins nm = some (.type "list")) (h : AK X d e ρ m fun ds => ∃ es, asp ds es ∧ es.length < sizeLine ∧ Q (.lst es) m)
    (hnm : nm ≠ "__name__" := by decide +kernel) (hdb : (nm == ("__debug__" : Str)) = false := by decide +kernel) (he : starEach [e] X.env = (false, eval e X.env) :: starEach [] X.env := by rfl) : AE X (.Call (.Name nm p) [e] [] pos) ρ m Q := .mk fun σ H St pins s I => by
  refine wpAny_Call_Name_kw (ld_blt I (hx.glb nm hg) hm hv ?_ hnm hdb)
  refine PyProof.Rows.callWith_type1 ?_ he rfl
  rw [he]
  show wpAny _ _ (spliced ((false, eval e X.env) :: backTo pos (starEach [] X.env))) _ _ s
  refine Calls.spliced_cons (thn (h.run σ H St pins s I) fun u s1 hv1 => Calls.spliced_nil ?_)
  obtain ⟨ds, vs, H1, sb, a, gn, ev, B, Ic, I1, hm1, l1, rds, es, hasp, hz, q⟩ := hv1
  subst ev
  obtain ⟨go, n1, q1, hgo0, hgc, hgd, hgs⟩ := B.gen
  obtain ⟨S, hS0⟩ : ∃ S, S = s1.heap.objs.size := ⟨_, rfl⟩
  have aS : a < S := by rw [hS0, B.top]; exact Nat.lt_succ_self _
  refine callType_codes (Q₁ := fun obj s₁ => obj = .ref s1.heap.objs.size ∧ s₁ = { s1 with heap := s1.heap.push { cls := .type "list", data := .seq #[] } }) F.called_list (F.typeCall_list_1 _) F.entry_list_init (code_list_new _ ⟨rfl, rfl⟩) fun obj s₁ h₁ => ?_
  obtain ⟨rfl, rfl⟩ := h₁
  rw [← hS0]
  have hS : (s1.heap.push { cls := .type "list", data := .seq #[] }).get? S = some { cls := .type "list", data := .seq #[] } := by rw [hS0]; exact Heap.get?_push_size _ rfl
  refine ⟨⟨_, hS, rfl⟩, F.args_list_init_2 _ _, ?_⟩
  show wpAny _ X.A.in1.in1 (do let old ← Builtin.List.listItems (.ref S); Builtin.List.listUpdate (.ref S) (fun _ => #[]); letGo old.toList.reverse; Builtin.List.listExtendWith (.ref S) (.ref a) .none) _ _ _
  refine wpAny_bind ?_
  unfold Builtin.List.listItems
  refine wpAny_bind (wpAny_seqItems hS rfl (wpAny_pure ?_))
  show wpAny _ X.A.in1.in1 (updateSeq S (fun _ => #[]) >>= fun _ => letGo (#[] : Array Value).toList.reverse >>= fun _ => Builtin.List.listExtendWith (.ref S) (.ref a) .none) _ _ _
  refine wpAny_bind (wpAny_updateSeq hS rfl ?_)
  have hS2 := Heap.get?_update_self (Obj.mapSeq (fun _ => (#[] : Array Value))) hS rfl
  refine wpAny_bind (wpAny_letGo ?_)
  unfold Builtin.List.listExtendWith
  have up : ∀ (h : Heap) (f : Obj → Obj), (∀ b o, s1.heap.get? b = some o → h.get? b = some o) → ∀ b o, s1.heap.get? b = some o → (h.update S f).get? b = some o := fun h f q b o e => (Heap.get?_update_other _ _ (Ne.symm (by rw [hS0]; exact Nat.ne_of_lt (Heap.lt_size e)))).trans (q b o e)
  have k1 : ∀ b o, s1.heap.get? b = some o → (s1.heap.push { cls := .type "list", data := .seq #[] }).get? b = some o := fun b o e => Heap.get?_push_of_some _ e
  have k2 := up _ (Obj.mapSeq (fun _ => (#[] : Array Value))) k1
  have gty : ∀ {h : Heap}, (∀ b o, s1.heap.get? b = some o → h.get? b = some o) → h.IsGen a gn := fun {h} q => B.gen.keeps q
  refine wpAny_bind (wpAny_typeOf (Heap.IsGen.typeIs (s := { s1 with heap := _ }) (gty k2)) ?_)
  have b1 : Builtin.List.listSameRef (.ref S) (.ref a) = false := by simp [Builtin.List.listSameRef, Nat.ne_of_gt aS]
  have b2 : (Value.type "generator" == Value.type "list") = false := by decide
  have b3 : (Value.type "generator" == Value.type "tuple") = false := by decide
  simp only [b1, b2, b3, Bool.or_false, Bool.false_eq_true, if_false]
  refine wpAny_bind (wpAny_pyIter_gen (s := { s1 with heap := _ }) (gty k2) (wpAny_bind (wpAny_holding ?_)))
  unfold Builtin.List.listLengthHint
  refine wpAny_bind (wpAny_specialOf (Heap.IsGen.typeIs (s := { s1 with heap := _ }) (gty k2)) F.gen_no_len ?_)
  show wpAny _ X.A.in1.in1 (specialOf (Value.ref a) (Str.ofString "__length_hint__") >>= _) _ _ _
  refine wpAny_bind (wpAny_specialOf (Heap.IsGen.typeIs (s := { s1 with heap := _ }) (gty k2)) F.gen_no_hint (wpAny_pure ?_))
  show wpAny _ X.A.in1.in1 (rule "list.extend.makes-room" >>= fun _ => Builtin.List.listTouch (.ref S) >>= fun _ => again (.builtin "list.extend.loop" ⟨[.ref S, .ref a, .none], []⟩)) _ _ _
  refine wpAny_bind (wpAny_rule (wpAny_bind ?_))
  show wpAny _ X.A.in1.in1 (updateSeq S (·.push .none) >>= fun _ => updateSeq S (·.pop)) _ _ _
  refine wpAny_bind (wpAny_updateSeq hS2 rfl ?_)
  have hS3 := Heap.get?_update_self (Obj.mapSeq (·.push Value.none)) hS2 rfl
  refine wpAny_updateSeq (hz := by seq_fits) hS3 rfl ?_
  have hS4 := Heap.get?_update_self (Obj.mapSeq (·.pop)) hS3 rfl
  have k4 := up _ (Obj.mapSeq (·.pop)) (up _ (Obj.mapSeq (·.push Value.none)) k2)
  refine wpAny_pure ⟨plainId_quiet F.plain_extend_loop _, ?_⟩
  generalize hh4 : Heap.update (Heap.update (Heap.update _ S _) S _) S _ = h4 at hS4 k4 ⊢
  have hSn : H1 S = none := by rw [hS0]; exact I1.hok.fresh (Nat.le_refl _)
  have mS : m S = none := hm1.fresh hSn
  have I4 : Inv X pins σ (upd H1 S (.lst [])) { s1 with heap := h4 } := I1.laid (t' := s1.toks) k4 (Nat.le_of_eq hS0.symm) ⟨Nat.zero_le _, [], _, .nil, hS4⟩
  have I4p : Inv X (pins ++ [(a, go)]) σ (upd H1 S (.lst [])) { s1 with heap := h4 } := I4.pins_of fun pp hp => by
    rcases List.mem_append.mp hp with hp | hp
    · exact I4.pin pp (List.mem_append_right _ hp)
    · obtain rfl := List.mem_singleton.mp hp
      exact ⟨k4 _ _ hgo0, by rw [upd_ne (Nat.ne_of_lt aS)]; exact Ic.hok.fresh (Nat.le_of_lt B.lt), Nat.ne_of_gt (Nat.lt_trans Ic.lt B.lt), Ic.nofs (Nat.le_of_lt B.lt), fun v z => (by rw [hgd] at z; cases z)⟩
  have m4 : HM X.K (updM m S (.lst [])) (upd H1 S (.lst [])) := hm1.put (u := .lst []) (.inl hSn) ⟨[], upd_same, .nil⟩
  have l4 : Later m H1 (updM m S (.lst [])) (upd H1 S (.lst [])) := Later.new hSn
  let G : Gen := genC X d (pins ++ [(a, go)]) sb H1 gn [a] (ThL X m H S es σ) es X.A.in1.in1.in1
  have r1 : Room (j + 1) X.A.in1.in1.in1 := (hx.room.mono hj).in1.in1.in1
  have Sf : Safe G X (pins ++ [(a, go)]) := {
    out := rfl, prog := rfl, w := rfl, base := rfl
    ex := fun i m H s _ b hb _ _ => .inr (Nat.le_trans Ic.sz hb)
    loc := .inl Ic.lt
    cell := fun x c e => .inl (let ⟨v, q⟩ := Ic.cell x c e; q.lt)
    pin := fun pp hp => by
      rw [← List.append_assoc] at hp
      rcases List.mem_append.mp hp with hp | hp
      · exact .inl (Heap.lt_size (Ic.pin pp hp).1)
      · obtain rfl := List.mem_singleton.mp hp
        exact .inr (List.mem_singleton.mpr rfl)
    nca := fun z => absurd B.lt (by have z' : sb.heap.objs.size = a := List.mem_singleton.mp z; rw [z']; exact Nat.lt_irrefl _) }
  have hpin : (a, go) ∈ pins ++ [(a, go)] := List.mem_append_right _ (List.mem_singleton.mpr rfl)
  have Ft : G.Fit := fit_c B r1 Ic.ok.frames Sf hpin (fun b hb => ⟨go, .inl (by rw [List.mem_singleton.mp hb]; exact hpin)⟩) fun b hb => by rw [List.mem_singleton.mp hb]; exact B.lt
  have S0 : Sleeps X G X.A.in1.in1.in1 (es.length + 1) 0 { s1 with heap := h4 } := by
    obtain ⟨hlen, ρ0, hρ0, body⟩ := Y.run ds es hasp
    have sd : Stand G.X [] s1 (upd H1 S (.lst [])) { s1 with heap := h4 } := ⟨fun o e => k4 _ _ e, fun x c hx o e => k4 _ _ e, by
      show upd H1 S (.lst []) sb.heap.objs.size = none
      rw [upd_ne (Nat.ne_of_lt (Nat.lt_trans B.lt aS))]
      exact Ic.hok.fresh (Nat.le_refl _), fun x c hx => (by rw [show G.X.env.cells = [] from Y.ok.nc _] at hx; cases hx), fun p hp => (by cases hp)⟩
    have hΦ : G.Φ 0 (updM m S (.lst [])) (upd H1 S (.lst [])) { s1 with heap := h4 } := ⟨σ, I4p, m4, rfl, m, rfl, rfl, mS, l1.trans l4⟩
    have bd := body G X.A.in1.in1.in1 X.stack sb H1 rfl (r1.deeper _) Ft rfl
    exact ⟨rfl, ⟨_, _, hΦ⟩, _, B.at', born_goes (G := G) rfl Ft B r1 Ic.ok.frames hΦ sd (hρ0 _ _ vs (l4.reps rds)) bd⟩
  refine drainG (As := X.A.in1) (G := G) rfl Ft Sf (Y.ok.nc _) ⟨n1, q1, hgc, hgd, hgs⟩ hx.room.hd (by have := hx.room.dp; show X.A.depth < _; omega) hz (fun s' H' I' hm' l' nS => ?_) _ 0 _ S0
  refine ⟨rfl, ?_⟩
  obtain ⟨vs', z, r⟩ := hm' S (.lst es) updM_same
  have l5 : Later (updM m S (.lst es)) H' (delM (updM m S (.lst es)) S) H' := Later.del
  refine ⟨.ref S, H', I'.unpinned, rfl, .lst es, m, ?_, ?_, ?_, q⟩
  · have := hm'.del (a := S); rw [delM_updM nS] at this; exact this
  · rw [delM_updM nS] at l5; exact l'.trans l5
  · rw [delM_updM nS] at l5
    exact .lst (fun zz => zz nS) (.inl z) (l5.reps r)
end
end Slp
/-! C1: sorted with key= a def of the program. -/
namespace Ab
open L2 PySem PySem.Spec PyProof.Rows
open PySem.W (EachIs KeepsBut AllAlike Sortable dataLe SortsAt dataKind keyH_end)
section
variable {X : Cx} {pins : List (Addr × Obj)} {σ : L2.St} {H : Hp} {s : Shared}
/-- an own object is tracked as a list -/
theorem inv_track {a : Addr} {vs : List V} {us : List Value} {n : Nat} (I : Inv X pins σ H s) (f : FpOk X pins H a) (hz : vs.length ≤ sizeLine) (e : s.heap.get? a = some (seqObj "list" us.toArray n)) (r : Vals vs us) : Inv X pins σ (upd H a (.lst vs)) s := by
  obtain ⟨f0, f1, f2, f3, f4, f5⟩ := f
  have ne : ∀ {b : Addr} {u : HO}, H b = some u → b ≠ a := fun {b u} z q => by rw [q, f0] at z; cases z
  refine ⟨I.ok, I.os, I.bare, ⟨I.base.keep, I.base.slot, fun b o q n hx => ?_, I.base.there, fun b xs q => ?_, fun b o u q => ?_, fun b ps q => ?_⟩, I.loc, I.cell, ?_, fun x c q => ?_, fun p hp => ?_, fun b u q => ?_, I.len⟩
  · have z : b ≠ a := fun z => by
      rcases f3 with f3 | f3
      · rw [← z] at f3; exact hx f3
      · have := Heap.lt_size q
        rw [z] at this
        exact absurd (Nat.lt_of_lt_of_le this f3) (Nat.lt_irrefl _)
    rw [upd_ne z]; exact I.base.free b o q n hx
  · have q2 := I.base.tups b xs q
    rw [upd_ne (ne q2)]; exact q2
  · have q2 := I.base.frzs b o u q
    rw [upd_ne (ne q2)]; exact q2
  · obtain ⟨more, q2⟩ := I.base.tbls b ps q
    exact ⟨more, by rw [upd_ne (ne q2)]; exact q2⟩
  · rw [upd_ne (Ne.symm f1)]; exact I.free
  · rw [upd_ne (f4 x c q)]; exact I.freeC x c q
  · obtain ⟨h1, h2, h3⟩ := I.pin p hp
    exact ⟨h1, by rw [upd_ne (f5 p hp)]; exact h2, h3⟩
  · by_cases hb : b = a
    · subst hb
      rw [upd_same] at q; cases q
      exact ⟨hz, us, n, r, e⟩
    · rw [upd_ne hb] at q
      exact (I.hok b u q).stay (fun _ _ _ z => z) (fun d z => by rw [upd_ne (ne z)]; exact z) fun d xs z => by rw [upd_ne (ne z)]; exact z
/-- the same frame, the run stands elsewhere -/
theorem inv_around {A : Around} (I : Inv X pins σ H s) (hh : X.calm = true → A.handled = none) (hf : A.frames = X.A.frames) : Inv { X with A := A } pins σ H s :=
  ⟨{ mod := I.ok.mod, kind := I.ok.kind, glob := I.ok.glob, blt := I.ok.blt, above := I.ok.above, inj := I.ok.inj, has := I.ok.has, cab := I.ok.cab, hd := hh, frames := hf.trans I.ok.frames, stk := I.ok.stk, exf := I.ok.exf, bs := I.ok.bs, bsz := I.ok.bsz, noex := I.ok.noex, exfs := I.ok.exfs, funs := I.ok.funs, frf := I.ok.frf },
    I.os, I.bare, I.base, I.loc, I.cell, I.free, I.freeC, I.pin, I.hok, I.len⟩
theorem inv_around' {A : Around} (I : Inv { X with A := A } pins σ H s) (hh : X.calm = true → X.A.handled = none) (hf : A.frames = X.A.frames) : Inv X pins σ H s :=
  ⟨{ mod := I.ok.mod, kind := I.ok.kind, glob := I.ok.glob, blt := I.ok.blt, above := I.ok.above, inj := I.ok.inj, has := I.ok.has, cab := I.ok.cab, hd := hh, frames := hf.symm.trans I.ok.frames, stk := I.ok.stk, exf := I.ok.exf, bs := I.ok.bs, bsz := I.ok.bsz, noex := I.ok.noex, exfs := I.ok.exfs, funs := I.ok.funs, frf := I.ok.frf },
    I.os, I.bare, I.base, I.loc, I.cell, I.free, I.freeC, I.pin, I.hok, I.len⟩
/-- a heap without one object -/
def without (h : Heap) (k : Addr) : Heap := { h with objs := h.objs.setIfInBounds k ⟨.none, none, .freed, #[]⟩ }
theorem without_self {h : Heap} {k : Addr} : (without h k).get? k = none := by
  unfold without Heap.get?
  by_cases hk : k < h.objs.size
  · have e : (h.objs.setIfInBounds k ⟨.none, none, .freed, #[]⟩)[k]? = some ⟨.none, none, .freed, #[]⟩ := by simp [hk]
    rw [e]
  · have e : (h.objs.setIfInBounds k ⟨.none, none, .freed, #[]⟩)[k]? = none := by simp [hk]
    rw [e]
theorem without_ne {h : Heap} {k b : Addr} (hb : b ≠ k) : (without h k).get? b = h.get? b := by
  unfold without Heap.get?
  have e : (h.objs.setIfInBounds k ⟨.none, none, .freed, #[]⟩)[b]? = h.objs[b]? := Array.getElem?_setIfInBounds_ne (Ne.symm hb)
  rw [e]
theorem reps_snoc {K : PySem.W.Frag} {M : Addr → Prop} {ds : List D} {vs : List V} {d : D} {v : V} (r : Reps K M H ds vs) (q : Rep K M H d v) : Reps K M H (ds ++ [d]) (vs ++ [v]) := r.append (.cons q .nil)
theorem each_of {K : PySem.W.Frag} {M : Addr → Prop} {β : Type} {f : β → D} : ∀ {xs : List β} {vs : List V} {us : List Value}, Reps K M H (xs.map f) vs → Vals vs us → EachIs (fun u x => ∃ v, RelV v u ∧ Rep K M H (f x) v) us xs
  | [], _, _, .nil, .nil => .nil
  | x :: xs, _, _, .cons r t, .cons q s => .cons ⟨_, q, r⟩ (each_of t s)
theorem of_each {K : PySem.W.Frag} {M : Addr → Prop} {β : Type} {f : β → D} : ∀ {xs : List β} {us : List Value}, EachIs (fun u x => ∃ v, RelV v u ∧ Rep K M H (f x) v) us xs → ∃ vs, Reps K M H (xs.map f) vs ∧ Vals vs us
  | [], _, .nil => ⟨[], .nil, .nil⟩
  | x :: xs, _, .cons ⟨v, q, r⟩ t => let ⟨vs, a, b⟩ := of_each t; ⟨v :: vs, .cons r a, .cons q b⟩
theorem each_at {α β : Type} {R : α → β → Prop} : ∀ {us : List α} {xs : List β}, EachIs R us xs → ∀ {i : Nat} {u : α}, us[i]? = some u → ∃ x, xs[i]? = some x ∧ R u x
  | _, _, .nil, i, u, h => by simp at h
  | _, _, .cons r t, 0, u, h => by simp at h; subst h; exact ⟨_, rfl, r⟩
  | _, _, .cons r t, i + 1, u, h => by
    obtain ⟨x, e, q⟩ := each_at t (i := i) (by simpa using h)
    exact ⟨x, by simpa using e, q⟩
end
section
variable {X : Cx} {pins : List (Addr × Obj)} {σ : L2.St} {H : Hp} {s : Shared} {m : Mu}
/-- data whose items a key compares -/
structure KeyD {β : Type} (xs : List β) (kd : β → D) : Prop where
  isP : ∀ x ∈ xs, isP (kd x) = true
  alike : AllAlike (xs.map fun x => dP (kd x))
  sortable : Sortable (xs.map fun x => dP (kd x))
  depth : ∀ x ∈ xs, (dP (kd x)).depth ≤ 8
theorem each_reads {β : Type} {kd : β → D} (I : Inv X pins σ H s) : ∀ {xs : List β} {us : List Value}, EachIs (fun u x => ∃ v, RelV v u ∧ Rep X.K (dom m) H (kd x) v) us xs → (∀ x ∈ xs, isP (kd x) = true) → EachIs (fun v d => ∃ as, PySem.Reads s.heap v d as) us (xs.map fun x => dP (kd x))
  | [], _, .nil, _ => .nil
  | x :: xs, _, .cons ⟨v, q, r⟩ t, h => .cons (Dp.reads I _ v _ (dP_rep (kd x) (h x List.mem_cons_self) r) q) (each_reads I t fun y hy => h y (List.mem_cons_of_mem _ hy))
/-- the sort with a key that a def gives; the list is the sort's own -/
theorem key_sort {β : Type} {f kd : β → D} {xs : List β} {A : Around} {fa a kS : Addr} {j : Nat} {asp : ASp} {us : List Value} {vs0 : List V} {e0 e1 : Nat} {P : PySem.Fin → Shared → Prop} {E : Value → Shared → Prop}
    (F : AFn X.prog X.w X.K X.mg X.base j fa asp) (hr : Room j A) (hfr : A.frames = X.A.frames) (hxe : X.xe = fun _ _ => False) (hu : A.units + 20 < cLine) (hk : KeyD xs kd) (ha : ∀ x ∈ xs, asp [f x] m fun d m2 => d = kd x ∧ m2 = m)
    (I : Inv X pins σ H s) (hm : HM X.K m H) (hz : xs.length ≤ sizeLine) (r0 : Reps X.K (dom m) H (xs.map f) vs0) (rv0 : Vals vs0 us)
    (fa' : FpOk X pins H a) (fk : FpOk X pins H kS) (hka : kS ≠ a) (na : s.heap.get? a = some (seqObj "list" #[] e1)) (nk : s.heap.get? kS = some (seqObj "list" #[] e0))
    (fin : ∀ s' H' ys, Inv X pins σ H' s' → HM X.K m H' → Later m H m H' → H' a = some (.lst ys) → Reps X.K (dom m) H' ((xs.mergeSort (dataLe false fun x => dP (kd x))).map f) ys → P (.done (.ret .none)) s') :
    wpAny (model X.prog X.w) A (ksk_rest a (.ref fa) false us.toArray e1 (.ref kS)) P E s := by
  let XA : Cx := { X with A := A }
  have hh : X.calm = true → A.handled = none := fun _ => hr.hd
  have ul : us.length = xs.length := by rw [← rv0.length, ← r0.length, List.length_map]
  have pinOk : ∀ {s' : Shared} {H' : Hp} {kA : List Value} {e : Nat}, Inv XA pins σ H' s' → H' a = none → H' kS = none → s'.heap.get? a = some (seqObj "list" #[] e1) → s'.heap.get? kS = some (seqObj "list" kA.toArray e) →
      Inv XA (pins ++ [(kS, seqObj "list" kA.toArray e), (a, seqObj "list" #[] e1)]) σ H' s' := fun {s' H' kA e} J h1 h2 h3 h4 => J.pins_of fun p hp => by
    rcases List.mem_append.mp hp with hp | hp
    · exact J.pin p (List.mem_append_right _ hp)
    · rcases List.mem_cons.mp hp with e | hp
      · subst e; exact ⟨h4, h2, fk.2.1, fk.2.2.1, fun v z => nomatch z⟩
      · rw [List.mem_singleton.mp hp]; exact ⟨h3, h1, fa'.2.1, fa'.2.2.1, fun v z => nomatch z⟩
  unfold ksk_rest
  refine wpAny_bind (wpAny_rule ?_)
  first
    | rw [List.forIn_toArray]
    | (rw [← Array.forIn_toList]; simp only [List.toList_toArray])
    | rw [← Array.forIn_toList]
  refine wpAny_bind (ksk_fold (fun i s' => ∃ H' kA e kvs, Inv XA (pins ++ [(kS, seqObj "list" (List.toArray kA) e), (a, seqObj "list" #[] e1)]) σ H' s' ∧ HM X.K m H' ∧ Later m H m H' ∧ Reps X.K (dom m) H' ((xs.take i).map kd) kvs ∧ Vals kvs kA) us 0 s ?_ ?_ ?_)
  · exact ⟨H, [], e0, [], pinOk (inv_around I hh hfr) fa'.1 fk.1 na nk, hm, Later.refl, by simpa using Reps.nil, .nil⟩
  · rintro i u s' hu' ⟨H', kA, e, kvs, J, hm', l', rk, vk⟩
    simp only [Nat.zero_add] at rk ⊢
    obtain ⟨x, hx, v, rv, rx⟩ := each_at (each_of (l'.reps r0) rv0) hu'
    have xm : x ∈ xs := List.mem_of_getElem? hx
    have hi : i < xs.length := (List.getElem?_eq_some_iff.mp hx).1
    have kl : kA.length = i := by rw [← vk.length, ← rk.length, List.length_map, List.length_take]; omega
    have run := AFn.run (X := XA) (Q' := fun y H2 => Post X.K m H' (fun d m2 => d = kd x ∧ m2 = m) y H2) F hr J (.cons rv .nil) hm' (.cons rx .nil) (ha x xm) fun y H2 p => p
    refine wpAny_bind (wpAny_attempt (wpAny_mono (show wpAny _ A _ _ XA.xe _ from run) (fun y s2 ⟨yv, H2, J2, ry, d, m2, hm2, l2, rd, ed, em⟩ => ?_) fun _ _ z => ?_))
    · subst ed em
      have g1 := (J2.pin (kS, seqObj "list" (List.toArray kA) e) (by simp)).1
      have g2 := J2.pin (a, seqObj "list" #[] e1) (by simp)
      have g3 := (J2.pin (kS, seqObj "list" (List.toArray kA) e) (by simp)).2.1
      refine wpAny_bind (listUpdate_at g1 rfl ?_ (by rw [List.size_toArray]; omega) (by rw [Array.size_push, List.size_toArray]; omega))
      obtain ⟨e2, he2⟩ : ∃ e2, (s2.heap.update kS (Obj.mapSeq (·.push y))).get? kS = some (seqObj "list" ((List.toArray kA).push y) e2) := ⟨_, get?_update_seq g1 (·.push y)⟩
      have J3 : Inv XA pins σ H2 { s2 with heap := s2.heap.update kS (Obj.mapSeq (·.push y)) } := J2.unpinned.turned (t' := s2.toks) (fun b o hb q => (Heap.get?_update_other _ _ (Ne.symm hb)).trans q) g3 fk.2.1 fk.2.2.2.1 fk.2.2.2.2.1 fk.2.2.2.2.2
      refine wpAny_pure ⟨rfl, H2, kA ++ [y], e2, kvs ++ [yv], pinOk J3 g2.2.1 g3 ?_ (by rw [he2]; simp), hm2, l'.trans l2, ?_, vk.append (.cons ry .nil)⟩
      · exact (Heap.get?_update_other _ _ hka).trans g2.1
      · have ek : xs.take (i + 1) = xs.take i ++ [x] := by rw [List.take_succ, hx]; rfl
        rw [ek, List.map_append]
        exact (l2.reps rk).append (.cons rd .nil)
    · have z : X.xe _ _ := z
      rw [hxe] at z; exact z.elim
  · rintro s' ⟨H', kA, e, kvs, J, hm', l', rk, vk⟩
    simp only [Nat.zero_add] at rk
    rw [ul, List.take_length] at rk
    have g1 := (J.pin (kS, seqObj "list" (List.toArray kA) e) (by simp)).1
    have g2 := J.pin (a, seqObj "list" #[] e1) (by simp)
    have g3 := (J.pin (kS, seqObj "list" (List.toArray kA) e) (by simp)).2.1
    have J' : Inv X pins σ H' s' := inv_around' J.unpinned I.ok.hd hfr
    have rd : EachIs (fun v d => ∃ as, PySem.Reads s'.heap v d as) kA (xs.map fun x => dP (kd x)) := each_reads J' (each_of rk vk) hk.isP
    have dl : ∀ d, d ∈ (xs.map fun x => dP (kd x)) → A.units + d.depth < cLine := fun d hd => by
      obtain ⟨x, hx, rfl⟩ := List.mem_map.mp hd
      have := hk.depth x hx
      omega
    refine wpAny_bind (listItems_at g1 rfl ?_)
    refine keyH_end (κ := dataKind s'.heap (xs.map fun x => dP (kd x))) (h₁ := without s'.heap kS) (b := false) (fun b o hb q => ?_) without_self g1 g2.1 hka (SortsAt.data (s := s') (by rw [List.toList_toArray]; exact rd) hk.alike hk.sortable dl) ?_ (by omega) fun h3 tk c k3 n3 => ?_
    · by_cases hbk : b = kS
      · rw [hbk, without_self] at q; cases q
      · rw [without_ne hbk] at q; exact q
    · rw [List.size_toArray, ← vk.length, ← rk.length, List.length_map, ul]
    · have ko : PySem.W.KeyedOut false (xs.map fun x => dP (kd x)) us (PySem.W.sortVals (dataKind s'.heap (xs.map fun x => dP (kd x))) false (List.toArray kA).toList us) := ⟨s'.heap, kA, hk.alike, by rw [List.toList_toArray], rd⟩
      have out := PySem.W.keyedOut_each (fun x => dP (kd x)) ko (each_of (l'.reps r0) rv0)
      obtain ⟨ys, ry, vy⟩ := of_each out
      have J4 : Inv X pins σ H' { s' with heap := h3, toks := tk } := J'.turnedL (t' := tk) (ch := [kS, a]) (fun b o hb q => by
        have h1 : b ≠ kS := fun z => hb (by simp [z])
        have h2 : b ≠ a := fun z => hb (by simp [z])
        exact k3 b o h2 (by rw [without_ne h1]; exact q)) fun b hb => by
          rcases List.mem_cons.mp hb with z | z
          · rw [z]; exact ⟨g3, fk.2⟩
          · rw [List.mem_singleton.mp z]; exact ⟨g2.2.1, fa'.2⟩
      have lz : ys.length ≤ sizeLine := by rw [← ry.length, List.length_map, List.length_mergeSort]; exact hz
      have J5 := inv_track J4 ⟨g2.2.1, fa'.2⟩ lz n3 vy
      have lt : Later m H' m (upd H' a (.lst ys)) := Later.same (same_upd g2.2.1)
      exact fin _ _ ys J5 (hm'.same (same_upd g2.2.1)) (l'.trans lt) upd_same (lt.reps ry)
end
end Ab
/-! C2: sorted(xs, key=f), sorted(d.values(), key=f). -/
namespace Ab
open L2 PySem PySem.Spec PyProof.Rows
open PySem.W (EachIs KeepsBut AllAlike Sortable dataLe)
section
variable {P : Program} {w : World} {A : Around} {s : Shared}
/-- what collecting an iterable comes to: its items, new objects -/
def Coll (P : Program) (w : World) (A : Around) (s : Shared) (v : Value) (us : List Value) : Prop := ∀ (E : Value → Shared → Prop) (Q : List Value → Shared → Prop),
  (∀ h' tk, (∀ b o, s.heap.get? b = some o → h'.get? b = some o) → s.heap.objs.size ≤ h'.objs.size → Q us { s with heap := h', toks := tk }) → wpAny (model P w) A (collect v) Q E s
theorem coll_list {l : Addr} {us : List Value} (hl : s.heap.IsList l us.toArray) (hz : us.length ≤ sizeLine) : Coll P w A s (.ref l) us := fun E Q h => by
  refine collect_list hl (h _ s.toks (fun b o e => ?_) ?_) hz
  · exact (Heap.get?_update_other _ _ (Ne.symm (Nat.ne_of_lt (Heap.lt_size e)))).trans (Heap.get?_push_of_some _ e)
  · rw [Heap.size_update, size_push']; exact Nat.le_succ _
theorem coll_view {K : Type} [DecidableEq K] {knd : PySem.KeyKind P w K} {r d : Addr} {kvs : List (K × Value)} {ep : Nat} (hh : A.handled = none) (hv : s.heap.IsValuesView r d) (hm : s.heap.DictAt knd d kvs ep) (hz : kvs.length ≤ sizeLine) : Coll P w A s (.ref r) (kvs.map (·.2)) := fun E Q h => by
  obtain ⟨S, hS0⟩ : ∃ S, S = s.heap.objs.size := ⟨_, rfl⟩
  unfold collect
  refine wpAny_bind (wpAny_runValue (codeAny_builtin entry_proto_collect' ?_))
  rw [Around.under_plainId PySem.F.plain_proto_collect _]
  show wpAny _ A.in1 (newList [] >>= fun l => again (.builtin "list.__iadd__" ⟨[l, .ref r], []⟩)) _ _ s
  refine wpAny_bind (wpAny_newObj_type (wpAny_pure ⟨plainId_quiet PySem.F.plain_list_iadd _, codeAny_builtin entry_list_iadd' ?_⟩))
  rw [Around.under_plainId PySem.F.plain_list_iadd _, ← hS0]
  have hS₁ : (s.heap.push { cls := .type "list", data := .seq ([] : List Value).toArray }).get? S = some { cls := .type "list", data := .seq #[] } := by rw [hS0]; exact Heap.get?_push_size _ rfl
  show wpAny _ A.in1 (Builtin.List.listExtendWith (.ref S) (.ref r) (.ref S)) _ _ _
  have rS : r < S := by rw [hS0]; exact let ⟨_, ho, _⟩ := hv; Heap.lt_size ho
  have dS : d < S := by rw [hS0]; exact hm.lt_size
  have src := PySem.W.kdl_values (prog := P) (w := w) (knd := knd) (d := d) (r := r) (kvs := kvs) (ep := ep)
  have key := PySem.W.kdl_extend (A := A) (s := { s with heap := s.heap.push { cls := .type "list", data := .seq ([] : List Value).toArray } }) (R := fun (q : Result) (s' : Shared) => ∃ (h' : Heap) (tk : Nat) (acc : Array Value) (c : Nat), q = .ok (.ret (.ref S)) ∧ s' = { s with heap := h', toks := tk } ∧
      (∀ b o, s.heap.get? b = some o → h'.get? b = some o) ∧ h'.get? S = some { cls := .type "list", dict := none, data := .seq acc c, slots := #[] } ∧ acc.toList = kvs.map (·.2)) src hh
    ⟨let ⟨o, ho, x⟩ := hv; ⟨o, Heap.get?_push_of_some _ ho, x⟩, hm.push _⟩ S (Nat.ne_of_gt rS) (Nat.ne_of_gt dS) (.ref S) 0 hS₁ (fun h' tk acc c hk hS' hacc => ⟨h', tk, acc, c, rfl, rfl, fun b o e => hk b o (by rw [hS0]; exact Nat.ne_of_lt (Heap.lt_size e)) (Heap.get?_push_of_some _ e), hS', ?_⟩) hz
  · have fin : ∀ (q : Result) (s' : Shared), (∃ (h' : Heap) (tk : Nat) (acc : Array Value) (c : Nat), q = .ok (.ret (.ref S)) ∧ s' = { s with heap := h', toks := tk } ∧ (∀ b o, s.heap.get? b = some o → h'.get? b = some o) ∧ h'.get? S = some { cls := .type "list", dict := none, data := .seq acc c, slots := #[] } ∧ acc.toList = kvs.map (·.2)) →
        ∃ v, q = .ok (.ret v) ∧ wpAny (model P w) A (match v with
          | .ref a => do match (← load a).data with
            | .seq xs _ => pure xs.toList
            | _ => unsupported "internal:collect"
          | _ => unsupported "internal:collect") Q E s' := by
      rintro q s' ⟨h', tk, acc, c, rfl, rfl, hk, hS', ea⟩
      refine ⟨_, rfl, ?_⟩
      show wpAny _ A (load S >>= _) _ _ _
      refine wpAny_bind (wpAny_load hS' (wpAny_pure ?_))
      show Q acc.toList _
      rw [ea]
      exact h h' tk hk (by rw [← hS0]; exact Nat.le_of_lt (Heap.lt_size hS'))
    refine wpAny_mono key (fun f s' x => ?_) fun e s' x => ?_
    · cases f with
      | done f =>
        obtain ⟨v, e, z⟩ := fin _ _ x
        cases e
        exact z
      | again c =>
        refine ⟨x.1, codeAny_mono x.2 fun q s2 y => ?_⟩
        obtain ⟨v, e, z⟩ := fin _ _ y
        subst e
        exact z
    · obtain ⟨_, _, _, _, e', _⟩ := x
      cases e'
  · refine PySem.W.kdl_vals_eq acc.toList (by rw [Array.length_toList]; exact hacc.1) fun j v e => hacc.2 j v (by rw [← Array.getElem?_toList]; exact e)
end
section
variable {X : Cx} {pins : List (Addr × Obj)} {σ : L2.St} {H : Hp} {s : Shared} {m : Mu}
theorem sorted_run_key {β : Type} {f kd : β → D} {xs : List β} {fa : Addr} {v : Value} {j k : Nat} {asp : ASp} {us : List Value} {vs0 : List V} {Q : VK} (hr : Room k X.A) (hjk : j + 2 ≤ k) (hxe : X.xe = fun _ _ => False)
    (F : AFn X.prog X.w X.K X.mg X.base j fa asp) (hk : KeyD xs kd) (ha : ∀ x ∈ xs, asp [f x] m fun d m2 => d = kd x ∧ m2 = m)
    (I : Inv X pins σ H s) (hm : HM X.K m H) (hz : xs.length ≤ sizeLine) (r0 : Reps X.K (dom m) H (xs.map f) vs0) (rv0 : Vals vs0 us) (col : Coll X.prog X.w X.A.in1 s v us) (ha1 : argsOk "sorted" ⟨[v], [(Str.ofString "key", .ref fa)]⟩)
    (fin : ∀ u H', Post X.K m H (fun d m' => d = .lst ((xs.mergeSort (dataLe false fun x => dP (kd x))).map f) ∧ m' = m) u H' → Q u H') : wpAny (model X.prog X.w) X.A (call (.builtin "sorted") [v] [(Str.ofString "key", .ref fa)]) (EP X pins σ Q) X.xe s := by
  have ul : us.length = xs.length := by rw [← rv0.length, ← r0.length, List.length_map]
  refine call_function_entry_kw kind_sorted plain_sorted entry_sorted ha1 ?_
  unfold Builtin.«sorted»
  refine wpAny_bind (m := checkCount "sorted" 1 1 _) (wpAny_pure (wpAny_bind ?_))
  refine col _ _ fun h1 tk k1 z1 => wpAny_bind (wpAny_newList ?_ (by rw [ul]; exact hz))
  obtain ⟨a, ea⟩ : ∃ a, a = h1.objs.size := ⟨_, rfl⟩
  show wpAny _ _ (holding [.ref h1.objs.size] (call (.builtin "list.sort") [.ref h1.objs.size] [(Str.ofString "key", .ref fa)]) >>= fun _ => ret (.ref h1.objs.size)) _ _ _
  rw [← ea]
  have ho : (h1.push (seqObj "list" us.toArray 0)).get? a = some (seqObj "list" us.toArray 0) := by rw [ea]; exact Heap.get?_push_size _ rfl
  refine wpAny_bind (wpAny_holding (wpAny_call_entry_kw slot_list_sort ⟨_, ho, rfl⟩ entry_list_sort ?body (ksk_l1 _ _)))
  case body =>
    rw [ksk_t1]
    unfold ksk_tree
    refine wpAny_bind (listItems_at ho rfl (wpAny_bind (listUpdate_at ho rfl ?_ (by rw [List.size_toArray, ul]; exact hz) (Nat.zero_le _))))
    obtain ⟨e1, ho1⟩ : ∃ e1, ((h1.push (seqObj "list" us.toArray 0)).update a (Obj.mapSeq fun _ => (#[] : Array Value))).get? a = some (seqObj "list" #[] e1) := ⟨_, get?_update_seq ho fun _ => #[]⟩
    refine wpAny_bind (seqEpoch_at ho1 rfl (wpAny_bind (wpAny_newTuple (wpAny_bind (wpAny_newList (wpAny_holding ?_) (Nat.zero_le _))) (by show us.length ≤ _; rw [ul]; exact hz))))
    obtain ⟨kS, ek⟩ : ∃ kS, kS = (((h1.push (seqObj "list" us.toArray 0)).update a (Obj.mapSeq fun _ => (#[] : Array Value))).push (seqObj "tuple" us.toArray 0)).objs.size := ⟨_, rfl⟩
    have zk : kS = a + 2 := by rw [ek, size_push', Heap.size_update, size_push', ea]
    have kp : ∀ b o, s.heap.get? b = some o → ((((h1.push (seqObj "list" us.toArray 0)).update a (Obj.mapSeq fun _ => (#[] : Array Value))).push (seqObj "tuple" us.toArray 0)).push (seqObj "list" #[] 0)).get? b = some o := fun b o e => by
      refine Heap.get?_push_of_some _ (Heap.get?_push_of_some _ ((Heap.get?_update_other _ _ ?_).trans (Heap.get?_push_of_some _ (k1 b o e))))
      rw [ea]
      exact Ne.symm (Nat.ne_of_lt (Heap.lt_size (k1 b o e)))
    have za : s.heap.objs.size ≤ a := by rw [ea]; exact z1
    have zs : s.heap.objs.size ≤ kS := by rw [zk]; exact Nat.le_trans za (Nat.le_add_right _ _)
    have ne : kS ≠ a := by rw [zk]; exact Nat.ne_of_gt (Nat.lt_add_of_pos_right (by decide))
    have J : Inv X pins σ H { s with heap := _, toks := tk } := I.kept (t' := tk) kp
    show wpAny _ _ (ksk_rest a (.ref fa) false us.toArray e1 (.ref (((h1.push (seqObj "list" us.toArray 0)).update a (Obj.mapSeq fun _ => (#[] : Array Value))).push (seqObj "tuple" us.toArray 0)).objs.size)) _ _ _
    rw [← ek]
    refine key_sort (A := X.A.in1.in1) (j := j) (vs0 := vs0) F (hr.mono hjk).in1.in1 rfl hxe (by have := (hr.mono hjk).un; show X.A.units + 1 + 1 + 20 < _; omega) hk ha J hm hz r0 rv0 (I.fpOk za (I.hok.fresh za)) (I.fpOk zs (I.hok.fresh zs)) ne
      (Heap.get?_push_of_some _ (Heap.get?_push_of_some _ ho1)) (by rw [ek]; exact Heap.get?_push_size _ rfl) fun s' H' ys J' hm' l' hy rs => ⟨_, rfl, wpAny_pure ⟨_, rfl, ?_⟩⟩
    have nd : ¬ dom m a := fun z => by
      obtain ⟨o, e⟩ := hm.there z
      rw [I.hok.fresh za] at e; cases e
    exact ⟨.ref a, H', J', rfl, fin _ _ ⟨.lst _, m, hm', l', .lst nd (.inl hy) rs, rfl, rfl⟩⟩
end
end Ab
/-! C3: sorted as an expression. -/
namespace Ab
open L2 PySem PySem.Spec PyProof.Rows
open PySem.W (EachIs AllAlike Sortable dataLe dataLt)
theorem kv_vals : ∀ {kvs : List (Key × V)} {vs : List (Key × Value)}, KV kvs vs → Vals (kvs.map (·.2)) (vs.map (·.2))
  | _, _, .nil => .nil
  | _, _, .cons r t => .cons r.2 (kv_vals t)
section
variable {X : Cx} {fb : FB} {k j : Nat} {ρ : Rho} {m : Mu} {o e : Expr} {x g : Str} {p gp kp pos apos cpos : Pos} {asp : ASp} {Q : QD}
/-- sorted(o.values(), key=g), o a dict -/
theorem AE.sortedV {β : Type} {f kd : β → D} (c : Cal X.prog X.w X.K X.mg X.base j g asp) (hxe : X.xe = fun _ _ => False) (hx : XF X fb k) (hj : j + 2 ≤ k) (hg : fb.glb x = true) (hm : X.mg x = none) (hv : bootBuiltins x = some (.builtin "sorted")) (hgg : fb.glb g = true)
    (h : AE X o ρ m fun d m1 => m1 = m ∧ ∃ ks, IsD m d ks ∧ ∃ xs : List β, ks.map (·.2) = xs.map f ∧ xs.length ≤ sizeLine ∧ KeyD xs kd ∧ (∀ y ∈ xs, asp [f y] m fun d m2 => d = kd y ∧ m2 = m) ∧ Q (.lst ((xs.mergeSort (dataLe false fun y => dP (kd y))).map f)) m)
    (hn : x ≠ "__name__" := by decide +kernel) (hdb : (x == ("__debug__" : Str)) = false := by decide +kernel) (hdg : (g == ("__debug__" : Str)) = false := by decide +kernel)
    (hbase : attributeBase o "values" X.env (eval o X.env) = eval o X.env := by rfl) (hline : (apos.endLine == cpos.line) = true := by rfl) :
    AE X (.Call (.Name x p) [.Call (.Attribute o "values" apos) [] [] cpos] [⟨some (Str.ofString "key"), .Name g gp, kp⟩] pos) ρ m Q := .mk fun σ H S pins s I => by
  obtain ⟨fa, Fn, gm, gk⟩ := c.ex
  refine wpAny_Call_Name_kw (ld_blt I (hx.glb x hg) hm hv ?_ hn hdb)
  refine PyProof.Rows.callWith_kw (e := .Call (.Attribute o "values" apos) [] [] cpos) (rest := []) ?_ rfl rfl rfl rfl
  show wpAny _ _ (spliced ((false, eval (.Call (.Attribute o "values" apos) [] [] cpos) X.env) :: backTo pos (starEach [] X.env))) _ _ s
  refine Calls.spliced_cons (wpAny_Call_method (T := "dict") (id := "dict.values") hbase rfl hline F.plainAttrs_dict F.slot_dict_values F.type_dict_values (thn (h.run σ H S pins s I) fun u s1 hq => ?_))
  obtain ⟨v', H1, I1, rx, d, m1, hm1, l1, r1, em, ks, isd, xs, ek, hz, hk, ha, q⟩ := hq
  subst em
  obtain ⟨a, kvs, ev, hd, e1, rs⟩ := isd.at hm1 r1
  subst ev
  obtain rfl : u = Value.ref a := rx
  obtain ⟨z1, hs, vs, kv, dof⟩ := hd.ok I1.hok
  obtain ⟨ep, hat⟩ := dof.dictAt
  refine ⟨hat.dictOf.typeIs, hat.dictOf.mapOf.noDict, ?_⟩
  have I2 : Inv X pins σ H1 { s1 with heap := s1.heap.push { cls := .type "dict_values", data := .fields #[.ref a] } } := I1.kept (t' := s1.toks) fun b ob q => Heap.get?_push_of_some _ q
  show wpAny _ _ (callWith cpos (.builtin "dict.values") [.ref a] [] []) _ X.xe s1
  refine method_meetsIn F.slot_dict_values F.entry_dict_values rfl (PySem.evalArgs_none ⟨rfl, hat.dictOf.typeIs, F.args_dict_values_1 _, _, meets_dict_values (mixKind X.prog X.w) a hs, ⟨vs, dof⟩, ?_⟩)
  refine Calls.spliced_nil ?_
  have I2p : Inv X (pins ++ [(s1.heap.objs.size, { cls := .type "dict_values", data := .fields #[.ref a] })]) σ H1 { s1 with heap := s1.heap.push { cls := .type "dict_values", data := .fields #[.ref a] } } := I2.pins_of fun pp hp => by
    rcases List.mem_append.mp hp with hp | hp
    · exact I2.pin pp (List.mem_append_right _ hp)
    · rw [List.mem_singleton.mp hp]
      obtain ⟨f0, f1, f2, _⟩ := I1.fpOk (Nat.le_refl _) (I1.hok.fresh (Nat.le_refl _))
      exact ⟨Heap.get?_push_size _ rfl, f0, f1, f2, fun v z => nomatch z⟩
  have kw : Ab.AK X [⟨some (Str.ofString "key"), .Name g gp, kp⟩] ρ m1 fun zs m2 => zs = [.ref fa] ∧ m2 = m1 := AK.cons (AE.gref hx hgg gm (AK.nil ⟨rfl, rfl⟩) hdg)
  refine thn (kw.run σ H1 (S.later hm1 l1) pos _ _ I2p) fun ws s2 ⟨zv, H2, I3, rz, zs, m2, hm2, l2, r2, ez, em⟩ => ?_
  subst ez em
  cases r2 with
  | cons r2 t2 =>
  cases t2
  cases r2
  cases rz with
  | cons r3 t3 =>
  cases t3
  obtain rfl : _ = Value.ref fa := r3
  obtain ⟨a2, kvs2, ev, hd2, e2, rs2⟩ := isd.at hm2 (l2.rep r1)
  cases ev
  obtain ⟨z2, hs2, vs2, kv2, dof2⟩ := hd2.ok I3.hok
  obtain ⟨ep2, hat2⟩ := dof2.dictAt
  have view := (I3.pin (s1.heap.objs.size, { cls := .type "dict_values", data := .fields #[.ref a] }) (by simp)).1
  have col : Coll X.prog X.w X.A.in1 s2 (.ref s1.heap.objs.size) (vs2.map (·.2)) := coll_view (knd := mixKind X.prog X.w) (ep := ep2) hx.room.hd ⟨_, view, rfl, rfl⟩ hat2 (by rw [← kv2.length]; exact z2)
  rw [ek] at rs2
  refine wpAny_mono (sorted_run_key (k := k) (pins := pins) hx.room hj hxe Fn hk ha I3.unpinned hm2 hz rs2 (kv_vals kv2) col (ksk_s1 _ _) fun u H' p => p) (fun u s3 ⟨v3, H3, I4, r4, d4, m4, hm4, l4, rd4, e4, em4⟩ => ?_) fun _ _ z => z
  subst e4 em4
  exact ⟨v3, H3, I4, r4, _, _, hm4, l1.trans (l2.trans l4), rd4, q⟩
end
end Ab
/-! C4: sorted of lists, the order in plain words. -/
namespace Ab
open L2 PySem PySem.Spec PyProof.Rows
open PyProof.Rows (b2i)
open PySem.W (EachIs AllAlike Sortable dataLe dataLt alike alikeAll)
/-! ### the order -/
theorem sort_pw {β : Type} (kd : β → PyData) (xs : List β) : (xs.mergeSort (dataLe false kd)).Pairwise fun a b => dataLe false kd a b = true := by
  have T := PySem.W.sortLe_total (listOrd itemOrd) false fun b => PySem.W.keyToks (kd b)
  exact List.pairwise_mergeSort (fun a b c h1 h2 => T.trans a b c h1 h2) (fun a b => by rcases T.total a b with h | h <;> simp [dataLe, h]) xs
theorem sort_perm {β : Type} (kd : β → PyData) (xs : List β) : (xs.mergeSort (dataLe false kd)).Perm xs := List.mergeSort_perm _ _
theorem lt_tcons {x y : PyData} (h : alike x y = true) (xs ys : List PyData) : dataLt (.tuple (x :: xs)) (.tuple (y :: ys)) = if PyData.eqv x y = true then dataLt (.tuple xs) (.tuple ys) else dataLt x y := by
  rw [PySem.W.dataLt_tuple, PySem.W.dataLt_cons h, PySem.W.dataLt_tuple]
theorem lt_tnil : dataLt (.tuple []) (.tuple []) = false := by rw [PySem.W.dataLt_tuple]; exact lex_irrefl _
theorem alike_ii {i j : Int} : alike (.int i) (.int j) = true := by simp [alike]
theorem alike_ss {i j : Str} : alike (.str i) (.str j) = true := by simp [alike]
theorem alike_bb {i j : Bool} : alike (.bool i) (.bool j) = true := by simp [alike]
theorem lt_int (x y : Int) (xs ys : List PyData) : dataLt (.tuple (.int x :: xs)) (.tuple (.int y :: ys)) = decide (x < y ∨ (x = y ∧ dataLt (.tuple xs) (.tuple ys) = true)) := by
  rw [lt_tcons alike_ii, PySem.W.dataLt_int]
  by_cases h : x = y
  · subst h; simp [PyData.eqv]
  · simp [PyData.eqv, h]
theorem lt_str (x y : Str) (xs ys : List PyData) : dataLt (.tuple (.str x :: xs)) (.tuple (.str y :: ys)) = decide (x.cps.toList < y.cps.toList ∨ (x = y ∧ dataLt (.tuple xs) (.tuple ys) = true)) := by
  rw [lt_tcons alike_ss, PySem.W.dataLt_str]
  by_cases h : x = y
  · subst h; simp [PyData.eqv, List.lt_irrefl]
  · simp [PyData.eqv, h]
theorem lt_bool (x y : Bool) (xs ys : List PyData) : dataLt (.tuple (.bool x :: xs)) (.tuple (.bool y :: ys)) = decide ((x = false ∧ y = true) ∨ (x = y ∧ dataLt (.tuple xs) (.tuple ys) = true)) := by
  rw [lt_tcons alike_bb, PySem.W.dataLt_bool]
  cases x <;> cases y <;> simp [PyData.eqv, b2i]
section
variable {X : Cx} {fb : FB} {k j : Nat} {ρ : Rho} {m : Mu} {e : Expr} {x g : Str} {p gp kp pos : Pos} {asp : ASp} {Q : QD}
theorem each_reads2 {β : Type} {kd : β → D} {pins : List (Addr × Obj)} {σ : L2.St} {H : Hp} {s : Shared} (I : Inv X pins σ H s) : ∀ {xs : List β} {us : List Value}, EachIs (fun u x => ∃ v, RelV v u ∧ Rep X.K (dom m) H (kd x) v) us xs → (∀ x ∈ xs, isP (kd x) = true) → EachIs (fun v x => ∃ as, PySem.Reads s.heap v (dP (kd x)) as) us xs
  | [], _, .nil, _ => .nil
  | x :: xs, _, .cons ⟨v, q, r⟩ t, h => .cons (Dp.reads I _ v _ (dP_rep (kd x) (h x List.mem_cons_self) r) q) (each_reads2 I t fun y hy => h y (List.mem_cons_of_mem _ hy))
/-- sorted(xs) -/
theorem ca_sortedD {β : Type} {f : β → D} (hu : X.A.units + 20 < cLine) : CallA X (.builtin "sorted") fun ds m Q => ∃ d, ∃ xs : List β, ds = [d] ∧ IsL m d (xs.map f) ∧ xs.length ≤ sizeLine ∧ KeyD xs f ∧ Q (.lst ((xs.mergeSort (dataLe false fun y => dP (f y))).map f)) m := fun ds m vs H Q hm rs ⟨d, xs, e, hl, hz, hk, q⟩ pins s σ us I rv => by
  subst e
  cases rs with
  | cons r t =>
  cases t
  obtain ⟨a, vs, ev, hr, rx⟩ := hl.rd hm r
  subst ev
  cases rv with
  | cons r1 t1 =>
  cases t1
  obtain rfl : _ = Value.ref a := r1
  obtain ⟨its, rv, hl2, hz2⟩ := I.list (.inl hr)
  have eo := each_of rx rv
  refine PySem.W.sorted_data (R := fun u x => ∃ v, RelV v u ∧ Rep X.K (dom m) H (f x) v) (enc := fun y => dP (f y)) (vs := its) (bs := xs) hl2.isList eo ?_ hk.alike hk.sortable hz (fun b hb => ?_) fun out lo er => ?_
  · exact each_reads2 I eo hk.isP
  · have := hk.depth b hb
    omega
  · obtain ⟨ys, ry, vy⟩ := of_each er
    obtain ⟨ep, he⟩ := PyProof.Rows.sortedAll_at s.heap its (List.toArray out)
    have fr : H (s.heap.objs.size + 1) = none := I.hok.fresh (Nat.le_succ _)
    have lz : ys.length ≤ sizeLine := by rw [← ry.length, List.length_map, List.length_mergeSort]; exact hz
    refine ⟨.ref _, upd H (s.heap.objs.size + 1) (.lst ys), I.laid (t' := s.toks) (fun _ _ => PyProof.Rows.sortedAll_old) (Nat.le_succ _) ⟨lz, out, ep, vy, he⟩, rfl, ?_⟩
    exact Post.new hm fr (.lst (notdom hm fr) (.inl upd_same) (ry.same (same_upd fr))) q
/-- sorted(xs, key=g) -/
theorem AE.sortedK {β : Type} {f kd : β → D} (c : Cal X.prog X.w X.K X.mg X.base j g asp) (hxe : X.xe = fun _ _ => False) (hx : XF X fb k) (hj : j + 2 ≤ k) (hg : fb.glb x = true) (hm : X.mg x = none) (hv : bootBuiltins x = some (.builtin "sorted")) (hgg : fb.glb g = true)
    (h : AE X e ρ m fun d m1 => m1 = m ∧ ∃ xs : List β, IsL m d (xs.map f) ∧ xs.length ≤ sizeLine ∧ KeyD xs kd ∧ (∀ y ∈ xs, asp [f y] m fun d m2 => d = kd y ∧ m2 = m) ∧ Q (.lst ((xs.mergeSort (dataLe false fun y => dP (kd y))).map f)) m)
    (hn : x ≠ "__name__" := by decide +kernel) (hdb : (x == ("__debug__" : Str)) = false := by decide +kernel) (hdg : (g == ("__debug__" : Str)) = false := by decide +kernel)
    (he : backTo pos (starEach [e] X.env) = (false, eval e X.env) :: backTo pos (starEach [] X.env) := by rfl) (hpl : (backTo pos (starEach [e] X.env)).any (·.1) = false := by rfl) :
    AE X (.Call (.Name x p) [e] [⟨some (Str.ofString "key"), .Name g gp, kp⟩] pos) ρ m Q := .mk fun σ H S pins s I => by
  obtain ⟨fa, Fn, gm, gk⟩ := c.ex
  refine wpAny_Call_Name_kw (ld_blt I (hx.glb x hg) hm hv ?_ hn hdb)
  refine PyProof.Rows.callWith_kw (e := e) (rest := []) ?_ he hpl rfl rfl
  rw [he]
  refine Calls.spliced_cons (thn (h.run σ H S pins s I) fun u s1 hq => Calls.spliced_nil ?_)
  obtain ⟨v', H1, I1, rx, d, m1, hm1, l1, r1, em, xs, hl, hz, hk, ha, q⟩ := hq
  subst em
  obtain ⟨a, vs, ev, hr, rs⟩ := hl.rd hm1 r1
  subst ev
  obtain rfl : u = Value.ref a := rx
  have kw : Ab.AK X [⟨some (Str.ofString "key"), .Name g gp, kp⟩] ρ m1 fun zs m2 => zs = [.ref fa] ∧ m2 = m1 := AK.cons (AE.gref hx hgg gm (AK.nil ⟨rfl, rfl⟩) hdg)
  refine thn (kw.run σ H1 (S.later hm1 l1) pos _ _ I1) fun ws s2 ⟨zv, H2, I3, rz, zs, m2, hm2, l2, r2, ez, em⟩ => ?_
  subst ez em
  cases r2 with
  | cons r2 t2 =>
  cases t2
  cases r2
  cases rz with
  | cons r3 t3 =>
  cases t3
  obtain rfl : _ = Value.ref fa := r3
  obtain ⟨a2, vs2, ev, hr2, rs2⟩ := hl.rd hm2 (l2.rep r1)
  cases ev
  obtain ⟨its, rv, hl2, hz2⟩ := I3.list (.inl hr2)
  have col : Coll X.prog X.w X.A.in1 s2 (.ref a) its := coll_list hl2.isList (by rw [← rv.length]; exact hz2)
  refine wpAny_mono (sorted_run_key (k := k) (pins := pins) hx.room hj hxe Fn hk ha I3 hm2 hz rs2 rv col (ksk_s1 _ _) fun u H' p => p) (fun u s3 ⟨v3, H3, I4, r4, d4, m4, hm4, l4, rd4, e4, em4⟩ => ?_) fun _ _ z => z
  subst e4 em4
  exact ⟨v3, H3, I4, r4, _, _, hm4, l1.trans (l2.trans l4), rd4, q⟩
end
end Ab
/-! C5: sets of ints from lists: sorted(set(xs)), len(set(xs)). -/
namespace Ab
open L2 PySem PySem.Spec PyProof.Rows
abbrev freshSet (w : World) : Obj := { cls := .type "set", dict := none, data := .set #[] 0 (.fresh 0 0 (!w.params.followText "set-order")) }
section
variable {P : Program} {w : World} {A : Around} {E : Value → Shared → Prop} {s : Shared}
/-- set(xs), xs a list of ints: its table is known -/
theorem set_list {l : Addr} {items : Array Value} (ns : List Int) {Q : Value → Shared → Prop} (hh : A.handled = none) (hl : s.heap.IsList l items) (hit : IntsAre items.toList ns) (hb : ns.length + 1 < scanBound)
    (h : ∀ (h' : Heap) (tk c : Nat), L2.SetR w h' s.heap.objs.size (fun j => decide (j ∈ ns)) c → c ≤ ns.length → (∀ b o, s.heap.get? b = some o → h'.get? b = some o) → Q (.ref s.heap.objs.size) { s with heap := h', toks := tk }) :
    wpAny (model P w) A (call (.type "set") [.ref l]) Q E s := by
  have hisz : items.size = ns.length := by rw [← Array.length_toList]; exact IntsAre.length hit
  obtain ⟨_, _, hmro⟩ := F.called_set.mro
  have hmade := F.called_set.made
  have hsub := F.called_set.sub
  refine wpAny_call (codeAny_of_tree ?_)
  show wpAny _ _ (callAny (.type "set") _) _ _ _
  refine wpAny_pure ⟨Code.quiet_builtin _ (by decide +kernel), codeAny_builtin F.entry_type_call ?_⟩
  rw [Around.under_plain (weight_type_call_type "set" [.ref l] []) rfl]
  have h1 := F.called_set.notType
  have h2 := F.called_set.canCreate
  have hct := F.typeCall_set_1 (.ref l)
  repeat (any_goals (first | assumption | wp_step))
  refine codeAny_mono (code_set_led1 (.ref l) (E := E) (Q₁ := fun obj s₁ => obj = .ref s.heap.objs.size ∧ s₁ = { s with heap := s.heap.push (freshSet w) }) ⟨rfl, rfl⟩) fun r s₁ hr => ?_
  match r, hr with
  | .error e, hr => exact hr
  | .ok .next, hr => exact hr.elim
  | .ok .brk, hr => exact hr.elim
  | .ok .cont, hr => exact hr.elim
  | .ok (.ret obj), hr =>
    obtain ⟨rfl, rfl⟩ := hr
    have hS : (s.heap.push (freshSet w)).get? s.heap.objs.size = some (freshSet w) := Heap.get?_push_size _ rfl
    have hT : Shared.TypeIs { s with heap := s.heap.push (freshSet w) } (.ref s.heap.objs.size) "set" := ⟨_, hS, rfl⟩
    have hli := F.called_set.init.lookup
    have hbi := F.called_set.init.bind (.ref s.heap.objs.size)
    repeat (any_goals (first | assumption | wp_step))
    refine codeAny_mono (codeAny_call_builtin (R := wants (fun r s₂ => r = .none ∧ ∃ h' tk c, s₂ = { s with heap := h', toks := tk } ∧ L2.SetR w h' s.heap.objs.size (fun j => decide (j ∈ ns)) c ∧ c ≤ ns.length ∧ (∀ b o, s.heap.get? b = some o → h'.get? b = some o)) E) F.called_set.init.plain F.entry_set_init (check_set_init_1 hT ?_)) fun r₂ s₂ hr₂ => ?_
    · obtain ⟨⟨ocls, odict, odata, oslots⟩, hol, hcl, nl, hdl⟩ := hl
      simp only at hcl hdl
      subst hcl hdl
      have hol' : (s.heap.push (freshSet w)).get? l = some { cls := .type "list", dict := odict, data := .seq items nl, slots := oslots } := Heap.get?_push_of_some _ hol
      have hl1 : (s.heap.push (freshSet w)).IsList l items := ⟨_, hol', rfl, nl, rfl⟩
      have hsls := F.sub_list_set
      have hslf := F.sub_list_frozenset
      have hne : (Value.type "list" == Value.type "dict") = false := by decide
      unfold Builtin.«set.__init__» noKeywords Builtin.Frozenset.updateFrom
      generalize hPI : pyIter = PI
      wp_walk
      subst hPI
      refine wpAny_pyIter_list hl1 (wpAny_bind (wpAny_runValue ?_))
      have hlS : l < s.heap.objs.size := Heap.lt_size hol
      have hh3 : A.in1.in1.in1.handled = none := by simp [hh]
      have zI : (s.heap.push (freshSet w)).objs.size = s.heap.objs.size + 1 := Heap.size_push ..
      have hneI : l ≠ (s.heap.push (freshSet w)).objs.size := by rw [zI]; exact Nat.ne_of_lt (Nat.lt_succ_of_lt hlS)
      have hSf : s.heap.objs.size ∉ [(s.heap.push (freshSet w)).objs.size, l] := fun z => by
        rw [zI] at z
        rcases List.mem_cons.mp z with z | z
        · exact absurd z (Nat.ne_of_lt (Nat.lt_succ_self _))
        · exact absurd (List.mem_singleton.mp z) (Nat.ne_of_gt hlS)
      have hval : ∀ (i : Nat) (v : Value), items[i]? = some v → ∃ k t, ns[i]? = some k ∧ v = .int k t := fun i v hv => by
        have hi : i < ns.length := by rw [← hisz]; exact (Array.getElem?_eq_some_iff.mp hv).1
        obtain ⟨t, e⟩ := PyProof.Rows.IntsAre.int_at hit i v (by rw [Array.getElem?_toList]; exact hv)
        exact ⟨ns[i], t, List.getElem?_eq_getElem hi, by rw [e, List.getD_eq_getElem?_getD, List.getElem?_eq_getElem hi] <;> rfl⟩
      refine set_update_ints ((Walks.list hh3 _ l hneI items).toS) s.heap.objs.size hSf ns hisz hb hval (items.size - 0) 0 _ (by omega) (Nat.zero_le _) ⟨⟨_, Heap.get?_push_size _ rfl, rfl, rfl⟩, (hl1.push _)⟩ ?_ ?_
      · exact ⟨0, Nat.le_refl 0, setR_new_at (Heap.get?_push_of_some _ hS)⟩
      · rintro ⟨h', g2, d', tk', os'⟩ c' hm hc' hS'
        obtain rfl : g2 = s.gens := hm.gens
        obtain rfl : d' = s.drawn := hm.drawn
        obtain rfl : os' = s.os := hm.os
        rw [hisz] at hc'
        show wpAny _ _ _ _ _ _
        refine wpAny_pure ?_
        show wpAny _ _ (ret Value.none) _ _ _
        refine wpAny_pure ⟨rfl, h', tk', c', rfl, hS', hc', fun b o e => hm.heap b o (fun z => ?_) (Heap.get?_push_of_some _ (Heap.get?_push_of_some _ e))⟩
        have hb0 : b < s.heap.objs.size := Heap.lt_size e
        rcases List.mem_cons.mp z with z | z
        · exact absurd z (Nat.ne_of_lt hb0)
        · have z := List.mem_singleton.mp z
          rw [z, zI] at hb0
          exact absurd (Nat.lt_of_succ_lt hb0) (Nat.lt_irrefl _)
    · match r₂, hr₂ with
      | .error e, hr₂ => exact hr₂
      | .ok .next, hr₂ => exact hr₂.elim
      | .ok .brk, hr₂ => exact hr₂.elim
      | .ok .cont, hr₂ => exact hr₂.elim
      | .ok (.ret r), hr₂ =>
        obtain ⟨rfl, h', tk, c', rfl, hS', hc', hk'⟩ := hr₂
        repeat (any_goals (first | assumption | wp_step))
        exact h _ _ _ hS' hc' hk'
end
end Ab
/-! C6: sorted(set(xs)), len(set(xs)) as expressions; list(range(..)). -/
namespace Ab
open L2 PySem PySem.Spec PyProof.Rows
section
variable {X : Cx} {fb : FB} {k j : Nat} {ρ : Rho} {m : Mu} {a b : Expr} {x y : Str} {p p2 q pos : Pos} {Q : QD}
theorem setR_keys {w : World} {h : Heap} {a : Addr} {S : Int → Bool} {n : Nat} (R : L2.SetR w h a S n) : ∃ us : List Int, us.Nodup ∧ (∀ k, S k = true ↔ k ∈ us) ∧ us.length = n := by
  obtain ⟨o, es, ep, t, ho, _, _, _, nd, mem, _, _, sz, _⟩ := R
  exact ⟨_, nd, mem, by rw [List.length_map, Array.length_toList]; exact sz⟩
/-- the set that a list of ints makes, as an argument -/
theorem set_arg (hx : XF X fb k) (hg : fb.glb y = true) (hm : X.mg y = none) (hv : bootBuiltins y = some (.type "set")) {R : List Int → Mu → Prop} (h : AE X a ρ m fun d m1 => ∃ ns : List Int, IsL m1 d (ns.map D.int) ∧ ns.length ≤ 4000 ∧ R ns m1)
    (hn : y ≠ "__name__") (hdb : (y == ("__debug__" : Str)) = false) (na : starEach [a] X.env = (false, eval a X.env) :: starEach [] X.env) {σ : L2.St} {H : Hp} (S : SR X.K ρ m σ H) {pins : List (Addr × Obj)} {s : Shared} (I : Inv X pins σ H s) {Q' : Value → Shared → Prop}
    (fin : ∀ c s' H' m' ns n, R ns m' → Inv X pins σ H' s' → HM X.K m' H' → Later m H m' H' → H' c = some (SetO X.w c (fun j => decide (j ∈ ns)) n) → L2.SetR X.w s'.heap c (fun j => decide (j ∈ ns)) n → n ≤ ns.length → Q' (.ref c) s') :
    wpAny (model X.prog X.w) X.A (eval (.Call (.Name y p2) [a] [] q) X.env) Q' X.xe s := by
  refine wpAny_Call_Name_kw (ld_blt I (hx.glb _ hg) hm hv ?_ hn hdb)
  refine PyProof.Rows.callWith_type1 (PyProof.Rows.args_cons (thn (h.run σ H S pins s I) fun v s1 hq => PyProof.Rows.args_nil ?_) na) na rfl
  obtain ⟨v', H1, I1, rx, d, m1, hm1, l1, r1, ns, hl, hz, hR⟩ := hq
  obtain ⟨l, vs, ev, hr, rs⟩ := hl.rd hm1 r1
  subst ev
  obtain rfl : v = Value.ref l := rx
  rw [reps_ints rs] at hr
  obtain ⟨its, rv, hl2, hz2⟩ := I1.list (.inl hr)
  refine set_list ns (I1.ok.hd hx.calm) hl2.isList (by simpa using rv.ints) (by unfold scanBound; omega) fun h' tk c hS hc hk => ?_
  have fr : H1 s1.heap.objs.size = none := I1.hok.fresh (Nat.le_refl _)
  exact fin _ _ _ m1 ns c hR (I1.laid (t' := tk) hk (Nat.le_refl _) (setO_new hS)) (hm1.same (same_upd fr)) (l1.trans (Later.same (same_upd fr))) upd_same hS hc
theorem AE.lenSetI (hx : XF X fb k) (hg : fb.glb x = true) (hm : X.mg x = none) (hv : bootBuiltins x = some (.builtin "len")) (hg2 : fb.glb y = true) (hm2 : X.mg y = none) (hv2 : bootBuiltins y = some (.type "set"))
    (h : AE X a ρ m fun d m1 => ∃ ns : List Int, IsL m1 d (ns.map D.int) ∧ ns.length ≤ 4000 ∧ ∀ us : List Int, us.Nodup → (∀ k, k ∈ us ↔ k ∈ ns) → Q (.int us.length) m1)
    (hn : x ≠ "__name__" := by decide +kernel) (hdb : (x == ("__debug__" : Str)) = false := by decide +kernel) (hn2 : y ≠ "__name__" := by decide +kernel) (hdb2 : (y == ("__debug__" : Str)) = false := by decide +kernel)
    (na : starEach [a] X.env = (false, eval a X.env) :: starEach [] X.env := by rfl) : AE X (.Call (.Name x p) [.Call (.Name y p2) [a] [] q] [] pos) ρ m Q := .mk fun σ H S pins s I => by
  refine wpAny_Call_Name_kw (ld_blt I (hx.glb _ hg) hm hv ?_ hn hdb)
  refine PyProof.Rows.callWith_builtin1 (PyProof.Rows.args_cons (set_arg hx hg2 hm2 hv2 h hn2 hdb2 na S I fun c s' H' m' ns n hR I' hm' l' hc hS hle => PyProof.Rows.args_nil ?_) rfl) rfl rfl
  obtain ⟨us, nd, mem, lu⟩ := setR_keys hS
  obtain ⟨o, es, ep, t, ho, hex, hd, _, _, _, sb, hf, sz, _⟩ := hS
  refine call_len_set ho hex hd hf (by have : es.size < scanBound := sb; unfold scanBound at this; omega) ⟨.int us.length, H', I'.tok _, ⟨_, by rw [lu, sz]⟩, .int us.length, m', hm', l', .int, ?_⟩
  exact hR us nd fun k => by rw [← mem k]; simp
theorem AE.sortedSetI (hx : XF X fb k) (hg : fb.glb x = true) (hm : X.mg x = none) (hv : bootBuiltins x = some (.builtin "sorted")) (hg2 : fb.glb y = true) (hm2 : X.mg y = none) (hv2 : bootBuiltins y = some (.type "set"))
    (h : AE X a ρ m fun d m1 => ∃ ns : List Int, IsL m1 d (ns.map D.int) ∧ ns.length ≤ 4000 ∧ (∀ us : List Int, us.Nodup → (∀ k ∈ us, k ∈ ns) → us.length < 64) ∧ ∀ ys : List Int, ys.Pairwise (· < ·) → (∀ k, k ∈ ys ↔ k ∈ ns) → Q (.lst (ys.map D.int)) m1)
    (hn : x ≠ "__name__" := by decide +kernel) (hdb : (x == ("__debug__" : Str)) = false := by decide +kernel) (hn2 : y ≠ "__name__" := by decide +kernel) (hdb2 : (y == ("__debug__" : Str)) = false := by decide +kernel)
    (na : starEach [a] X.env = (false, eval a X.env) :: starEach [] X.env := by rfl) : AE X (.Call (.Name x p) [.Call (.Name y p2) [a] [] q] [] pos) ρ m Q := .mk fun σ H S pins s I => by
  refine wpAny_Call_Name_kw (ld_blt I (hx.glb _ hg) hm hv ?_ hn hdb)
  refine PyProof.Rows.callWith_builtin1 (PyProof.Rows.args_cons (set_arg hx hg2 hm2 hv2 (h.imp fun d m1 ⟨ns, h1, h2, h3⟩ => ⟨ns, h1, h2, (h3 : (fun ns m1 => (∀ us : List Int, us.Nodup → (∀ k ∈ us, k ∈ ns) → us.length < 64) ∧ ∀ ys : List Int, ys.Pairwise (· < ·) → (∀ k, k ∈ ys ↔ k ∈ ns) → Q (.lst (ys.map D.int)) m1) ns m1)⟩) hn2 hdb2 na S I fun c s' H' m' ns n hR I' hm' l' hc hS hle => PyProof.Rows.args_nil ?_) rfl) rfl rfl
  obtain ⟨us, nd, mem, lu⟩ := setR_keys hS
  obtain ⟨hlt, q⟩ := hR
  have n64 : n < 64 := by rw [← lu]; exact hlt us nd fun k hk => by simpa using (mem k).mpr hk
  refine wpAny_mono (cr_sortedSet hx.calm pins s' σ H' [.ref c] [.ref c] (fun u H2 => Post X.K m H Q u H2) I' (.cons rfl .nil) ⟨c, _, n, rfl, hc, n64, fun ns' p up hmem hl hp => ?_⟩) (fun _ _ z => z) fun _ _ z => z
  exact (Post.new hm' hp (.lst (notdom hm' hp) (.inl upd_same) (to_ints.same (same_upd hp))) (q ns' up fun k => by rw [hmem k]; simp)).from l'
end
end Ab
/-! C7: == of tuples, tuple targets, list(range(..)). -/
namespace Ab
open L2 PySem PySem.Spec PyProof.Rows
theorem EqK.pair {α β : Type} {f : α → D} {g : β → D} {o1 : α → Prop} {o2 : β → Prop} {n : Nat} (F : EqK f o1 n) (G : EqK g o2 n) : EqK (fun x : α × β => .tup [f x.1, g x.2]) (fun x => o1 x.1 ∧ o2 x.2) (n + 1) where
  isP := fun x h => by show isPs [f x.1, g x.2] = true; simp [isPs, F.isP _ h.1, G.isP _ h.2]
  dep := fun x h => by
    show PyData.depth (.tuple (dPs [f x.1, g x.2])) ≤ n + 1
    have h1 := F.dep _ h.1
    have h2 := G.dep _ h.2
    simp only [dPs, PyData.depth, PyData.depthAll]
    omega
  eqv := fun x y => by
    show PyData.eqv (.tuple (dPs [f x.1, g x.2])) (.tuple (dPs [f y.1, g y.2])) = true ↔ _
    simp only [dPs, PyData.eqv, PyData.eqvAll, Bool.and_eq_true, Bool.and_true, F.eqv, G.eqv]
    exact ⟨fun ⟨a, b⟩ => Prod.ext a b, fun e => by rw [e]; exact ⟨rfl, rfl⟩⟩
theorem setRs_len : ∀ {is : List Nat} {ds : List D} {ρ ρ' : Rho}, SetRs is ds ρ ρ' → ds.length = is.length
  | _, _, _, _, .nil => rfl
  | _, _, _, _, .cons _ t => congrArg (· + 1) (setRs_len t)
theorem vals_ix : ∀ {vs : List V} {us : List Value}, vs.length = us.length → (∀ (k : Nat) v u, vs[k]? = some v → us[k]? = some u → RelV v u) → Vals vs us
  | [], [], _, _ => .nil
  | [], _ :: _, h, _ => by cases h
  | _ :: _, [], h, _ => by cases h
  | v :: vs, u :: us, h, q => .cons (q 0 v u rfl rfl) (vals_ix (by simpa using h) fun k v u h1 h2 => q (k + 1) v u (by simpa using h1) (by simpa using h2))
section
variable {X : Cx} {fb : FB} {k : Nat} {ρ : Rho} {m : Mu} {a b : Expr} {x y z : Str} {p p1 p2 p3 q pos : Pos} {Q : QD}
theorem ag_names {ts : List Expr} {is : List Nat} {kk : Nat} {d : D} {R : Rho → Mu → Prop} (hx : XF X fb k) (hpg : PGs X ts (gNames is)) (hn : (assignEach ts X.env).length = is.length) (hst : (assignEach ts X.env).findIdx? (·.1) = none)
    (h : ∃ ds ρ', d = .tup ds ∧ SetRs is ds ρ ρ' ∧ R ρ' m) : AG X (.Tuple ts kk pos) d ρ m R := .mk fun v σ H S r pins s u I rv => by
  obtain ⟨ds, ρ', e, st, q⟩ := h
  subst e
  obtain ⟨ad, vs, ev, sq, rr⟩ := IsT.im.at S.hm r
  subst ev
  have hl : vs.length = is.length := by rw [← rr.length]; exact setRs_len st
  refine (pg_tup hx.calm hpg hn hst).run pins s σ H (.ref ad) u _ I rv ⟨ad, vs, rfl, sq, hl, gNames_run (own := is) (σ0 := wipe σ is) st rr S.rs (fun _ h => h) rfl fun σ' rs _ => ⟨ρ', m, S.hm, Later.refl, rs, q⟩⟩
/-- a, b = .. of a tuple -/
theorem AG.tup2 {i j kk : Nat} {d : D} {R : Rho → Mu → Prop} (hx : XF X fb k) (h1 : Nth fb.N i x) (h2 : Nth fb.N j y) (v1 : fb.sto x = true) (v2 : fb.sto y = true) (h : ∃ ds ρ', d = .tup ds ∧ SetRs [i, j] ds ρ ρ' ∧ R ρ' m) : AG X (.Tuple [.Name x p1, .Name y p2] kk pos) d ρ m R := by
  obtain ⟨l1, f1⟩ := hx.sto x v1
  obtain ⟨l2, f2⟩ := hx.sto y v2
  exact ag_names (is := [i, j]) hx (pgs_cons (pg_name hx.nd (by rw [hx.nN]; exact h1.at) l1 f1) (pgs_cons (pg_name hx.nd (by rw [hx.nN]; exact h2.at) l2 f2) pgs_nil)) rfl rfl h
theorem AG.tup3 {i j l kk : Nat} {d : D} {R : Rho → Mu → Prop} (hx : XF X fb k) (h1 : Nth fb.N i x) (h2 : Nth fb.N j y) (h3 : Nth fb.N l z) (v1 : fb.sto x = true) (v2 : fb.sto y = true) (v3 : fb.sto z = true) (h : ∃ ds ρ', d = .tup ds ∧ SetRs [i, j, l] ds ρ ρ' ∧ R ρ' m) : AG X (.Tuple [.Name x p1, .Name y p2, .Name z p3] kk pos) d ρ m R := by
  obtain ⟨l1, f1⟩ := hx.sto x v1
  obtain ⟨l2, f2⟩ := hx.sto y v2
  obtain ⟨l3, f3⟩ := hx.sto z v3
  exact ag_names (is := [i, j, l]) hx (pgs_cons (pg_name hx.nd (by rw [hx.nN]; exact h1.at) l1 f1) (pgs_cons (pg_name hx.nd (by rw [hx.nN]; exact h2.at) l2 f2) (pgs_cons (pg_name hx.nd (by rw [hx.nN]; exact h3.at) l3 f3) pgs_nil))) rfl rfl h
/-- list(range(a, b)) -/
theorem AE.listRange2 (hx : XF X fb k) (hg : fb.glb x = true) (hm : X.mg x = none) (hv : bootBuiltins x = some (.type "list")) (hg2 : fb.glb "range" = true) (hm2 : X.mg "range" = none)
    (h : AE X a ρ m fun d m1 => AE X b ρ m1 fun d2 m2 => ∃ i j : Int, d = .int i ∧ d2 = .int j ∧ (-(2 ^ 62) ≤ i ∧ i < 2 ^ 62 ∧ -(2 ^ 62) ≤ j ∧ j < 2 ^ 62) ∧ (j - i).toNat ≤ 2 ^ 24 ∧ Q (.lst (irange i (j - i).toNat)) m2)
    (hn : x ≠ "__name__" := by decide +kernel) (hdb : (x == ("__debug__" : Str)) = false := by decide +kernel)
    (he : starEach [.Call (.Name "range" p2) [a, b] [] q] X.env = (false, eval (.Call (.Name "range" p2) [a, b] [] q) X.env) :: starEach [] X.env := by rfl)
    (hs : starEach [a, b] X.env = [(false, eval a X.env), (false, eval b X.env)] := by rfl) (hs2 : starEach [b] X.env = [(false, eval b X.env)] := by rfl) (hs1 : starEach (a :: [b]) X.env = (false, eval a X.env) :: starEach [b] X.env := by rfl) (hs3 : starEach (b :: []) X.env = (false, eval b X.env) :: starEach [] X.env := by rfl) :
    AE X (.Call (.Name x p) [.Call (.Name "range" p2) [a, b] [] q] [] pos) ρ m Q := .mk fun σ H S pins s I => by
  refine wpAny_Call_Name_kw (ld_blt I (hx.glb _ hg) hm hv ?_ hn hdb)
  refine PyProof.Rows.callWith_type1 (PyProof.Rows.args_cons ?_ he) he rfl
  have ab : Ab.AA X [a, b] ρ m fun ds m1 => ∃ i j : Int, ds = [.int i, .int j] ∧ (-(2 ^ 62) ≤ i ∧ i < 2 ^ 62 ∧ -(2 ^ 62) ≤ j ∧ j < 2 ^ 62) ∧ (j - i).toNat ≤ 2 ^ 24 ∧ Q (.lst (irange i (j - i).toNat)) m1 :=
    AA.cons (h.imp fun d m1 h => AA.cons (h.imp fun d2 m2 ⟨i, j, e, e2, h1, h2, q⟩ => AA.nil ⟨i, j, by rw [e, e2], h1, h2, q⟩) hs3) hs1
  refine wpAny_Call_Name_kw (ld_blt I (hx.glb _ hg2) hm2 boot_range (PyProof.Rows.callWith_type1 (thn (ab.run σ H S q pins s I) fun us s1 ⟨vs, H1, I1, rv, ds, m1, hm1, l1, rd, i, j, ed, ⟨q1, q2, q3, q4⟩, hz, hQ⟩ => ?_) (by rw [hs, hs2]) (by rw [hs2]; rfl)) (by decide +kernel) (by decide +kernel))
  subst ed
  cases rd with
  | cons r t =>
  cases t with
  | cons r' t =>
  cases t; cases r; cases r'
  cases rv with
  | cons r rr =>
  cases rr with
  | cons r' rr =>
  cases rr
  obtain ⟨t, rfl⟩ := r
  obtain ⟨t', rfl⟩ := r'
  refine call_range_2 (PyProof.Rows.args_nil ?_)
  have e1 : Builtin.Range.rangeSize i j 1 = ((j - i).toNat : Nat) := by rw [rangeSize_one]; split <;> omega
  refine call_list_range (n := (j - i).toNat) hx.room.hd (IsRange.new ..) (small_one q1 q2 q3 q4) e1 hz fun h' tk acc c hk hS hit => ?_
  have kp : ∀ b o, s1.heap.get? b = some o → h'.get? b = some o := fun b o e => hk b o (Heap.get?_push_of_some _ e)
  have z : s1.heap.objs.size ≤ (s1.heap.push { cls := .type "range", data := .fields #[.int i t, .int j t', .int 1 s1.toks] }).objs.size := by rw [Heap.size_push]; exact Nat.le_succ _
  have lz : acc.size = (j - i).toNat := hit.1
  have rv : Vals ((irange i (j - i).toNat).map fun d => match d with | .int n => V.int n | _ => .non) acc.toList := by
    refine vals_ix (by simp [irange, lz]) fun k v u h1 h2 => ?_
    obtain ⟨t, e⟩ := hit.2 k u (by rw [← Array.getElem?_toList]; exact h2)
    rw [List.getElem?_map] at h1
    unfold irange at h1
    rw [List.getElem?_map] at h1
    cases hk : (List.range (j - i).toNat)[k]? with
    | none => rw [hk] at h1; cases h1
    | some k' =>
      rw [hk] at h1; cases h1
      obtain ⟨hlt, e2⟩ := List.getElem?_eq_some_iff.mp hk
      simp at e2
      subst e2
      exact ⟨t, by rw [e, Int.mul_one]⟩
  have em : ((irange i (j - i).toNat).map fun d => match d with | .int n => V.int n | _ => .non) = ((List.range (j - i).toNat).map fun n : Nat => i + (n : Int)).map V.int := by unfold irange; rw [List.map_map, List.map_map]; rfl
  rw [em] at rv
  have ei : irange i (j - i).toNat = ((List.range (j - i).toNat).map fun n : Nat => i + (n : Int)).map D.int := by unfold irange; rw [List.map_map]; rfl
  have fr : H1 (s1.heap.push { cls := .type "range", data := .fields #[.int i t, .int j t', .int 1 s1.toks] }).objs.size = none := I1.hok.fresh z
  have lz2 : (((List.range (j - i).toNat).map fun n : Nat => i + (n : Int)).map V.int).length ≤ sizeLine := by rw [List.length_map, List.length_map, List.length_range]; exact Nat.le_trans hz (show 2 ^ 24 ≤ sizeLine by decide)
  have I2 := I1.laid (t' := tk) (o := .lst (((List.range (j - i).toNat).map fun n : Nat => i + (n : Int)).map V.int)) kp z ⟨lz2, acc.toList, c, rv, by rw [Array.toArray_toList]; exact hS⟩
  rw [ei] at hQ
  exact ⟨.ref _, _, I2, rfl, (Post.new hm1 fr (.lst (notdom hm1 fr) (.inl upd_same) (to_ints.same (same_upd fr))) hQ).from l1⟩
end
end Ab
/-! C8: rules ready for the walk. -/
namespace Ab
open L2 PySem PySem.Spec PyProof.Rows
/-- the built-in names that the program leaves alone -/
def frees : List Str := ["isinstance", "list", "tuple", "all", "sorted", "max", "min", "int", "bool", "str", "len", "range", "dict", "any", "enumerate", "sum", "set", "zip", "repr"]
abbrev Fr (X : Cx) : Prop := ∀ x, frees.contains x = true → X.mg x = none
/-! ### branches -/
theorem tt_and {A B : Prop} (h : A) : (true = true → A) ∧ (true = false → B) := ⟨fun _ => h, fun e => (by cases e)⟩
theorem ff_and {A B : Prop} (h : B) : (false = true → A) ∧ (false = false → B) := ⟨fun e => (by cases e), fun _ => h⟩
theorem dt_and {P A B : Prop} [Decidable P] (p : P) (h : A) : (decide P = true → A) ∧ (decide P = false → B) := ⟨fun _ => h, fun e => absurd p (of_decide_eq_false e)⟩
theorem df_and {P A B : Prop} [Decidable P] (p : ¬ P) (h : B) : (decide P = true → A) ∧ (decide P = false → B) := ⟨fun e => absurd (of_decide_eq_true e) p, fun _ => h⟩
theorem nt_and {P A B : Prop} [Decidable P] (p : P) (h : B) : ((!decide P) = true → A) ∧ ((!decide P) = false → B) := by rw [decide_eq_true p]; exact ff_and h
theorem nf_and {P A B : Prop} [Decidable P] (p : ¬ P) (h : A) : ((!decide P) = true → A) ∧ ((!decide P) = false → B) := by rw [decide_eq_false p]; exact tt_and h
theorem ds_and {P A B : Prop} [Decidable P] (h1 : P → A) (h2 : ¬ P → B) : (decide P = true → A) ∧ (decide P = false → B) := ⟨fun e => h1 (of_decide_eq_true e), fun e => h2 (of_decide_eq_false e)⟩
theorem ns_and {P A B : Prop} [Decidable P] (h1 : P → B) (h2 : ¬ P → A) : ((!decide P) = true → A) ∧ ((!decide P) = false → B) := ⟨fun e => h2 fun p => (by rw [decide_eq_true p] at e; cases e), fun e => h1 (Classical.byContradiction fun p => (by rw [decide_eq_false p] at e; cases e))⟩
section
variable {X : Cx} {fb : FB} {k j : Nat} {ρ : Rho} {m : Mu} {e a b o elt iter tg : Expr} {es : List Expr} {ifs : List Expr} {scope sc : Scope} {x y nm : Str} {p pos apos cpos px py spos : Pos} {C : Addr} {Q : QD} {i : Nat}
/-! ### built-ins -/
theorem AE.bLen (hx : XF X fb k) (fr : Fr X) (h : AE X e ρ m fun d m1 => ∃ es, IsQ m1 d es ∧ Q (.int es.length) m1) (hg : fb.glb "len" = true := by decide +kernel) (he : starEach [e] X.env = (false, eval e X.env) :: starEach [] X.env := by rfl) (hpl : (backTo pos (starEach [] X.env)).any (·.1) = false := by rfl) : AE X (.Call (.Name "len" p) [e] [] pos) ρ m Q :=
  AE.callB ca_len hx hg (fr _ (by decide +kernel)) rfl (AA.cons (h.imp fun d m1 ⟨es, h1, q⟩ => AA.nil (.inl ⟨d, es, rfl, h1, q⟩)) he) (by decide +kernel) (by decide +kernel) he hpl
theorem AE.bLenS (hx : XF X fb k) (fr : Fr X) (h : AE X e ρ m fun d m1 => ∃ s, d = .str s ∧ s.length ≤ sizeLine ∧ Q (.int s.length) m1) (hg : fb.glb "len" = true := by decide +kernel) (he : starEach [e] X.env = (false, eval e X.env) :: starEach [] X.env := by rfl) (hpl : (backTo pos (starEach [] X.env)).any (·.1) = false := by rfl) : AE X (.Call (.Name "len" p) [e] [] pos) ρ m Q :=
  AE.callB ca_len hx hg (fr _ (by decide +kernel)) rfl (AA.cons (h.imp fun d m1 ⟨s, h1, h2, q⟩ => AA.nil (.inr ⟨s, by rw [h1], h2, q⟩)) he) (by decide +kernel) (by decide +kernel) he hpl
theorem AE.bIsi (hx : XF X fb k) (fr : Fr X) (h : AE X a ρ m fun d m1 => AE X b ρ m1 fun c m2 => ∃ t u r, TyD X.K m2 d t ∧ ClD c u ∧ PySem.W.kitOne X.K t u = some r ∧ Q (.bl r) m2) (hg : fb.glb "isinstance" = true := by decide +kernel)
    (he : starEach (a :: [b]) X.env = (false, eval a X.env) :: starEach [b] X.env := by rfl) (he2 : starEach [b] X.env = (false, eval b X.env) :: starEach [] X.env := by rfl) (hpl : (backTo pos (starEach [b] X.env)).any (·.1) = false := by rfl) : AE X (.Call (.Name "isinstance" p) [a, b] [] pos) ρ m Q :=
  AE.callB ca_isi hx hg (fr _ (by decide +kernel)) rfl (AA.cons (h.imp fun d m1 g => AA.cons (g.imp fun c m2 ⟨t, u, r, h1, h2, h3, q⟩ => AA.nil ⟨d, c, t, u, r, rfl, h1, h2, h3, q⟩) he2) he) (by decide +kernel) (by decide +kernel) he hpl
theorem AE.bTy (hx : XF X fb k) (fr : Fr X) {n : String} (q : Q (.ty n) m) (hv : bootBuiltins x = some (.type n)) (hf : frees.contains x = true) (hg : fb.glb x = true) (hn : x ≠ "__name__" := by decide +kernel) (hd : (x == ("__debug__" : Str)) = false := by decide +kernel) : AE X (.Name x pos) ρ m Q := AE.bty hx hg (fr _ hf) hv q hn hd
theorem AE.bAll (hx : XF X fb k) (fr : Fr X) (h : AE X e ρ m fun d m1 => ∃ bs : List Bool, IsL m1 d (bs.map D.bl) ∧ Q (.bl (bs.all id)) m1) (hg : fb.glb "all" = true := by decide +kernel) (he : starEach [e] X.env = (false, eval e X.env) :: starEach [] X.env := by rfl) (hpl : (backTo pos (starEach [] X.env)).any (·.1) = false := by rfl) : AE X (.Call (.Name "all" p) [e] [] pos) ρ m Q :=
  AE.callB (ca_all hx.calm) hx hg (fr _ (by decide +kernel)) rfl (AA.cons (h.imp fun d m1 ⟨bs, h1, q⟩ => AA.nil ⟨d, bs, rfl, h1, q⟩) he) (by decide +kernel) (by decide +kernel) he hpl
theorem AE.bAny (hx : XF X fb k) (fr : Fr X) (h : AE X e ρ m fun d m1 => ∃ bs : List Bool, IsL m1 d (bs.map D.bl) ∧ Q (.bl (bs.any id)) m1) (hg : fb.glb "any" = true := by decide +kernel) (he : starEach [e] X.env = (false, eval e X.env) :: starEach [] X.env := by rfl) (hpl : (backTo pos (starEach [] X.env)).any (·.1) = false := by rfl) : AE X (.Call (.Name "any" p) [e] [] pos) ρ m Q :=
  AE.callB (ca_any hx.calm) hx hg (fr _ (by decide +kernel)) rfl (AA.cons (h.imp fun d m1 ⟨bs, h1, q⟩ => AA.nil ⟨d, bs, rfl, h1, q⟩) he) (by decide +kernel) (by decide +kernel) he hpl
theorem AE.bSum (hx : XF X fb k) (fr : Fr X) (h : AE X e ρ m fun d m1 => ∃ ns : List Int, IsL m1 d (ns.map D.int) ∧ Q (.int ns.sum) m1) (hg : fb.glb "sum" = true := by decide +kernel) (he : starEach [e] X.env = (false, eval e X.env) :: starEach [] X.env := by rfl) (hpl : (backTo pos (starEach [] X.env)).any (·.1) = false := by rfl) : AE X (.Call (.Name "sum" p) [e] [] pos) ρ m Q :=
  AE.callB (ca_sum hx.calm) hx hg (fr _ (by decide +kernel)) rfl (AA.cons (h.imp fun d m1 ⟨bs, h1, q⟩ => AA.nil ⟨d, bs, rfl, h1, q⟩) he) (by decide +kernel) (by decide +kernel) he hpl
theorem AE.bMax2 (hx : XF X fb k) (fr : Fr X) (h : AE X a ρ m fun d m1 => AE X b ρ m1 fun c m2 => ∃ i j, d = .int i ∧ c = .int j ∧ Q (.int (max i j)) m2) (hg : fb.glb "max" = true := by decide +kernel)
    (he : starEach (a :: [b]) X.env = (false, eval a X.env) :: starEach [b] X.env := by rfl) (he2 : starEach [b] X.env = (false, eval b X.env) :: starEach [] X.env := by rfl) (hpl : (backTo pos (starEach [b] X.env)).any (·.1) = false := by rfl) : AE X (.Call (.Name "max" p) [a, b] [] pos) ρ m Q :=
  AE.callB (ca_max2 hx.calm) hx hg (fr _ (by decide +kernel)) rfl (AA.cons (h.imp fun d m1 g => AA.cons (g.imp fun c m2 ⟨i, j, h1, h2, q⟩ => AA.nil ⟨i, j, by rw [h1, h2], q⟩) he2) he) (by decide +kernel) (by decide +kernel) he hpl
theorem AE.bMin2 (hx : XF X fb k) (fr : Fr X) (h : AE X a ρ m fun d m1 => AE X b ρ m1 fun c m2 => ∃ i j, d = .int i ∧ c = .int j ∧ Q (.int (min i j)) m2) (hg : fb.glb "min" = true := by decide +kernel)
    (he : starEach (a :: [b]) X.env = (false, eval a X.env) :: starEach [b] X.env := by rfl) (he2 : starEach [b] X.env = (false, eval b X.env) :: starEach [] X.env := by rfl) (hpl : (backTo pos (starEach [b] X.env)).any (·.1) = false := by rfl) : AE X (.Call (.Name "min" p) [a, b] [] pos) ρ m Q :=
  AE.callB (ca_min2 hx.calm) hx hg (fr _ (by decide +kernel)) rfl (AA.cons (h.imp fun d m1 g => AA.cons (g.imp fun c m2 ⟨i, j, h1, h2, q⟩ => AA.nil ⟨i, j, by rw [h1, h2], q⟩) he2) he) (by decide +kernel) (by decide +kernel) he hpl
theorem AE.bSortS (hx : XF X fb k) (fr : Fr X) (h : AE X e ρ m fun d m1 => ∃ ss : List Str, IsL m1 d (ss.map D.str) ∧ ss.length < 64 ∧ ∀ ys : List Str, ys.Perm ss → sortedS ys = true → Q (.lst (ys.map D.str)) m1) (hg : fb.glb "sorted" = true := by decide +kernel) (he : starEach [e] X.env = (false, eval e X.env) :: starEach [] X.env := by rfl) (hpl : (backTo pos (starEach [] X.env)).any (·.1) = false := by rfl) : AE X (.Call (.Name "sorted" p) [e] [] pos) ρ m Q :=
  AE.callB ca_sortS hx hg (fr _ (by decide +kernel)) rfl (AA.cons (h.imp fun d m1 ⟨ss, h1, h2, q⟩ => AA.nil ⟨d, ss, rfl, h1, h2, q⟩) he) (by decide +kernel) (by decide +kernel) he hpl
theorem AE.bSortDict (hx : XF X fb k) (fr : Fr X) (h : AE X e ρ m fun d m1 => ∃ ks, ∃ ss : List Str, IsD m1 d ks ∧ ks.map (·.1) = ss.map Sum.inr ∧ ss.length < 64 ∧ ∀ ys : List Str, ys.Perm ss → sortedS ys = true → Q (.lst (ys.map D.str)) m1) (hg : fb.glb "sorted" = true := by decide +kernel) (he : starEach [e] X.env = (false, eval e X.env) :: starEach [] X.env := by rfl) (hpl : (backTo pos (starEach [] X.env)).any (·.1) = false := by rfl) : AE X (.Call (.Name "sorted" p) [e] [] pos) ρ m Q :=
  AE.callB (ca_sortD hx.calm) hx hg (fr _ (by decide +kernel)) rfl (AA.cons (h.imp fun d m1 ⟨ks, ss, h0, h1, h2, q⟩ => AA.nil ⟨d, ks, ss, rfl, h0, h1, h2, q⟩) he) (by decide +kernel) (by decide +kernel) he hpl
theorem AE.bSorted {β : Type} {f : β → D} (hx : XF X fb k) (fr : Fr X) (h : AE X e ρ m fun d m1 => ∃ xs : List β, IsL m1 d (xs.map f) ∧ xs.length ≤ sizeLine ∧ KeyD xs f ∧ Q (.lst ((xs.mergeSort (PySem.W.dataLe false fun y => dP (f y))).map f)) m1) (hg : fb.glb "sorted" = true := by decide +kernel) (he : starEach [e] X.env = (false, eval e X.env) :: starEach [] X.env := by rfl) (hpl : (backTo pos (starEach [] X.env)).any (·.1) = false := by rfl) : AE X (.Call (.Name "sorted" p) [e] [] pos) ρ m Q :=
  AE.callB (ca_sortedD (f := f) (by have := hx.room.un; omega)) hx hg (fr _ (by decide +kernel)) rfl (AA.cons (h.imp fun d m1 ⟨xs, h1, h2, h3, q⟩ => AA.nil ⟨d, xs, rfl, h1, h2, h3, q⟩) he) (by decide +kernel) (by decide +kernel) he hpl
/-! ### texts -/
theorem oa_ltS : OpA X (compareOp .Lt) fun da db m Q => ∃ i j, da = .str i ∧ db = .str j ∧ Q (.bl (decide (i.cps.toList < j.cps.toList))) m := ⟨_, op_lt_str, fun da db u v m H Q hm ra rb ⟨x, y, e1, e2, q⟩ => by
  subst e1 e2; cases ra; cases rb; exact ⟨x, y, rfl, rfl, .now hm .bl q⟩⟩
theorem AE.ltS (h : AE X a ρ m fun da m1 => AE X b ρ m1 fun db m2 => ∃ i j, da = .str i ∧ db = .str j ∧ Q (.bl (decide (i.cps.toList < j.cps.toList))) m2) (hm : behindInMarks .Lt b = false := by rfl) : AE X (.Compare a [.Lt] [b] pos) ρ m Q := AE.cmp oa_ltS h hm
theorem AT.ltS {Q : Bool → Mu → Prop} (h : AE X a ρ m fun da m1 => AE X b ρ m1 fun db m2 => ∃ i j, da = .str i ∧ db = .str j ∧ Q (decide (i.cps.toList < j.cps.toList)) m2) (hm : behindInMarks .Lt b = false := by rfl) : AT X (.Compare a [.Lt] [b] pos) ρ m Q :=
  AT.cmp oa_ltS (h.imp fun _ _ g => g.imp fun _ _ ⟨i, j, e, f, q⟩ => ⟨i, j, e, f, _, rfl, q⟩) hm
/-! ### comprehensions, by a map and a test -/
theorem fmap_some {α β : Type} (g : α → β) (xs : List α) : (xs.filterMap fun y => some (g y)) = xs.map g := by simp
theorem fmap_if {α β : Type} (t : α → Bool) (g : α → β) (xs : List α) : (xs.filterMap fun y => if t y = true then some (g y) else none) = (xs.filter t).map g := by
  induction xs with
  | nil => rfl
  | cons y ys ih => cases h : t y <;> simp [List.filterMap_cons, List.filter_cons, h, ih]
/-- of each item y of xs in the block: its value is g y -/
def EachE (X : Cx) (scope : Scope) (elt : Expr) (i : Nat) {α : Type} (f : α → D) (xs : List α) (g : α → D) (ρ : Rho) (m : Mu) : Prop :=
  ∀ y, y ∈ xs → ∀ m', Ext m m' → ∃ ρ2, SetR i (f y) (wipeR ρ [i]) ρ2 ∧ ABE X scope elt ρ2 m' fun r m4 => m4 = m' ∧ r = g y
def EachT (X : Cx) (scope : Scope) (c elt : Expr) (i : Nat) {α : Type} (f : α → D) (xs : List α) (t : α → Bool) (g : α → D) (ρ : Rho) (m : Mu) : Prop :=
  ∀ y, y ∈ xs → ∀ m', Ext m m' → ∃ ρ2, SetR i (f y) (wipeR ρ [i]) ρ2 ∧ ABT X scope [c] ρ2 m' (fun b m3 => m3 = m' ∧ b = t y) ∧ (t y = true → ABE X scope elt ρ2 m' fun r m4 => m4 = m' ∧ r = g y)
theorem lct_map {α : Type} {f : α → D} {xs : List α} {g : α → D} (h : EachE X scope elt i f xs g ρ m) : LcT X scope [] elt [i] (SetR i) f xs (fun y => some (g y)) ρ m := fun y hy m' hm' => by
  obtain ⟨ρ2, st, q⟩ := h y hy m' hm'
  exact ⟨ρ2, st, rfl, fun _ s H C cl fp => (q s H C cl fp).imp fun r m4 ⟨e1, e2⟩ => ⟨e1, by rw [e2]⟩, fun e => nomatch e⟩
theorem lct_if {α : Type} {f : α → D} {xs : List α} {t : α → Bool} {g : α → D} {c : Expr} (h : EachT X scope c elt i f xs t g ρ m) : LcT X scope [c] elt [i] (SetR i) f xs (fun y => if t y = true then some (g y) else none) ρ m := fun y hy m' hm' => by
  obtain ⟨ρ2, st, q1, q2⟩ := h y hy m' hm'
  refine ⟨ρ2, st, fun s H C cl fp => (q1 s H C cl fp).imp fun b m3 ⟨e1, e2⟩ => ⟨e1, fun hb => ?_, fun hb => ?_⟩⟩
  · have ht : t y = true := by rw [← e2, hb]
    exact fun s H C cl fp => (q2 ht s H C cl fp).imp fun r m4 ⟨e1, e2⟩ => ⟨e1, by show (if t y = true then some (g y) else none) = some r; rw [if_pos ht, e2]⟩
  · show (if t y = true then some (g y) else none) = none
    rw [if_neg (by rw [← e2, hb]; exact Bool.false_ne_true)]
theorem AE.lcMap {α : Type} {f g : α → D} (hx : XF X fb k) (hsc : X.env.scope = sc) (hN : Nth fb.N i x) (ho : ownB scope x = true)
    (h : AI X (.Name x px) iter ρ m fun ds G m1 => ∃ xs : List α, ds = xs.map f ∧ xs.length < sizeLine ∧ (∀ m', Ext m1 m' → G m') ∧ EachE X scope elt i f xs g ρ m1 ∧ Q (.lst (xs.map g)) m1)
    (hb : blkC fb.N sc scope [(x, i)] = true := by decide +kernel) (hs : ∀ x, foldedSetIterable iter X.env x = pure x := by intro _; rfl) : AE X (.ListComp elt [⟨.Name x px, iter, [], 0⟩] scope pos) ρ m Q :=
  AE.lcP f hx hsc hN ho (.mk fun σ H S => WI.mono (X := X) (h σ H S) fun J H' ⟨ds, G, m1, hm, l, jk, xs, e, hz, hG, ht, q⟩ => ⟨ds, G, m1, hm, l, jk, xs, _, e, hz, hG, lct_map ht, by rw [fmap_some]; exact q⟩) hb hs
theorem AE.lcIf {α : Type} {f g : α → D} {t : α → Bool} {c : Expr} (hx : XF X fb k) (hsc : X.env.scope = sc) (hN : Nth fb.N i x) (ho : ownB scope x = true)
    (h : AI X (.Name x px) iter ρ m fun ds G m1 => ∃ xs : List α, ds = xs.map f ∧ xs.length < sizeLine ∧ (∀ m', Ext m1 m' → G m') ∧ EachT X scope c elt i f xs t g ρ m1 ∧ Q (.lst ((xs.filter t).map g)) m1)
    (hb : blkC fb.N sc scope [(x, i)] = true := by decide +kernel) (hs : ∀ x, foldedSetIterable iter X.env x = pure x := by intro _; rfl) : AE X (.ListComp elt [⟨.Name x px, iter, [c], 0⟩] scope pos) ρ m Q :=
  AE.lcP f hx hsc hN ho (.mk fun σ H S => WI.mono (X := X) (h σ H S) fun J H' ⟨ds, G, m1, hm, l, jk, xs, e, hz, hG, ht, q⟩ => ⟨ds, G, m1, hm, l, jk, xs, _, e, hz, hG, lct_if ht, by rw [fmap_if]; exact q⟩) hb hs
theorem AS.setLcMap {α : Type} {f g : α → D} {D' : AEnds} {v : Nat} (hx : XF X fb k) (hsc : X.env.scope = sc) (hN : Nth fb.N i x) (ho : ownB scope x = true) (hy : Nth fb.N v y) (hl : sc.names.lookup y = some .local)
    (hsw : swapsWith (.ListComp elt [⟨.Name x px, iter, [], 0⟩] scope pos) (some (.Name y py)) spos.line X.env = pure true)
    (h : AI X (.Name x px) iter ρ m fun ds G m1 => ∃ xs : List α, ds = xs.map f ∧ xs.length < sizeLine ∧ (∀ m', Ext m1 m' → G m') ∧ EachE X scope elt i f xs g ρ m1 ∧ ∃ ρ', SetR v (.lst (xs.map g)) ρ ρ' ∧ D'.nx ρ' m1)
    (hb : blkC fb.N sc scope [(x, i)] = true := by decide +kernel) (hs : ∀ x, foldedSetIterable iter X.env x = pure x := by intro _; rfl) : AS X (.Assign [.Name y py] (.ListComp elt [⟨.Name x px, iter, [], 0⟩] scope pos) spos) ρ m D' :=
  AS.setLcP f hx hsc hN ho hy hl hsw (.mk fun σ H S => WI.mono (X := X) (h σ H S) fun J H' ⟨ds, G, m1, hm, l, jk, xs, e, hz, hG, ht, q⟩ => ⟨ds, G, m1, hm, l, jk, xs, _, e, hz, hG, lct_map ht, by rw [fmap_some]; exact q⟩) hb hs
theorem AS.setLcIf {α : Type} {f g : α → D} {t : α → Bool} {c : Expr} {D' : AEnds} {v : Nat} (hx : XF X fb k) (hsc : X.env.scope = sc) (hN : Nth fb.N i x) (ho : ownB scope x = true) (hy : Nth fb.N v y) (hl : sc.names.lookup y = some .local)
    (hsw : swapsWith (.ListComp elt [⟨.Name x px, iter, [c], 0⟩] scope pos) (some (.Name y py)) spos.line X.env = pure true)
    (h : AI X (.Name x px) iter ρ m fun ds G m1 => ∃ xs : List α, ds = xs.map f ∧ xs.length < sizeLine ∧ (∀ m', Ext m1 m' → G m') ∧ EachT X scope c elt i f xs t g ρ m1 ∧ ∃ ρ', SetR v (.lst ((xs.filter t).map g)) ρ ρ' ∧ D'.nx ρ' m1)
    (hb : blkC fb.N sc scope [(x, i)] = true := by decide +kernel) (hs : ∀ x, foldedSetIterable iter X.env x = pure x := by intro _; rfl) : AS X (.Assign [.Name y py] (.ListComp elt [⟨.Name x px, iter, [c], 0⟩] scope pos) spos) ρ m D' :=
  AS.setLcP f hx hsc hN ho hy hl hsw (.mk fun σ H S => WI.mono (X := X) (h σ H S) fun J H' ⟨ds, G, m1, hm, l, jk, xs, e, hz, hG, ht, q⟩ => ⟨ds, G, m1, hm, l, jk, xs, _, e, hz, hG, lct_if ht, by rw [fmap_if]; exact q⟩) hb hs
end
/-! ### generators by their bundles -/
open Slp in
/-- a generator method, a generator def by its name -/
structure GMth (P : Program) (w : World) (K : PySem.W.Frag) (mg : Str → Option Value) (base : Heap) (j : Nat) (C : Addr) (nm : Str) (asp : List D → List D → Prop) : Prop where
  ex : ∃ d : GK, YLaw P w K mg base j d asp ∧ Cls K C ∧ Meth K C nm d.f ∧ d.ps.length = 1
open Slp in
structure GCal (P : Program) (w : World) (K : PySem.W.Frag) (mg : Str → Option Value) (base : Heap) (j : Nat) (x : Str) (asp : List D → List D → Prop) : Prop where
  ex : ∃ d : GK, YLaw P w K mg base j d asp ∧ mg x = some (.ref d.f) ∧ PySem.W.keepIn K (.ref d.f) = true
section
open Slp
variable {X : Cx} {fb : FB} {k j : Nat} {ρ : Rho} {m : Mu} {e o elt tg : Expr} {es : List Expr} {ifs : List Expr} {body : List Stmt} {scope sc : Scope} {x y g nm : Str} {p pos apos cpos px py spos gp : Pos} {C : Addr} {Q : QD} {i : Nat} {asp : List D → List D → Prop} {D' : AEnds}
/-- an expression that makes a generator of the promise asp -/
structure AGen (X : Cx) (j : Nat) (e : Expr) (ρ : Rho) (m : Mu) (asp : List D → List D → Prop) (R : List D → Prop) : Prop where
  ex : ∃ d : GK, YLaw X.prog X.w X.K X.mg X.base j d asp ∧ Slp.AK X d e ρ m R
theorem AGen.meth (c : GMth X.prog X.w X.K X.mg X.base j C nm asp) (hx : XF X fb k) (hj : j + 2 ≤ k) {pl : Sem Bool} {R : List D → Prop} (h : AE X o ρ m fun dd m1 => m1 = m ∧ ∃ fs, IsI m1 dd C fs ∧ fs.lookup nm = none ∧ R [dd])
    (ht : eval (.Call (.Attribute o nm apos) [] [] pos) X.env = (do let ov ← eval o X.env; standAt apos.atName; let (f, first) ← holding [ov] (getMethod ov nm pl); callWith pos f first (backTo pos (starEach [] X.env)) (backToKw pos (keywordEach [] X.env))) := by rfl) : AGen X j (.Call (.Attribute o nm apos) [] [] pos) ρ m asp R := by
  obtain ⟨d, Y, cl, mt, hp⟩ := c.ex
  exact ⟨d, Y, Slp.AK.meth0 (pl := pl) cl mt Y.ok hx (by omega : j + 1 ≤ k) hp h ht⟩
theorem AGen.call (c : GCal X.prog X.w X.K X.mg X.base j g asp) (hx : XF X fb k) (hj : j + 2 ≤ k) (hg : fb.glb g = true) {R : List D → Prop} (h : AA X (e :: es) ρ m fun ds m1 => m1 = m ∧ (∃ us, asp ds us) ∧ R ds)
    (hdb : (g == ("__debug__" : Str)) = false := by decide +kernel) (he : starEach (e :: es) X.env = (false, eval e X.env) :: starEach es X.env := by rfl) (hpl : (backTo pos (starEach es X.env)).any (·.1) = false := by rfl) : AGen X j (.Call (.Name g gp) (e :: es) [] pos) ρ m asp R := by
  obtain ⟨d, Y, gm, gk⟩ := c.ex
  refine ⟨d, Y, Slp.AK.call Y.ok hx (by omega : j + 1 ≤ k) hg gm gk (.mk fun σ H S => WA.mono (X := X) (h.run σ H S) fun vs H' ⟨ds, m1, hm1, l1, r1, em, ⟨us, ha⟩, q⟩ => ⟨ds, m1, hm1, l1, r1, em, (Y.run ds us ha).1, q⟩) hdb he hpl⟩
theorem AK.imp {d : GK} {R R' : List D → Prop} (h : Slp.AK X d e ρ m R) (w : ∀ ds, R ds → R' ds) : Slp.AK X d e ρ m R' := .mk fun σ H S pins s I =>
  wpAny_mono (h.run σ H S pins s I) (fun u s1 ⟨ds, vs, H1, sc, a, g, e1, e2, e3, e4, e5, e6, e7, q⟩ => ⟨ds, vs, H1, sc, a, g, e1, e2, e3, e4, e5, e6, e7, w _ q⟩) fun _ _ z => z
/-- for over it -/
theorem AS.forGen (hx : XF X fb k) (hxe : X.xe = fun _ _ => False) (hj : j + 2 ≤ k)
    (h : AGen X j e ρ m asp fun ds => ∃ es, asp ds es ∧ ∃ Iv : Nat → Rho → Mu → Prop, Iv 0 ρ m ∧
      (∀ i dd ρ' m', es[i]? = some dd → Iv i ρ' m' → AG X tg dd ρ' m' fun ρ2 m2 => ASs X body ρ2 m2 { D' with nx := Iv (i + 1), ct := Iv (i + 1), bk := D'.nx }) ∧ ∀ ρ' m', Iv es.length ρ' m' → D'.nx ρ' m')
    (hs : ∀ x, foldedSetIterable e X.env x = pure x := by intro _; rfl) : AS X (.For tg e body [] pos) ρ m D' := by
  obtain ⟨d, Y, K⟩ := h.ex
  exact AS.forG hx hxe Y hj K hs
theorem AE.lcGMap {α : Type} {f g : α → D} (hx : XF X fb k) (hj : j + 2 ≤ k) (hsc : X.env.scope = sc) (hN : Nth fb.N i x) (ho : ownB scope x = true)
    (h : AGen X j e ρ m asp fun ds => ∃ xs : List α, asp ds (xs.map f) ∧ xs.length < sizeLine ∧ EachE X scope elt i f xs g ρ m ∧ Q (.lst (xs.map g)) m)
    (hb : blkC fb.N sc scope [(x, i)] = true := by decide +kernel) (hnc : ∀ y ∈ scope.names, y.2 ≠ .cell := by decide +kernel) (hs : ∀ x, foldedSetIterable e X.env x = pure x := by intro _; rfl) : AE X (.ListComp elt [⟨.Name x px, e, [], 0⟩] scope pos) ρ m Q := by
  obtain ⟨d, Y, K⟩ := h.ex
  exact AE.lcPG f hx Y hj hsc hN ho (AK.imp K fun ds ⟨xs, h1, h2, h3, q⟩ => ⟨xs, _, h1, h2, lct_map h3, by rw [fmap_some]; exact q⟩) hb hnc hs
theorem AE.lcGIf {α : Type} {f g : α → D} {t : α → Bool} {c : Expr} (hx : XF X fb k) (hj : j + 2 ≤ k) (hsc : X.env.scope = sc) (hN : Nth fb.N i x) (ho : ownB scope x = true)
    (h : AGen X j e ρ m asp fun ds => ∃ xs : List α, asp ds (xs.map f) ∧ xs.length < sizeLine ∧ EachT X scope c elt i f xs t g ρ m ∧ Q (.lst ((xs.filter t).map g)) m)
    (hb : blkC fb.N sc scope [(x, i)] = true := by decide +kernel) (hnc : ∀ y ∈ scope.names, y.2 ≠ .cell := by decide +kernel) (hs : ∀ x, foldedSetIterable e X.env x = pure x := by intro _; rfl) : AE X (.ListComp elt [⟨.Name x px, e, [c], 0⟩] scope pos) ρ m Q := by
  obtain ⟨d, Y, K⟩ := h.ex
  exact AE.lcPG f hx Y hj hsc hN ho (AK.imp K fun ds ⟨xs, h1, h2, h3, q⟩ => ⟨xs, _, h1, h2, lct_if h3, by rw [fmap_if]; exact q⟩) hb hnc hs
theorem AS.setLcGMap {α : Type} {f g : α → D} {v : Nat} (hx : XF X fb k) (hj : j + 2 ≤ k) (hsc : X.env.scope = sc) (hN : Nth fb.N i x) (ho : ownB scope x = true) (hy : Nth fb.N v y) (hl : sc.names.lookup y = some .local)
    (hsw : swapsWith (.ListComp elt [⟨.Name x px, e, [], 0⟩] scope pos) (some (.Name y py)) spos.line X.env = pure true)
    (h : AGen X j e ρ m asp fun ds => ∃ xs : List α, asp ds (xs.map f) ∧ xs.length < sizeLine ∧ EachE X scope elt i f xs g ρ m ∧ ∃ ρ', SetR v (.lst (xs.map g)) ρ ρ' ∧ D'.nx ρ' m)
    (hb : blkC fb.N sc scope [(x, i)] = true := by decide +kernel) (hnc : ∀ y ∈ scope.names, y.2 ≠ .cell := by decide +kernel) (hs : ∀ x, foldedSetIterable e X.env x = pure x := by intro _; rfl) : AS X (.Assign [.Name y py] (.ListComp elt [⟨.Name x px, e, [], 0⟩] scope pos) spos) ρ m D' := by
  obtain ⟨d, Y, K⟩ := h.ex
  exact AS.setLcPG f hx Y hj hsc hN ho hy hl hsw (AK.imp K fun ds ⟨xs, h1, h2, h3, q⟩ => ⟨xs, _, h1, h2, lct_map h3, by rw [fmap_some]; exact q⟩) hb hnc hs
theorem AS.setLcGIf {α : Type} {f g : α → D} {t : α → Bool} {c : Expr} {v : Nat} (hx : XF X fb k) (hj : j + 2 ≤ k) (hsc : X.env.scope = sc) (hN : Nth fb.N i x) (ho : ownB scope x = true) (hy : Nth fb.N v y) (hl : sc.names.lookup y = some .local)
    (hsw : swapsWith (.ListComp elt [⟨.Name x px, e, [c], 0⟩] scope pos) (some (.Name y py)) spos.line X.env = pure true)
    (h : AGen X j e ρ m asp fun ds => ∃ xs : List α, asp ds (xs.map f) ∧ xs.length < sizeLine ∧ EachT X scope c elt i f xs t g ρ m ∧ ∃ ρ', SetR v (.lst ((xs.filter t).map g)) ρ ρ' ∧ D'.nx ρ' m)
    (hb : blkC fb.N sc scope [(x, i)] = true := by decide +kernel) (hnc : ∀ y ∈ scope.names, y.2 ≠ .cell := by decide +kernel) (hs : ∀ x, foldedSetIterable e X.env x = pure x := by intro _; rfl) : AS X (.Assign [.Name y py] (.ListComp elt [⟨.Name x px, e, [c], 0⟩] scope pos) spos) ρ m D' := by
  obtain ⟨d, Y, K⟩ := h.ex
  exact AS.setLcPG f hx Y hj hsc hN ho hy hl hsw (AK.imp K fun ds ⟨xs, h1, h2, h3, q⟩ => ⟨xs, _, h1, h2, lct_if h3, by rw [fmap_if]; exact q⟩) hb hnc hs
theorem AE.listGen (hx : XF X fb k) (fr : Fr X) (hj : j + 4 ≤ k) (h : AGen X j e ρ m asp fun ds => ∃ es, asp ds es ∧ es.length < sizeLine ∧ Q (.lst es) m) (hg : fb.glb "list" = true := by decide +kernel)
    (he : starEach [e] X.env = (false, eval e X.env) :: starEach [] X.env := by rfl) : AE X (.Call (.Name "list" p) [e] [] pos) ρ m Q := by
  obtain ⟨d, Y, K⟩ := h.ex
  exact AE.listG hx Y hj hg (fr _ (by decide +kernel)) rfl K (by decide +kernel) (by decide +kernel) he
end
end Ab
/-! C9: generator defs by their bodies. -/
namespace Ab
open PySem PySem.Spec PyProof.Rows L2 Slp
theorem XF.gx {X : Cx} {fb : FB} {k : Nat} (h : XF X fb k) (s : Shared) (H : Hp) : XF (gx X s H) fb k := ⟨h.nN, h.nd, h.calm, h.room, h.vis, h.sto, h.glb⟩
section
variable {P : Program} {w : World} {K : PySem.W.Frag} {mg : Str → Option Value} {base : Heap} {j : Nat} {f : Addr} {fd : FuncData} {ps N : List Str} {asp : List D → List D → Prop}
theorem xf_gcx {qual : Str} {scope : Scope} {cd : Value} {A : Around} {outer : List Env} {s : Shared} {H : Hp} {k : Nat} (S : GScope N ps scope) (hr : Room k (gcx P w K mg base N qual scope f cd A outer s H).A) :
    XF (gcx P w K mg base N qual scope f cd A outer s H) (fbOf N scope) k where
  nN := rfl
  nd := S.nd
  calm := rfl
  room := hr
  vis := fun x h => visB_ok h
  sto := fun x h => ⟨stoB_ok h, .inl rfl⟩
  glb := fun x h => glbB_ok h
/-- THE RULE for a generator def by its body -/
theorem ylaw_of {x qual : Str} {params : Arguments} {body : List Stmt} {scope : Scope} (F : FunD K x qual params body scope [] [] f fd) (hb : Binds K fd ps []) (S : GScope N ps scope) (nc : ∀ n, cellsFrom n scope.names [] = []) (len : ∀ ds es, asp ds es → ds.length = ps.length)
    (h : ∀ G : Gen, XG P w K mg base G.X → XF G.X (fbOf N scope) j → G.Fit → G.X.env.scope = scope → ∀ ds es, asp ds es → G.ds = es → AYs G body [] 0 (startR N ds) fun i _ => i = G.ds.length) : ∃ d : GK, d.f = f ∧ d.ps = ps ∧ YLaw P w K mg base j d asp := by
  obtain ⟨oc, od, dV, kV, doc, pm, an, cdv, ct, osl, rfl, lk, hcd, hD, hK⟩ := F.ex
  refine ⟨⟨f, ps, N, qual, scope, body, cdv⟩, rfl, rfl, ⟨⟨⟨x, params, dV, kV, doc, pm, ct, oc, an, od, osl, lk, hb⟩, hcd, S, nc⟩, fun ds es ha => ⟨len ds es ha, startR N ds, fun m H vs r => startR_ok r, fun G A outer s H hX hr Ft he => ?_⟩⟩⟩
  have xf : XF G.X (fbOf N scope) j := by rw [hX] at hr ⊢; exact xf_gcx S hr
  exact h G (by rw [hX]; exact ⟨rfl, rfl, rfl, rfl, rfl⟩) xf Ft (by rw [hX]; rfl) ds es ha he
theorem gmth_of {C : Addr} {nm : Str} (c : Cls K C) (mt : Meth K C nm f) (h : ∃ d : GK, d.f = f ∧ d.ps = ps ∧ YLaw P w K mg base j d asp) (hp : ps.length = 1) : GMth P w K mg base j C nm asp := by
  obtain ⟨d, e1, e2, Y⟩ := h
  exact ⟨d, Y, c, by rw [e1]; exact mt, by rw [e2]; exact hp⟩
theorem gcal_of {x : Str} (gl : mg x = some (.ref f)) (kp : PySem.W.keepIn K (.ref f) = true) (h : ∃ d : GK, d.f = f ∧ d.ps = ps ∧ YLaw P w K mg base j d asp) : GCal P w K mg base j x asp := by
  obtain ⟨d, e1, e2, Y⟩ := h
  exact ⟨d, Y, by rw [e1]; exact gl, by rw [e1]; exact kp⟩
/-! binding -/
abbrev FnP (K : PySem.W.Frag) (x q : Str) (st : Stmt) (f : Addr) (fd : FuncData) : Prop := FunD K x q (defArgs st) (defBody st) (defScope st) [] [] f fd
theorem b1 {x q : Str} {st : Stmt} {p1 : Str} (F : FnP K x q st f fd) (h : ∀ kV doc pm an cdv ct a, bindArgs (PySem.W.fnOf x q (defArgs st) (defBody st) (defScope st) .none kV doc pm an cdv ct) ⟨[a], []⟩ = pure [(p1, a)]) : Binds K fd [p1] [] :=
  F.bindsN fun kV doc pm an cdv ct us hl => match us, hl with | [a], _ => h kV doc pm an cdv ct a
theorem b2 {x q : Str} {st : Stmt} {p1 p2 : Str} (F : FnP K x q st f fd) (h : ∀ kV doc pm an cdv ct a b, bindArgs (PySem.W.fnOf x q (defArgs st) (defBody st) (defScope st) .none kV doc pm an cdv ct) ⟨[a, b], []⟩ = pure [(p1, a), (p2, b)]) : Binds K fd [p1, p2] [] :=
  F.bindsN fun kV doc pm an cdv ct us hl => match us, hl with | [a, b], _ => h kV doc pm an cdv ct a b
theorem b3 {x q : Str} {st : Stmt} {p1 p2 p3 : Str} (F : FnP K x q st f fd) (h : ∀ kV doc pm an cdv ct a b c, bindArgs (PySem.W.fnOf x q (defArgs st) (defBody st) (defScope st) .none kV doc pm an cdv ct) ⟨[a, b, c], []⟩ = pure [(p1, a), (p2, b), (p3, c)]) : Binds K fd [p1, p2, p3] [] :=
  F.bindsN fun kV doc pm an cdv ct us hl => match us, hl with | [a, b, c], _ => h kV doc pm an cdv ct a b c
theorem b4 {x q : Str} {st : Stmt} {p1 p2 p3 p4 : Str} (F : FnP K x q st f fd) (h : ∀ kV doc pm an cdv ct a b c d, bindArgs (PySem.W.fnOf x q (defArgs st) (defBody st) (defScope st) .none kV doc pm an cdv ct) ⟨[a, b, c, d], []⟩ = pure [(p1, a), (p2, b), (p3, c), (p4, d)]) : Binds K fd [p1, p2, p3, p4] [] :=
  F.bindsN fun kV doc pm an cdv ct us hl => match us, hl with | [a, b, c, d], _ => h kV doc pm an cdv ct a b c d
theorem b5 {x q : Str} {st : Stmt} {p1 p2 p3 p4 p5 : Str} (F : FnP K x q st f fd) (h : ∀ kV doc pm an cdv ct a b c d e, bindArgs (PySem.W.fnOf x q (defArgs st) (defBody st) (defScope st) .none kV doc pm an cdv ct) ⟨[a, b, c, d, e], []⟩ = pure [(p1, a), (p2, b), (p3, c), (p4, d), (p5, e)]) : Binds K fd [p1, p2, p3, p4, p5] [] :=
  F.bindsN fun kV doc pm an cdv ct us hl => match us, hl with | [a, b, c, d, e], _ => h kV doc pm an cdv ct a b c d e
theorem b6 {x q : Str} {st : Stmt} {p1 p2 p3 p4 p5 p6 : Str} (F : FnP K x q st f fd) (h : ∀ kV doc pm an cdv ct a b c d e g, bindArgs (PySem.W.fnOf x q (defArgs st) (defBody st) (defScope st) .none kV doc pm an cdv ct) ⟨[a, b, c, d, e, g], []⟩ = pure [(p1, a), (p2, b), (p3, c), (p4, d), (p5, e), (p6, g)]) : Binds K fd [p1, p2, p3, p4, p5, p6] [] :=
  F.bindsN fun kV doc pm an cdv ct us hl => match us, hl with | [a, b, c, d, e, g], _ => h kV doc pm an cdv ct a b c d e g
theorem star1 {x q pv : Str} {st : Stmt} {ks : List (Str × V)} (F : FunD K x q (defArgs st) (defBody st) (defScope st) [] ks f fd) (h0 : ∀ kV doc pm an cdv ct a, bindArgs (PySem.W.fnOf x q (defArgs st) (defBody st) (defScope st) .none kV doc pm an cdv ct) ⟨[a], []⟩ = (newTuple [] >>= fun t => pure [(("self" : Str), a), (pv, t)]))
    (h1 : ∀ kV doc pm an cdv ct a r rs, bindArgs (PySem.W.fnOf x q (defArgs st) (defBody st) (defScope st) .none kV doc pm an cdv ct) ⟨a :: r :: rs, []⟩ = (newTuple (r :: rs) >>= fun t => pure [(("self" : Str), a), (pv, t)])) :
    ∀ us rest : List Value, us.length = ["self"].length → bindArgs fd ⟨us ++ rest, []⟩ = (newTuple rest >>= fun t => pure ((["self"] : List Str).zip us ++ [(pv, t)])) := by
  obtain ⟨oc, od, dV, kV, doc, pm, an, cdv, ct, osl, rfl, lk, hcd, hD, hK⟩ := F.ex
  rcases hD with ⟨_, rfl⟩ | ⟨e, _⟩
  · exact StX.bind_star1 (B := fun us => bindArgs _ ⟨us, []⟩) (fun a => h0 _ _ _ _ _ _ a) fun a r rs => h1 _ _ _ _ _ _ a r rs
  · exact absurd rfl e
/-- the promise of a def with a star, by that of its parameters and the tuple -/
def starA (asp : ASp) : ASp := fun ds m Q => ∃ ws rest, ds = ws ++ rest ∧ ws.length = ["self"].length ∧ rest.length ≤ sizeLine ∧ asp (ws ++ [.tup rest]) m Q
theorem starA_of {asp : ASp} {d : D} {rest : List D} {m : Mu} {Q : QD} (h : asp [d, .tup rest] m Q) (hz : rest.length ≤ sizeLine) : starA asp (d :: rest) m Q := ⟨[d], rest, rfl, rfl, hz, h⟩
end
end Ab
/-! C10: comprehensions whose items have effects, the result as data. -/
namespace Ab
open L2 PySem PySem.Spec PyProof.Rows
section
variable {X : Cx} {fb : FB} {k j : Nat} {ρ : Rho} {m : Mu} {e o elt iter tg : Expr} {scope sc : Scope} {x y nm : Str} {p pos px py spos : Pos} {Q : QD} {i : Nat}
/-- of the items of xs, taken as pre so far, out as the list so far -/
structure LcE (X : Cx) (scope : Scope) (elt : Expr) (i : Nat) {α : Type} (f : α → D) (xs : List α) (I : List α → List D → Mu → Prop) (G : Mu → Prop) (ρ : Rho) (m : Mu) : Prop where
  z : xs.length < sizeLine
  i0 : I [] [] m
  g : ∀ pre out mi a o, I pre out mi → mi a = none → G (updM mi a o)
  t : ∀ pre x post out mi a, xs = pre ++ x :: post → I pre out mi → out.length = pre.length → mi a = none → ∃ ρ2, SetR i (f x) (wipeR ρ [i]) ρ2 ∧ ABE X scope elt ρ2 (updM mi a (.lst out)) fun r m4 => ∃ mj, m4 = updM mj a (.lst out) ∧ mj a = none ∧ I (pre ++ [x]) (out ++ [r]) mj
theorem LcE.lc {α : Type} {f : α → D} {xs : List α} {I : List α → List D → Mu → Prop} {G : Mu → Prop} {R : List D → Mu → Addr → Prop} (h : LcE X scope elt i f xs I G ρ m) (fin : ∀ out mj a, mj a = none → I xs out mj → R out mj a) :
    ∃ J : Nat → List D → Mu → Prop, J 0 [] m ∧ (∀ i out mi a o, J i out mi → mi a = none → G (updM mi a o)) ∧
      (∀ n d out mi a, (xs.map f)[n]? = some d → J n out mi → mi a = none → ∃ ρ2, SetR i d (wipeR ρ [i]) ρ2 ∧ ABT X scope [] ρ2 (updM mi a (.lst out)) fun b m3 =>
        (b = true → ABE X scope elt ρ2 m3 fun r m4 => out.length < sizeLine ∧ ∃ mj, m4 = updM mj a (.lst out) ∧ mj a = none ∧ J (n + 1) (out ++ [r]) mj) ∧ (b = false → ∃ mj, m3 = updM mj a (.lst out) ∧ mj a = none ∧ J (n + 1) out mj)) ∧
      ∀ out mj a, mj a = none → J (xs.map f).length out mj → R out mj a := by
  refine ⟨fun n out mi => out.length = n ∧ I (xs.take n) out mi, ⟨rfl, h.i0⟩, fun n out mi a o ⟨_, q⟩ na => h.g _ _ _ _ _ q na, ?_, fun out mj a na ⟨_, q⟩ => fin out mj a na (by rw [List.length_map, List.take_length] at q; exact q)⟩
  rintro n d out mi a hd ⟨hn, q⟩ na
  rw [List.getElem?_map] at hd
  cases hx : xs[n]? with
  | none => rw [hx] at hd; cases hd
  | some v =>
    rw [hx] at hd; cases hd
    obtain ⟨hl, hv⟩ := List.getElem?_eq_some_iff.mp hx
    have e : xs = xs.take n ++ v :: xs.drop (n + 1) := by
      conv => lhs; rw [← List.take_append_drop n xs]
      rw [List.drop_eq_getElem_cons hl, hv]
    obtain ⟨ρ2, st, q2⟩ := h.t _ v _ out mi a e q (by rw [List.length_take]; omega) na
    refine ⟨ρ2, st, fun _ => fun s H C cl fp => (q2 s H C cl fp).imp fun r m4 ⟨mj, e1, e2, e3⟩ => ⟨by have := h.z; omega, mj, e1, e2, by simp [hn], ?_⟩, fun e => nomatch e⟩
    rw [List.take_succ, hx]; exact e3
theorem AE.lcE {α : Type} (f : α → D) (hx : XF X fb k) (hsc : X.env.scope = sc) (hN : Nth fb.N i x) (ho : ownB scope x = true)
    (h : AI X (.Name x px) iter ρ m fun ds G m1 => ∃ (xs : List α) (I : List α → List D → Mu → Prop), ds = xs.map f ∧ LcE X scope elt i f xs I G ρ m1 ∧ ∀ out mj, I xs out mj → Q (.lst out) mj)
    (hb : blkC fb.N sc scope [(x, i)] = true := by decide +kernel) (hs : ∀ x, foldedSetIterable iter X.env x = pure x := by intro _; rfl) : AE X (.ListComp elt [⟨.Name x px, iter, [], 0⟩] scope pos) ρ m Q :=
  AE.frz (AE.lcM (own := [(x, i)]) hx (by rw [hx.nN, hsc]; exact blkOk_by hb) (ctg_name hx hN ho) (.mk fun σ H S => WI.mono (X := X) (h σ H S) fun J H' ⟨ds, G, m1, hm, l, jk, xs, I, e, ht, q⟩ => ⟨ds, G, m1, hm, l, jk, by
    subst e
    exact ht.lc (R := fun out mj a => ∃ a' ds', D.ref a = .ref a' ∧ updM mj a (.lst out) a' = some (.lst ds') ∧ Q (.lst ds') (delM (updM mj a (.lst out)) a')) fun out mj a na z => ⟨a, _, rfl, updM_same, by rw [delM_updM na]; exact q _ _ z⟩⟩) hs)
theorem AS.setLcE {α : Type} {D' : AEnds} {v : Nat} (f : α → D) (hx : XF X fb k) (hsc : X.env.scope = sc) (hN : Nth fb.N i x) (ho : ownB scope x = true) (hy : Nth fb.N v y) (hl : sc.names.lookup y = some .local)
    (hsw : swapsWith (.ListComp elt [⟨.Name x px, iter, [], 0⟩] scope pos) (some (.Name y py)) spos.line X.env = pure true)
    (h : AI X (.Name x px) iter ρ m fun ds G m1 => ∃ (xs : List α) (I : List α → List D → Mu → Prop), ds = xs.map f ∧ LcE X scope elt i f xs I G ρ m1 ∧ ∀ out mj, I xs out mj → ∃ ρ', SetR v (.lst out) ρ ρ' ∧ D'.nx ρ' mj)
    (hb : blkC fb.N sc scope [(x, i)] = true := by decide +kernel) (hs : ∀ x, foldedSetIterable iter X.env x = pure x := by intro _; rfl) : AS X (.Assign [.Name y py] (.ListComp elt [⟨.Name x px, iter, [], 0⟩] scope pos) spos) ρ m D' := .mk fun σ H S => by
  refine WS.of (ps_setLc hx.calm hx.nd (by rw [hx.nN]; exact hy.at) (by rw [hsc]; exact hl) hsw piW (by rw [hx.nN, hsc]; exact blkOk_by hb) (ctg_name (scope := scope) (pos := px) hx hN ho).pg (fun _ _ _ _ _ => ptB) (fun _ _ _ _ _ => peB) hs) ?_
  refine lc_at (Q := fun d m1 => ∃ a ds, d = .ref a ∧ m1 a = some (.lst ds) ∧ ∃ ρ', SetR v (.lst ds) ρ ρ' ∧ D'.nx ρ' (delM m1 a)) (ctg_name (scope := scope) (pos := px) hx hN ho) (.mk fun σ H S => WI.mono (X := X) (h σ H S) fun J H' ⟨ds, G, m1, hm, l, jk, xs, I, e, ht, q⟩ => ⟨ds, G, m1, hm, l, jk, ?_⟩) S ?_
  · subst e
    exact ht.lc (R := fun out mj a => ∃ a' ds', D.ref a = .ref a' ∧ updM mj a (.lst out) a' = some (.lst ds') ∧ ∃ ρ', SetR v (.lst ds') ρ ρ' ∧ D'.nx ρ' (delM (updM mj a (.lst out)) a')) fun out mj a na z => ⟨a, _, rfl, updM_same, by rw [delM_updM na]; exact q _ _ z⟩
  · rintro v' H' ⟨d, m1, hm1, l1, r1, a, ds, e1, e2, ρ', st, q⟩
    subst e1
    cases r1
    obtain ⟨vs, z, r⟩ := hm1 _ _ e2
    have l2 : Later m1 H' (delM m1 a) H' := Later.del
    rw [st.eq] at q
    exact ⟨_, delM m1 a, hm1.del, l1.trans l2, (S.rs.later (l1.trans l2)).set v (.lst nodel (.inl z) (l2.reps r)), q⟩
end
end Ab
/-! C11: try without a raise, starred arguments, augmented assignments, slices by a step that is reckoned, lists of dicts. -/
namespace Ab
open L2 PySem PySem.Spec PyProof.Rows
section
variable {X : Cx} {fb : FB} {k j : Nat} {ρ : Rho} {m : Mu} {e o a b i : Expr} {es : List Expr} {x y nm : Str} {p pos apos sp_ px py pz pw : Pos} {C : Addr} {Q : QD} {asp : ASp} {sts : List Stmt}
/-- try: .. except ..: where nothing is raised -/
theorem AS.tryN {D : AEnds} {h0 : ExceptHandler} {hs : List ExceptHandler} (hxe : X.xe = fun _ _ => False) (h : ASs X sts ρ m D) : AS X (.Try sts (h0 :: hs) [] [] pos) ρ m D := .mk fun σ H S =>
  WS.of (ps_try_never (u := tNext) (fun e s z => by rw [hxe] at z; exact z) pssW pss_nil) (h σ H S)
/-- a method that can be taken off its object -/
structure MthB (P : Program) (w : World) (K : PySem.W.Frag) (mg : Str → Option Value) (base : Heap) (j : Nat) (C : Addr) (nm : Str) (asp : ASp) : Prop where
  ex : ∃ f, Cls K C ∧ BMeth K C nm f ∧ AFn P w K mg base j f asp
/-- o.m(*e) -/
theorem AE.mthStar (c : MthB X.prog X.w X.K X.mg X.base j C nm asp) (hx : XF X fb k) (hj : j ≤ k)
    (h : AE X o ρ m fun d m1 => ∃ fs, IsI m1 d C fs ∧ fs.lookup nm = none ∧ AE X e ρ m1 fun d2 m2 => ∃ ds, IsQ m2 d2 ds ∧ asp (d :: ds) m2 Q) (hbase : attributeBase o nm X.env (eval o X.env) = eval o X.env := by rfl) :
    AE X (.Call (.Attribute o nm apos) [.Starred e sp_] [] pos) ρ m Q := .mk fun σ H S pins s I => by
  obtain ⟨f, cl, bm, F⟩ := c.ex
  refine starcall_of hbase (thn (h σ H S pins s I) fun u s1 ⟨x, H1, I1, rx, d, m1, hm1, l1, r1, fs, hi, hl, q1⟩ => ?_)
  obtain ⟨a, dx, gs, ex, ea, eg, rg⟩ := hi.at hm1 r1
  subst ex
  obtain rfl : u = Value.ref a := rx
  refine getbound_ok I1 ea cl bm (lookup_no eg hl) fun q s2 hq I2 => ?_
  have hm2 : HM X.K m1 (upd H1 q (.met f a)) := hm1.same (same_upd hq)
  have l2 : Later m1 H1 m1 (upd H1 q (.met f a)) := Later.same (same_upd hq)
  have nq : ¬ dom m1 q := notdom hm1 hq
  refine PySem.W.ks_call (P := PySem.W.MethP X.K q f (.ref a)) rfl (PySem.W.keeps_M bm.fi) (PySem.W.ks_lone ?_)
  refine thn (q1 σ _ (S.later hm2 (l1.trans l2)) pins s2 I2) fun v s3 ⟨y, H3, I3, ry, d3, m3, hm3, l3, r3, ds, hsq, q3⟩ => ?_
  obtain ⟨c, us, ev, sq, rs⟩ := hsq.at hm3 r3
  subst ev
  obtain rfl : v = Value.ref c := ry
  have hmet : H3 q = some (.met f a) := ((l3 q _ nq upd_same).eq nofun).1
  refine StX.star_any I3 sq.symm fun us s4 I4 rv => ⟨met_P I4 hmet, ?_⟩
  exact wpAny_call (PySem.W.method_call (met_P I4 hmet).1 (run_fnR (E := E0) (us := .ref a :: us) (vs := .ref a :: _) F (hx.room.mono hj) pass0 I4 (.cons rfl rv) ⟨d :: ds, m3, Q, hm3, .cons ((l2.trans l3).rep r1) rs, q3, fun d' m' v' H' w1 w2 w3 w4 => Post.from (l1.trans (l2.trans l3)) ⟨d', m', w1, w2, w3, w4⟩⟩))
/-- a, b, c, d = .. of a tuple -/
theorem AG.tup4 {i j l n kk : Nat} {z u : Str} {d : D} {R : Rho → Mu → Prop} (hx : XF X fb k) (h1 : Nth fb.N i x) (h2 : Nth fb.N j y) (h3 : Nth fb.N l z) (h4 : Nth fb.N n u) (v1 : fb.sto x = true) (v2 : fb.sto y = true) (v3 : fb.sto z = true) (v4 : fb.sto u = true) (h : ∃ ds ρ', d = .tup ds ∧ SetRs [i, j, l, n] ds ρ ρ' ∧ R ρ' m) : AG X (.Tuple [.Name x px, .Name y py, .Name z pz, .Name u pw] kk pos) d ρ m R := by
  obtain ⟨l1, f1⟩ := hx.sto x v1
  obtain ⟨l2, f2⟩ := hx.sto y v2
  obtain ⟨l3, f3⟩ := hx.sto z v3
  obtain ⟨l4, f4⟩ := hx.sto u v4
  exact ag_names (is := [i, j, l, n]) hx (pgs_cons (pg_name hx.nd (by rw [hx.nN]; exact h1.at) l1 f1) (pgs_cons (pg_name hx.nd (by rw [hx.nN]; exact h2.at) l2 f2) (pgs_cons (pg_name hx.nd (by rw [hx.nN]; exact h3.at) l3 f3) (pgs_cons (pg_name hx.nd (by rw [hx.nN]; exact h4.at) l4 f4) pgs_nil)))) rfl rfl h
end
end Ab
/-! D1: min of two values of data. -/
namespace Ab
open L2 PySem PySem.Spec PyProof.Rows
open PySem.W (dataLt alike)
section
variable {P : Program} {w : World} {A : Around}
/-- how two items compare wherever the heap h0 stands -/
def CmpAt (P : Program) (w : World) (A : Around) (h0 : Heap) (It : Nat → Value → Prop) (bt : Nat → Nat → Bool) : Prop :=
  ∀ i j vi vj (s : Shared) (Q : Value → Shared → Prop) (E : Value → Shared → Prop), j < i → (∀ b o, h0.get? b = some o → s.heap.get? b = some o) → It i vi → It j vj → Q (.bool (bt i j)) s → wpAny (model P w) A (richCompare .Lt vi vj) Q E s
section
variable {R : Result → Shared → Prop} {I : Addr} {fp wr : List Addr} {n : Nat} {It : Nat → Value → Prop} {St : Nat → Heap → Prop} {h0 : Heap} {bt : Nat → Nat → Bool} {S : Addr}
theorem argBest_le {bt : Nat → Nat → Bool} : ∀ k, argBest bt k ≤ k
  | 0 => Nat.le_refl _
  | k + 1 => by
    have := argBest_le (bt := bt) k
    rw [argBest]; split <;> omega
/-- what is kept of the heap on the way -/
abbrev KeptBut (wr : List Addr) (S : Addr) (h h' : Heap) : Prop := ∀ b o, b ∉ wr → b ≠ S → h.get? b = some o → h'.get? b = some o
theorem minD_go (W : Walks P w A.in1 I fp wr n It St) (hc : CmpAt P w A.in1 h0 It bt) (hS : S ∉ fp) (h00 : ∀ b o, h0.get? b = some o → b ∉ wr ∧ b ≠ S) :
    ∀ (k j : Nat) (s : Shared) (vb : Value) (c : Nat), n = j + 1 + k → (∀ b o, h0.get? b = some o → s.heap.get? b = some o) → St (j + 1) s.heap → It (argBest bt j) vb → s.heap.get? S = some { cls := .type "list", dict := none, data := .seq #[vb, vb] c, slots := #[] } →
      (∀ v h' tk, It (argBest bt (n - 1)) v → KeptBut wr S s.heap h' → R (.ok (.ret v)) { s with heap := h', toks := tk }) → codeAny (model P w) A (.builtin "min.loop" ⟨[.ref I, .none, .ref S], []⟩) R s := by
  have nS : S ∉ wr := fun z => hS (W.sub _ z)
  have nm : (toString "min" ++ toString ".loop" : String) = "min.loop" := by decide
  intro k
  induction k with
  | zero =>
    intro j s vb c en hb st hi hs fin
    refine codeAny_builtin F.entry_min_loop ?_
    rw [Around.under_plainId F.plain_min_loop _]
    show wpAny _ A.in1 (seqItems? (.ref S) >>= _) _ _ s
    refine wpAny_bind (wpAny_seqItems hs rfl ?_)
    show wpAny _ A.in1 (tryCatch (pyNext (.ref I)) _ >>= _) _ _ s
    refine wpAny_bind (wpAny_tryCatch (W.done s _ _ (by rw [en]; exact st) fun h' tk hk => ?_))
    show wpAny _ A.in1 (updateSeq S (fun _ => #[]) >>= _) _ _ _
    refine wpAny_bind (wpAny_updateSeq (hk S _ nS hs) rfl (wpAny_bind (wpAny_letGo (wpAny_pure ?_))))
    exact fin vb _ tk (by rw [en]; exact hi) fun b o n1 n2 e => (Heap.get?_update_other _ _ (Ne.symm n2)).trans (hk b o n1 e)
  | succ k ih =>
    intro j s vb c en hb st hi hs fin
    refine codeAny_builtin F.entry_min_loop ?_
    rw [Around.under_plainId F.plain_min_loop _]
    show wpAny _ A.in1 (seqItems? (.ref S) >>= _) _ _ s
    refine wpAny_bind (wpAny_seqItems hs rfl ?_)
    show wpAny _ A.in1 (tryCatch (pyNext (.ref I)) _ >>= _) _ _ s
    refine wpAny_bind (wpAny_tryCatch (W.item (j + 1) s _ _ (by omega) st fun v h' tk hv st' hk => ?_))
    have hs' := hk S _ nS hs
    have hb' : ∀ b o, h0.get? b = some o → h'.get? b = some o := fun b o e => hk b o (h00 b o e).1 (hb b o e)
    show wpAny _ A.in1 (tryCatch (holding [v, v] (richCompare .Lt v vb >>= _)) _ >>= _) _ _ _
    refine wpAny_bind (wpAny_tryCatch (wpAny_holding (wpAny_bind (hc (j + 1) (argBest bt j) v vb _ _ _ (Nat.lt_succ_of_le (argBest_le j)) hb' hv hi ?_))))
    refine wpAny_bind (wpAny_holding (wpAny_truthy_bool ?_))
    refine wpAny_bind (wpAny_letGo (wpAny_pure ?_))
    cases ht : bt (j + 1) (argBest bt j) with
    | true =>
      simp only [if_true]
      refine wpAny_bind (wpAny_updateSeq hs' rfl (wpAny_bind (wpAny_letGo ?_)))
      rw [nm]
      refine wpAny_pure ⟨plainId_quiet F.plain_min_loop _, ih (j + 1) _ v _ (by omega) (fun b o e => (Heap.get?_update_other _ _ (Ne.symm (h00 b o e).2)).trans (hb' b o e)) (W.frame _ _ _ st' fun b bf o e => (Heap.get?_update_other _ _ fun z : S = b => hS (by rw [z]; exact bf)).trans e)
        (by simp only [argBest, ht, if_true]; exact hv) (Heap.get?_update_self _ hs' rfl) fun v' h'' tk' z hk2 => fin v' h'' tk' z fun b o n1 n2 e => hk2 b o n1 n2 ((Heap.get?_update_other _ _ (Ne.symm n2)).trans (hk b o n1 e))⟩
    | false =>
      simp only [Bool.false_eq_true, if_false]
      refine wpAny_bind (wpAny_letGo ?_)
      rw [nm]
      exact wpAny_pure ⟨plainId_quiet F.plain_min_loop _, ih (j + 1) _ vb c (by omega) hb' st' (by simp only [argBest, ht, Bool.false_eq_true, if_false]; exact hi) hs' fun v' h'' tk' z hk2 => fin v' h'' tk' z fun b o n1 n2 e => hk2 b o n1 n2 (hk b o n1 e)⟩
theorem minD_first (W : Walks P w A.in1 I fp wr n It St) (hc : CmpAt P w A.in1 h0 It bt) (hS : S ∉ fp) (h00 : ∀ b o, h0.get? b = some o → b ∉ wr ∧ b ≠ S) (hn : 0 < n) {s : Shared} {c : Nat} (hb : ∀ b o, h0.get? b = some o → s.heap.get? b = some o) (st : St 0 s.heap)
    (hs : s.heap.get? S = some { cls := .type "list", dict := none, data := .seq #[] c, slots := #[] }) (fin : ∀ v h' tk, It (argBest bt (n - 1)) v → KeptBut wr S s.heap h' → R (.ok (.ret v)) { s with heap := h', toks := tk }) :
    codeAny (model P w) A (.builtin "min.loop" ⟨[.ref I, .none, .ref S], []⟩) R s := by
  have nS : S ∉ wr := fun z => hS (W.sub _ z)
  have nm : (toString "min" ++ toString ".loop" : String) = "min.loop" := by decide
  refine codeAny_builtin F.entry_min_loop ?_
  rw [Around.under_plainId F.plain_min_loop _]
  show wpAny _ A.in1 (seqItems? (.ref S) >>= _) _ _ s
  refine wpAny_bind (wpAny_seqItems hs rfl ?_)
  show wpAny _ A.in1 (tryCatch (pyNext (.ref I)) _ >>= _) _ _ s
  refine wpAny_bind (wpAny_tryCatch (W.item 0 s _ _ hn st fun v h' tk hv st' hk => ?_))
  have hs' := hk S _ nS hs
  show wpAny _ A.in1 (updateSeq S (fun _ => #[v, v]) >>= _) _ _ _
  refine wpAny_bind (wpAny_updateSeq hs' rfl ?_)
  rw [nm]
  refine wpAny_pure ⟨plainId_quiet F.plain_min_loop _, minD_go W hc hS h00 (n - 1) 0 _ v _ (by omega) (fun b o e => (Heap.get?_update_other _ _ (Ne.symm (h00 b o e).2)).trans (hk b o (h00 b o e).1 (hb b o e))) (W.frame _ _ _ st' fun b bf o e => (Heap.get?_update_other _ _ fun z : S = b => hS (by rw [z]; exact bf)).trans e)
    hv (Heap.get?_update_self _ hs' rfl) fun v' h'' tk' z hk2 => fin v' h'' tk' z fun b o n1 n2 e => hk2 b o n1 n2 ((Heap.get?_update_other _ _ (Ne.symm n2)).trans (hk b o n1 e))⟩
end
/-- min(a, b) -/
theorem min_two_data {s : Shared} {a b : Value} {da db : PyData} {as bs : List Addr} {Q : Value → Shared → Prop} {E : Value → Shared → Prop} (hh : A.handled = none) (ra : Reads s.heap a da as) (rb : Reads s.heap b db bs) (al : alike db da = true) (hn : db ≠ .none) (hu : A.units + 3 + min db.depth da.depth < cLine)
    (h : ∀ h' tk, (∀ c o, s.heap.get? c = some o → h'.get? c = some o) → Q (if dataLt db da = true then b else a) { s with heap := h', toks := tk }) : wpAny (model P w) A (call (.builtin "min") [a, b]) Q E s := by
  obtain ⟨T, hT⟩ : ∃ T, T = s.heap.push { cls := .type "tuple", data := .seq #[a, b] } := ⟨_, rfl⟩
  have z1 : T.objs.size = s.heap.objs.size + 1 := by rw [hT]; exact Heap.size_push ..
  have k1 : ∀ c o, s.heap.get? c = some o → T.get? c = some o := fun c o e => by rw [hT]; exact Heap.get?_push_of_some _ e
  have tup : T.IsTuple s.heap.objs.size #[a, b] := by rw [hT]; exact ⟨_, Heap.get?_push_size _ rfl, rfl, 0, rfl⟩
  have nm : (toString "min" ++ toString ".loop" : String) = "min.loop" := by decide
  refine call_function_tree F.kind_min F.plain_min F.entry_min (F.args_min2 _ _) ?_
  show wpAny _ A.in1 (Builtin.Builtins.bindParams "min" ["key", "default"] 0 ⟨[], []⟩ >>= _) _ _ s
  refine wpAny_bind (wpAny_of_eq (show Builtin.Builtins.bindParams "min" ["key", "default"] 0 ⟨[], []⟩ = pure [none, none] from rfl) ?_)
  show wpAny _ A.in1 (newTuple [a, b] >>= _) _ _ s
  refine wpAny_bind (wpAny_newObj_type ?_)
  show wpAny _ A.in1 _ _ _ { s with heap := s.heap.push { cls := .type "tuple", data := .seq #[a, b] } }
  rw [← hT]
  obtain ⟨U, hU⟩ : ∃ U, U = T.push { cls := .type "tuple_iterator", data := .fields #[.ref s.heap.objs.size, .int 0 0] } := ⟨_, rfl⟩
  have z2 : U.objs.size = T.objs.size + 1 := by rw [hU]; exact Heap.size_push ..
  have k2 : ∀ c o, T.get? c = some o → U.get? c = some o := fun c o e => by rw [hU]; exact Heap.get?_push_of_some _ e
  have it : U.IsTupleIter T.objs.size s.heap.objs.size 0 := by rw [hU]; exact ⟨_, Heap.get?_push_size _ rfl, rfl, rfl⟩
  obtain ⟨V, hV⟩ : ∃ V, V = U.push { cls := .type "list", data := .seq ([] : List Value).toArray } := ⟨_, rfl⟩
  have k3 : ∀ c o, U.get? c = some o → V.get? c = some o := fun c o e => by rw [hV]; exact Heap.get?_push_of_some _ e
  have hs : V.get? U.objs.size = some { cls := .type "list", dict := none, data := .seq #[] 0, slots := #[] } := by rw [hV]; exact Heap.get?_push_size _ rfl
  have W := Walks.tuple (prog := P) (w := w) (A := A.in1) hh T.objs.size s.heap.objs.size (by rw [z1]; exact Nat.ne_of_lt (Nat.lt_succ_self _)) #[a, b]
  have hc : CmpAt P w A.in1 s.heap (fun i v => (#[a, b] : Array Value)[i]? = some v) (fun i j => dataLt (if i = 0 then da else db) (if j = 0 then da else db)) := by
    intro i j vi vj s' Q' E' lt hb hi hj hq
    have rd : ∀ i v, (#[a, b] : Array Value)[i]? = some v → ∃ ws, Reads s'.heap v (if i = 0 then da else db) ws := fun i v e => by
      match i, e with
      | 0, e => cases e; exact ⟨_, PyProof.Rows.Reads.keeps hb ra⟩
      | 1, e => cases e; exact ⟨_, PyProof.Rows.Reads.keeps hb rb⟩
      | _ + 2, e => simp at e
    have i1 : i = 1 := by
      match i, hi with
      | 0, _ => exact absurd lt (Nat.not_lt_zero _)
      | 1, _ => rfl
      | _ + 2, e => simp at e
    have j0 : j = 0 := by omega
    subst i1 j0
    obtain ⟨w1, r1⟩ := rd 1 vi hi
    obtain ⟨w2, r2⟩ := rd 0 vj hj
    show wpAny _ _ (compareOp .Lt vi vj) _ _ _
    refine PySem.W.lt_data r1 r2 al hn (by show A.units + 1 + _ < _; simp only [if_true, Nat.one_ne_zero, if_false]; omega) ?_
    exact hq
  refine wpAny_bind (wpAny_pyIter_tuple tup ?_)
  show wpAny _ A.in1 _ _ _ { s with heap := T.push { cls := .type "tuple_iterator", data := .fields #[.ref s.heap.objs.size, .int 0 0] } }
  rw [← hU]
  refine wpAny_bind (wpAny_newObj_type ?_)
  show wpAny _ A.in1 _ _ _ { s with heap := U.push { cls := .type "list", data := .seq ([] : List Value).toArray } }
  rw [← hV, nm]
  refine wpAny_pure ⟨plainId_quiet F.plain_min_loop _, ?_⟩
  show codeAny (model P w) A (.builtin "min.loop" ⟨[.ref T.objs.size, .none, .ref U.objs.size], []⟩) _ { s with heap := V }
  refine minD_first (s := { s with heap := V }) W hc (S := U.objs.size) (h0 := s.heap) ?_ ?_ (show 0 < 2 by decide) (fun c o e => k3 c o (k2 c o (k1 c o e))) ⟨let ⟨o, h, r⟩ := it; ⟨o, k3 _ _ h, r⟩, let ⟨o, h, r⟩ := tup; ⟨o, k3 _ _ (k2 _ _ h), r⟩⟩ hs fun v h' tk hv hk => ?_
  · intro z
    simp only [List.mem_cons, List.not_mem_nil, or_false] at z
    rcases z with z | z
    · rw [z2] at z; exact absurd z (Nat.ne_of_gt (Nat.lt_succ_self _))
    · rw [z2, z1] at z; exact absurd z (Nat.ne_of_gt (Nat.lt_succ_of_lt (Nat.lt_succ_self _)))
  · intro c o e
    have hl := Heap.lt_size e
    refine ⟨fun z => ?_, fun z => ?_⟩
    · rw [List.mem_singleton] at z
      rw [z, z1] at hl; exact absurd hl (by exact Nat.not_lt_of_le (Nat.le_succ _))
    · rw [z, z2, z1] at hl; exact absurd hl (by exact Nat.not_lt_of_le (Nat.le_trans (Nat.le_succ _) (Nat.le_succ _)))
  · have old : ∀ c o, s.heap.get? c = some o → h'.get? c = some o := fun c o e => by
      have hl := Heap.lt_size e
      refine hk c o (fun z => ?_) (fun z => ?_) (k3 c o (k2 c o (k1 c o e)))
      · rw [List.mem_singleton] at z
        rw [z, z1] at hl; exact absurd hl (by exact Nat.not_lt_of_le (Nat.le_succ _))
      · rw [z, z2, z1] at hl; exact absurd hl (by exact Nat.not_lt_of_le (Nat.le_trans (Nat.le_succ _) (Nat.le_succ _)))
    have q := h h' tk old
    have ev : v = if dataLt db da = true then b else a := by
      have e1 : (#[a, b] : Array Value)[argBest (fun i j => dataLt (if i = 0 then da else db) (if j = 0 then da else db)) 1]? = some v := hv
      cases hd : dataLt db da with
      | true =>
        have e2 : argBest (fun i j => dataLt (if i = 0 then da else db) (if j = 0 then da else db)) 1 = 1 := by simp [argBest, hd]
        rw [e2] at e1; simpa using e1.symm
      | false =>
        have e2 : argBest (fun i j => dataLt (if i = 0 then da else db) (if j = 0 then da else db)) 1 = 0 := by simp [argBest, hd]
        rw [e2] at e1; simpa using e1.symm
    rw [ev]
    exact q
end
section
variable {X : Cx} {fb : FB} {k j : Nat} {ρ : Rho} {m : Mu} {e o a b i : Expr} {es : List Expr} {x y nm : Str} {p pos apos sp_ px py : Pos} {C : Addr} {Q : QD} {asp : ASp}
theorem ca_min2D (hc : X.calm = true) (hu : X.A.units + 60 < cLine) : CallA X (.builtin "min") fun ds m Q => ∃ d1 d2, ds = [d1, d2] ∧ isP d1 = true ∧ isP d2 = true ∧ alike (dP d2) (dP d1) = true ∧ dP d2 ≠ .none ∧ (dP d2).depth ≤ 30 ∧ Q (if dataLt (dP d2) (dP d1) = true then d2 else d1) m := fun ds m vs H Q hm rs ⟨d1, d2, e, p1, p2, al, hn, hd, q⟩ pins s σ us I rv => by
  subst e
  cases rs with
  | cons r1 t =>
  cases t with
  | cons r2 t =>
  cases t
  cases rv with
  | cons v1 t =>
  cases t with
  | cons v2 t =>
  cases t
  obtain ⟨as, ra⟩ := Dp.reads I _ _ _ (dP_rep d1 p1 r1) v1
  obtain ⟨bs, rb⟩ := Dp.reads I _ _ _ (dP_rep d2 p2 r2) v2
  refine min_two_data (I.ok.hd hc) ra rb al hn (by omega) fun h' tk hk => ?_
  have I2 := I.kept (h' := h') (t' := tk) hk
  cases hl : dataLt (dP d2) (dP d1) with
  | true => rw [hl, if_pos rfl] at q; rw [if_pos rfl]; exact ⟨_, H, I2, v2, d2, m, hm, Later.refl, r2, q⟩
  | false => rw [hl, if_neg Bool.false_ne_true] at q; rw [if_neg Bool.false_ne_true]; exact ⟨_, H, I2, v1, d1, m, hm, Later.refl, r1, q⟩
theorem AE.bMin2D (hx : XF X fb k) (fr : Fr X) (h : AE X a ρ m fun d1 m1 => AE X b ρ m1 fun d2 m2 => isP d1 = true ∧ isP d2 = true ∧ alike (dP d2) (dP d1) = true ∧ dP d2 ≠ .none ∧ (dP d2).depth ≤ 30 ∧ Q (if dataLt (dP d2) (dP d1) = true then d2 else d1) m2) (hg : fb.glb "min" = true := by decide +kernel)
    (he : starEach (a :: [b]) X.env = (false, eval a X.env) :: starEach [b] X.env := by rfl) (he2 : starEach [b] X.env = (false, eval b X.env) :: starEach [] X.env := by rfl) (hpl : (backTo pos (starEach [b] X.env)).any (·.1) = false := by rfl) : AE X (.Call (.Name "min" p) [a, b] [] pos) ρ m Q :=
  AE.callB (ca_min2D hx.calm (by have := hx.room.un; omega)) hx hg (fr _ (by decide +kernel)) rfl (AA.cons (h.imp fun d m1 g => AA.cons (g.imp fun c m2 ⟨h1, h2, h3, h4, h5, q⟩ => AA.nil ⟨d, c, rfl, h1, h2, h3, h4, h5, q⟩) he2) he) (by decide +kernel) (by decide +kernel) he hpl
end
end Ab
/-! D2: for over the keys of a dict that is data; list of a dict; slices by a reckoned step; augmented assignment; class calls. -/
namespace Ab
open L2 PySem PySem.Spec PyProof.Rows
def tLk (t : TE) : TE := fun σ H Q => t σ H fun v H1 => Q v H1 ∨ ∃ d u, H1 d = some u ∧ Mut (some u) ∧ ∀ od, Q v (upd H1 d (.frz od u))
section
variable {X : Cx} {fb : FB} {k j : Nat} {ρ : Rho} {m : Mu} {e o a b iter tg : Expr} {es : List Expr} {x y nm : Str} {p pos apos sp_ px py : Pos} {C : Addr} {Q : QD} {asp : ASp}
theorem pe_lk {t : TE} (he : PE X e t) : PE X e (tLk t) := ⟨fun pins s σ H Q I h => thn (he.run pins s σ H _ I h) fun u s1 ⟨v, H1, I1, r, q⟩ => q.elim (fun q => ⟨v, H1, I1, r, q⟩) fun ⟨d, u', e, mu, q⟩ => let ⟨od, I2⟩ := I1.lock e mu; ⟨v, _, I2, r, q od⟩⟩
theorem Later.lock {H : Hp} {d : Addr} {kvs : List (Key × V)} {od : Obj} (e : H d = some (.dK kvs)) : Later m H m (upd H d (.frz od (.dK kvs))) := fun b q nb h => by
  by_cases hb : b = d
  · subst hb
    rw [e] at h; cases h
    exact ⟨_, upd_same, .inr ⟨kvs, od, rfl, rfl⟩, nb⟩
  · exact .of (by rw [upd_ne hb]; exact h) nb
theorem HM.lock {K : PySem.W.Frag} {H : Hp} {d : Addr} {kvs : List (Key × V)} {od : Obj} (h : HM K m H) (e : H d = some (.dK kvs)) (n : ¬ dom m d) : HM K m (upd H d (.frz od (.dK kvs))) := fun b q eb => by
  have ne : b ≠ d := fun z => n (by unfold dom; rw [← z, eb]; simp)
  exact (h b q eb).later (Later.lock e) (upd_ne ne)
/-- for k in d: the keys -/
theorem AI.keys {R : List D → (Mu → Prop) → Mu → Prop} (h : AE X iter ρ m fun d m1 => ∃ ks, d = .dic ks ∧ R (ks.map fun q => kD q.1) (fun _ => True) m1) : AI X tg iter ρ m R := .mk fun σ H S => by
  refine WI.of (pi_keys (pe_lk peW)) ((h σ H S).mono fun v H1 ⟨d, m1, hm1, l1, r1, ks, ed, q⟩ => ?_)
  subst ed
  have fin : ∀ (a : Addr) (kvs : List (Key × V)) (od : Obj) (H2 : Hp), ¬ dom m1 a → H2 a = some (.frz od (.dK kvs)) → kvs.map (·.1) = ks.map (·.1) → HM X.K m1 H2 → Later m H m1 H2 →
      ∃ ds G m', HM X.K m' H2 ∧ Later m H m' H2 ∧ JOk X.K (Itk a od kvs) ds G m' H2 ∧ R ds G m' := fun a kvs od H2 na ea ek hm2 l2 => by
    refine ⟨_, _, m1, hm2, l2, fun i m3 H3 hm3 l3 _ => ?_, q⟩
    have e3 : H3 a = some (.frz od (.dK kvs)) := ((l3 a _ na ea).eq nofun).1
    have el : kvs.length = ks.length := by have := congrArg List.length ek; simpa using this
    refine ⟨fun d hd => ?_, fun hl => ⟨e3, by rw [List.length_map] at hl; omega⟩⟩
    rw [List.getElem?_map] at hd
    cases hk : ks[i]? with
    | none => rw [hk] at hd; cases hd
    | some kd =>
      rw [hk] at hd; cases hd
      have hi : i < ks.length := (List.getElem?_eq_some_iff.mp hk).1
      refine ⟨⟨e3, by omega⟩, fun x H' ⟨eH, k', v', e1, e2⟩ => ?_⟩
      subst eH e2
      have e4 : (kvs.map (·.1))[i]? = (ks.map (·.1))[i]? := by rw [ek]
      rw [List.getElem?_map, List.getElem?_map, hk, e1] at e4
      have e5 : k' = kd.1 := by simpa using e4
      subst e5
      exact ⟨hm3, Later.refl, kD_rep _⟩
  cases r1 with
  | @dic a _ kvs na hd ek rr =>
    rcases hd with hd | ⟨od, hd⟩
    · refine .inr ⟨a, _, hd, trivial, fun od => ⟨a, od, rfl, .inl ⟨kvs, upd_same, ?_⟩⟩⟩
      exact fin a kvs od _ na upd_same ek (hm1.lock hd na) (l1.trans (Later.lock hd))
    · exact .inl ⟨a, od, rfl, .inl ⟨kvs, hd, fin a kvs od _ na hd ek hm1 l1⟩⟩
end
end Ab
/-! D3: augmented assignments to names, list of a dict, slices by a reckoned step, calls of a class in a slot. -/
namespace Ab
open L2 PySem PySem.Spec PyProof.Rows
section
variable {P : Program} {w : World} {A : Around} {E : Value → Shared → Prop} {s : Shared}
theorem iadd_lists {l b : Addr} {xs ys : List Value} {n n2 : Nat} {Q : Value → Shared → Prop} (hl : s.heap.get? l = some { cls := .type "list", dict := none, data := .seq xs.toArray n, slots := #[] }) (hb : s.heap.get? b = some { cls := .type "list", dict := none, data := .seq ys.toArray n2, slots := #[] }) (hz : xs.length + ys.length ≤ sizeLine)
    (h : wpAny (model P w) A (call (.builtin "list.__iadd__") [.ref l, .ref b]) Q E s) : wpAny (model P w) A (inplaceOp .Add (.ref l) (.ref b)) Q E s := by
  have ta : s.TypeIs (.ref l) "list" := ⟨_, hl, rfl⟩
  have tb : s.TypeIs (.ref b) "list" := ⟨_, hb, rfl⟩
  have lk : typeLookup (.type "list") (dunderI "add") = pure (some (.builtin "list.__iadd__")) := F.slot_list_iadd.lookup
  have sq : isSeqSlot (some (.builtin "list.__iadd__")) = true := by decide +kernel
  unfold inplaceOp
  refine wpAny_holding ?_
  have hfi : fillsInplaceSlot (.type "list") "add" (Operator.Add == .Add) = pure false := by
    unfold fillsInplaceSlot
    show (typeLookup (.type "list") (dunderI "add") >>= fun fi => pure (fi.isSome && !isSeqSlot fi)) = pure false
    rw [lk, pure_bind, sq]; rfl
  refine wpAny_bind (wpAny_typeOf ta (wpAny_bind (wpAny_of_eq hfi ?_)))
  show wpAny _ A (if false = true then _ else _) Q E s
  rw [if_neg Bool.false_ne_true]
  refine wpAny_bind (wpAny_binaryOp1_none (nm := "add") ta tb noFill_list_add ?_)
  refine wpAny_bind (wpAny_of_eq (PySem.seqSlot_of lk sq) ?_)
  exact wpAny_bind (wpAny_rule h)
end
section
variable {X : Cx} {fb : FB} {k j i : Nat} {ρ : Rho} {m : Mu} {e o a b : Expr} {es : List Expr} {x y nm : Str} {p pos apos sp_ px py : Pos} {C : Addr} {Q : QD} {asp : ASp}
theorem ip_lists : PIp X .Add (fun x y H Q => ∃ l b xs zs, x = .ref l ∧ y = .ref b ∧ H l = some (.lst xs) ∧ Rd H b (.lst zs) ∧ xs.length + zs.length ≤ sizeLine ∧ Q (.ref l) (upd H l (.lst (xs ++ zs)))) := by
  intro pins s σ H x y v u Q I rx ry ⟨l, b, xs, zs, ex, ey, hH, hB, hz, q⟩
  subst ex ey
  obtain rfl : v = Value.ref l := rx
  obtain rfl : u = Value.ref b := ry
  obtain ⟨z, its, n, r, hl, e⟩ := I.lstM hH
  obtain ⟨z2, its2, n2, r2, e2⟩ := hB.ok I.hok
  have hl2 := r2.length
  have hsz : its.toArray.size + its2.toArray.size ≤ sizeLine := by rw [List.size_toArray, List.size_toArray]; omega
  have hlong : ¬ (!its.toArray.isEmpty && Builtin.List.listTooLong (its.toArray.size + its2.toArray.size)) = true := by
    rw [notLongL hsz, Bool.and_false]
    exact Bool.false_ne_true
  refine iadd_lists e e2 (by omega) ?_
  refine call_meets F.slot_list_iadd ⟨_, e, rfl⟩ F.entry_list_iadd (F.args_list_iadd_2 _ _) (AutoSeq1.list___iadd___list_list_0 l its.toArray n b its2.toArray n2 hlong (by rw [List.size_toArray]; omega) (by omega)) ⟨e, e2, ?_⟩
  refine ⟨.ref l, _, I.lset (its' := its ++ its2) hH e (by simp) (r.append r2) ?_, rfl, q⟩
  rw [List.length_append]
  omega
/-- x += e, x -= e, of ints -/
theorem AS.augAdd {D' : AEnds} {c : Int} (hx : XF X fb k) (hN : Nth fb.N i x) (hv : fb.sto x = true) (hc : ρ[i]? = some (some (.int c))) (h : AE X e ρ m fun d m1 => ∃ z : Int, d = .int z ∧ ∃ ρ', SetR i (.int (c + z)) ρ ρ' ∧ D'.nx ρ' m1) : AS X (.AugAssign (.Name x px) .Add e pos) ρ m D' := .mk fun σ H S => by
  obtain ⟨l, f⟩ := hx.sto x hv
  obtain ⟨v0, hs, r0⟩ := S.rs.get i _ hc
  refine WS.of (ps_aug hx.nd (by rw [hx.nN]; exact hN.at) l peW ip_add f) ⟨v0, hs, (h σ H S).mono fun v H1 ⟨d, m1, hm1, l1, r1, z, ed, ρ', st, q⟩ => ?_⟩
  subst ed
  cases r1
  cases r0
  refine ⟨_, _, rfl, rfl, ?_⟩
  rw [st.eq] at q
  exact ⟨_, m1, hm1, l1, (S.rs.later l1).set i .int, q⟩
theorem AS.augSub {D' : AEnds} {c : Int} (hx : XF X fb k) (hN : Nth fb.N i x) (hv : fb.sto x = true) (hc : ρ[i]? = some (some (.int c))) (h : AE X e ρ m fun d m1 => ∃ z : Int, d = .int z ∧ ∃ ρ', SetR i (.int (c - z)) ρ ρ' ∧ D'.nx ρ' m1) : AS X (.AugAssign (.Name x px) .Sub e pos) ρ m D' := .mk fun σ H S => by
  obtain ⟨l, f⟩ := hx.sto x hv
  obtain ⟨v0, hs, r0⟩ := S.rs.get i _ hc
  refine WS.of (ps_aug hx.nd (by rw [hx.nN]; exact hN.at) l peW ip_sub f) ⟨v0, hs, (h σ H S).mono fun v H1 ⟨d, m1, hm1, l1, r1, z, ed, ρ', st, q⟩ => ?_⟩
  subst ed
  cases r1
  cases r0
  refine ⟨_, _, rfl, rfl, ?_⟩
  rw [st.eq] at q
  exact ⟨_, m1, hm1, l1, (S.rs.later l1).set i .int, q⟩
/-- x += e, x a list that changes -/
theorem AS.augL {D' : AEnds} {c : Addr} (hx : XF X fb k) (hN : Nth fb.N i x) (hv : fb.sto x = true) (hc : ρ[i]? = some (some (.ref c))) (h : AE X e ρ m fun d m1 => ∃ es zs, m1 c = some (.lst es) ∧ IsL m1 d zs ∧ es.length + zs.length ≤ sizeLine ∧ D'.nx ρ (updM m1 c (.lst (es ++ zs)))) : AS X (.AugAssign (.Name x px) .Add e pos) ρ m D' := .mk fun σ H S => by
  obtain ⟨l, f⟩ := hx.sto x hv
  obtain ⟨v0, hs, r0⟩ := S.rs.get i _ hc
  refine WS.of (ps_aug hx.nd (by rw [hx.nN]; exact hN.at) l peW ip_lists f) ⟨v0, hs, (h σ H S).mono fun v H1 ⟨d, m1, hm1, l1, r1, es, zs, hm, hl, hz, q⟩ => ?_⟩
  cases r0
  obtain ⟨b, us, ev, hb, rb⟩ := hl.rd hm1 r1
  obtain ⟨vs, z, r⟩ := hm1 _ _ hm
  refine ⟨c, b, vs, us, rfl, ev, z, hb, by rw [← r.length, ← rb.length]; exact hz, ?_⟩
  have dm : dom m1 c := by unfold dom; rw [hm]; simp
  have lw : Later m1 H1 (updM m1 c (.lst (es ++ zs))) (upd H1 c (.lst (vs ++ us))) := Later.write dm
  have es' : σ.set i (some (V.ref c)) = σ := by
    obtain ⟨hl', e'⟩ := List.getElem?_eq_some_iff.mp hs
    rw [← e', List.set_getElem_self]
  show (D'.lift X.K m H).nx (List.set σ i (some (V.ref c))) _
  rw [es']
  exact ⟨ρ, _, hm1.put (u := .lst (es ++ zs)) (.inr dm) ⟨_, upd_same, (lw.reps r).append (lw.reps rb)⟩, l1.trans lw, S.rs.later (l1.trans lw), q⟩
/-- list(d), d a dict -/
theorem ca_listK (hc : X.calm = true) : CallA X (.type "list") fun ds m Q => ∃ d ks, ds = [d] ∧ IsD m d ks ∧ Q (.lst (ks.map fun q => kD q.1)) m := callA (call_listD hc) fun ds m vs H Q hm rs ⟨d, ks, e, hd, q⟩ => by
  subst e
  cases rs with
  | cons r t =>
    cases t
    obtain ⟨c, kvs, ev, z, ek, rr⟩ := hd.at hm r
    subst ev
    refine ⟨c, kvs, rfl, z, fun p hp => post_lst hm hp ?_ q⟩
    have e1 : kvs.map (fun kv => kV kv.1) = (ks.map (·.1)).map kV := by rw [← ek, List.map_map]; rfl
    have e2 : ks.map (fun q => kD q.1) = (ks.map (·.1)).map kD := by rw [List.map_map]; rfl
    rw [e1, e2]
    generalize ks.map (·.1) = ws
    induction ws with
    | nil => exact .nil
    | cons w ws ih => exact .cons (kD_rep w) ih
/-- cls(e, ..), the class in a slot -/
theorem AE.clsC {x0 : Str} (c : Mkc X.prog X.w X.K X.mg X.base j x0 C asp) (hx : XF X fb k) (hj : j + 1 ≤ k) (hN : AE X (.Name x p) ρ m fun d m1 => d = .ref C ∧ AA X (e :: es) ρ m1 fun ds m2 => ∀ a, m2 a = none → asp (.ref a :: ds) (updM m2 a (.ins C [])) fun d m3 => d = .non ∧ Q (.ref a) m3)
    (he : starEach (e :: es) X.env = (false, eval e X.env) :: starEach es X.env := by rfl) (hpl : (backTo pos (starEach es X.env)).any (·.1) = false := by rfl) : AE X (.Call (.Name x p) (e :: es) [] pos) ρ m Q := .mk fun σ H S pins s I => by
  obtain ⟨f, M, F⟩ := c.ex
  refine wpAny_Call_Name_kw (thn (hN σ H S pins s I) fun u s1 ⟨v, H1, I1, rv, d, m1, hm1, l1, r1, ed, h⟩ => ?_)
  subst ed
  cases r1
  obtain rfl : u = Value.ref C := rv
  refine PySem.W.callWith_K (h₀ := X.base) I1.ok.mod.kin M.kp (thn (h σ H1 (S.later hm1 l1) pos pins s1 I1) fun us s2 ⟨vs, H2, I2, r, ds, m2, hm2, l2, r2, q⟩ => ⟨I2.kIn, ?_⟩) he hpl
  refine StX.run_makeR (E := E0) M F (hx.room.mono hj) pass0 I2 r fun a dx na nd ne => ?_
  obtain ⟨h2, l3⟩ := make_ready (C := C) X.K hm2 na nd ne
  exact ⟨.ref a :: ds, _, _, h2, .cons .ref (l3.reps r2), q a (hm2.fresh na), fun d m' v H' a b c ⟨e, q⟩ => by subst e; cases c; exact ⟨rfl, _, m', a, l1.trans (l2.trans (l3.trans b)), .ref, q⟩⟩
end
end Ab
/-! D4: slices by a reckoned step; the last entry of a list changes no more. -/
namespace Ab
open L2 PySem PySem.Spec PyProof.Rows
section
variable {X : Cx} {fb : FB} {k : Nat} {ρ : Rho} {m : Mu} {e o a b : Expr} {es : List Expr} {x nm : Str} {p pos apos cpos : Pos}
theorem AE.sliceV {Q : QD} {lo hi : Option Expr} {ste : Expr} {p2 : Pos} (h : AE X e ρ m fun d m1 => AO X lo ρ m1 fun i m2 => AO X hi ρ m2 fun j m3 => AE X ste ρ m3 fun dst m4 => ∃ st : Int, st ≠ 0 ∧ dst = .int st ∧ ∃ ds, IsL m4 d ds ∧ Q (.lst (pickD ds i j st)) m4) : AE X (.Subscript e (.Slice lo hi (some ste) p2) pos) ρ m Q := .mk fun σ H S pins s I => by
  refine Subscript_ (thn (h σ H S pins s I) fun v s1 ⟨x, H1, I1, rx, d, m1, hm1, l1, r1, q1⟩ => ?_)
  have w1 := ao_w (R := fun i H2 => ∃ m2, HM X.K m2 H2 ∧ Later m1 H1 m2 H2 ∧ AO X hi ρ m2 fun j m3 => AE X ste ρ m3 fun dst m4 => ∃ st : Int, st ≠ 0 ∧ dst = .int st ∧ ∃ ds, IsL m4 d ds ∧ Q (.lst (pickD ds i j st)) m4) q1 (S.later hm1 l1) fun i m2 H2 hm2 l2 q => ⟨m2, hm2, l2, q⟩
  refine wpAny_Slice (thn (poW.run pins s1 σ H1 _ I1 w1) fun vl s2 ⟨i, H2, I2, pl, m2, hm2, l2, q2⟩ => ?_)
  have w2 := ao_w (R := fun j H3 => ∃ m3, HM X.K m3 H3 ∧ Later m2 H2 m3 H3 ∧ AE X ste ρ m3 fun dst m4 => ∃ st : Int, st ≠ 0 ∧ dst = .int st ∧ ∃ ds, IsL m4 d ds ∧ Q (.lst (pickD ds i j st)) m4) q2 (S.later hm2 (l1.trans l2)) fun j m3 H3 hm3 l3 q => ⟨m3, hm3, l3, q⟩
  refine thn (poW.run pins s2 σ H2 _ I2 w2) fun vu s3 ⟨j, H3, I3, pu, m3, hm3, l3, q3⟩ => ?_
  rw [evalPart_some]
  refine thn (q3 σ H3 (S.later hm3 (l1.trans (l2.trans l3))) pins s3 I3) fun vt s4 ⟨y, H4, I4, ry, d4, m4, hm4, l4, r4, st, h0, ed, ds, hl, q⟩ => ?_
  subst ed
  cases r4
  obtain ⟨tk, et⟩ := ry
  subst et
  have I5 : Inv X pins σ H4 { s4 with heap := s4.heap.push { cls := .type "slice", data := .fields #[vl, vu, Value.int st tk] } } := I4.kept (t' := s4.toks) fun b ob q => Heap.get?_push_of_some _ q
  have rd := (l2.trans (l3.trans l4)).rep r1
  obtain ⟨a, vs, ev, sq, rs⟩ := hl.at hm4 rd
  subst ev
  obtain rfl : v = Value.ref a := rx
  obtain ⟨its, rv, pl', hz⟩ := I5.list sq
  have n1 : ds.length = its.length := by rw [rs.length, rv.length]
  have n2 : ds.length = vs.length := rs.length
  show wpAny (model X.prog X.w) X.A (subscriptTail e (.Slice lo hi (some ste) p2) (.ref a) (.ref s4.heap.objs.size)) _ X.xe { s4 with heap := s4.heap.push { cls := .type "slice", data := .fields #[vl, vu, Value.int st tk] } }
  refine tail_any (ops := [.ref a, .ref s4.heap.objs.size]) pl'.isList.typeIs (PySem.slot_list_getitem.lookup) ?_ (by with_unfolding_all rfl)
  refine wpAny_getItem_list_slice pl'.isList (Heap.IsSliceOf.new _ vl vu _) pl pu (.int st tk) (by simpa using h0) ?_ (by rw [List.size_toArray, ← n1, n2]; exact hz)
  have ep : slicePick its.toArray i j (some st) = ((sliceRange (sliceBounds i j (some st) vs.length).1 (sliceBounds i j (some st) vs.length).2.1 (sliceBounds i j (some st) vs.length).2.2).filterMap (its[·]?)).toArray := by
    unfold slicePick
    rw [List.size_toArray, ← n1, n2]
    simp
  rw [ep]
  refine ⟨.ref _, _, I5.laid (t' := s4.toks) (o := .lst ((sliceRange (sliceBounds i j (some st) vs.length).1 (sliceBounds i j (some st) vs.length).2.1 (sliceBounds i j (some st) vs.length).2.2).filterMap (vs[·]?))) (fun b ob q => Heap.get?_push_of_some _ q) (Nat.le_refl _) ?_, rfl, ?_⟩
  · have z := slicePick_size_le its.toArray i j (some st)
    rw [ep, List.size_toArray, List.size_toArray, ← (vals_pick rv _).length, ← rv.length] at z
    refine ⟨Nat.le_trans z hz, _, 0, vals_pick rv _, Heap.get?_push_size _ rfl⟩
  · have hp := I5.hok.fresh (Nat.le_refl _)
    refine (post_lst hm4 hp (ds := pickD ds i j st) ?_ q).from (l1.trans (l2.trans (l3.trans l4)))
    unfold pickD
    rw [n2]
    exact reps_pick rs _
end
section
variable {K : PySem.W.Frag} {m : Mu} {d : D} {a b : Addr} {u : MO} {es : List D}
theorem VW.elem (h : m b = some (.lst (es ++ [.ref a]))) (ha : m a = some u) (ne : b ≠ a) : VW K m (updM (delM m a) b (.lst (es ++ [imD u]))) d d := fun H v hm r => by
  have h1 := hm.del (a := a)
  have l1 : Later m H (delM m a) H := Later.del
  have hb : delM m a b = some (.lst (es ++ [.ref a])) := by unfold delM; rw [if_neg ne]; exact h
  have db : dom (delM m a) b := by unfold dom; rw [hb]; simp
  obtain ⟨vs, z, rr⟩ := h1 _ _ hb
  have ia := (hm _ _ ha).im
  have l2 : Later (delM m a) H (updM (delM m a) b (.lst (es ++ [imD u]))) H := fun c o n e => .of e fun z => n ((dom_write db c).mp z)
  have ln := rr.length
  rw [List.length_append, List.length_singleton] at ln
  have r1 := rr.take es.length
  have r2 := rr.drop es.length
  rw [List.take_left' rfl] at r1
  rw [List.drop_left' rfl] at r2
  have rn : Reps K (dom (delM m a)) H (es ++ [imD u]) vs := by
    have e2 : vs = vs.take es.length ++ vs.drop es.length := (List.take_append_drop _ _).symm
    rw [e2]
    refine r1.append ?_
    generalize vs.drop es.length = ws at r2
    cases r2 with
    | cons q t => cases t; cases q; exact .cons ia .nil
  refine ⟨fun c o ec => ?_, l1.trans l2, l2.rep (l1.rep r)⟩
  by_cases hc : c = b
  · subst hc
    rw [updM_same] at ec; cases ec
    exact ⟨vs, z, l2.reps rn⟩
  · rw [updM_ne hc] at ec
    exact (h1 c o ec).later l2 rfl
end
end Ab
/-! D5: comprehensions over generators, the result a list that changes. -/
namespace Ab
open PySem PySem.Spec PyProof.Rows L2 Slp
section
variable {X : Cx} {fb : FB} {k j : Nat} {ρ : Rho} {m : Mu} {e o elt iter tg : Expr} {ifs : List Expr} {scope sc : Scope} {x y g nm : Str} {p pos px py spos : Pos} {C : Addr} {Q : QD} {i : Nat} {asp : List D → List D → Prop}
theorem AE.lcPGM {d : GK} {α : Type} (f : α → D) (hx : XF X fb k) (Y : YLaw X.prog X.w X.K X.mg X.base j d asp) (hj : j + 2 ≤ k) (hsc : X.env.scope = sc) (hN : Nth fb.N i x) (ho : ownB scope x = true)
    (h : Slp.AK X d iter ρ m fun ds => ∃ (xs : List α) (sel : α → Option D), asp ds (xs.map f) ∧ xs.length < sizeLine ∧ LcT X scope ifs elt [i] (SetR i) f xs sel ρ m ∧ ∀ a, m a = none → Q (.ref a) (updM m a (.lst (xs.filterMap sel))))
    (hb : blkC fb.N sc scope [(x, i)] = true := by decide +kernel) (hnc : ∀ y ∈ scope.names, y.2 ≠ .cell := by decide +kernel) (hs : ∀ x, foldedSetIterable iter X.env x = pure x := by intro _; rfl) : AE X (.ListComp elt [⟨.Name x px, iter, ifs, 0⟩] scope pos) ρ m Q := by
  refine AE.lcG hx Y hj (own := [(x, i)]) (by rw [hx.nN, hsc]; exact blkOk_by hb) (ctg_name hx hN ho) hnc hs (.mk fun σ H S pins s I => ?_)
  refine wpAny_mono (h.run σ H S pins s I) (fun u s1 ⟨ds, vs, H1, sc, a, g, e1, e2, e3, e4, e5, e6, e7, xs, sel, ha, hz, ht, q⟩ => ?_) fun _ _ z => z
  refine ⟨ds, vs, H1, sc, a, g, e1, e2, e3, e4, e5, e6, e7, xs.map f, ha, ?_⟩
  obtain ⟨I, h1, h2, h3⟩ := lcg_pure (x := x) (R := fun ds => ds = xs.filterMap sel) sel hz ht rfl
  refine ⟨I, h1, h2, fun out mj a nj iv => ?_⟩
  obtain ⟨a', ds', q1, q2, q3, q4⟩ := h3 out mj a nj iv
  cases q1
  rw [updM_same] at q2
  cases q2
  rw [delM_updM nj] at q4
  subst q4 q3
  exact q a nj
theorem AE.lcGIfM {α : Type} {f g : α → D} {t : α → Bool} {c : Expr} (hx : XF X fb k) (hj : j + 2 ≤ k) (hsc : X.env.scope = sc) (hN : Nth fb.N i x) (ho : ownB scope x = true)
    (h : AGen X j e ρ m asp fun ds => ∃ xs : List α, asp ds (xs.map f) ∧ xs.length < sizeLine ∧ EachT X scope c elt i f xs t g ρ m ∧ ∀ a, m a = none → Q (.ref a) (updM m a (.lst ((xs.filter t).map g))))
    (hb : blkC fb.N sc scope [(x, i)] = true := by decide +kernel) (hnc : ∀ y ∈ scope.names, y.2 ≠ .cell := by decide +kernel) (hs : ∀ x, foldedSetIterable e X.env x = pure x := by intro _; rfl) : AE X (.ListComp elt [⟨.Name x px, e, [c], 0⟩] scope pos) ρ m Q := by
  obtain ⟨d, Y, K⟩ := h.ex
  exact AE.lcPGM f hx Y hj hsc hN ho (AK.imp K fun ds ⟨xs, h1, h2, h3, q⟩ => ⟨xs, _, h1, h2, lct_if h3, by rw [fmap_if]; exact q⟩) hb hnc hs
end
end Ab
/-! D6: whole slices. -/
namespace Ab
open L2 PySem PySem.Spec PyProof.Rows
theorem range_pick {α : Type} (ds : List α) : (List.range ds.length).filterMap (ds[·]?) = ds := by
  induction ds with
  | nil => rfl
  | cons d ds ih =>
    rw [List.length_cons, List.range_succ_eq_map, List.filterMap_cons]
    simp only [List.getElem?_cons_zero, List.filterMap_map]
    have : ((fun x => (d :: ds)[x]?) ∘ Nat.succ) = (ds[·]?) := by funext i; simp
    rw [this, ih]
theorem pick_rev (ds : List D) : pickD ds none none (-1) = ds.reverse := by
  unfold pickD
  rw [PySem.W.krv_bounds]
  show (sliceRange ((ds.length : Int) - 1) (-1) (-1)).filterMap _ = _
  rw [PySem.W.krv_sliceRange, PySem.W.krv_range, List.filterMap_reverse, range_pick]
theorem pick_all (ds : List D) : pickD ds none none 1 = ds := by
  have e : sliceBounds none none (some 1) ds.length = (0, (ds.length : Int), 1) := by simp [sliceBounds]
  unfold pickD
  rw [e]
  show (sliceRange 0 (ds.length : Int) 1).filterMap _ = _
  have e2 : sliceRange 0 (ds.length : Int) 1 = List.range ds.length := by
    unfold sliceRange
    have : (if (1 : Int) > 0 then (if (0 : Int) < ds.length then ((ds.length : Int) - 0 + 1 - 1) / 1 else 0) else (if (0 : Int) > ds.length then (0 - (ds.length : Int) - 1 - 1) / (-1) else 0)).toNat = ds.length := by
      rw [if_pos (by decide)]
      split
      · rw [Int.ediv_one]; omega
      · omega
    show (List.range (if (1 : Int) > 0 then (if (0 : Int) < ds.length then ((ds.length : Int) - 0 + 1 - 1) / 1 else 0) else (if (0 : Int) > ds.length then (0 - (ds.length : Int) - 1 - 1) / (-1) else 0)).toNat).map _ = _
    rw [this]
    conv => rhs; rw [← List.map_id (List.range ds.length)]
    exact List.map_congr_left fun k _ => by simp
  rw [e2, range_pick]
end Ab
/-! D7: three names at once. -/
namespace Ab
open L2 PySem PySem.Spec PyProof.Rows
section
variable {X : Cx} {fb : FB} {k : Nat} {ρ : Rho} {m : Mu} {a b c : Expr} {x y z : Str} {p pos : Pos}
theorem AS.par3 {D' : AEnds} {i j l : Nat} {px py pz pt : Pos} {kt k2 pt2} (hx : XF X fb k) (hi : Nth fb.N i x) (hj : Nth fb.N j y) (hl : Nth fb.N l z) (hij : i ≠ j) (hil : i ≠ l) (hjl : j ≠ l)
    (hlx : X.env.scope.names.lookup x = some .local) (hly : X.env.scope.names.lookup y = some .local) (hlz : X.env.scope.names.lookup z = some .local)
    (hw : swappedStores [.Tuple [.Name x px, .Name y py, .Name z pz] kt pt] (.Tuple [a, b, c] k2 pt2) X.env = pure (some [x, y, z]))
    (h : AA X [a, b, c] ρ m fun ds m1 => ∃ d1 d2 d3 ρ1 ρ2 ρ3, ds = [d1, d2, d3] ∧ SetR i d1 ρ ρ1 ∧ SetR j d2 ρ1 ρ2 ∧ SetR l d3 ρ2 ρ3 ∧ D'.nx ρ3 m1)
    (hs : swapsWithSole [.Tuple [.Name x px, .Name y py, .Name z pz] kt pt] (.Tuple [a, b, c] k2 pt2) pos.line X.env = pure false := by rfl) : AS X (.Assign [.Tuple [.Name x px, .Name y py, .Name z pz] kt pt] (.Tuple [a, b, c] k2 pt2) pos) ρ m D' := .mk fun σ H S => by
  refine WS.of (L2.ps_par3 hx.calm hx.nd (by rw [hx.nN]; exact hi.at) (by rw [hx.nN]; exact hj.at) (by rw [hx.nN]; exact hl.at) hij hil hjl hlx hly hlz paW hw hs) (WA.mono (X := X) (h σ H S) fun vs H1 ⟨ds, m1, hm1, l1, r1, d1, d2, d3, ρ1, ρ2, ρ3, e, s1, s2, s3, q⟩ => ?_)
  subst e
  cases r1 with
  | cons r t => cases t with
    | cons r2 t => cases t with
      | cons r3 t =>
        cases t
        have z := (((S.rs.later l1).set i r).set j r2).set l r3
        rw [← s1.eq, ← s2.eq, ← s3.eq] at z
        exact ⟨_, _, _, rfl, ρ3, m1, hm1, l1, z, q⟩
end
end Ab
namespace K71
open PySem PySem.Spec PyProof.Rows L2 Ab
abbrev PW : Program := PySem.Challenge.pw_askranges_k71_whole_cheapest_of_all_sets
def top (i : Nat) : Stmt := PW.main.body.getD i (.Pass ⟨0, 0, 0, 0⟩)
def cbody : Stmt → List Stmt
  | .ClassDef _ _ _ b .. => b
  | _ => []
def mth (i j : Nat) : Stmt := (cbody (top i)).getD j (.Pass ⟨0, 0, 0, 0⟩)
abbrev s__wall : Stmt := top 0
abbrev s_InvalidValue___init__ : Stmt := mth 3 0
abbrev s_DuplicateName___init__ : Stmt := mth 4 0
abbrev s_ParseError___init__ : Stmt := mth 5 0
abbrev s_is_integer : Stmt := top 13
abbrev s_Item___init__ : Stmt := mth 14 1
abbrev s_Item_is_name : Stmt := mth 14 2
abbrev s_Item_exact : Stmt := mth 14 3
abbrev s_Item_name : Stmt := mth 14 4
abbrev s_Item_least : Stmt := mth 14 5
abbrev s_Item_greatest : Stmt := mth 14 6
abbrev s_Item_price : Stmt := mth 14 7
abbrev s_Item_is_exact : Stmt := mth 14 8
abbrev s_Item_value : Stmt := mth 14 9
abbrev s_Item_told : Stmt := mth 14 10
abbrev s_Item_is_surely_before : Stmt := mth 14 11
abbrev s_Item_is_loose_with : Stmt := mth 14 12
abbrev s_Item___eq__ : Stmt := mth 14 13
abbrev s_sort_key : Stmt := top 16
abbrev s_read_number : Stmt := top 17
abbrev s_read_item : Stmt := top 18
abbrev s_Pool___init__ : Stmt := mth 19 0
abbrev s_Pool_read : Stmt := mth 19 1
abbrev s_Pool_names : Stmt := mth 19 2
abbrev s_Pool_text : Stmt := mth 19 3
abbrev s_Pool_item : Stmt := mth 19 4
abbrev s_Pool_walk : Stmt := mth 19 5
abbrev s_Pool_loose_pairs : Stmt := mth 19 6
abbrev s_Pool_with_items : Stmt := mth 19 7
abbrev s_Pool_without : Stmt := mth 19 8
abbrev s_Pool_told : Stmt := mth 19 9
abbrev s_Pool_told_by : Stmt := mth 19 10
abbrev s_Pool___len__ : Stmt := mth 19 11
abbrev s_Pool___eq__ : Stmt := mth 19 12
abbrev s_check_values : Stmt := top 20
abbrev s_truth : Stmt := top 21
abbrev s_open_names : Stmt := top 23
abbrev s_first_inside : Stmt := top 24
abbrev s_needed : Stmt := top 25
abbrev s_overlap : Stmt := top 27
abbrev s_paths : Stmt := top 28
abbrev s_cover : Stmt := top 29
abbrev s_cheapest : Stmt := top 30
abbrev s__law_pen : Stmt := top 32
abbrev s__law_next : Stmt := top 33
abbrev s__law_draw : Stmt := top 34
abbrev s__law_rows : Stmt := top 35
abbrev s__law_truth : Stmt := top 36
abbrev s__law_told : Stmt := top 37
abbrev s__law_before : Stmt := top 38
abbrev s__law_loose : Stmt := top 39
abbrev s__law_loose_pairs : Stmt := top 40
abbrev s__law_subsets : Stmt := top 41
abbrev s__law_pool : Stmt := top 42
abbrev s__law_chain : Stmt := top 43
abbrev s__law_right : Stmt := top 44
abbrev s_law : Stmt := top 45
/-- the classes -/
structure Cs where
  I : Addr
  P : Addr
/-- the facts that the walks take -/
structure Fc (P : Program) (w : World) (K : PySem.W.Frag) (mg : Str → Option Value) (base : Heap) (cs : Cs) : Prop where
  gI : mg "Item" = some (.ref cs.I)
  cI : Cls K cs.I
  tI : InsTy K cs.I
  kI : PySem.W.kitOne K (.ref cs.I) (.ref cs.I) = some true
  nI_parts : NoAttr K cs.I "parts"
  gP : mg "Pool" = some (.ref cs.P)
  cP : Cls K cs.P
  tP : InsTy K cs.P
  kP : PySem.W.kitOne K (.ref cs.P) (.ref cs.P) = some true
  nP_by_name : NoAttr K cs.P "by_name"
  i_LETTERS : ∃ t, mg "LETTERS" = some (.str "abcdefghijklmnopqrstuvwxyz" t)
  i_MAX_NAME : ∃ t, mg "MAX_NAME" = some (.int 8 t)
  most : ∃ mc u, ClX.CRead K cs.I mc ∧ ClX.CVal K cs.I mc "MOST" (.int 999) u

local macro_rules | `(tactic| walk_at "nth") => `(tactic| first | exact .z | exact .s .z | exact .s (.s .z) | exact .s (.s (.s .z)) | exact .s (.s (.s (.s .z))) | exact .s (.s (.s (.s (.s .z)))) | exact .s (.s (.s (.s (.s (.s .z))))) | exact .s (.s (.s (.s (.s (.s (.s .z)))))) | exact .s (.s (.s (.s (.s (.s (.s (.s .z))))))) | exact .s (.s (.s (.s (.s (.s (.s (.s (.s .z)))))))) | exact .s (.s (.s (.s (.s (.s (.s (.s (.s (.s .z))))))))) | exact .s (.s (.s (.s (.s (.s (.s (.s (.s (.s (.s .z)))))))))) | exact .s (.s (.s (.s (.s (.s (.s (.s (.s (.s (.s (.s .z))))))))))) | exact .s (.s (.s (.s (.s (.s (.s (.s (.s (.s (.s (.s (.s .z)))))))))))) | exact .s (.s (.s (.s (.s (.s (.s (.s (.s (.s (.s (.s (.s (.s .z))))))))))))) | exact .s (.s (.s (.s (.s (.s (.s (.s (.s (.s (.s (.s (.s (.s (.s .z)))))))))))))) | exact .s (.s (.s (.s (.s (.s (.s (.s (.s (.s (.s (.s (.s (.s (.s (.s .z))))))))))))))) | exact .s (.s (.s (.s (.s (.s (.s (.s (.s (.s (.s (.s (.s (.s (.s (.s (.s .z)))))))))))))))) | exact .s (.s (.s (.s (.s (.s (.s (.s (.s (.s (.s (.s (.s (.s (.s (.s (.s (.s .z))))))))))))))))) | exact .s (.s (.s (.s (.s (.s (.s (.s (.s (.s (.s (.s (.s (.s (.s (.s (.s (.s (.s .z)))))))))))))))))))
local macro_rules | `(tactic| walk_at "sr") => `(tactic| first | exact .z | exact .s .z | exact .s (.s .z) | exact .s (.s (.s .z)) | exact .s (.s (.s (.s .z))) | exact .s (.s (.s (.s (.s .z)))) | exact .s (.s (.s (.s (.s (.s .z))))) | exact .s (.s (.s (.s (.s (.s (.s .z)))))) | exact .s (.s (.s (.s (.s (.s (.s (.s .z))))))) | exact .s (.s (.s (.s (.s (.s (.s (.s (.s .z)))))))) | exact .s (.s (.s (.s (.s (.s (.s (.s (.s (.s .z))))))))) | exact .s (.s (.s (.s (.s (.s (.s (.s (.s (.s (.s .z)))))))))) | exact .s (.s (.s (.s (.s (.s (.s (.s (.s (.s (.s (.s .z))))))))))) | exact .s (.s (.s (.s (.s (.s (.s (.s (.s (.s (.s (.s (.s .z)))))))))))) | exact .s (.s (.s (.s (.s (.s (.s (.s (.s (.s (.s (.s (.s (.s .z))))))))))))) | exact .s (.s (.s (.s (.s (.s (.s (.s (.s (.s (.s (.s (.s (.s (.s .z)))))))))))))) | exact .s (.s (.s (.s (.s (.s (.s (.s (.s (.s (.s (.s (.s (.s (.s (.s .z))))))))))))))) | exact .s (.s (.s (.s (.s (.s (.s (.s (.s (.s (.s (.s (.s (.s (.s (.s (.s .z)))))))))))))))) | exact .s (.s (.s (.s (.s (.s (.s (.s (.s (.s (.s (.s (.s (.s (.s (.s (.s (.s .z))))))))))))))))) | exact .s (.s (.s (.s (.s (.s (.s (.s (.s (.s (.s (.s (.s (.s (.s (.s (.s (.s (.s .z)))))))))))))))))))
local macro_rules | `(tactic| walk_at "mu") => `(tactic| first | exact updM_same | assumption | (rw [updM_ne (by first | assumption | (apply Ne.symm; assumption))]; walk_at "mu"))
local macro_rules | `(tactic| walk_at "isl") => `(tactic| first | exact .im | exact .mu (by walk_at "mu"))
local macro_rules | `(tactic| walk_at "isi") => `(tactic| first | exact .im | exact .mu (by walk_at "mu"))
local macro_rules | `(tactic| walk_at "isq") => `(tactic| first | exact .im | exact .tup | exact .mu (by walk_at "mu"))
local macro_rules | `(tactic| walk_at "e") => `(tactic| first
  | refine AE.name (by assumption) (by with_reducible (walk_at "nth")) (by decide +kernel) rfl ?_
  | refine AE.int ?_ | refine AE.str ?_ | refine AE.bl ?_ | refine AE.non ?_
  | refine AE.add ?_ | refine AE.sub ?_ | refine AE.mul ?_ | refine AE.mod ?_ | refine AE.fdiv ?_ | refine AE.pow ?_
  | refine AE.lt ?_ | refine AE.le ?_ | refine AE.gt ?_ | refine AE.ge ?_
  | refine AT.lt ?_ | refine AT.le ?_ | refine AT.gt ?_ | refine AT.ge ?_
  | refine AT.isN ?_ | refine AT.notN ?_ | refine AE.isN ?_ | refine AE.notN ?_
  | refine AT.not ?_
  | refine AT.ofW (AW.or ?_) | refine AT.ofW (AW.and ?_)
  | refine AW.or ?_ | refine AW.and ?_ | refine AW.or1 ?_ | refine AW.and1 ?_
  | refine AE.and ?_ | refine AE.or ?_ | refine AE.one ?_ | refine AE.not ?_ | refine AE.ifx ?_
  | refine AA.cons ?_ | refine AA.nil ?_
  | refine ASs.cons ?_ | refine ASs.nil ?_
  | refine AS.ret ?_ | refine AS.ifs ?_ | refine AS.expr ?_ | refine AS.pass ?_ | refine AS.brk ?_
  | refine AS.set (by assumption) (by with_reducible (walk_at "nth")) (by decide +kernel) ?_
  | refine AG.name (by assumption) (by with_reducible (walk_at "nth")) (by decide +kernel) ?_
  | refine ⟨_, .int, ?_⟩
  | refine ⟨_, by (walk_at "sr"), ?_⟩
  | refine ⟨_, _, rfl, rfl, ?_⟩
  | refine tt_and ?_ | refine ff_and ?_
  | refine ⟨_, .im, rfl, ?_⟩ | refine ⟨_, .im, ?_⟩
  | refine ⟨_, rfl, ?_⟩
  | refine AT.val ?_)
local macro_rules | `(tactic| walk_at "es") => `(tactic| repeat (walk_at "e"))
open PySem PySem.Spec PyProof.Rows L2 Ab

abbrev Itm := Str × Int × Int × Int
def itF (r : Itm) : List (Str × D) := [("parts", .tup [.str r.1, .int r.2.1, .int r.2.2.1, .int r.2.2.2])]
def itDr (CI : Addr) (r : Itm) : D := .ins CI (itF r)
def itK (CI : Addr) (r : Itm) : Key × D := (.inr r.1, itDr CI r)
/-- open items have a range, exact ones none -/
def exact_ (r : Itm) : Bool := decide (r.2.1 = r.2.2.1)
def LETS : Str := "abcdefghijklmnopqrstuvwxyz"
def GoodName (s : Str) : Prop := 1 ≤ s.length ∧ s.length ≤ 8 ∧ ∀ c ∈ s.cps.toList, c ∈ LETS.cps.toList
theorem kit_int (K : PySem.W.Frag) : PySem.W.kitOne K (.type "int") (.type "int") = some true := by rfl
theorem kit_intb (K : PySem.W.Frag) : PySem.W.kitOne K (.type "int") (.type "bool") = some false := by rfl
theorem kit_str (K : PySem.W.Frag) : PySem.W.kitOne K (.type "str") (.type "str") = some true := by rfl
theorem kit_dict (K : PySem.W.Frag) : PySem.W.kitOne K (.type "dict") (.type "dict") = some true := by rfl
theorem kit_lt (K : PySem.W.Frag) : PySem.W.kitAny K (.type "list") [.type "list", .type "tuple"] = some true := by rfl
def a_is_integer (cs : Cs) : ASp := fun ds m Q => ∃ i : Int, ds = [.int i] ∧ Q (.bl true) m
abbrev n_is_integer : List Str := ["thing"]
theorem sc_is_integer : FnScope n_is_integer ["thing"] (defScope s_is_integer) := ⟨rfl, rfl, rfl, by decide +kernel, rfl, by decide +kernel, by decide +kernel⟩
theorem body_is_integer {X : Cx} {k : Nat} {cs : Cs} (hx : XF X (fbOf n_is_integer (defScope s_is_integer)) k) (hk : 0 ≤ k) (hxe : X.xe = fun _ _ => False) (hs : X.env.scope = defScope s_is_integer) (hf : Fc X.prog X.w X.K X.mg X.base cs) (fr : Fr X) (ds : List D) (m : Mu) (Q : QD) (h : a_is_integer cs ds m Q) :
    ASs X (defBody s_is_integer) (startR n_is_integer ds) m { nx := fun _ m' => Q .non m', rt := Q } := by
  obtain ⟨i, rfl, q⟩ := h
  show ASs X (defBody s_is_integer) [some (.int i)] m _
  walk_at "es"
  refine AE.bIsi hx fr ?_
  walk_at "es"
  refine AE.bTy hx fr ?_ rfl (by decide +kernel) (by decide +kernel)
  refine ⟨_, _, _, .int, .ty, kit_int _, ?_⟩
  walk_at "es"
  refine AE.bIsi hx fr ?_
  walk_at "es"
  refine AE.bTy hx fr ?_ rfl (by decide +kernel) (by decide +kernel)
  refine ⟨_, _, _, .int, .ty, kit_intb _, ?_⟩
  walk_at "es"
  exact q
def a_Item_is_name (cs : Cs) : ASp := fun ds m Q => ∃ s : Str, ds = [.str s] ∧ GoodName s ∧ Q (.bl true) m
abbrev n_Item_is_name : List Str := ["thing", "sign"]
theorem sc_Item_is_name : FnScope n_Item_is_name ["thing"] (defScope s_Item_is_name) := ⟨rfl, rfl, rfl, by decide +kernel, rfl, by decide +kernel, by decide +kernel⟩
theorem body_Item_is_name {X : Cx} {k : Nat} {cs : Cs} (hx : XF X (fbOf n_Item_is_name (defScope s_Item_is_name)) k) (hk : 0 ≤ k) (hxe : X.xe = fun _ _ => False) (hs : X.env.scope = defScope s_Item_is_name) (hf : Fc X.prog X.w X.K X.mg X.base cs) (fr : Fr X) (ds : List D) (m : Mu) (Q : QD) (h : a_Item_is_name cs ds m Q) :
    ASs X (defBody s_Item_is_name) (startR n_Item_is_name ds) m { nx := fun _ m' => Q .non m', rt := Q } := by
  obtain ⟨s, rfl, ⟨g1, g2, g3⟩, q⟩ := h
  show ASs X (defBody s_Item_is_name) [some (.str s), none] m _
  walk_at "es"
  refine AE.bIsi hx fr ?_
  walk_at "es"
  refine AE.bTy hx fr ?_ rfl (by decide +kernel) (by decide +kernel)
  refine ⟨_, _, _, .str, .ty, kit_str _, ?_⟩
  walk_at "es"
  have sl : s.length ≤ sizeLine := Nat.le_trans g2 (by decide)
  refine AE.chain oa_le oa_le ?_
  walk_at "e"
  refine AE.bLenS hx fr ?_
  walk_at "es"
  refine ⟨sl, ?_⟩
  refine ⟨_, _, rfl, rfl, ?_⟩
  rw [decide_eq_true (show (1 : Int) ≤ (s.length : Int) by omega)]
  refine ⟨true, rfl, fun _ => ?_, fun e => nomatch e⟩
  refine AE.gint hx (by decide +kernel) hf.i_MAX_NAME ?_
  refine ⟨_, _, rfl, rfl, ?_⟩
  rw [decide_eq_true (show (s.length : Int) ≤ 8 by omega)]
  refine ⟨true, rfl, fun _ => ?_, fun e => nomatch e⟩
  walk_at "e"
  refine AE.bAll hx fr ?_
  refine AE.lcMap (f := fun c => D.str ⟨#[c]⟩) (g := fun c => .bl (decide (c ∈ LETS.cps.toList))) hx hs (by with_reducible (walk_at "nth")) (by decide +kernel) ?_
  refine AI.str ?_
  walk_at "e"
  refine ⟨s, rfl, s.cps.toList, rfl, ?_, fun _ _ => trivial, ?_, ?_⟩
  · have : s.cps.toList.length = s.length := by simp [Str.length]
    rw [this]; exact Nat.lt_of_le_of_lt g2 (by decide)
  · intro c hc m' hm'
    refine ⟨_, by walk_at "sr", ?_⟩
    refine ABE.of hx hs fun s0 H0 C0 cl0 fp0 hb hbs => ?_
    refine AE.cmp oa_inSign ?_
    walk_at "e"
    refine AE.gstr hb (by decide +kernel) hf.i_LETTERS ?_
    exact ⟨c, _, rfl, rfl, rfl, rfl⟩
  · refine ⟨s.cps.toList.map fun c => decide (c ∈ LETS.cps.toList), ?_, ?_⟩
    · rw [List.map_map]
      exact .im
    · rw [show (s.cps.toList.map fun c => decide (c ∈ LETS.cps.toList)).all id = true by
        simp only [List.all_map, List.all_eq_true]; intro c hc; simpa using g3 c hc]
      exact q
def a_Item___init__ (cs : Cs) : ASp := fun ds m Q => ∃ a nm lo hi pr, ds = [.ref a, .str nm, .int lo, .int hi, .int pr] ∧ m a = some (.ins cs.I []) ∧ GoodName nm ∧ lo ≤ hi ∧ 1 ≤ pr ∧ pr ≤ 999 ∧ Q .non (updM m a (.ins cs.I (itF (nm, lo, hi, if lo < hi then pr else 0))))
abbrev n_Item___init__ : List Str := ["self", "name", "least", "greatest", "price"]
theorem sc_Item___init__ : FnScope n_Item___init__ ["self", "name", "least", "greatest", "price"] (defScope s_Item___init__) := ⟨rfl, rfl, rfl, by decide +kernel, rfl, by decide +kernel, by decide +kernel⟩
theorem body_Item___init__ {X : Cx} {k : Nat} {cs : Cs} (hx : XF X (fbOf n_Item___init__ (defScope s_Item___init__)) k) (hk : 8 ≤ k) (hxe : X.xe = fun _ _ => False) (hs : X.env.scope = defScope s_Item___init__) (hf : Fc X.prog X.w X.K X.mg X.base cs) (fr : Fr X) (c_Item_is_name : Stm X.prog X.w X.K X.mg X.base 1 cs.I "is_name" (a_Item_is_name cs)) (c_is_integer : Cal X.prog X.w X.K X.mg X.base 1 "is_integer" (a_is_integer cs)) (ds : List D) (m : Mu) (Q : QD) (h : a_Item___init__ cs ds m Q) :
    ASs X (defBody s_Item___init__) (startR n_Item___init__ ds) m { nx := fun _ m' => Q .non m', rt := Q } := by
  obtain ⟨a, nm, lo, hi, pr, rfl, hm, g, h1, h2, h3, q⟩ := h
  show ASs X (defBody s_Item___init__) [some (.ref a), some (.str nm), some (.int lo), some (.int hi), some (.int pr)] m _
  walk_at "es"
  refine AE.stm c_Item_is_name hx (by omega) ?_
  refine AE.gref hx (by decide +kernel) hf.gI ?_
  refine ⟨rfl, ?_⟩
  walk_at "es"
  refine ⟨g, ?_⟩
  walk_at "es"
  refine AE.callC c_is_integer hx (by omega) (by decide +kernel) ?_
  walk_at "es"
  refine AE.callC c_is_integer hx (by omega) (by decide +kernel) ?_
  walk_at "es"
  refine nt_and h1 ?_
  walk_at "es"
  refine AE.callC c_is_integer hx (by omega) (by decide +kernel) ?_
  walk_at "es"
  refine AT.chain oa_le oa_le ?_
  walk_at "es"
  rw [decide_eq_true h2]
  refine tt_and ?_
  refine AE.cval ?_
  refine AE.gref hx (by decide +kernel) hf.gI ?_
  obtain ⟨mc, u, c1, c2⟩ := hf.most
  refine ⟨cs.I, mc, _, u, .int 999, rfl, c1, c2, rfl, ?_⟩
  walk_at "es"
  rw [decide_eq_true h3]
  walk_at "es"
  refine AS.fld ?_
  refine AE.tup ?_
  walk_at "es"
  refine ds_and (fun c => ?_) fun c => ?_
  · walk_at "es"
    refine ⟨(show 4 ≤ sizeLine by decide), ?_⟩
    walk_at "es"
    refine ⟨a, cs.I, _, rfl, hm, hf.cI, hf.nI_parts, by decide, ?_⟩
    walk_at "es"
    rw [if_pos c] at q
    exact q
  · walk_at "es"
    refine ⟨(show 4 ≤ sizeLine by decide), ?_⟩
    walk_at "es"
    refine ⟨a, cs.I, _, rfl, hm, hf.cI, hf.nI_parts, by decide, ?_⟩
    walk_at "es"
    rw [if_neg c] at q
    exact q
/-- a part of an item -/
def aPart (f : Itm → D) (cs : Cs) : ASp := fun ds m Q => ∃ r, ds = [itDr cs.I r] ∧ Q (f r) m
abbrev a_Item_name (cs : Cs) : ASp := aPart (fun r => .str r.1) cs
abbrev a_Item_least (cs : Cs) : ASp := aPart (fun r => .int r.2.1) cs
abbrev a_Item_greatest (cs : Cs) : ASp := aPart (fun r => .int r.2.2.1) cs
abbrev a_Item_price (cs : Cs) : ASp := aPart (fun r => .int r.2.2.2) cs
abbrev a_Item_is_exact (cs : Cs) : ASp := aPart (fun r => .bl (exact_ r)) cs
abbrev n_Item_name : List Str := ["self"]
theorem sc_Item_name : FnScope n_Item_name ["self"] (defScope s_Item_name) := ⟨rfl, rfl, rfl, by decide +kernel, rfl, by decide +kernel, by decide +kernel⟩
theorem body_Item_name {X : Cx} {k : Nat} {cs : Cs} (hx : XF X (fbOf n_Item_name (defScope s_Item_name)) k) (hk : 0 ≤ k) (hxe : X.xe = fun _ _ => False) (hs : X.env.scope = defScope s_Item_name) (hf : Fc X.prog X.w X.K X.mg X.base cs) (fr : Fr X) (ds : List D) (m : Mu) (Q : QD) (h : a_Item_name cs ds m Q) :
    ASs X (defBody s_Item_name) (startR n_Item_name ds) m { nx := fun _ m' => Q .non m', rt := Q } := by
  obtain ⟨r, rfl, q⟩ := h
  show ASs X (defBody s_Item_name) [some (itDr cs.I r)] m _
  walk_at "es"
  refine AE.ix ixa_tup ?_
  refine AE.fld ?_
  walk_at "e"
  refine ⟨cs.I, _, _, .im, hf.cI, hf.nI_parts, rfl, ?_⟩
  walk_at "es"
  exact ⟨_, _, _, rfl, rfl, rfl, q⟩
abbrev n_Item_least : List Str := ["self"]
theorem sc_Item_least : FnScope n_Item_least ["self"] (defScope s_Item_least) := ⟨rfl, rfl, rfl, by decide +kernel, rfl, by decide +kernel, by decide +kernel⟩
theorem body_Item_least {X : Cx} {k : Nat} {cs : Cs} (hx : XF X (fbOf n_Item_least (defScope s_Item_least)) k) (hk : 0 ≤ k) (hxe : X.xe = fun _ _ => False) (hs : X.env.scope = defScope s_Item_least) (hf : Fc X.prog X.w X.K X.mg X.base cs) (fr : Fr X) (ds : List D) (m : Mu) (Q : QD) (h : a_Item_least cs ds m Q) :
    ASs X (defBody s_Item_least) (startR n_Item_least ds) m { nx := fun _ m' => Q .non m', rt := Q } := by
  obtain ⟨r, rfl, q⟩ := h
  show ASs X (defBody s_Item_least) [some (itDr cs.I r)] m _
  walk_at "es"
  refine AE.ix ixa_tup ?_
  refine AE.fld ?_
  walk_at "e"
  refine ⟨cs.I, _, _, .im, hf.cI, hf.nI_parts, rfl, ?_⟩
  walk_at "es"
  exact ⟨_, _, _, rfl, rfl, rfl, q⟩
abbrev n_Item_greatest : List Str := ["self"]
theorem sc_Item_greatest : FnScope n_Item_greatest ["self"] (defScope s_Item_greatest) := ⟨rfl, rfl, rfl, by decide +kernel, rfl, by decide +kernel, by decide +kernel⟩
theorem body_Item_greatest {X : Cx} {k : Nat} {cs : Cs} (hx : XF X (fbOf n_Item_greatest (defScope s_Item_greatest)) k) (hk : 0 ≤ k) (hxe : X.xe = fun _ _ => False) (hs : X.env.scope = defScope s_Item_greatest) (hf : Fc X.prog X.w X.K X.mg X.base cs) (fr : Fr X) (ds : List D) (m : Mu) (Q : QD) (h : a_Item_greatest cs ds m Q) :
    ASs X (defBody s_Item_greatest) (startR n_Item_greatest ds) m { nx := fun _ m' => Q .non m', rt := Q } := by
  obtain ⟨r, rfl, q⟩ := h
  show ASs X (defBody s_Item_greatest) [some (itDr cs.I r)] m _
  walk_at "es"
  refine AE.ix ixa_tup ?_
  refine AE.fld ?_
  walk_at "e"
  refine ⟨cs.I, _, _, .im, hf.cI, hf.nI_parts, rfl, ?_⟩
  walk_at "es"
  exact ⟨_, _, _, rfl, rfl, rfl, q⟩
abbrev n_Item_price : List Str := ["self"]
theorem sc_Item_price : FnScope n_Item_price ["self"] (defScope s_Item_price) := ⟨rfl, rfl, rfl, by decide +kernel, rfl, by decide +kernel, by decide +kernel⟩
theorem body_Item_price {X : Cx} {k : Nat} {cs : Cs} (hx : XF X (fbOf n_Item_price (defScope s_Item_price)) k) (hk : 0 ≤ k) (hxe : X.xe = fun _ _ => False) (hs : X.env.scope = defScope s_Item_price) (hf : Fc X.prog X.w X.K X.mg X.base cs) (fr : Fr X) (ds : List D) (m : Mu) (Q : QD) (h : a_Item_price cs ds m Q) :
    ASs X (defBody s_Item_price) (startR n_Item_price ds) m { nx := fun _ m' => Q .non m', rt := Q } := by
  obtain ⟨r, rfl, q⟩ := h
  show ASs X (defBody s_Item_price) [some (itDr cs.I r)] m _
  walk_at "es"
  refine AE.ix ixa_tup ?_
  refine AE.fld ?_
  walk_at "e"
  refine ⟨cs.I, _, _, .im, hf.cI, hf.nI_parts, rfl, ?_⟩
  walk_at "es"
  exact ⟨_, _, _, rfl, rfl, rfl, q⟩
abbrev n_Item_is_exact : List Str := ["self"]
theorem sc_Item_is_exact : FnScope n_Item_is_exact ["self"] (defScope s_Item_is_exact) := ⟨rfl, rfl, rfl, by decide +kernel, rfl, by decide +kernel, by decide +kernel⟩
theorem body_Item_is_exact {X : Cx} {k : Nat} {cs : Cs} (hx : XF X (fbOf n_Item_is_exact (defScope s_Item_is_exact)) k) (hk : 0 ≤ k) (hxe : X.xe = fun _ _ => False) (hs : X.env.scope = defScope s_Item_is_exact) (hf : Fc X.prog X.w X.K X.mg X.base cs) (fr : Fr X) (ds : List D) (m : Mu) (Q : QD) (h : a_Item_is_exact cs ds m Q) :
    ASs X (defBody s_Item_is_exact) (startR n_Item_is_exact ds) m { nx := fun _ m' => Q .non m', rt := Q } := by
  obtain ⟨r, rfl, q⟩ := h
  show ASs X (defBody s_Item_is_exact) [some (itDr cs.I r)] m _
  walk_at "es"
  refine AE.eqS ?_
  refine AE.ix ixa_tup ?_
  refine AE.fld ?_
  walk_at "e"
  refine ⟨cs.I, _, _, .im, hf.cI, hf.nI_parts, rfl, ?_⟩
  walk_at "es"
  refine ⟨_, _, _, rfl, rfl, rfl, ?_⟩
  refine AE.ix ixa_tup ?_
  refine AE.fld ?_
  walk_at "e"
  refine ⟨cs.I, _, _, .im, hf.cI, hf.nI_parts, rfl, ?_⟩
  walk_at "es"
  refine ⟨_, _, _, rfl, rfl, rfl, ?_⟩
  refine ⟨_, _, rfl, rfl, rfl, ?_⟩
  rw [show decide (V.int r.2.1 = V.int r.2.2.1) = exact_ r by unfold exact_; simp]
  exact q
/-- a method of two items -/
def aTwo (f : Itm → Itm → Bool) (cs : Cs) : ASp := fun ds m Q => ∃ r1 r2, ds = [itDr cs.I r1, itDr cs.I r2] ∧ Q (.bl (f r1 r2)) m
def before_ (r1 r2 : Itm) : Bool := decide (r1.2.2.1 < r2.2.1)
def loose_ (r1 r2 : Itm) : Bool := !(exact_ r1 && exact_ r2) && (!before_ r1 r2 && !before_ r2 r1)
abbrev a_Item_is_surely_before (cs : Cs) : ASp := aTwo before_ cs
abbrev a_Item_is_loose_with (cs : Cs) : ASp := aTwo loose_ cs
open PySem PySem.Spec PyProof.Rows L2 Ab

def namD (p : List Str) : D := .lst (p.map D.str)
theorem nd_inj {rs : List Itm} {a b : Itm} (nd : (rs.map (·.1)).Nodup) (ha : a ∈ rs) (hb : b ∈ rs) (e : a.1 = b.1) : a = b := by
  induction rs with
  | nil => simp at ha
  | cons c rs ih =>
    rw [List.map_cons, List.nodup_cons] at nd
    rcases List.mem_cons.mp ha with h1 | h1 <;> rcases List.mem_cons.mp hb with h2 | h2
    · rw [h1, h2]
    · subst h1; exact absurd (List.mem_map.mpr ⟨b, h2, e.symm⟩ : a.1 ∈ rs.map (·.1)) nd.1
    · subst h2; exact absurd (List.mem_map.mpr ⟨a, h1, e⟩ : b.1 ∈ rs.map (·.1)) nd.1
    · exact ih nd.2 h1 h2
theorem part3 {α : Type} {p q : α → Bool} : ∀ {l : List α}, (∀ x ∈ l, p x = true → q x = true → False) → (l.filter p ++ l.filter (fun x => !p x && !q x) ++ l.filter q).Perm l
  | [], _ => .nil
  | x :: l, h => by
    have ih := part3 (l := l) fun y hy => h y (List.mem_cons_of_mem _ hy)
    rw [List.filter_cons, List.filter_cons, List.filter_cons]
    cases hp : p x with
    | true =>
      have hq : q x = false := by
        cases hq : q x with
        | false => rfl
        | true => exact (h x List.mem_cons_self hp hq).elim
      simpa [hq] using ih
    | false =>
      cases hq : q x with
      | true =>
        simp only [Bool.false_eq_true, if_false, Bool.not_false, Bool.not_true, Bool.and_false, if_true]
        exact List.perm_middle.trans (List.Perm.cons x ih)
      | false =>
        simp only [Bool.false_eq_true, if_false, Bool.not_false, Bool.and_self, if_true]
        rw [List.append_assoc]
        refine List.perm_middle.trans (List.Perm.cons x ?_)
        simpa [List.append_assoc] using ih
def val (vals : List (Str × Int)) (n : Str) : Int := (vals.lookup n).getD 0
def valK (p : Str × Int) : Key × D := (.inr p.1, .int p.2)
def valD (v : List (Str × Int)) : D := .dic (v.map valK)
theorem val_get {vals : List (Str × Int)} {n : Str} (h : n ∈ vals.map (·.1)) : getK (vals.map valK) (.inr n) = some (.int (val vals n)) := by
  induction vals with
  | nil => simp at h
  | cons p vals ih =>
    obtain ⟨k, v⟩ := p
    by_cases e : k = n
    · subst e; simp [getK, valK, val, List.lookup]
    · have h' : n ∈ vals.map (·.1) := by
        rcases List.mem_map.mp h with ⟨q, hq, rfl⟩
        rcases List.mem_cons.mp hq with rfl | hq
        · exact absurd rfl e
        · exact List.mem_map.mpr ⟨q, hq, rfl⟩
      have g1 : getK (((k, v) :: vals).map valK) (.inr n) = getK (vals.map valK) (.inr n) := by simp [getK, valK, e]
      have g2 : val ((k, v) :: vals) n = val vals n := by
        have : (n == k) = false := by simpa using fun z : n = k => e z.symm
        simp [val, List.lookup, this]
      rw [g1, g2]; exact ih h'
def poolF (d : D) : List (Str × D) := [("by_name", d)]
def poolD (CI : Addr) (rs : List Itm) : D := .dic (rs.map (itK CI))
def poolR (cs : Cs) (rs : List Itm) : D := .ins cs.P (poolF (poolD cs.I rs))
/-- an item added or replaced -/
def putI (rs : List Itm) (r : Itm) : List Itm := if rs.any (fun q => decide (q.1 = r.1)) then rs.map fun q => if q.1 = r.1 then r else q else rs ++ [r]
theorem put_itK {CI : Addr} {rs : List Itm} {r : Itm} : putKD (rs.map (itK CI)) (.inr r.1) (itDr CI r) = (putI rs r).map (itK CI) := by
  unfold putKD putI
  have e : ((rs.map (itK CI)).any fun p => decide (p.1 = .inr r.1)) = rs.any fun q => decide (q.1 = r.1) := by
    rw [List.any_map]
    congr 1; funext q; simp [itK]
  rw [e]
  split
  · rw [List.map_map, List.map_map]
    refine List.map_congr_left fun q _ => ?_
    simp only [Function.comp, itK]
    by_cases h : q.1 = r.1
    · simp [h]
    · simp [h]
  · simp [itK]
theorem putI_len {rs : List Itm} {r : Itm} : (putI rs r).length ≤ rs.length + 1 := by unfold putI; split <;> simp
theorem puts_len {its : List Itm} : ∀ {rs : List Itm}, (its.foldl putI rs).length ≤ rs.length + its.length := by
  induction its with
  | nil => intro rs; simp
  | cons r its ih => intro rs; refine Nat.le_trans ih ?_; have := putI_len (rs := rs) (r := r); simp; omega
theorem putI_new {rs : List Itm} {r : Itm} (h : r.1 ∉ rs.map (·.1)) : putI rs r = rs ++ [r] := by
  unfold putI
  rw [if_neg]
  intro z
  obtain ⟨q, hq, e⟩ := List.any_eq_true.mp z
  exact h (List.mem_map.mpr ⟨q, hq, of_decide_eq_true e⟩)
/-! ### Pool() -/
def a_Pool___init__ (cs : Cs) : ASp := fun ds m Q => ∃ a, ds = [.ref a, .tup []] ∧ m a = some (.ins cs.P []) ∧ Q .non (updM m a (.ins cs.P (poolF (.dic []))))
abbrev n_Pool___init__ : List Str := ["self", "items", "item"]
theorem sc_Pool___init__ : FnScope n_Pool___init__ ["self", "items"] (defScope s_Pool___init__) := ⟨rfl, rfl, rfl, by decide +kernel, rfl, by decide +kernel, by decide +kernel⟩
theorem body_Pool___init__ {X : Cx} {k : Nat} {cs : Cs} (hx : XF X (fbOf n_Pool___init__ (defScope s_Pool___init__)) k) (hk : 0 ≤ k) (hxe : X.xe = fun _ _ => False) (hs : X.env.scope = defScope s_Pool___init__) (hf : Fc X.prog X.w X.K X.mg X.base cs) (fr : Fr X) (ds : List D) (m : Mu) (Q : QD) (h : a_Pool___init__ cs ds m Q) :
    ASs X (defBody s_Pool___init__) (startR n_Pool___init__ ds) m { nx := fun _ m' => Q .non m', rt := Q } := by
  obtain ⟨a, rfl, hm, q⟩ := h
  show ASs X (defBody s_Pool___init__) [some (.ref a), some (.tup []), none] m _
  walk_at "e"
  refine AS.fld ?_
  refine AE.dicM fun b nb => ?_
  walk_at "es"
  have ne : a ≠ b := neM hm nb
  refine ⟨a, cs.P, _, rfl, by rw [updM_ne ne]; exact hm, hf.cP, hf.nP_by_name, (by decide), ?_⟩
  walk_at "e"
  refine AS.forT (α := Unit) (fun _ => .non) hxe hx (AI.tup ?_)
  walk_at "e"
  refine ⟨_, rfl, [], fun _ ρ' m' => ρ' = [some (.ref a), some (.tup []), none] ∧ m' = updM (updM m b (.dic [])) a (.ins cs.P (poolF (.ref b))), rfl, ⟨rfl, rfl⟩, fun _ _ _ _ => trivial, fun pre x post ρ' m' e => by simp at e, ?_⟩
  rintro ρ' m' ⟨rfl, rfl⟩
  walk_at "e"
  refine AS.forT (α := Unit) (fun _ => .non) hxe hx (AI.tup ?_)
  walk_at "e"
  refine ⟨_, rfl, [], fun _ ρ' m' => ρ' = [some (.ref a), some (.tup []), none] ∧ m' = updM (updM m b (.dic [])) a (.ins cs.P (poolF (.ref b))), rfl, ⟨rfl, rfl⟩, fun _ _ _ _ => trivial, fun pre x post ρ' m' e => by simp at e, ?_⟩
  rintro ρ' m' ⟨rfl, rfl⟩
  refine ASs.vw (VW.inn (f := "by_name") updM_same rfl (by rw [updM_ne ne.symm, updM_same]) ne) ?_
  walk_at "e"
  rw [delM_updM2 ne.symm, delM_updM nb, updM_updM]
  exact q
theorem pool_new {cs : Cs} {a : Addr} {m : Mu} {Q : QD} (h : Q .non (updM m a (.ins cs.P (poolF (.dic []))))) : starA (a_Pool___init__ cs) [.ref a] (updM m a (.ins cs.P [])) Q :=
  starA_of ⟨a, rfl, updM_same, by rw [updM_updM]; exact h⟩ (Nat.zero_le _)
/-! ### Pool.read('') -/
def a_Pool_read (cs : Cs) : ASp := fun ds m Q => ds = [.ref cs.P, .str Str.empty] ∧ Q (poolR cs []) m
abbrev n_Pool_read : List Str := ["cls", "text", "items", "index", "line", "item"]
theorem sc_Pool_read : FnScope n_Pool_read ["cls", "text"] (defScope s_Pool_read) := ⟨rfl, rfl, rfl, by decide +kernel, rfl, by decide +kernel, by decide +kernel⟩
theorem body_Pool_read {X : Cx} {k : Nat} {cs : Cs} (hx : XF X (fbOf n_Pool_read (defScope s_Pool_read)) k) (hk : 8 ≤ k) (hxe : X.xe = fun _ _ => False) (hs : X.env.scope = defScope s_Pool_read) (hf : Fc X.prog X.w X.K X.mg X.base cs) (fr : Fr X) (n_Pool_ : Mkc X.prog X.w X.K X.mg X.base 1 "Pool" cs.P (starA (a_Pool___init__ cs))) (ds : List D) (m : Mu) (Q : QD) (h : a_Pool_read cs ds m Q) :
    ASs X (defBody s_Pool_read) (startR n_Pool_read ds) m { nx := fun _ m' => Q .non m', rt := Q } := by
  obtain ⟨rfl, q⟩ := h
  show ASs X (defBody s_Pool_read) [some (.ref cs.P), some (.str Str.empty), none, none, none, none] m _
  walk_at "es"
  refine AE.bIsi hx fr ?_
  walk_at "es"
  refine AE.bTy hx fr ?_ rfl (by decide +kernel) (by decide +kernel)
  refine ⟨_, _, _, .str, .ty, kit_str _, ?_⟩
  walk_at "es"
  refine AE.lst ?_
  walk_at "e"
  refine ⟨Nat.zero_le _, ?_⟩
  walk_at "e"; walk_at "e"
  refine AS.forT (α := Unit) (fun _ => .non) hxe hx (AI.enum hx (by decide +kernel) (fr _ (by decide +kernel)) ?_)
  refine AE.ifx ?_
  refine AT.neS ?_
  walk_at "es"
  refine ⟨rfl, ?_⟩
  refine ⟨fun e => (by cases e), fun _ => ?_⟩
  refine AE.lst ?_
  walk_at "e"
  refine ⟨Nat.zero_le _, ?_⟩
  refine ⟨_, .im, [], fun _ ρ' m' => ρ' = [some (.ref cs.P), some (.str Str.empty), some (.lst []), none, none, none] ∧ m' = m, rfl, ⟨rfl, rfl⟩, fun _ _ _ _ => .im, fun pre x post ρ' m' e => by simp at e, ?_⟩
  rintro ρ' m' ⟨rfl, rfl⟩
  obtain ⟨f, M, F⟩ := n_Pool_.ex
  walk_at "e"; walk_at "e"
  refine AE.vw ?_
  refine AE.clsStar M F hx (by omega) ?_
  walk_at "e"
  refine ⟨rfl, ?_⟩
  walk_at "e"
  refine ⟨[], .im, fun a na => pool_new ⟨rfl, ?_⟩⟩
  refine ⟨_, _, VW.frz updM_same, ?_⟩
  rw [delM_updM na]
  exact q
/-! ### with_items(*items) -/
def a_Pool_with_items (cs : Cs) : ASp := fun ds m Q => ∃ (rs its : List Itm), ds = [poolR cs rs, .tup (its.map (itDr cs.I))] ∧ rs.length + its.length < 1000 ∧ Q (poolR cs (its.foldl putI rs)) m
abbrev n_Pool_with_items : List Str := ["self", "items", "found", "item"]
theorem sc_Pool_with_items : FnScope n_Pool_with_items ["self", "items"] (defScope s_Pool_with_items) := ⟨rfl, rfl, rfl, by decide +kernel, rfl, by decide +kernel, by decide +kernel⟩
theorem body_Pool_with_items {X : Cx} {k : Nat} {cs : Cs} (hx : XF X (fbOf n_Pool_with_items (defScope s_Pool_with_items)) k) (hk : 8 ≤ k) (hxe : X.xe = fun _ _ => False) (hs : X.env.scope = defScope s_Pool_with_items) (hf : Fc X.prog X.w X.K X.mg X.base cs) (fr : Fr X) (n_Pool_ : Mkc X.prog X.w X.K X.mg X.base 1 "Pool" cs.P (starA (a_Pool___init__ cs))) (c_Item_name : Prp X.prog X.w X.K X.mg X.base 1 cs.I "name" (a_Item_name cs)) (ds : List D) (m : Mu) (Q : QD) (h : a_Pool_with_items cs ds m Q) :
    ASs X (defBody s_Pool_with_items) (startR n_Pool_with_items ds) m { nx := fun _ m' => Q .non m', rt := Q } := by
  obtain ⟨rs, its, rfl, h1, q⟩ := h
  show ASs X (defBody s_Pool_with_items) [some (poolR cs rs), some (.tup (its.map (itDr cs.I))), none, none] m _
  walk_at "e"; walk_at "e"
  refine AE.mkC0 n_Pool_ hx (by omega) (by decide +kernel) fun a na => pool_new ⟨rfl, ?_⟩
  walk_at "e"; walk_at "e"
  refine AS.fld ?_
  refine AE.callT ca_dictcopy hx (by decide +kernel) (fr _ (by decide +kernel)) rfl ?_
  walk_at "e"
  refine AE.fld ?_
  walk_at "e"
  refine ⟨cs.P, _, _, .im, hf.cP, hf.nP_by_name, rfl, ?_⟩
  walk_at "e"
  refine ⟨_, _, rfl, .im, fun b nb => ?_⟩
  obtain ⟨ne, nb⟩ := updM_none nb
  walk_at "e"
  refine ⟨a, cs.P, _, rfl, by rw [updM_ne ne.symm, updM_same], hf.cP, hf.nP_by_name, (by decide), ?_⟩
  rw [updM_comm ne.symm, updM_updM]
  walk_at "e"
  refine AS.forT (α := Itm) (itDr cs.I) hxe hx (AI.tup ?_)
  walk_at "e"
  refine ⟨_, rfl, its, fun pre ρ' m' => (∃ o, ρ' = [some (poolR cs rs), some (.tup (its.map (itDr cs.I))), some (.ref a), o]) ∧ m' = updM (updM m b (.dic ((pre.foldl putI rs).map (itK cs.I)))) a (.ins cs.P (poolF (.ref b))), rfl, ⟨⟨_, rfl⟩, rfl⟩, fun _ _ _ _ => trivial, ?_, ?_⟩
  · rintro pre x post ρ' m' e ⟨⟨o, rfl⟩, rfl⟩
    walk_at "e"; walk_at "e"; walk_at "e"; walk_at "e"; walk_at "e"; walk_at "e"
    refine AE.bIsi hx fr ?_
    walk_at "es"
    refine AE.gref hx (by decide +kernel) hf.gI ?_
    refine ⟨_, _, _, .ins .im hf.tI, .own, hf.kI, ?_⟩
    walk_at "es"
    refine AS.dput hx ?_
    walk_at "e"
    refine AE.fld ?_
    walk_at "e"
    refine ⟨cs.P, _, _, .mu updM_same, hf.cP, hf.nP_by_name, rfl, ?_⟩
    refine AE.prp c_Item_name hx (by omega) ?_
    walk_at "es"
    have lz : ((pre.foldl putI rs).map (itK cs.I)).length < sizeLine := by
      rw [List.length_map]
      have e1 := puts_len (its := pre) (rs := rs)
      have e2 := congrArg List.length e
      simp at e2
      exact Nat.lt_of_le_of_lt e1 (Nat.lt_of_lt_of_le (show rs.length + pre.length < 1000 by omega) (by decide))
    refine ⟨b, _, _, rfl, by rw [updM_ne ne, updM_same], rfl, lz, ?_⟩
    walk_at "e"
    refine ⟨⟨_, rfl⟩, ?_⟩
    rw [put_itK, updM_comm ne.symm, updM_updM, List.foldl_append]
    rfl
  · rintro ρ' m' ⟨⟨o, rfl⟩, rfl⟩
    walk_at "e"; walk_at "e"
    refine AE.vw ?_
    walk_at "e"
    refine ⟨_, _, (VW.inn (f := "by_name") updM_same rfl (by rw [updM_ne ne, updM_same]) ne.symm).trans (VW.frz updM_same), ?_⟩
    rw [delM_updM2 ne, delM_updM nb, updM_updM, delM_updM na]
    exact q
/-! ### names, item -/
/-- the names in ascending order -/
def leS (a b : Str) : Bool := decide (a.cps.toList ≤ b.cps.toList)
def namesL (rs : List Itm) : List Str := (rs.map (·.1)).mergeSort leS
theorem leS_total (a b : Str) : (leS a b || leS b a) = true := by
  unfold leS
  rcases List.le_total a.cps.toList b.cps.toList with h | h <;> simp [h]
theorem leS_trans (a b c : Str) (h1 : leS a b = true) (h2 : leS b c = true) : leS a c = true := by
  unfold leS at *
  exact decide_eq_true (List.le_trans (of_decide_eq_true h1) (of_decide_eq_true h2))
theorem namesL_perm {rs : List Itm} : (namesL rs).Perm (rs.map (·.1)) := List.mergeSort_perm _ _
theorem namesL_pw {rs : List Itm} : (namesL rs).Pairwise fun a b => a.cps.toList ≤ b.cps.toList :=
  (List.pairwise_mergeSort leS_trans leS_total _).imp fun h => of_decide_eq_true h
theorem sorted_pw_unique {ys zs : List Str} (p : ys.Perm zs) (h1 : ys.Pairwise fun a b => a.cps.toList ≤ b.cps.toList) (h2 : zs.Pairwise fun a b => a.cps.toList ≤ b.cps.toList) : ys = zs :=
  p.eq_of_pairwise (fun a b _ _ h1 h2 => strs_ext (List.le_antisymm h1 h2)) h1 h2
theorem names_eq {rs : List Itm} {ys : List Str} (p : ys.Perm (rs.map (·.1))) (h : sortedS ys = true) : ys = namesL rs := sorted_pw_unique (p.trans namesL_perm.symm) (sorted_pw h) namesL_pw
def a_Pool_names (cs : Cs) : ASp := fun ds m Q => ∃ rs, ds = [poolR cs rs] ∧ rs.length < 64 ∧ Q (.lst ((namesL rs).map D.str)) m
abbrev n_Pool_names : List Str := ["self"]
theorem sc_Pool_names : FnScope n_Pool_names ["self"] (defScope s_Pool_names) := ⟨rfl, rfl, rfl, by decide +kernel, rfl, by decide +kernel, by decide +kernel⟩
theorem body_Pool_names {X : Cx} {k : Nat} {cs : Cs} (hx : XF X (fbOf n_Pool_names (defScope s_Pool_names)) k) (hk : 0 ≤ k) (hxe : X.xe = fun _ _ => False) (hs : X.env.scope = defScope s_Pool_names) (hf : Fc X.prog X.w X.K X.mg X.base cs) (fr : Fr X) (ds : List D) (m : Mu) (Q : QD) (h : a_Pool_names cs ds m Q) :
    ASs X (defBody s_Pool_names) (startR n_Pool_names ds) m { nx := fun _ m' => Q .non m', rt := Q } := by
  obtain ⟨rs, rfl, h1, q⟩ := h
  show ASs X (defBody s_Pool_names) [some (poolR cs rs)] m _
  walk_at "e"; walk_at "e"
  refine AE.bSortDict hx fr ?_
  refine AE.fld ?_
  walk_at "e"
  refine ⟨cs.P, _, _, .im, hf.cP, hf.nP_by_name, rfl, ?_⟩
  refine ⟨_, rs.map (·.1), .im, by simp [itK, Function.comp_def], by simpa using h1, fun ys y1 y2 => ?_⟩
  rw [names_eq y1 y2]
  exact q
/-- the item of a name -/
def Has (rs : List Itm) (r : Itm) : Prop := rs.find? (fun q => decide (q.1 = r.1)) = some r
theorem Has.get {CI : Addr} {rs : List Itm} {r : Itm} (h : Has rs r) : getK (rs.map (itK CI)) (.inr r.1) = some (itDr CI r) := by
  unfold Has at h
  unfold getK
  rw [List.find?_map]
  have e : ((fun p : Key × D => decide (p.1 = (.inr r.1 : Key))) ∘ itK CI) = fun q => decide (q.1 = r.1) := by funext q; simp [itK]
  rw [e, h]; rfl
theorem Has.mem {rs : List Itm} {r : Itm} (h : Has rs r) : r ∈ rs := List.mem_of_find?_eq_some h
theorem has_of {rs : List Itm} {r : Itm} (nd : (rs.map (·.1)).Nodup) (h : r ∈ rs) : Has rs r := by
  unfold Has
  induction rs with
  | nil => cases h
  | cons q rs ih =>
    rw [List.map_cons, List.nodup_cons] at nd
    rw [List.find?_cons]
    rcases List.mem_cons.mp h with e | h
    · subst e; simp
    · have ne : q.1 ≠ r.1 := fun e => nd.1 (by rw [e]; exact List.mem_map.mpr ⟨r, h, rfl⟩)
      rw [decide_eq_false ne]
      exact ih nd.2 h
def a_Pool_item (cs : Cs) : ASp := fun ds m Q => ∃ rs r, ds = [poolR cs rs, .str r.1] ∧ Has rs r ∧ Q (itDr cs.I r) m
abbrev n_Pool_item : List Str := ["self", "name"]
theorem sc_Pool_item : FnScope n_Pool_item ["self", "name"] (defScope s_Pool_item) := ⟨rfl, rfl, rfl, by decide +kernel, rfl, by decide +kernel, by decide +kernel⟩
theorem body_Pool_item {X : Cx} {k : Nat} {cs : Cs} (hx : XF X (fbOf n_Pool_item (defScope s_Pool_item)) k) (hk : 0 ≤ k) (hxe : X.xe = fun _ _ => False) (hs : X.env.scope = defScope s_Pool_item) (hf : Fc X.prog X.w X.K X.mg X.base cs) (fr : Fr X) (ds : List D) (m : Mu) (Q : QD) (h : a_Pool_item cs ds m Q) :
    ASs X (defBody s_Pool_item) (startR n_Pool_item ds) m { nx := fun _ m' => Q .non m', rt := Q } := by
  obtain ⟨rs, r, rfl, h1, q⟩ := h
  show ASs X (defBody s_Pool_item) [some (poolR cs rs), some (.str r.1)] m _
  walk_at "e"; walk_at "e"; walk_at "e"; walk_at "e"; walk_at "e"
  refine AE.bIsi hx fr ?_
  walk_at "es"
  refine AE.bTy hx fr ?_ rfl (by decide +kernel) (by decide +kernel)
  refine ⟨_, _, _, .str, .ty, kit_str _, ?_⟩
  walk_at "e"; walk_at "e"; walk_at "e"
  refine AT.dnotin hx ?_
  walk_at "e"
  refine AE.fld ?_
  walk_at "e"
  refine ⟨cs.P, _, _, .im, hf.cP, hf.nP_by_name, rfl, ?_⟩
  refine ⟨_, _, .im, rfl, ?_⟩
  rw [h1.get]
  refine ff_and ?_
  walk_at "e"; walk_at "e"; walk_at "e"
  refine AE.dget hx ?_
  refine AE.fld ?_
  walk_at "e"
  refine ⟨cs.P, _, _, .im, hf.cP, hf.nP_by_name, rfl, ?_⟩
  walk_at "e"
  exact ⟨_, _, _, .im, rfl, h1.get, q⟩
open PySem PySem.Spec PyProof.Rows L2 Ab

theorem good_lay {s : Str} (h : GoodName s) : PyData.canLay0 (.str s) = true := by
  show PyData.strOk s = true
  unfold PyData.strOk
  rw [← Array.all_toList, List.all_eq_true]
  intro c hc
  have := h.2.2 c hc
  have a : ∀ c ∈ LETS.cps.toList, (fun c => decide (c < 1114112)) c = true := by unfold LETS; decide +kernel
  exact a c this
/-- a pool as the laws make them -/
structure PoolOk (rs : List Itm) : Prop where
  len : rs.length < 60
  nd : (rs.map (·.1)).Nodup
  lay : ∀ r ∈ rs, PyData.canLay0 (.str r.1) = true
/-! ### sort_key -/
def keyI (r : Itm) : D := .tup [.int r.2.1, .int r.2.2.1, .str r.1]
def a_sort_key (cs : Cs) : ASp := fun ds m Q => ∃ r, ds = [itDr cs.I r] ∧ Q (keyI r) m
abbrev n_sort_key : List Str := ["item"]
theorem sc_sort_key : FnScope n_sort_key ["item"] (defScope s_sort_key) := ⟨rfl, rfl, rfl, by decide +kernel, rfl, by decide +kernel, by decide +kernel⟩
theorem body_sort_key {X : Cx} {k : Nat} {cs : Cs} (hx : XF X (fbOf n_sort_key (defScope s_sort_key)) k) (hk : 8 ≤ k) (hxe : X.xe = fun _ _ => False) (hs : X.env.scope = defScope s_sort_key) (hf : Fc X.prog X.w X.K X.mg X.base cs) (fr : Fr X) (c_Item_least : Prp X.prog X.w X.K X.mg X.base 1 cs.I "least" (a_Item_least cs)) (c_Item_greatest : Prp X.prog X.w X.K X.mg X.base 1 cs.I "greatest" (a_Item_greatest cs)) (c_Item_name : Prp X.prog X.w X.K X.mg X.base 1 cs.I "name" (a_Item_name cs)) (ds : List D) (m : Mu) (Q : QD) (h : a_sort_key cs ds m Q) :
    ASs X (defBody s_sort_key) (startR n_sort_key ds) m { nx := fun _ m' => Q .non m', rt := Q } := by
  obtain ⟨r, rfl, q⟩ := h
  show ASs X (defBody s_sort_key) [some (itDr cs.I r)] m _
  walk_at "e"; walk_at "e"
  refine AE.tup ?_
  walk_at "e"
  refine AE.prp c_Item_least hx (by omega) ?_
  walk_at "es"
  refine AE.prp c_Item_greatest hx (by omega) ?_
  walk_at "es"
  refine AE.prp c_Item_name hx (by omega) ?_
  walk_at "es"
  exact ⟨(show 3 ≤ sizeLine by decide), q⟩
theorem keyD_items {rs : List Itm} (h : ∀ r ∈ rs, PyData.canLay0 (.str r.1) = true) : KeyD rs keyI where
  isP := fun r hr => by show isPs [_, _, _] = true; simp [isPs, isP, h r hr]
  alike := PySem.W.AllAlike.of fun a b => by simp [keyI, dP, dPs, PySem.W.alike, PySem.W.alikeAll]
  sortable := PySem.W.Sortable.tuples fun r => ⟨_, _, rfl⟩
  depth := fun r hr => by simp [keyI, dP, dPs, PyData.depth, PyData.depthAll]
/-- the items in the order of walk -/
def walkL (rs : List Itm) : List Itm := rs.mergeSort (PySem.W.dataLe false fun r => dP (keyI r))
theorem walkL_perm {rs : List Itm} : (walkL rs).Perm rs := sort_perm _ _
theorem walkL_len {rs : List Itm} : (walkL rs).length = rs.length := walkL_perm.length_eq
theorem walkL_mem {rs : List Itm} {r : Itm} : r ∈ walkL rs ↔ r ∈ rs := walkL_perm.mem_iff
def y_Pool_walk (cs : Cs) (ds es : List D) : Prop := ∃ rs, ds = [poolR cs rs] ∧ PoolOk rs ∧ es = (walkL rs).map (itDr cs.I)
/-! ### loose_pairs -/
/-- the item of a name, where it is one -/
def itN (rs : List Itm) (n : Str) : Itm := (rs.find? fun q => decide (q.1 = n)).getD (n, 0, 0, 0)
theorem itN_has {rs : List Itm} {n : Str} (h : n ∈ rs.map (·.1)) : Has rs (itN rs n) ∧ (itN rs n).1 = n := by
  unfold itN Has
  cases q : rs.find? fun q => decide (q.1 = n) with
  | none =>
    obtain ⟨r, hr, e⟩ := List.mem_map.mp h
    have := List.find?_eq_none.mp q r hr
    simp [e] at this
  | some r =>
    have e : r.1 = n := by have := List.find?_some q; simpa using this
    exact ⟨by rw [Option.getD_some, e]; exact q, e⟩
theorem itN_of {rs : List Itm} {r : Itm} (h : Has rs r) : itN rs r.1 = r := by
  unfold itN; unfold Has at h; rw [h]; rfl
theorem names_mem {rs : List Itm} {n : Str} : n ∈ namesL rs ↔ n ∈ rs.map (·.1) := namesL_perm.mem_iff
theorem names_has {rs : List Itm} {n : Str} (h : n ∈ namesL rs) : Has rs (itN rs n) ∧ (itN rs n).1 = n := itN_has (names_mem.mp h)
def ltS (a b : Str) : Bool := decide (a.cps.toList < b.cps.toList)
def pairS (p : Str × Str) : D := .tup [.str p.1, .str p.2]
def looseB (rs : List Itm) (a b : Str) : Bool := ltS a b && loose_ (itN rs a) (itN rs b)
def looseL (rs : List Itm) : List (Str × Str) := (namesL rs).flatMap fun a => ((namesL rs).filter (looseB rs a)).map fun b => (a, b)
def y_Pool_loose_pairs (cs : Cs) (ds es : List D) : Prop := ∃ rs, ds = [poolR cs rs] ∧ rs.length < 64 ∧ es = (looseL rs).map pairS
theorem flat_take {α β : Type} {f : α → List β} {xs : List α} {n : Nat} {x : α} (h : xs[n]? = some x) : (xs.take (n + 1)).flatMap f = (xs.take n).flatMap f ++ f x := by
  rw [List.take_succ, h, List.flatMap_append]; simp
theorem flat_split {α β : Type} {f : α → List β} {xs : List α} {n : Nat} {x : α} (h : xs[n]? = some x) : xs.flatMap f = (xs.take n).flatMap f ++ (f x ++ (xs.drop (n + 1)).flatMap f) := by
  rw [← List.append_assoc, ← flat_take h, ← List.flatMap_append, List.take_append_drop]
theorem filt_take {α : Type} {p : α → Bool} {xs : List α} {n : Nat} {x : α} (h : xs[n]? = some x) : (xs.take (n + 1)).filter p = (xs.take n).filter p ++ if p x = true then [x] else [] := by
  rw [List.take_succ, h, List.filter_append]
  cases hp : p x <;> simp [hp]
theorem take_at {α : Type} {xs ys zs : List α} {y : α} (h : xs = ys ++ y :: zs) : xs[ys.length]? = some y := by rw [h]; simp
open PySem PySem.Spec PyProof.Rows L2 Ab

/-- the value of an exact item, none of an open one -/
def valI (r : Itm) : D := if exact_ r = true then .int r.2.1 else .non
abbrev a_Item_value (cs : Cs) : ASp := aPart valI cs
abbrev n_Item_value : List Str := ["self"]
theorem sc_Item_value : FnScope n_Item_value ["self"] (defScope s_Item_value) := ⟨rfl, rfl, rfl, by decide +kernel, rfl, by decide +kernel, by decide +kernel⟩
theorem body_Item_value {X : Cx} {k : Nat} {cs : Cs} (hx : XF X (fbOf n_Item_value (defScope s_Item_value)) k) (hk : 8 ≤ k) (hxe : X.xe = fun _ _ => False) (hs : X.env.scope = defScope s_Item_value) (hf : Fc X.prog X.w X.K X.mg X.base cs) (fr : Fr X) (c_Item_is_exact : Prp X.prog X.w X.K X.mg X.base 1 cs.I "is_exact" (a_Item_is_exact cs)) (ds : List D) (m : Mu) (Q : QD) (h : a_Item_value cs ds m Q) :
    ASs X (defBody s_Item_value) (startR n_Item_value ds) m { nx := fun _ m' => Q .non m', rt := Q } := by
  obtain ⟨r, rfl, q⟩ := h
  show ASs X (defBody s_Item_value) [some (itDr cs.I r)] m _
  walk_at "e"; walk_at "e"; walk_at "e"
  refine AT.val ?_
  refine AE.prp c_Item_is_exact hx (by omega) ?_
  walk_at "es"
  cases he : exact_ r with
  | true =>
    unfold valI at q
    rw [he, if_pos rfl] at q
    refine tt_and ?_
    refine AE.ix ixa_tup ?_
    refine AE.fld ?_
    walk_at "e"
    refine ⟨cs.I, _, _, .im, hf.cI, hf.nI_parts, rfl, ?_⟩
    walk_at "es"
    exact ⟨_, _, _, rfl, rfl, rfl, q⟩
  | false =>
    unfold valI at q
    rw [he, if_neg Bool.false_ne_true] at q
    refine ff_and ?_
    walk_at "es"
    exact q
def a_Item_exact (cs : Cs) : ASp := fun ds m Q => ∃ nm v, ds = [.ref cs.I, .str nm, .int v] ∧ GoodName nm ∧ Q (itDr cs.I (nm, v, v, 0)) m
abbrev n_Item_exact : List Str := ["cls", "name", "value"]
theorem sc_Item_exact : FnScope n_Item_exact ["cls", "name", "value"] (defScope s_Item_exact) := ⟨rfl, rfl, rfl, by decide +kernel, rfl, by decide +kernel, by decide +kernel⟩
theorem body_Item_exact {X : Cx} {k : Nat} {cs : Cs} (hx : XF X (fbOf n_Item_exact (defScope s_Item_exact)) k) (hk : 16 ≤ k) (hxe : X.xe = fun _ _ => False) (hs : X.env.scope = defScope s_Item_exact) (hf : Fc X.prog X.w X.K X.mg X.base cs) (fr : Fr X) (m_Item_ : Mkc X.prog X.w X.K X.mg X.base 9 "Item" cs.I (fun ds m Q => (a_Item___init__ cs) (ds ++ [D.int 1]) m Q)) (ds : List D) (m : Mu) (Q : QD) (h : a_Item_exact cs ds m Q) :
    ASs X (defBody s_Item_exact) (startR n_Item_exact ds) m { nx := fun _ m' => Q .non m', rt := Q } := by
  obtain ⟨nm, v, rfl, g, q⟩ := h
  show ASs X (defBody s_Item_exact) [some (.ref cs.I), some (.str nm), some (.int v)] m _
  walk_at "e"; walk_at "e"
  refine AE.vw ?_
  refine AE.clsC m_Item_ hx (by omega) ?_
  walk_at "e"
  refine ⟨rfl, ?_⟩
  walk_at "es"
  intro a na
  refine ⟨a, nm, v, v, 1, rfl, updM_same, g, Int.le_refl _, by decide, by decide, rfl, ?_⟩
  refine ⟨_, _, VW.frz updM_same, ?_⟩
  rw [updM_updM, delM_updM na, if_neg (Int.lt_irrefl _)]
  exact q
def a_Item_told (cs : Cs) : ASp := fun ds m Q => ∃ r v, ds = [itDr cs.I r, .int v] ∧ GoodName r.1 ∧ r.2.1 ≤ v ∧ v ≤ r.2.2.1 ∧ Q (itDr cs.I (r.1, v, v, 0)) m
abbrev n_Item_told : List Str := ["self", "value"]
theorem sc_Item_told : FnScope n_Item_told ["self", "value"] (defScope s_Item_told) := ⟨rfl, rfl, rfl, by decide +kernel, rfl, by decide +kernel, by decide +kernel⟩
theorem body_Item_told {X : Cx} {k : Nat} {cs : Cs} (hx : XF X (fbOf n_Item_told (defScope s_Item_told)) k) (hk : 24 ≤ k) (hxe : X.xe = fun _ _ => False) (hs : X.env.scope = defScope s_Item_told) (hf : Fc X.prog X.w X.K X.mg X.base cs) (fr : Fr X) (c_is_integer : Cal X.prog X.w X.K X.mg X.base 1 "is_integer" (a_is_integer cs)) (c_Item_least : Prp X.prog X.w X.K X.mg X.base 1 cs.I "least" (a_Item_least cs)) (c_Item_greatest : Prp X.prog X.w X.K X.mg X.base 1 cs.I "greatest" (a_Item_greatest cs)) (c_Item_name : Prp X.prog X.w X.K X.mg X.base 1 cs.I "name" (a_Item_name cs)) (c_Item_exact : Clm X.prog X.w X.K X.mg X.base 17 cs.I "exact" (a_Item_exact cs)) (ds : List D) (m : Mu) (Q : QD) (h : a_Item_told cs ds m Q) :
    ASs X (defBody s_Item_told) (startR n_Item_told ds) m { nx := fun _ m' => Q .non m', rt := Q } := by
  obtain ⟨r, v, rfl, g, h1, h2, q⟩ := h
  show ASs X (defBody s_Item_told) [some (itDr cs.I r), some (.int v)] m _
  walk_at "es"
  refine AE.callC c_is_integer hx (by omega) (by decide +kernel) ?_
  walk_at "es"
  refine AT.chain oa_le oa_le ?_
  refine AE.prp c_Item_least hx (by omega) ?_
  walk_at "es"
  rw [decide_eq_true h1]
  refine tt_and ?_
  refine AE.prp c_Item_greatest hx (by omega) ?_
  walk_at "es"
  rw [decide_eq_true h2]
  walk_at "es"
  refine AE.clm c_Item_exact hx (by omega) ?_
  refine AE.gref hx (by decide +kernel) hf.gI ?_
  refine ⟨rfl, ?_⟩
  walk_at "e"
  refine AE.prp c_Item_name hx (by omega) ?_
  walk_at "es"
  exact ⟨_, _, rfl, g, q⟩
/-- items told their values -/
def tellI (vals : List (Str × Int)) (r : Itm) : Itm := match vals.lookup r.1 with
  | some v => (r.1, v, v, 0)
  | none => r
def tellL (vals : List (Str × Int)) (rs : List Itm) : List Itm := rs.map (tellI vals)
theorem lookup_mem {vals : List (Str × Int)} {n : Str} {v : Int} (h : vals.lookup n = some v) : (n, v) ∈ vals := by
  induction vals with
  | nil => cases h
  | cons p vals ih =>
    obtain ⟨k, x⟩ := p
    rw [List.lookup_cons] at h
    by_cases e : n = k
    · subst e
      rw [show (n == n) = true by simp] at h
      cases h; exact List.mem_cons_self
    · have : (n == k) = false := by simpa using e
      rw [this] at h
      exact List.mem_cons_of_mem _ (ih h)
theorem lookup_of {vals : List (Str × Int)} {n : Str} {v : Int} (nd : (vals.map (·.1)).Nodup) (h : (n, v) ∈ vals) : vals.lookup n = some v := by
  induction vals with
  | nil => simp at h
  | cons p vals ih =>
    obtain ⟨k, x⟩ := p
    rw [List.map_cons, List.nodup_cons] at nd
    rcases List.mem_cons.mp h with e | h
    · cases e; simp [List.lookup_cons]
    · have : (n == k) = false := by
        have ne : n ≠ k := fun e => nd.1 (e ▸ List.mem_map.mpr ⟨_, h, rfl⟩)
        simpa using ne
      rw [List.lookup_cons, this]
      exact ih nd.2 h
theorem lookup_val {vals : List (Str × Int)} {n : Str} (h : n ∈ vals.map (·.1)) : vals.lookup n = some (val vals n) := by
  unfold val
  cases q : vals.lookup n with
  | some v => rfl
  | none =>
    induction vals with
    | nil => simp at h
    | cons p vals ih =>
      obtain ⟨k, x⟩ := p
      rw [List.lookup_cons] at q
      by_cases e : n = k
      · subst e; rw [show (n == n) = true by simp] at q; cases q
      · have : (n == k) = false := by simpa using e
        rw [this] at q
        rcases List.mem_cons.mp h with z | z
        · exact absurd z e
        · have := ih z q; cases this
theorem lookup_none {vals : List (Str × Int)} {n : Str} (h : n ∉ vals.map (·.1)) : vals.lookup n = none := by
  cases q : vals.lookup n with
  | none => rfl
  | some v => exact absurd (List.mem_map.mpr ⟨_, lookup_mem q, rfl⟩) h
theorem tell_name {vals : List (Str × Int)} {r : Itm} : (tellI vals r).1 = r.1 := by
  unfold tellI; split <;> rfl
theorem puts_map : ∀ {its rs : List Itm}, (∀ i ∈ its, i.1 ∈ rs.map (·.1)) → its.foldl putI rs = rs.map fun r => (its.reverse.find? fun i => decide (i.1 = r.1)).getD r
  | [], rs, _ => by simp
  | i :: its, rs, h => by
    have hi : rs.any (fun q => decide (q.1 = i.1)) = true := by
      obtain ⟨r, hr, e⟩ := List.mem_map.mp (h i List.mem_cons_self)
      exact List.any_eq_true.mpr ⟨r, hr, by simpa using e⟩
    have e1 : putI rs i = rs.map fun q => if q.1 = i.1 then i else q := by unfold putI; rw [if_pos hi]
    have en : (putI rs i).map (·.1) = rs.map (·.1) := by
      rw [e1, List.map_map]
      refine List.map_congr_left fun q _ => ?_
      simp only [Function.comp]; split
      · rename_i e; exact e.symm
      · rfl
    rw [List.foldl_cons, puts_map (its := its) fun j hj => by rw [en]; exact h j (List.mem_cons_of_mem _ hj), e1, List.map_map]
    refine List.map_congr_left fun q _ => ?_
    simp only [Function.comp, List.reverse_cons, List.find?_append, List.find?_cons, List.find?_nil]
    have hz : (if q.1 = i.1 then i else q).1 = q.1 := by
      split
      · rename_i e; exact e.symm
      · rfl
    simp only [hz]
    cases its.reverse.find? fun j => decide (j.1 = q.1) with
    | some z => simp
    | none =>
      by_cases e : q.1 = i.1
      · have : decide (i.1 = q.1) = true := decide_eq_true e.symm
        simp [e]
      · have : decide (i.1 = q.1) = false := decide_eq_false fun z => e z.symm
        simp [e, this]
theorem tell_find {vals : List (Str × Int)} {ys : List Str} (p : ys.Perm (vals.map (·.1))) {r : Itm} : ((ys.map fun n => ((n, val vals n, val vals n, 0) : Itm)).reverse.find? fun i => decide (i.1 = r.1)).getD r = tellI vals r := by
  unfold tellI
  by_cases h : r.1 ∈ vals.map (·.1)
  · rw [lookup_val h]
    cases q : (ys.map fun n => ((n, val vals n, val vals n, 0) : Itm)).reverse.find? fun i => decide (i.1 = r.1) with
    | none =>
      have := List.find?_eq_none.mp q (r.1, val vals r.1, val vals r.1, 0) (by
        rw [List.mem_reverse, List.mem_map]
        exact ⟨r.1, p.mem_iff.mpr h, rfl⟩)
      simp at this
    | some i =>
      have h1 := List.mem_of_find?_eq_some q
      have h2 : i.1 = r.1 := by have := List.find?_some q; simpa using this
      rw [List.mem_reverse, List.mem_map] at h1
      obtain ⟨n, _, rfl⟩ := h1
      have h3 : n = r.1 := h2
      subst h3
      rfl
  · rw [lookup_none h]
    have : (ys.map fun n => ((n, val vals n, val vals n, 0) : Itm)).reverse.find? (fun i => decide (i.1 = r.1)) = none := by
      rw [List.find?_eq_none]
      intro i hi
      rw [List.mem_reverse, List.mem_map] at hi
      obtain ⟨n, hn, rfl⟩ := hi
      have : n ≠ r.1 := fun e => h (e ▸ p.mem_iff.mp hn)
      simpa using this
    rw [this]; rfl
/-- what told's arguments must be -/
structure TellOk (rs : List Itm) (vals : List (Str × Int)) : Prop where
  nd : (vals.map (·.1)).Nodup
  has : ∀ p ∈ vals, ∃ r ∈ rs, r.1 = p.1 ∧ r.2.1 ≤ p.2 ∧ p.2 ≤ r.2.2.1 ∧ GoodName r.1
def a_Pool_told (cs : Cs) : ASp := fun ds m Q => ∃ rs vals, ds = [poolR cs rs, valD vals] ∧ (rs.map (·.1)).Nodup ∧ rs.length < 60 ∧ vals.length < 60 ∧ TellOk rs vals ∧ Q (poolR cs (tellL vals rs)) m
theorem valD_keys {vals : List (Str × Int)} : (vals.map valK).map (fun q => kD q.1) = (vals.map (·.1)).map D.str := by
  rw [List.map_map, List.map_map]; rfl
abbrev n_Pool_told : List Str := ["self", "values", "name", "exact"]
theorem sc_Pool_told : FnScope n_Pool_told ["self", "values"] (defScope s_Pool_told) := ⟨rfl, rfl, rfl, by decide +kernel, rfl, by decide +kernel, by decide +kernel⟩
theorem body_Pool_told {X : Cx} {k : Nat} {cs : Cs} (hx : XF X (fbOf n_Pool_told (defScope s_Pool_told)) k) (hk : 32 ≤ k) (hxe : X.xe = fun _ _ => False) (hs : X.env.scope = defScope s_Pool_told) (hf : Fc X.prog X.w X.K X.mg X.base cs) (fr : Fr X) (c_Pool_item : Mth X.prog X.w X.K X.mg X.base 1 cs.P "item" (a_Pool_item cs)) (c_Item_told : Mth X.prog X.w X.K X.mg X.base 25 cs.I "told" (a_Item_told cs)) (s_Pool_with_items : MthB X.prog X.w X.K X.mg X.base 9 cs.P "with_items" (starA (a_Pool_with_items cs))) (ds : List D) (m : Mu) (Q : QD) (h : a_Pool_told cs ds m Q) :
    ASs X (defBody s_Pool_told) (startR n_Pool_told ds) m { nx := fun _ m' => Q .non m', rt := Q } := by
  obtain ⟨rs, vals, rfl, nd, l1, l2, tk, q⟩ := h
  show ASs X (defBody s_Pool_told) [some (poolR cs rs), some (valD vals), none, none] m _
  have hasv : ∀ n ∈ vals.map (·.1), ∃ r, Has rs r ∧ r.1 = n ∧ r.2.1 ≤ val vals n ∧ val vals n ≤ r.2.2.1 ∧ GoodName r.1 := fun n hn => by
    obtain ⟨r, hr, e, h1, h2, g⟩ := tk.has _ (lookup_mem (lookup_val hn))
    exact ⟨r, has_of nd hr, e, h1, h2, g⟩
  have vs : (vals.map (·.1)).length < sizeLine := by rw [List.length_map]; exact Nat.lt_of_lt_of_le l2 (by decide)
  walk_at "es"
  refine AE.bIsi hx fr ?_
  walk_at "es"
  refine AE.bTy hx fr ?_ rfl (by decide +kernel) (by decide +kernel)
  refine ⟨_, _, _, .dic .im, .ty, kit_dict _, ?_⟩
  walk_at "es"
  refine AE.bAll hx fr ?_
  refine AE.lcMap (f := D.str) (g := fun _ => .bl true) hx hs (by with_reducible (walk_at "nth")) (by decide +kernel) ?_
  refine AI.keys ?_
  walk_at "e"
  refine ⟨_, rfl, vals.map (·.1), valD_keys, vs, fun _ _ => trivial, ?_, ?_⟩
  · intro n hn m' hm'
    refine ⟨_, by walk_at "sr", ?_⟩
    refine ABE.of hx hs fun s0 H0 C0 cl0 fp0 hb hbs => ?_
    refine AE.bIsi hb fr ?_
    walk_at "es"
    refine AE.bTy hb fr ?_ rfl (by decide +kernel) (by decide +kernel)
    exact ⟨_, _, _, .str, .ty, kit_str _, rfl, rfl⟩
  refine ⟨(vals.map (·.1)).map fun _ => true, by simp only [List.map_map]; exact .im, ?_⟩
  rw [show (((vals.map (·.1)).map fun _ => true).all id) = true by simp]
  walk_at "es"
  refine AS.forT (α := Str) D.str hxe hx (AI.keys ?_)
  walk_at "e"
  refine ⟨_, rfl, vals.map (·.1), fun _ ρ' m' => (∃ o, ρ' = [some (poolR cs rs), some (valD vals), o, none]) ∧ m' = m, valD_keys, ⟨⟨_, rfl⟩, rfl⟩, fun _ _ _ _ => trivial, ?_, ?_⟩
  · rintro pre n post ρ' m' e ⟨⟨o, rfl⟩, rfl⟩
    obtain ⟨r, hr, en, _⟩ := hasv n (by rw [e]; simp)
    walk_at "e"
    refine ⟨_, by walk_at "sr", ?_⟩
    walk_at "e"
    refine AS.expr ?_
    refine AE.mth c_Pool_item hx (by omega) ?_
    walk_at "e"
    refine ⟨_, .im, rfl, ?_⟩
    walk_at "es"
    refine ⟨rs, r, by rw [en], hr, ?_⟩
    walk_at "e"
    exact ⟨⟨_, rfl⟩, rfl⟩
  · rintro ρ' m' ⟨⟨o, rfl⟩, rfl⟩
    walk_at "e"
    refine AS.setLcMap (f := D.str) (g := fun n => itDr cs.I (n, val vals n, val vals n, 0)) hx hs (by with_reducible (walk_at "nth")) (by decide +kernel) (by with_reducible (walk_at "nth")) (by decide +kernel) (by simp only [swapsWith, Env.blockKind, Env.kindOf, hs]; rfl) ?_
    refine AI.list ?_
    refine AE.bSortDict hx fr ?_
    walk_at "e"
    refine ⟨_, vals.map (·.1), .im, by rw [List.map_map, List.map_map]; rfl, by rw [List.length_map]; omega, fun ys y1 y2 => ?_⟩
    have ys1 : ys.length < sizeLine := by rw [y1.length_eq]; exact vs
    refine ⟨_, .im, ys, rfl, ys1, fun _ _ => .im, ?_, ?_⟩
    · intro n hn m'' hm''
      have hn' : n ∈ vals.map (·.1) := y1.mem_iff.mp hn
      obtain ⟨r, hr, en, h1, h2, g⟩ := hasv n hn'
      refine ⟨_, by walk_at "sr", ?_⟩
      refine ABE.of hx hs fun s0 H0 C0 cl0 fp0 hb hbs => ?_
      refine AE.mth c_Item_told hb (by omega) ?_
      refine AE.dget hb ?_
      refine AE.fld ?_
      walk_at "e"
      refine ⟨cs.P, _, _, .im, hf.cP, hf.nP_by_name, rfl, ?_⟩
      walk_at "e"
      refine ⟨_, _, _, .im, rfl, by rw [← en]; exact hr.get, ?_⟩
      refine ⟨_, .im, rfl, ?_⟩
      walk_at "e"
      refine AE.dget hb ?_
      walk_at "e"; walk_at "e"
      refine ⟨_, _, _, .im, rfl, val_get hn', ?_⟩
      walk_at "e"
      exact ⟨r, _, rfl, g, h1, h2, rfl, by rw [en]⟩
    refine ⟨_, by walk_at "sr", ?_⟩
    walk_at "e"; walk_at "e"
    refine AE.mthStar s_Pool_with_items hx (by omega) ?_
    walk_at "e"
    refine ⟨_, .im, rfl, ?_⟩
    walk_at "e"
    refine ⟨_, .im, starA_of ⟨rs, ys.map fun n => (n, val vals n, val vals n, 0), ?_, ?_, ?_⟩ ?_⟩
    · rw [List.map_map]; rfl
    · rw [List.length_map, y1.length_eq, List.length_map]; omega
    · have e : (ys.map fun n => (n, val vals n, val vals n, 0)).foldl putI rs = tellL vals rs := by
        rw [puts_map fun i hi => ?_]
        · unfold tellL
          exact List.map_congr_left fun r hr => tell_find y1
        · obtain ⟨n, hn, rfl⟩ := List.mem_map.mp hi
          obtain ⟨r, hr, en, _⟩ := hasv n (y1.mem_iff.mp hn)
          exact List.mem_map.mpr ⟨r, hr.mem, en⟩
      rw [e]; exact q
    · rw [List.length_map]; exact Nat.le_of_lt ys1
open PySem PySem.Spec PyProof.Rows L2 Ab

/-- the names of the open items -/
def openN (rs : List Itm) : List Str := (namesL rs).filter fun n => !exact_ (itN rs n)
/-- values for a pool -/
structure VOk (rs : List Itm) (vals : List (Str × Int)) : Prop where
  tk : TellOk rs vals
  op : (vals.map (·.1)).Perm (openN rs)
theorem VOk.len {rs : List Itm} {vals : List (Str × Int)} (h : VOk rs vals) : vals.length ≤ rs.length := by
  have h1 := h.op.length_eq
  have h2 : (openN rs).length ≤ (namesL rs).length := List.length_filter_le _ _
  have h3 := (namesL_perm (rs := rs)).length_eq
  simp at h1 h3; omega
theorem open_len {rs : List Itm} : (openN rs).length ≤ rs.length := by
  have h2 : (openN rs).length ≤ (namesL rs).length := List.length_filter_le _ _
  have h3 := (namesL_perm (rs := rs)).length_eq
  simp at h3; omega
theorem open_mem {rs : List Itm} {n : Str} : n ∈ openN rs ↔ n ∈ rs.map (·.1) ∧ exact_ (itN rs n) = false := by
  unfold openN
  rw [List.mem_filter, names_mem]
  simp
def a_check_values (cs : Cs) : ASp := fun ds m Q => ∃ rs vals, ds = [poolR cs rs, valD vals] ∧ PoolOk rs ∧ VOk rs vals ∧ Q .non m
abbrev n_check_values : List Str := ["pool", "values", "wanted", "name", "error"]
theorem sc_check_values : FnScope n_check_values ["pool", "values"] (defScope s_check_values) := ⟨rfl, rfl, rfl, by decide +kernel, rfl, by decide +kernel, by decide +kernel⟩
theorem body_check_values {X : Cx} {k : Nat} {cs : Cs} (hx : XF X (fbOf n_check_values (defScope s_check_values)) k) (hk : 40 ≤ k) (hxe : X.xe = fun _ _ => False) (hs : X.env.scope = defScope s_check_values) (hf : Fc X.prog X.w X.K X.mg X.base cs) (fr : Fr X) (c_Pool_names : Prp X.prog X.w X.K X.mg X.base 1 cs.P "names" (a_Pool_names cs)) (c_Pool_item : Mth X.prog X.w X.K X.mg X.base 1 cs.P "item" (a_Pool_item cs)) (c_Item_is_exact : Prp X.prog X.w X.K X.mg X.base 1 cs.I "is_exact" (a_Item_is_exact cs)) (c_Pool_told : Mth X.prog X.w X.K X.mg X.base 33 cs.P "told" (a_Pool_told cs)) (ds : List D) (m : Mu) (Q : QD) (h : a_check_values cs ds m Q) :
    ASs X (defBody s_check_values) (startR n_check_values ds) m { nx := fun _ m' => Q .non m', rt := Q } := by
  obtain ⟨rs, vals, rfl, ok, vo, q⟩ := h
  show ASs X (defBody s_check_values) [some (poolR cs rs), some (valD vals), none, none, none] m _
  have vl := vo.len
  have ol := ok.len
  have vs : (vals.map (·.1)).length < sizeLine := by rw [List.length_map]; exact Nat.lt_of_lt_of_le (show vals.length < 60 by omega) (by decide)
  have nl : (namesL rs).length = rs.length := by have := (namesL_perm (rs := rs)).length_eq; simpa using this
  walk_at "e"
  refine AS.setLcIf (f := D.str) (g := D.str) (t := fun n => !exact_ (itN rs n)) hx hs (by with_reducible (walk_at "nth")) (by decide +kernel) (by with_reducible (walk_at "nth")) (by decide +kernel) (by simp only [swapsWith, Env.blockKind, Env.kindOf, hs]; rfl) ?_
  refine AI.list ?_
  refine AE.prp c_Pool_names hx (by omega) ?_
  walk_at "e"
  refine ⟨_, .im, rs, rfl, Nat.lt_trans ok.len (by decide), _, .im, namesL rs, rfl, by rw [nl]; exact Nat.lt_of_lt_of_le ol (by decide), fun _ _ => .im, ?_, ?_⟩
  · intro n hn m' hm'
    obtain ⟨hh, en⟩ := names_has hn
    refine ⟨_, by walk_at "sr", ?_, fun _ => ?_⟩
    · refine ABT.of hx hs fun s0 H0 C0 cl0 fp0 hb hbs => ?_
      refine AT.not ?_
      refine AT.val ?_
      refine AE.prp c_Item_is_exact hb (by omega) ?_
      refine AE.mth c_Pool_item hb (by omega) ?_
      walk_at "e"
      refine ⟨_, .im, rfl, ?_⟩
      walk_at "es"
      exact ⟨rs, _, by rw [en], hh, _, .im, _, rfl, _, rfl, rfl, rfl⟩
    · refine ABE.of hx hs fun s0 H0 C0 cl0 fp0 hb hbs => ?_
      walk_at "es"
      exact ⟨rfl, rfl⟩
  have eo : (namesL rs).filter (fun n => !exact_ (itN rs n)) = openN rs := rfl
  rw [eo]
  refine ⟨_, by walk_at "sr", ?_⟩
  walk_at "e"
  walk_at "es"
  refine AE.bIsi hx fr ?_
  walk_at "es"
  refine AE.bTy hx fr ?_ rfl (by decide +kernel) (by decide +kernel)
  refine ⟨_, _, _, .dic .im, .ty, kit_dict _, ?_⟩
  walk_at "e"; walk_at "e"; walk_at "e"; walk_at "e"; walk_at "e"
  refine AE.bAll hx fr ?_
  refine AE.lcMap (f := D.str) (g := fun _ => .bl true) hx hs (by with_reducible (walk_at "nth")) (by decide +kernel) ?_
  refine AI.keys ?_
  walk_at "e"
  refine ⟨_, rfl, vals.map (·.1), valD_keys, vs, fun _ _ => trivial, ?_, ?_⟩
  · intro n hn m' hm'
    refine ⟨_, by walk_at "sr", ?_⟩
    refine ABE.of hx hs fun s0 H0 C0 cl0 fp0 hb hbs => ?_
    refine AE.bIsi hb fr ?_
    walk_at "es"
    refine AE.bTy hb fr ?_ rfl (by decide +kernel) (by decide +kernel)
    exact ⟨_, _, _, .str, .ty, kit_str _, rfl, rfl⟩
  refine ⟨(vals.map (·.1)).map fun _ => true, by simp only [List.map_map]; exact .im, ?_⟩
  rw [show (((vals.map (·.1)).map fun _ => true).all id) = true by simp]
  walk_at "e"; walk_at "e"
  refine AW.or1 ?_
  refine AT.neD eqK_str.list hx (by decide) ?_
  refine AE.bSortDict hx fr ?_
  walk_at "e"
  refine ⟨_, vals.map (·.1), .im, by rw [List.map_map, List.map_map]; rfl, by rw [List.length_map]; omega, fun ys y1 y2 => ?_⟩
  walk_at "e"
  have ey : ys = openN rs := sorted_pw_unique (y1.trans vo.op) (sorted_pw y2) (namesL_pw.filter _)
  have lay : ∀ n ∈ openN rs, PyData.canLay0 (.str n) = true := fun n hn => by
    obtain ⟨r, hr, rfl⟩ := List.mem_map.mp (open_mem.mp hn).1
    exact ok.lay r hr
  refine ⟨ys, openN rs, .im, .im, by rw [ey]; exact lay, lay, nt_and ey ?_⟩
  walk_at "e"; walk_at "e"
  refine AS.tryN hxe ?_
  walk_at "e"
  refine AS.expr ?_
  refine AE.mth c_Pool_told hx (by omega) ?_
  walk_at "e"
  refine ⟨_, .im, rfl, ?_⟩
  walk_at "es"
  refine ⟨rs, vals, rfl, ok.nd, ol, by omega, vo.tk, ?_⟩
  walk_at "es"
  exact q
def a_truth (cs : Cs) : ASp := fun ds m Q => ∃ rs vals, ds = [poolR cs rs, valD vals] ∧ PoolOk rs ∧ VOk rs vals ∧ Q (poolR cs (tellL vals rs)) m
abbrev n_truth : List Str := ["pool", "values"]
theorem sc_truth : FnScope n_truth ["pool", "values"] (defScope s_truth) := ⟨rfl, rfl, rfl, by decide +kernel, rfl, by decide +kernel, by decide +kernel⟩
theorem body_truth {X : Cx} {k : Nat} {cs : Cs} (hx : XF X (fbOf n_truth (defScope s_truth)) k) (hk : 48 ≤ k) (hxe : X.xe = fun _ _ => False) (hs : X.env.scope = defScope s_truth) (hf : Fc X.prog X.w X.K X.mg X.base cs) (fr : Fr X) (c_check_values : Cal X.prog X.w X.K X.mg X.base 41 "check_values" (a_check_values cs)) (c_Pool_told : Mth X.prog X.w X.K X.mg X.base 33 cs.P "told" (a_Pool_told cs)) (ds : List D) (m : Mu) (Q : QD) (h : a_truth cs ds m Q) :
    ASs X (defBody s_truth) (startR n_truth ds) m { nx := fun _ m' => Q .non m', rt := Q } := by
  obtain ⟨rs, vals, rfl, ok, vo, q⟩ := h
  show ASs X (defBody s_truth) [some (poolR cs rs), some (valD vals)] m _
  have vl := vo.len
  have ol := ok.len
  walk_at "e"
  refine AS.expr ?_
  refine AE.callC c_check_values hx (by omega) (by decide +kernel) ?_
  walk_at "es"
  refine ⟨rs, vals, rfl, ok, vo, ?_⟩
  walk_at "e"; walk_at "e"
  refine AE.mth c_Pool_told hx (by omega) ?_
  walk_at "e"
  refine ⟨_, .im, rfl, ?_⟩
  walk_at "es"
  refine ⟨rs, vals, rfl, ok.nd, ol, by omega, vo.tk, ?_⟩
  walk_at "es"
  exact q
def y_open_names (cs : Cs) (ds es : List D) : Prop := ∃ rs, ds = [poolR cs rs] ∧ rs.length < 60 ∧ es = (openN rs).map D.str
abbrev n_open_names : List Str := ["pool", "name"]
theorem sc_open_names : GScope n_open_names ["pool"] (defScope s_open_names) := ⟨rfl, rfl, rfl, by decide +kernel, rfl, by decide +kernel, by decide +kernel⟩
theorem body_open_names {G : Slp.Gen} {k : Nat} {cs : Cs} (hx0 : XF G.X (fbOf n_open_names (defScope s_open_names)) k) (hk : 8 ≤ k) (F : G.Fit) (hs0 : G.X.env.scope = defScope s_open_names) (hf : Fc G.X.prog G.X.w G.X.K G.X.mg G.X.base cs) (fr : Fr G.X) (c_Pool_names : Prp G.X.prog G.X.w G.X.K G.X.mg G.X.base 1 cs.P "names" (a_Pool_names cs)) (c_Pool_item : Mth G.X.prog G.X.w G.X.K G.X.mg G.X.base 1 cs.P "item" (a_Pool_item cs)) (c_Item_is_exact : Prp G.X.prog G.X.w G.X.K G.X.mg G.X.base 1 cs.I "is_exact" (a_Item_is_exact cs)) (ds es : List D) (h : y_open_names cs ds es) (he : G.ds = es) :
    Slp.AYs G (defBody s_open_names) [] 0 (startR n_open_names ds) fun i _ => i = G.ds.length := by
  obtain ⟨rs, rfl, h1, rfl⟩ := h
  show Slp.AYs G (defBody s_open_names) [] 0 [some (poolR cs rs), none] _
  let out : Nat → List Str := fun n => ((namesL rs).take n).filter fun n => !exact_ (itN rs n)
  refine Slp.AYs.cons (Slp.AY.for F hx0.calm ((namesL rs).map D.str) (fun n i ρ => i = (out n).length ∧ ∃ o, ρ = [some (poolR cs rs), o]) (fun n i ρ => i = (out n).length ∧ ∃ a, (namesL rs)[n]? = some a ∧ ρ = [some (poolR cs rs), some (.str a)]) ?_ ⟨by simp [out], _, rfl⟩ ?_ ?_ ?_)
  · intro s0 H0 m
    have hx := hx0.gx s0 H0
    refine AI.list ?_
    refine AE.prp c_Pool_names hx (by omega) ?_
    walk_at "e"
    exact ⟨_, .im, rs, rfl, Nat.lt_trans h1 (by decide), _, .im, rfl, rfl, fun _ _ _ _ _ => .im⟩
  · rintro n d i ρ s0 H0 m hd ⟨rfl, o, rfl⟩
    have hx := hx0.gx s0 H0
    rw [List.getElem?_map] at hd
    cases q : (namesL rs)[n]? with
    | none => rw [q] at hd; cases hd
    | some a =>
      rw [q] at hd; cases hd
      exact AG.name hx (by with_reducible (walk_at "nth")) (by decide +kernel) ⟨_, by walk_at "sr", rfl, rfl, a, rfl, rfl⟩
  · rintro n d i ρ ip hd ⟨rfl, a, ha, rfl⟩
    obtain ⟨hh, en⟩ := names_has (List.mem_of_getElem? ha)
    have e2 : out (n + 1) = out n ++ if (!exact_ (itN rs a)) = true then [a] else [] := filt_take ha
    refine Slp.AYs.cons (Slp.AY.ifs (b := !exact_ (itN rs a)) F (fun s0 H0 m => ?_) (fun hT => ?_) fun hF => ?_)
    · have hx := hx0.gx s0 H0
      refine AT.not ?_
      refine AT.val ?_
      refine AE.prp c_Item_is_exact hx (by omega) ?_
      refine AE.mth c_Pool_item hx (by omega) ?_
      walk_at "e"
      refine ⟨_, .im, rfl, ?_⟩
      walk_at "es"
      exact ⟨rs, _, by rw [en], hh, _, .im, _, rfl, _, rfl, rfl, rfl⟩
    · have len : (out n).length < (openN rs).length ∧ ((openN rs).map D.str)[(out n).length]? = some (.str a) := by
        have pre : openN rs = out (n + 1) ++ ((namesL rs).drop (n + 1)).filter fun n => !exact_ (itN rs n) := by
          show (namesL rs).filter _ = ((namesL rs).take (n + 1)).filter _ ++ _
          rw [← List.filter_append, List.take_append_drop]
        rw [e2, hT, if_pos rfl] at pre
        rw [pre]; simp
      refine Slp.AYs.cons (Slp.AY.yield F ?_ (fun s0 H0 m => ?_) ?_ (by rw [hs0]; rfl) (by unfold interactive; rw [hs0]; rfl))
      · rw [he, List.length_map]; exact len.1
      · have hx := hx0.gx s0 H0
        walk_at "e"
        exact ⟨rfl, by rw [he]; exact len.2⟩
      · exact Slp.AYs.nil (Slp.AYs.nil ⟨by rw [e2, hT, if_pos rfl]; simp, _, rfl⟩)
    · exact Slp.AYs.nil (Slp.AYs.nil ⟨by rw [e2, hF]; simp, _, rfl⟩)
  · rintro i ρ ⟨e, o, rfl⟩
    refine Slp.AYs.nil ?_
    rw [e, he, List.length_map, List.length_map]
    show ((namesL rs).take (namesL rs).length |>.filter _).length = (openN rs).length
    rw [List.take_length]; rfl
open PySem PySem.Spec PyProof.Rows L2 Ab

/-- the first name whose value lies in the range of r -/
def insB (rl : List Itm) (r : Itm) (n : Str) : Bool := !decide (n = r.1) && (decide (r.2.1 ≤ (itN rl n).2.1) && decide ((itN rl n).2.1 ≤ r.2.2.1))
def strO : Option Str → D
  | some n => .str n
  | none => .non
def a_first_inside (cs : Cs) : ASp := fun ds m Q => ∃ r rl, ds = [itDr cs.I r, poolR cs rl] ∧ rl.length < 60 ∧ (∀ x ∈ rl, exact_ x = true) ∧ Q (strO ((namesL rl).find? (insB rl r))) m
abbrev n_first_inside : List Str := ["item", "real", "name"]
theorem sc_first_inside : FnScope n_first_inside ["item", "real"] (defScope s_first_inside) := ⟨rfl, rfl, rfl, by decide +kernel, rfl, by decide +kernel, by decide +kernel⟩
theorem body_first_inside {X : Cx} {k : Nat} {cs : Cs} (hx : XF X (fbOf n_first_inside (defScope s_first_inside)) k) (hk : 16 ≤ k) (hxe : X.xe = fun _ _ => False) (hs : X.env.scope = defScope s_first_inside) (hf : Fc X.prog X.w X.K X.mg X.base cs) (fr : Fr X) (c_Pool_names : Prp X.prog X.w X.K X.mg X.base 1 cs.P "names" (a_Pool_names cs)) (c_Item_name : Prp X.prog X.w X.K X.mg X.base 1 cs.I "name" (a_Item_name cs)) (c_Item_least : Prp X.prog X.w X.K X.mg X.base 1 cs.I "least" (a_Item_least cs)) (c_Pool_item : Mth X.prog X.w X.K X.mg X.base 1 cs.P "item" (a_Pool_item cs)) (c_Item_value : Prp X.prog X.w X.K X.mg X.base 9 cs.I "value" (a_Item_value cs)) (c_Item_greatest : Prp X.prog X.w X.K X.mg X.base 1 cs.I "greatest" (a_Item_greatest cs)) (ds : List D) (m : Mu) (Q : QD) (h : a_first_inside cs ds m Q) :
    ASs X (defBody s_first_inside) (startR n_first_inside ds) m { nx := fun _ m' => Q .non m', rt := Q } := by
  obtain ⟨r, rl, rfl, l1, ex, q⟩ := h
  show ASs X (defBody s_first_inside) [some (itDr cs.I r), some (poolR cs rl), none] m _
  walk_at "e"
  refine AS.forT (α := Str) D.str hxe hx (AI.list ?_)
  refine AE.prp c_Pool_names hx (by omega) ?_
  walk_at "e"
  refine ⟨_, .im, rl, rfl, Nat.lt_trans l1 (by decide), _, .im, namesL rl, fun pre ρ' m' => (pre.find? (insB rl r) = none) ∧ (∃ o, ρ' = [some (itDr cs.I r), some (poolR cs rl), o]) ∧ m' = m, rfl, ⟨rfl, ⟨_, rfl⟩, rfl⟩, fun _ _ _ _ => .im, ?_, ?_⟩
  · rintro pre n post ρ' m' e ⟨hp, ⟨o, rfl⟩, rfl⟩
    have hn : n ∈ namesL rl := by rw [e]; simp
    obtain ⟨hh, en⟩ := names_has hn
    have hex : exact_ (itN rl n) = true := ex _ hh.mem
    walk_at "e"
    refine ⟨_, by walk_at "sr", ?_⟩
    walk_at "e"; walk_at "e"; walk_at "e"
    refine AT.neS ?_
    walk_at "e"
    refine AE.prp c_Item_name hx (by omega) ?_
    walk_at "es"
    refine ⟨rfl, ?_⟩
    have nV : (!decide (V.str n = V.str r.1)) = !decide (n = r.1) := by simp
    rw [nV]
    have goon : insB rl r n = false → ASs X [] [some (itDr cs.I r), some (poolR cs rl), some (.str n)] m' { nx := fun ρ' m'_1 => ((pre ++ [n]).find? (insB rl r) = none) ∧ (∃ o, ρ' = [some (itDr cs.I r), some (poolR cs rl), o]) ∧ m'_1 = m', rt := Q, ct := fun ρ' m'_1 => ((pre ++ [n]).find? (insB rl r) = none) ∧ (∃ o, ρ' = [some (itDr cs.I r), some (poolR cs rl), o]) ∧ m'_1 = m', bk := fun ρ' m'_1 => ASs X ((defBody s_first_inside).drop 1) ρ' m'_1 { nx := fun _ m' => Q .non m', rt := Q } } := fun hi => by
      refine ASs.nil ⟨?_, ⟨_, rfl⟩, rfl⟩
      rw [List.find?_append, hp, List.find?_cons, hi]; rfl
    refine ns_and (fun hq => ?_) fun hq => ?_
    · exact ff_and (ASs.nil (goon (by unfold insB; rw [decide_eq_true hq]; rfl)))
    · refine AW.and1 ?_
      refine AT.chain oa_le oa_le ?_
      refine AE.prp c_Item_least hx (by omega) ?_
      walk_at "es"
      refine AE.prp c_Item_value hx (by omega) ?_
      refine AE.mth c_Pool_item hx (by omega) ?_
      walk_at "e"
      refine ⟨_, .im, rfl, ?_⟩
      walk_at "es"
      refine ⟨rl, itN rl n, by rw [en], hh, _, .im, itN rl n, rfl, ?_⟩
      rw [show valI (itN rl n) = .int (itN rl n).2.1 by unfold valI; rw [if_pos hex]]
      refine ⟨_, _, rfl, rfl, ?_⟩
      refine ⟨_, rfl, ds_and (fun h1 => ?_) fun h1 => ?_⟩
      · refine AE.prp c_Item_greatest hx (by omega) ?_
        walk_at "es"
        refine ds_and (fun h2 => ?_) fun h2 => ?_
        · walk_at "es"
          have hi : insB rl r n = true := by unfold insB; rw [decide_eq_false hq, decide_eq_true h1, decide_eq_true h2]; rfl
          have hf2 : (namesL rl).find? (insB rl r) = some n := by rw [e, List.find?_append, hp, List.find?_cons, hi]; rfl
          rw [hf2] at q; exact q
        · refine ASs.nil ?_
          exact goon (by unfold insB; rw [decide_eq_false h2]; simp)
      · exact ⟨_, rfl, ff_and (ASs.nil (goon (by unfold insB; rw [decide_eq_false h1]; simp)))⟩
  · rintro ρ' m' ⟨hp, ⟨o, rfl⟩, rfl⟩
    rw [hp] at q
    walk_at "es"
    exact q
theorem itN_nd2 {rs : List Itm} {r : Itm} (nd : (rs.map (·.1)).Nodup) (h : r ∈ rs) : itN rs r.1 = r := itN_of (has_of nd h)
theorem tellL_names {vals : List (Str × Int)} {rs : List Itm} : (tellL vals rs).map (·.1) = rs.map (·.1) := by
  unfold tellL
  rw [List.map_map]
  exact List.map_congr_left fun r _ => tell_name
theorem tell_exact {rs : List Itm} {vals : List (Str × Int)} (nd : (rs.map (·.1)).Nodup) (vo : VOk rs vals) : ∀ x ∈ tellL vals rs, exact_ x = true := fun x hx => by
  unfold tellL at hx
  obtain ⟨r, hr, rfl⟩ := List.mem_map.mp hx
  have hm : r.1 ∈ rs.map (·.1) := List.mem_map.mpr ⟨r, hr, rfl⟩
  unfold tellI
  cases he : exact_ r with
  | true =>
    cases q : vals.lookup r.1 with
    | none => exact he
    | some v => unfold exact_; simp
  | false =>
    have : r.1 ∈ vals.map (·.1) := vo.op.mem_iff.mpr (open_mem.mpr ⟨hm, by rw [itN_nd2 nd hr]; exact he⟩)
    rw [lookup_val this]
    unfold exact_; simp
/-- the names of the needed items -/
def needB (rs : List Itm) (vals : List (Str × Int)) (n : Str) : Bool := ((namesL (tellL vals rs)).find? (insB (tellL vals rs) (itN rs n))).isSome
def needN (rs : List Itm) (vals : List (Str × Int)) : List Str := (openN rs).filter (needB rs vals)
def a_needed (cs : Cs) : ASp := fun ds m Q => ∃ rs vals, ds = [poolR cs rs, valD vals] ∧ PoolOk rs ∧ VOk rs vals ∧ ∀ a, m a = none → Q (.ref a) (updM m a (.lst ((needN rs vals).map D.str)))
abbrev n_needed : List Str := ["pool", "values", "real", "name"]
theorem sc_needed : FnScope n_needed ["pool", "values"] (defScope s_needed) := ⟨rfl, rfl, rfl, by decide +kernel, rfl, by decide +kernel, by decide +kernel⟩
theorem body_needed {X : Cx} {k : Nat} {cs : Cs} (hx : XF X (fbOf n_needed (defScope s_needed)) k) (hk : 56 ≤ k) (hxe : X.xe = fun _ _ => False) (hs : X.env.scope = defScope s_needed) (hf : Fc X.prog X.w X.K X.mg X.base cs) (fr : Fr X) (c_truth : Cal X.prog X.w X.K X.mg X.base 49 "truth" (a_truth cs)) (c_open_names : GCal X.prog X.w X.K X.mg X.base 8 "open_names" (y_open_names cs)) (c_first_inside : Cal X.prog X.w X.K X.mg X.base 17 "first_inside" (a_first_inside cs)) (c_Pool_item : Mth X.prog X.w X.K X.mg X.base 1 cs.P "item" (a_Pool_item cs)) (ds : List D) (m : Mu) (Q : QD) (h : a_needed cs ds m Q) :
    ASs X (defBody s_needed) (startR n_needed ds) m { nx := fun _ m' => Q .non m', rt := Q } := by
  obtain ⟨rs, vals, rfl, ok, vo, q⟩ := h
  show ASs X (defBody s_needed) [some (poolR cs rs), some (valD vals), none, none] m _
  have ol := ok.len
  have os := open_len (rs := rs)
  walk_at "es"
  refine AE.callC c_truth hx (by omega) (by decide +kernel) ?_
  walk_at "es"
  refine ⟨rs, vals, rfl, ok, vo, ?_⟩
  refine ⟨_, by walk_at "sr", ?_⟩
  walk_at "e"; walk_at "e"
  refine AE.lcGIfM (f := D.str) (g := D.str) (t := needB rs vals) hx (by omega) hs (by with_reducible (walk_at "nth")) (by decide +kernel) (AGen.call c_open_names hx (by omega) (by decide +kernel) ?_)
  walk_at "es"
  refine ⟨rfl, ⟨_, rs, rfl, ol, rfl⟩, openN rs, ⟨rs, rfl, ol, rfl⟩, Nat.lt_of_lt_of_le (show (openN rs).length < 60 by omega) (by decide), ?_, q⟩
  intro n hn m' hm'
  obtain ⟨hh, en⟩ := names_has (List.mem_filter.mp hn).1
  refine ⟨_, by walk_at "sr", ?_, fun _ => ?_⟩
  · refine ABT.of hx hs fun s0 H0 C0 cl0 fp0 hb hbs => ?_
    refine AT.notN ?_
    refine AE.callC c_first_inside hb (by omega) (by decide +kernel) ?_
    walk_at "e"
    refine AE.mth c_Pool_item hb (by omega) ?_
    walk_at "e"
    refine ⟨_, .im, rfl, ?_⟩
    walk_at "es"
    refine ⟨rs, _, by rw [en], hh, ?_⟩
    walk_at "es"
    refine ⟨_, _, rfl, by rw [tellL, List.length_map]; exact ol, tell_exact ok.nd vo, rfl, ?_⟩
    unfold needB
    cases (namesL (tellL vals rs)).find? (insB (tellL vals rs) (itN rs n)) <;> rfl
  · refine ABE.of hx hs fun s0 H0 C0 cl0 fp0 hb hbs => ?_
    walk_at "es"
    exact ⟨rfl, rfl⟩
open PySem PySem.Spec PyProof.Rows L2 Ab

def overlap_ (a b : Itm) : Bool := decide (a.2.1 ≤ b.2.2.1) && decide (b.2.1 ≤ a.2.2.1)
abbrev a_overlap (cs : Cs) : ASp := aTwo overlap_ cs
abbrev n_overlap : List Str := ["first", "second"]
theorem sc_overlap : FnScope n_overlap ["first", "second"] (defScope s_overlap) := ⟨rfl, rfl, rfl, by decide +kernel, rfl, by decide +kernel, by decide +kernel⟩
theorem body_overlap {X : Cx} {k : Nat} {cs : Cs} (hx : XF X (fbOf n_overlap (defScope s_overlap)) k) (hk : 8 ≤ k) (hxe : X.xe = fun _ _ => False) (hs : X.env.scope = defScope s_overlap) (hf : Fc X.prog X.w X.K X.mg X.base cs) (fr : Fr X) (c_Item_least : Prp X.prog X.w X.K X.mg X.base 1 cs.I "least" (a_Item_least cs)) (c_Item_greatest : Prp X.prog X.w X.K X.mg X.base 1 cs.I "greatest" (a_Item_greatest cs)) (ds : List D) (m : Mu) (Q : QD) (h : a_overlap cs ds m Q) :
    ASs X (defBody s_overlap) (startR n_overlap ds) m { nx := fun _ m' => Q .non m', rt := Q } := by
  obtain ⟨r1, r2, rfl, q⟩ := h
  show ASs X (defBody s_overlap) [some (itDr cs.I r1), some (itDr cs.I r2)] m _
  walk_at "e"; walk_at "e"
  refine AE.and ?_
  walk_at "e"
  refine AE.prp c_Item_least hx (by omega) ?_
  walk_at "es"
  refine AE.prp c_Item_greatest hx (by omega) ?_
  walk_at "es"
  refine ds_and (fun h1 => ?_) fun h1 => ?_
  · refine AE.one ?_
    walk_at "e"
    refine AE.prp c_Item_least hx (by omega) ?_
    walk_at "es"
    refine AE.prp c_Item_greatest hx (by omega) ?_
    walk_at "es"
    unfold overlap_ at q
    rw [decide_eq_true h1] at q
    exact q
  · unfold overlap_ at q
    rw [decide_eq_false h1] at q
    exact q
/-- the paths so far, the last one, the last item -/
abbrev PSt := List (List Str) × List Str × Option Itm
def stepP (st : PSt) (r : Itm) : PSt := match st.2.2 with
  | none => (st.1, [r.1], some r)
  | some l => if overlap_ l r = true then (st.1, st.2.1 ++ [r.1], some r) else (st.1 ++ [st.2.1], [r.1], some r)
def endP (st : PSt) : List (List Str) := match st.2.2 with
  | none => st.1
  | some _ => st.1 ++ [st.2.1]
def pathsL (L : List Itm) : List (List Str) := endP (L.foldl stepP ([], [], none))
/-- the open items that are not needed, in order -/
def restL (rs : List Itm) (vals : List (Str × Int)) : List Itm := (((openN rs).filter fun n => !decide (n ∈ needN rs vals)).map (itN rs)).mergeSort (PySem.W.dataLe false fun r => dP (keyI r))
def pathsN (rs : List Itm) (vals : List (Str × Int)) : List (List Str) := pathsL (restL rs vals)
def lastD (cs : Cs) : Option Itm → D
  | none => .non
  | some r => itDr cs.I r
/-- how the list of the paths stands -/
def PathM (m : Mu) (b : Addr) (st : PSt) (m' : Mu) : Prop := match st.2.2 with
  | none => st.1 = [] ∧ m' = updM m b (.lst [])
  | some _ => ∃ a, b ≠ a ∧ m a = none ∧ m' = updM (updM m a (.lst (st.2.1.map D.str))) b (.lst (st.1.map namD ++ [.ref a]))
theorem any_mem {xs : List Str} {x : Str} {f : Str → D} : ((List.range (xs.map f).length).any fun i => decide (xs[i]? = some x)) = decide (x ∈ xs) := by
  rw [Bool.eq_iff_iff, List.any_eq_true, decide_eq_true_iff]
  constructor
  · rintro ⟨i, _, h⟩
    exact List.mem_of_getElem? (of_decide_eq_true h)
  · intro h
    obtain ⟨i, hi, e⟩ := List.mem_iff_getElem.mp h
    exact ⟨i, by simpa using hi, decide_eq_true (by rw [List.getElem?_eq_getElem hi, e])⟩
theorem fold_len : ∀ {L : List Itm} {st : PSt}, (L.foldl stepP st).1.length ≤ st.1.length + L.length ∧ (L.foldl stepP st).2.1.length ≤ st.2.1.length + L.length + 1
  | [], _ => ⟨Nat.le_refl _, by simp⟩
  | r :: t, st => by
    obtain ⟨h1, h2⟩ := fold_len (L := t) (st := stepP st r)
    rw [List.foldl_cons, List.length_cons]
    have h3 : (stepP st r).1.length ≤ st.1.length + 1 ∧ (stepP st r).2.1.length ≤ st.2.1.length + 1 := by
      unfold stepP
      split
      · simp
      · split <;> simp
    omega
def a_paths (cs : Cs) : ASp := fun ds m Q => ∃ rs vals, ds = [poolR cs rs, valD vals] ∧ PoolOk rs ∧ VOk rs vals ∧ Q (.lst ((pathsN rs vals).map namD)) m
abbrev n_paths : List Str := ["pool", "values", "gone", "items", "name", "found", "last", "item"]
theorem sc_paths : FnScope n_paths ["pool", "values"] (defScope s_paths) := ⟨rfl, rfl, rfl, by decide +kernel, rfl, by decide +kernel, by decide +kernel⟩
theorem body_paths {X : Cx} {k : Nat} {cs : Cs} (hx : XF X (fbOf n_paths (defScope s_paths)) k) (hk : 64 ≤ k) (hxe : X.xe = fun _ _ => False) (hs : X.env.scope = defScope s_paths) (hf : Fc X.prog X.w X.K X.mg X.base cs) (fr : Fr X) (c_needed : Cal X.prog X.w X.K X.mg X.base 57 "needed" (a_needed cs)) (c_open_names : GCal X.prog X.w X.K X.mg X.base 8 "open_names" (y_open_names cs)) (c_Pool_item : Mth X.prog X.w X.K X.mg X.base 1 cs.P "item" (a_Pool_item cs)) (c_sort_key : Cal X.prog X.w X.K X.mg X.base 9 "sort_key" (a_sort_key cs)) (c_overlap : Cal X.prog X.w X.K X.mg X.base 9 "overlap" (a_overlap cs)) (c_Item_name : Prp X.prog X.w X.K X.mg X.base 1 cs.I "name" (a_Item_name cs)) (ds : List D) (m : Mu) (Q : QD) (h : a_paths cs ds m Q) :
    ASs X (defBody s_paths) (startR n_paths ds) m { nx := fun _ m' => Q .non m', rt := Q } := by
  obtain ⟨rs, vals, rfl, ok, vo, q⟩ := h
  show ASs X (defBody s_paths) [some (poolR cs rs), some (valD vals), none, none, none, none, none, none] m _
  have ol := ok.len
  have os := open_len (rs := rs)
  walk_at "e"; walk_at "e"
  refine AE.vw ?_
  refine AE.callC c_needed hx (by omega) (by decide +kernel) ?_
  walk_at "es"
  refine ⟨rs, vals, rfl, ok, vo, fun g ng => ?_⟩
  refine ⟨_, _, VW.frz updM_same, ?_⟩
  rw [delM_updM ng]
  refine ⟨_, by walk_at "sr", ?_⟩
  walk_at "e"
  refine AS.setLcGIf (f := D.str) (g := fun n => itDr cs.I (itN rs n)) (t := fun n => !decide (n ∈ needN rs vals)) hx (by omega) hs (by with_reducible (walk_at "nth")) (by decide +kernel) (by with_reducible (walk_at "nth")) (by decide +kernel) (by simp only [swapsWith, Env.blockKind, Env.kindOf, hs]; rfl) (AGen.call c_open_names hx (by omega) (by decide +kernel) ?_)
  walk_at "es"
  refine ⟨rfl, ⟨_, rs, rfl, ol, rfl⟩, openN rs, ⟨rs, rfl, ol, rfl⟩, Nat.lt_of_lt_of_le (show (openN rs).length < 60 by omega) (by decide), ?_, ?_⟩
  · intro n hn m' hm'
    obtain ⟨hh, en⟩ := names_has (List.mem_filter.mp hn).1
    refine ⟨_, by walk_at "sr", ?_, fun _ => ?_⟩
    · refine ABT.of hx hs fun s0 H0 C0 cl0 fp0 hb hbs => ?_
      refine AT.notinG hb ?_
      walk_at "e"; walk_at "e"
      exact ⟨0, _, fun i => decide ((needN rs vals)[i]? = some n), by decide, .im, eqF_str.mem, rfl, by rw [any_mem]⟩
    · refine ABE.of hx hs fun s0 H0 C0 cl0 fp0 hb hbs => ?_
      refine AE.mth c_Pool_item hb (by omega) ?_
      walk_at "e"
      refine ⟨_, .im, rfl, ?_⟩
      walk_at "es"
      exact ⟨rs, _, by rw [en], hh, rfl, rfl⟩
  refine ⟨_, by walk_at "sr", ?_⟩
  walk_at "e"; walk_at "e"
  refine AE.lstM ?_
  walk_at "e"
  refine ⟨Nat.zero_le _, fun b nb => ?_⟩
  refine ⟨_, by walk_at "sr", ?_⟩
  walk_at "e"; walk_at "e"; walk_at "e"
  refine ⟨_, by walk_at "sr", ?_⟩
  walk_at "e"
  refine AS.forT (α := Itm) (itDr cs.I) hxe hx (AI.list ?_)
  refine AE.sortedK (f := itDr cs.I) (kd := keyI) c_sort_key hxe hx (by omega) (by decide +kernel) (fr _ (by decide +kernel)) rfl (by decide +kernel) ?_
  walk_at "e"
  have len0 : (((openN rs).filter fun n => !decide (n ∈ needN rs vals)).map (itN rs)).length < 60 := by
    rw [List.length_map]; exact Nat.lt_of_le_of_lt (List.length_filter_le _ _) (by omega)
  have lenR : (restL rs vals).length < 60 := by
    unfold restL; rw [(sort_perm _ _).length_eq]; exact len0
  refine ⟨rfl, ((openN rs).filter fun n => !decide (n ∈ needN rs vals)).map (itN rs), by rw [List.map_map]; exact .im, Nat.le_trans (Nat.le_of_lt len0) (by decide), keyD_items fun r hr => ?_, fun r hr => ⟨r, rfl, rfl, rfl⟩, _, .im, restL rs vals, fun pre ρ' m' => (∃ o4 o7, ρ' = [some (poolR cs rs), some (valD vals), some (.lst ((needN rs vals).map D.str)), some (.lst (((openN rs).filter fun n => !decide (n ∈ needN rs vals)).map fun n => itDr cs.I (itN rs n))), o4, some (.ref b), some (lastD cs (pre.foldl stepP ([], [], none)).2.2), o7]) ∧ PathM m b (pre.foldl stepP ([], [], none)) m', rfl, ⟨⟨_, _, rfl⟩, rfl, rfl⟩, fun _ _ _ _ => .im, ?_, ?_⟩
  · obtain ⟨n, hn, rfl⟩ := List.mem_map.mp hr
    obtain ⟨hh, en⟩ := names_has (List.mem_filter.mp (List.mem_filter.mp hn).1).1
    exact ok.lay _ hh.mem
  · rintro pre r post ρ' m' e ⟨⟨o4, o7, rfl⟩, hP⟩
    have pl : pre.length < 60 := by have := congrArg List.length e; simp at this; omega
    obtain ⟨fl1, fl2⟩ := fold_len (L := pre) (st := ([], [], none))
    have ef : (pre ++ [r]).foldl stepP ([], [], none) = stepP (pre.foldl stepP ([], [], none)) r := by rw [List.foldl_append]; rfl
    obtain ⟨st, hst⟩ : ∃ st, st = pre.foldl stepP ([], [], none) := ⟨_, rfl⟩
    rw [← hst] at hP fl1 fl2 ef ⊢
    clear hst
    obtain ⟨fs, cur, last⟩ := st
    simp only [List.length_nil, Nat.zero_add] at fl1 fl2
    walk_at "e"
    refine ⟨_, by walk_at "sr", ?_⟩
    refine ASs.cut (fun ρ' m' => (∃ o4 o7, ρ' = [some (poolR cs rs), some (valD vals), some (.lst ((needN rs vals).map D.str)), some (.lst (((openN rs).filter fun n => !decide (n ∈ needN rs vals)).map fun n => itDr cs.I (itN rs n))), o4, some (.ref b), o7, some (itDr cs.I r)]) ∧ PathM m b (stepP (fs, cur, last) r) m') ?_ ?_
    · walk_at "e"; walk_at "e"
      refine AT.notN ?_
      walk_at "e"
      cases last with
      | none =>
        obtain ⟨h1, h2⟩ := hP
        simp only at h1
        subst h1 h2
        refine ff_and ?_
        refine ff_and ?_
        walk_at "e"
        refine AS.expr ?_
        refine AE.bm F.plainAttrs_list F.slot_list_append F.type_list_append ma_append ?_
        walk_at "e"
        refine ⟨.list (.mu updM_same), ?_⟩
        walk_at "e"
        refine AE.lstM ?_
        walk_at "e"
        refine AE.prp c_Item_name hx (by omega) ?_
        walk_at "es"
        refine ⟨(show 1 ≤ sizeLine by decide), fun a na => ?_⟩
        obtain ⟨nab, na⟩ := updM_none na
        walk_at "es"
        refine ⟨b, [], _, rfl, rfl, by rw [updM_ne nab.symm, updM_same], Nat.lt_of_le_of_lt (Nat.zero_le _) (show 0 < sizeLine by decide), ?_⟩
        walk_at "e"
        refine ⟨⟨_, _, rfl⟩, a, nab.symm, na, ?_⟩
        rw [updM_comm nab.symm, updM_updM]
        rfl
      | some l =>
        obtain ⟨a, nab, na, hm⟩ := hP
        simp only at hm
        subst hm
        refine tt_and ?_
        refine AW.and1 (AT.val ?_)
        refine AE.callC c_overlap hx (by omega) (by decide +kernel) ?_
        walk_at "es"
        refine ⟨l, r, rfl, ?_⟩
        refine ⟨_, rfl, fun ho => ?_, fun ho => ?_⟩
        · walk_at "e"
          refine AS.expr ?_
          refine AE.bm F.plainAttrs_list F.slot_list_append F.type_list_append ma_append ?_
          refine AE.ix ixa_list ?_
          walk_at "e"
          refine AE.neg ?_
          walk_at "e"
          refine ⟨1, rfl, _, _, .ref a, .mu updM_same, rfl, ?_, ?_⟩
          · unfold atI
            have e0 : ixN (fs.map namD ++ [D.ref a]).length (-1) = some fs.length := by
              unfold ixN; simp; omega
            rw [e0]; simp
          refine ⟨.list (.mu (by rw [updM_ne nab.symm, updM_same])), ?_⟩
          walk_at "e"
          refine AE.prp c_Item_name hx (by omega) ?_
          walk_at "es"
          refine ⟨a, _, _, rfl, rfl, by rw [updM_ne nab.symm, updM_same], by rw [List.length_map]; exact Nat.lt_of_lt_of_le (show cur.length < 100 by omega) (by decide), ?_⟩
          walk_at "e"
          refine ⟨⟨_, _, rfl⟩, ?_⟩
          unfold stepP
          simp only [ho, if_true]
          refine ⟨a, nab, na, ?_⟩
          rw [updM_comm nab, updM_updM, List.map_append]
          rfl
        · refine ASs.vw (VW.elem (es := fs.map namD) (u := .lst (cur.map D.str)) updM_same (by rw [updM_ne nab.symm, updM_same]) nab) ?_
          rw [delM_updM2 nab.symm, delM_updM na, updM_updM]
          walk_at "e"
          refine AS.expr ?_
          refine AE.bm F.plainAttrs_list F.slot_list_append F.type_list_append ma_append ?_
          walk_at "e"
          refine ⟨.list (.mu updM_same), ?_⟩
          walk_at "e"
          refine AE.lstM ?_
          walk_at "e"
          refine AE.prp c_Item_name hx (by omega) ?_
          walk_at "es"
          refine ⟨(show 1 ≤ sizeLine by decide), fun a2 na2 => ?_⟩
          obtain ⟨nab2, na2⟩ := updM_none na2
          walk_at "es"
          refine ⟨b, _, _, rfl, rfl, by rw [updM_ne nab2.symm, updM_same], by simp only [List.length_append, List.length_map, List.length_singleton]; exact Nat.lt_of_lt_of_le (show fs.length + 1 < 100 by omega) (by decide), ?_⟩
          walk_at "e"
          refine ⟨⟨_, _, rfl⟩, ?_⟩
          unfold stepP
          simp only [ho, Bool.false_eq_true, if_false]
          refine ⟨a2, nab2.symm, na2, ?_⟩
          rw [updM_comm nab2.symm, updM_updM, List.map_append]
          rfl
    · rintro ρ' m' ⟨⟨o4, o7, rfl⟩, hP⟩
      walk_at "e"
      walk_at "e"
      walk_at "e"
      refine ⟨_, by walk_at "sr", ?_⟩
      walk_at "e"
      have hl : lastD cs (stepP (fs, cur, last) r).2.2 = itDr cs.I r := by
        unfold stepP
        cases last with
        | none => rfl
        | some l => simp only; split <;> rfl
      refine ⟨⟨o4, some (itDr cs.I r), by rw [ef, hl]⟩, ?_⟩
      show PathM m b ((pre ++ [r]).foldl stepP ([], [], none)) _
      rw [ef]; exact hP
  · rintro ρ' m' ⟨⟨o4, o7, rfl⟩, hP⟩
    have ep : pathsN rs vals = endP ((restL rs vals).foldl stepP ([], [], none)) := rfl
    rw [ep] at q
    obtain ⟨st, hst⟩ : ∃ st, st = (restL rs vals).foldl stepP ([], [], none) := ⟨_, rfl⟩
    rw [← hst] at hP q ⊢
    clear hst
    obtain ⟨fs, cur, last⟩ := st
    cases last with
    | none =>
      obtain ⟨h1, h2⟩ := hP
      simp only at h1
      subst h1 h2
      walk_at "e"; walk_at "e"
      refine AE.vw ?_
      walk_at "e"
      refine ⟨_, _, VW.frz updM_same, ?_⟩
      rw [delM_updM nb]
      exact q
    | some l =>
      obtain ⟨a, nab, na, hm⟩ := hP
      simp only at hm
      subst hm
      refine ASs.vw (VW.elem (es := fs.map namD) (u := .lst (cur.map D.str)) updM_same (by rw [updM_ne nab.symm, updM_same]) nab) ?_
      rw [delM_updM2 nab.symm, delM_updM na, updM_updM]
      walk_at "e"; walk_at "e"
      refine AE.vw ?_
      walk_at "e"
      refine ⟨_, _, VW.frz updM_same, ?_⟩
      rw [delM_updM nb]
      unfold endP at q
      simp only [List.map_append] at q
      exact q
open PySem PySem.Spec PyProof.Rows L2 Ab

abbrev Cov := Int × List Str
def covD (p : Cov) : D := .tup [.int p.1, .lst (p.2.map D.str)]
def priceN (rs : List Itm) (n : Str) : Int := (itN rs n).2.2.2
def minC (p q : Cov) : Cov := if PySem.W.dataLt (dP (covD q)) (dP (covD p)) = true then q else p
/-- a step along a path -/
def stepC (rs : List Itm) (st : Option Cov × Cov) (n : Str) : Option Cov × Cov :=
  let best := match st.1 with
    | none => st.2
    | some t => minC t st.2
  (some (best.1 + priceN rs n, best.2 ++ [n]), match st.1 with
    | none => (0, [])
    | some t => t)
def endC (st : Option Cov × Cov) : Cov := match st.1 with
  | none => st.2
  | some t => minC t st.2
def coverP (rs : List Itm) (path : List Str) : Cov := endC (path.foldl (stepC rs) (none, (0, [])))
def covO : Option Cov → D
  | none => .non
  | some p => covD p
theorem alike_strs : ∀ xs ys : List Str, PySem.W.alikeAll (dPs (xs.map D.str)) (dPs (ys.map D.str)) = true
  | [], _ => by cases ‹List Str› <;> simp [dPs, PySem.W.alikeAll]
  | _ :: _, [] => by simp [dPs, PySem.W.alikeAll]
  | x :: xs, y :: ys => by simp [dPs, dP, PySem.W.alikeAll, PySem.W.alike, alike_strs xs ys]
theorem alike_cov (p q : Cov) : PySem.W.alike (dP (covD p)) (dP (covD q)) = true := by
  simp [covD, dP, dPs, PySem.W.alike, PySem.W.alikeAll, alike_strs]
theorem isPs_strs : ∀ {xs : List Str}, (∀ x ∈ xs, PyData.canLay0 (.str x) = true) → isPs (xs.map D.str) = true
  | [], _ => by simp [isPs]
  | x :: xs, h => by simp [isPs, isP, h x List.mem_cons_self, isPs_strs fun y hy => h y (List.mem_cons_of_mem _ hy)]
theorem isP_cov {p : Cov} (h : ∀ x ∈ p.2, PyData.canLay0 (.str x) = true) : isP (covD p) = true := by
  simp [covD, isP, isPs, isPs_strs h]
theorem depth_strs : ∀ xs : List Str, PyData.depthAll (dPs (xs.map D.str)) = 0
  | [] => by simp [dPs, PyData.depthAll]
  | x :: xs => by simp [dPs, dP, PyData.depthAll, PyData.depth, depth_strs xs]
theorem depth_cov (p : Cov) : (dP (covD p)).depth ≤ 30 := by
  simp [covD, dP, dPs, PyData.depth, PyData.depthAll, depth_strs]
theorem minC_or (p q : Cov) : minC p q = p ∨ minC p q = q := by unfold minC; split <;> simp
def covIn (S : List Str) (k : Nat) (st : Option Cov × Cov) : Prop := (∀ p, st.1 = some p → (∀ x ∈ p.2, x ∈ S) ∧ p.2.length ≤ k) ∧ (∀ x ∈ st.2.2, x ∈ S) ∧ st.2.2.length ≤ k
theorem covIn_step {rs : List Itm} {S : List Str} {k : Nat} {st : Option Cov × Cov} {n : Str} (h : covIn S k st) (hn : n ∈ S) : covIn S (k + 1) (stepC rs st n) := by
  obtain ⟨h1, h2, h3⟩ := h
  obtain ⟨tk, lf⟩ := st
  cases tk with
  | none =>
    refine ⟨fun p hp => ?_, by simp [stepC], by simp [stepC]⟩
    cases hp
    refine ⟨fun x hx => ?_, by simpa using h3⟩
    rcases List.mem_append.mp hx with hx | hx
    · exact h2 x hx
    · rw [List.mem_singleton.mp hx]; exact hn
  | some t =>
    obtain ⟨h4, h5⟩ := h1 t rfl
    have hm : (∀ x ∈ (minC t lf).2, x ∈ S) ∧ (minC t lf).2.length ≤ k := by
      rcases minC_or t lf with e | e <;> rw [e]
      · exact ⟨h4, h5⟩
      · exact ⟨h2, h3⟩
    refine ⟨fun p hp => ?_, h4, by simp only [stepC]; omega⟩
    cases hp
    refine ⟨fun x hx => ?_, by have := hm.2; simpa using this⟩
    rcases List.mem_append.mp hx with hx | hx
    · exact hm.1 x hx
    · rw [List.mem_singleton.mp hx]; exact hn
theorem covIn_fold {rs : List Itm} {S : List Str} : ∀ {L : List Str} {k : Nat} {st : Option Cov × Cov}, covIn S k st → (∀ n ∈ L, n ∈ S) → covIn S (k + L.length) (L.foldl (stepC rs) st)
  | [], _, _, h, _ => h
  | n :: L, k, st, h, hL => by
    have := covIn_fold (rs := rs) (L := L) (covIn_step (rs := rs) h (hL n List.mem_cons_self)) fun x hx => hL x (List.mem_cons_of_mem _ hx)
    rw [List.foldl_cons, List.length_cons, show k + (L.length + 1) = k + 1 + L.length by omega]
    exact this
theorem covIn_0 {S : List Str} : covIn S 0 (none, (0, [])) := ⟨fun _ h => (by cases h), by simp, by simp⟩
theorem fold_some {rs : List Itm} : ∀ {L : List Str} {st : Option Cov × Cov}, L ≠ [] → ∃ p, (L.foldl (stepC rs) st).1 = some p
  | [], _, h => absurd rfl h
  | [n], st, _ => ⟨_, rfl⟩
  | n :: k :: L, st, _ => by
    rw [List.foldl_cons]
    exact fold_some (L := k :: L) (by simp)
theorem cover_in {rs : List Itm} {path : List Str} : (∀ x ∈ (coverP rs path).2, x ∈ path) ∧ (coverP rs path).2.length ≤ path.length := by
  obtain ⟨h1, h2, h3⟩ := covIn_fold (rs := rs) (L := path) (covIn_0 (S := path)) fun _ h => h
  rw [Nat.zero_add] at h1 h3
  unfold coverP endC
  generalize path.foldl (stepC rs) (none, (0, [])) = st at h1 h2 h3
  obtain ⟨tk, lf⟩ := st
  cases tk with
  | none => exact ⟨h2, h3⟩
  | some t =>
    rcases minC_or t lf with e | e
    · simp only [e]; exact h1 t rfl
    · simp only [e]; exact ⟨h2, h3⟩
def a_cover (cs : Cs) : ASp := fun ds m Q => ∃ rs path, ds = [poolR cs rs, namD path] ∧ rs.length < 60 ∧ path.length < 60 ∧ path ≠ [] ∧ (∀ n ∈ path, n ∈ rs.map (·.1) ∧ PyData.canLay0 (.str n) = true) ∧ Q (covD (coverP rs path)) m
abbrev n_cover : List Str := ["pool", "path", "taken", "left", "name", "best", "following"]
theorem sc_cover : FnScope n_cover ["pool", "path"] (defScope s_cover) := ⟨rfl, rfl, rfl, by decide +kernel, rfl, by decide +kernel, by decide +kernel⟩
theorem body_cover {X : Cx} {k : Nat} {cs : Cs} (hx : XF X (fbOf n_cover (defScope s_cover)) k) (hk : 8 ≤ k) (hxe : X.xe = fun _ _ => False) (hs : X.env.scope = defScope s_cover) (hf : Fc X.prog X.w X.K X.mg X.base cs) (fr : Fr X) (c_Pool_item : Mth X.prog X.w X.K X.mg X.base 1 cs.P "item" (a_Pool_item cs)) (c_Item_price : Prp X.prog X.w X.K X.mg X.base 1 cs.I "price" (a_Item_price cs)) (ds : List D) (m : Mu) (Q : QD) (h : a_cover cs ds m Q) :
    ASs X (defBody s_cover) (startR n_cover ds) m { nx := fun _ m' => Q .non m', rt := Q } := by
  obtain ⟨rs, path, rfl, l1, l2, pn, hp, q⟩ := h
  show ASs X (defBody s_cover) [some (poolR cs rs), some (namD path), none, none, none, none, none] m _
  walk_at "e"
  refine AS.par (i := 2) (j := 3) hx (by with_reducible (walk_at "nth")) (by with_reducible (walk_at "nth")) (by decide) (by rw [hs]; decide +kernel) (by rw [hs]; decide +kernel) (by simp only [swappedStores, Env.blockKind, Env.kindOf, hs]; rfl) ?_
  walk_at "e"; walk_at "e"; walk_at "e"
  refine AE.tup ?_
  walk_at "e"; walk_at "e"; walk_at "e"
  refine AE.lst ?_
  walk_at "e"
  refine ⟨Nat.zero_le _, ?_⟩
  walk_at "e"
  refine ⟨(show 2 ≤ sizeLine by decide), ?_⟩
  walk_at "e"
  refine ⟨_, _, _, _, rfl, by walk_at "sr", by walk_at "sr", ?_⟩
  walk_at "e"
  refine AS.forT (α := Str) D.str hxe hx (AI.list ?_)
  walk_at "e"
  refine ⟨_, .im, path, fun pre ρ' m' => (∃ o4 o5 o6, ρ' = [some (poolR cs rs), some (namD path), some (covO (pre.foldl (stepC rs) (none, (0, []))).1), some (covD (pre.foldl (stepC rs) (none, (0, []))).2), o4, o5, o6]) ∧ m' = m, rfl, ⟨⟨_, _, _, rfl⟩, rfl⟩, fun _ _ _ _ => .im, ?_, ?_⟩
  · rintro pre n post ρ' m' e ⟨⟨o4, o5, o6, rfl⟩, rfl⟩
    have hn : n ∈ path := by rw [e]; simp
    have pl : pre.length < 60 := by have := congrArg List.length e; simp at this; omega
    have ef : (pre ++ [n]).foldl (stepC rs) (none, (0, [])) = stepC rs (pre.foldl (stepC rs) (none, (0, []))) n := by rw [List.foldl_append]; rfl
    obtain ⟨h1, h2, h3⟩ := covIn_fold (rs := rs) (L := pre) (covIn_0 (S := path)) fun x hx => by rw [e]; simp [hx]
    obtain ⟨st, hst⟩ : ∃ st, st = pre.foldl (stepC rs) (none, (0, [])) := ⟨_, rfl⟩
    rw [← hst] at h1 h2 h3 ef ⊢
    clear hst
    obtain ⟨tk, lf⟩ := st
    obtain ⟨hh, en⟩ := itN_has (hp n hn).1
    walk_at "e"
    refine ⟨_, by walk_at "sr", ?_⟩
    refine ASs.cut (fun ρ' m'' => ρ' = [some (poolR cs rs), some (namD path), some (covO tk), some (covD lf), some (.str n), some (covD (endC (tk, lf))), o6] ∧ m'' = m') ?_ ?_
    · walk_at "e"
      refine AE.ifx ?_
      refine AT.isN ?_
      walk_at "e"
      cases tk with
      | none =>
        refine tt_and ?_
        walk_at "e"
        refine ⟨_, by walk_at "sr", ?_⟩
        exact ⟨rfl, rfl⟩
      | some t =>
        refine ff_and ?_
        refine AE.bMin2D hx fr ?_
        walk_at "e"; walk_at "e"
        refine ⟨isP_cov fun x hx => (hp x ((h1 t rfl).1 x hx)).2, isP_cov fun x hx => (hp x (h2 x hx)).2, alike_cov _ _, by simp [covD, dP], depth_cov _, ?_⟩
        have em : (if PySem.W.dataLt (dP (covD lf)) (dP (covD t)) = true then covD lf else covD t) = covD (minC t lf) := by unfold minC; split <;> rfl
        refine ⟨_, by walk_at "sr", ?_, rfl⟩
        show _ = [_, _, _, _, _, some (covD (minC t lf)), _]
        rw [← em]
        rfl
    · rintro ρ' m'' ⟨rfl, rfl⟩
      have hb : (∀ x ∈ (endC (tk, lf)).2, x ∈ path) ∧ (endC (tk, lf)).2.length ≤ pre.length := by
        cases tk with
        | none => exact ⟨h2, by show lf.2.length ≤ _; simpa using h3⟩
        | some t =>
          show (∀ x ∈ (minC t lf).2, x ∈ path) ∧ (minC t lf).2.length ≤ pre.length
          rcases minC_or t lf with e | e <;> rw [e]
          · exact ⟨(h1 t rfl).1, by simpa using (h1 t rfl).2⟩
          · exact ⟨h2, by simpa using h3⟩
      generalize hbest : endC (tk, lf) = best at hb ⊢
      walk_at "e"; walk_at "e"
      refine AE.tup ?_
      walk_at "e"
      refine AE.add ?_
      refine AE.ix ixa_tup ?_
      walk_at "e"; walk_at "e"
      refine ⟨_, _, _, rfl, rfl, rfl, ?_⟩
      refine AE.prp c_Item_price hx (by omega) ?_
      refine AE.mth c_Pool_item hx (by omega) ?_
      walk_at "e"
      refine ⟨_, .im, rfl, ?_⟩
      walk_at "es"
      refine ⟨rs, itN rs n, by rw [en], hh, _, .im, itN rs n, rfl, ?_⟩
      refine ⟨_, .int, ?_⟩
      walk_at "e"
      refine AE.lst ?_
      refine AA.star ?_
      refine AE.ix ixa_tup ?_
      walk_at "e"; walk_at "e"
      refine ⟨_, _, _, rfl, rfl, rfl, ?_⟩
      refine ⟨_, .im, ?_⟩
      walk_at "e"; walk_at "e"; walk_at "e"
      refine ⟨by simp only [List.length_append, List.length_map, List.length_singleton]; exact Nat.le_trans (show best.2.length + 1 ≤ 100 by omega) (by decide), ?_⟩
      walk_at "e"
      refine ⟨(show 2 ≤ sizeLine by decide), ?_⟩
      have ec : D.tup [.int (best.1 + (itN rs n).2.2.2), .lst (best.2.map D.str ++ [.str n])] = covD (best.1 + priceN rs n, best.2 ++ [n]) := by simp [covD, priceN]
      rw [ec]
      refine ⟨_, by walk_at "sr", ?_⟩
      walk_at "e"; walk_at "e"
      refine AE.imp (Q := fun d m3 => d = covD (stepC rs (tk, lf) n).2 ∧ m3 = m'') ?_ ?_
      · refine AE.ifx ?_
        refine AT.isN ?_
        walk_at "e"
        cases tk with
        | none =>
          refine tt_and ?_
          refine AE.tup ?_
          walk_at "e"; walk_at "e"; walk_at "e"
          refine AE.lst ?_
          walk_at "e"
          refine ⟨Nat.zero_le _, ?_⟩
          walk_at "e"
          exact ⟨(show 2 ≤ sizeLine by decide), rfl, rfl⟩
        | some t =>
          refine ff_and ?_
          walk_at "e"
          exact ⟨rfl, rfl⟩
      · rintro _ _ ⟨rfl, rfl⟩
        refine ⟨_, by walk_at "sr", ?_⟩
        walk_at "e"; walk_at "e"; walk_at "e"
        refine ⟨_, by walk_at "sr", ?_⟩
        walk_at "e"
        have e1 : (stepC rs (tk, lf) n).1 = some (best.1 + priceN rs n, best.2 ++ [n]) := by
          rw [← hbest]; unfold stepC endC; cases tk <;> rfl
        exact ⟨⟨some (.str n), some (covD best), some (covD (best.1 + priceN rs n, best.2 ++ [n])), by rw [ef, e1]; rfl⟩, rfl⟩
  · rintro ρ' m' ⟨⟨o4, o5, o6, rfl⟩, rfl⟩
    have ep : coverP rs path = endC (path.foldl (stepC rs) (none, (0, []))) := rfl
    obtain ⟨p0, hp0⟩ := fold_some (rs := rs) (st := (none, (0, []))) pn
    obtain ⟨h1, h2, h3⟩ := covIn_fold (rs := rs) (L := path) (covIn_0 (S := path)) fun x hx => hx
    rw [ep] at q
    obtain ⟨st, hst⟩ : ∃ st, st = path.foldl (stepC rs) (none, (0, [])) := ⟨_, rfl⟩
    rw [← hst] at h1 h2 h3 q hp0 ⊢
    clear hst ep
    obtain ⟨tk, lf⟩ := st
    simp only at hp0
    subst hp0
    walk_at "e"; walk_at "e"
    refine AE.bMin2D hx fr ?_
    walk_at "e"; walk_at "e"
    refine ⟨isP_cov fun x hx => (hp x ((h1 p0 rfl).1 x hx)).2, isP_cov fun x hx => (hp x (h2 x hx)).2, alike_cov _ _, by simp [covD, dP], depth_cov _, ?_⟩
    have em : (if PySem.W.dataLt (dP (covD lf)) (dP (covD p0)) = true then covD lf else covD p0) = covD (minC p0 lf) := by unfold minC; split <;> rfl
    have eq : (if PySem.W.dataLt (dP (covD lf)) (dP (covO (some p0))) = true then covD lf else covO (some p0)) = covD (minC p0 lf) := em
    rw [eq]
    exact q
def coversN (rs : List Itm) (ps : List (List Str)) : List Str := ps.flatMap fun p => (coverP rs p).2
def costs (rs : List Itm) (ps : List (List Str)) : Int := (ps.map fun p => (coverP rs p).1).sum
def a_cheapest (cs : Cs) : ASp := fun ds m Q => ∃ rs vals, ds = [poolR cs rs, valD vals] ∧ PoolOk rs ∧ VOk rs vals ∧ ∀ ys : List Str, ys.Perm (needN rs vals ++ coversN rs (pathsN rs vals)) → Q (.tup [.int (((needN rs vals).map (priceN rs)).sum + costs rs (pathsN rs vals)), .lst (ys.map D.str)]) m
/-- the paths hold each name of the rest once -/
theorem fold_flat : ∀ {L : List Itm} {st : PSt}, (st.2.2 = none → st.1 = [] ∧ st.2.1 = []) → (endP (L.foldl stepP st)).flatten = (endP st).flatten ++ L.map (·.1)
  | [], st, _ => by simp
  | r :: t, st, h => by
    rw [List.foldl_cons, fold_flat (L := t) (by unfold stepP; split <;> (try split) <;> (intro z; cases z))]
    obtain ⟨fs, cur, last⟩ := st
    cases last with
    | none =>
      obtain ⟨h1, h2⟩ := h rfl
      simp only at h1 h2
      subst h1 h2
      simp [stepP, endP]
    | some l =>
      by_cases ho : overlap_ l r = true
      · simp [stepP, endP, ho]
      · simp [stepP, endP, ho]
theorem paths_flat {rs : List Itm} {vals : List (Str × Int)} : (pathsN rs vals).flatten = (restL rs vals).map (·.1) := by
  unfold pathsN pathsL
  rw [fold_flat fun _ => ⟨rfl, rfl⟩]
  simp [endP]
theorem fold_ne : ∀ {L : List Itm} {st : PSt}, (∀ p ∈ st.1, p ≠ []) → (st.2.2 ≠ none → st.2.1 ≠ []) → ∀ p ∈ endP (L.foldl stepP st), p ≠ []
  | [], st, h1, h2, p, hp => by
    obtain ⟨fs, cur, last⟩ := st
    unfold endP at hp
    cases last with
    | none => exact h1 p hp
    | some l =>
      simp only [List.foldl_nil] at hp
      rcases List.mem_append.mp hp with hp | hp
      · exact h1 p hp
      · rw [List.mem_singleton.mp hp]; exact h2 (by simp)
  | r :: t, st, h1, h2, p, hp => by
    refine fold_ne (L := t) (st := stepP st r) ?_ ?_ p hp
    · intro q hq
      obtain ⟨fs, cur, last⟩ := st
      unfold stepP at hq
      cases last with
      | none => exact h1 q hq
      | some l =>
        simp only at hq
        split at hq
        · exact h1 q hq
        · rcases List.mem_append.mp hq with hq | hq
          · exact h1 q hq
          · rw [List.mem_singleton.mp hq]; exact h2 (by simp)
    · intro _
      unfold stepP
      split
      · simp
      · split <;> simp
theorem paths_ne {rs : List Itm} {vals : List (Str × Int)} : ∀ p ∈ pathsN rs vals, p ≠ [] := fold_ne (by simp) (by simp)
theorem rest_names {rs : List Itm} {vals : List (Str × Int)} : ((restL rs vals).map (·.1)).Perm ((openN rs).filter fun n => !decide (n ∈ needN rs vals)) := by
  unfold restL
  refine ((sort_perm _ _).map _).trans ?_
  rw [List.map_map]
  have : ((openN rs).filter fun n => !decide (n ∈ needN rs vals)).map ((fun r : Itm => r.1) ∘ itN rs) = (openN rs).filter fun n => !decide (n ∈ needN rs vals) := by
    conv => rhs; rw [← List.map_id ((openN rs).filter fun n => !decide (n ∈ needN rs vals))]
    refine List.map_congr_left fun n hn => ?_
    exact (itN_has (open_mem.mp (List.mem_filter.mp hn).1).1).2
  rw [this]
theorem covers_len {rs : List Itm} : ∀ {ps : List (List Str)}, (coversN rs ps).length ≤ ps.flatten.length
  | [] => by simp [coversN]
  | p :: ps => by
    have h1 := (cover_in (rs := rs) (path := p)).2
    have h2 := covers_len (rs := rs) (ps := ps)
    unfold coversN at h2 ⊢
    rw [List.flatMap_cons, List.length_append, List.flatten_cons, List.length_append]
    omega
theorem path_in {ps : List (List Str)} {p : List Str} (h : p ∈ ps) : p.length ≤ ps.flatten.length ∧ ∀ x ∈ p, x ∈ ps.flatten := by
  obtain ⟨s, t, rfl⟩ := List.append_of_mem h
  refine ⟨by simp; omega, fun x hx => by simp [hx]⟩
abbrev n_cheapest : List Str := ["pool", "values", "names", "total", "name", "path", "cost", "some"]
theorem sc_cheapest : FnScope n_cheapest ["pool", "values"] (defScope s_cheapest) := ⟨rfl, rfl, rfl, by decide +kernel, rfl, by decide +kernel, by decide +kernel⟩
theorem body_cheapest {X : Cx} {k : Nat} {cs : Cs} (hx : XF X (fbOf n_cheapest (defScope s_cheapest)) k) (hk : 72 ≤ k) (hxe : X.xe = fun _ _ => False) (hs : X.env.scope = defScope s_cheapest) (hf : Fc X.prog X.w X.K X.mg X.base cs) (fr : Fr X) (c_needed : Cal X.prog X.w X.K X.mg X.base 57 "needed" (a_needed cs)) (c_Pool_item : Mth X.prog X.w X.K X.mg X.base 1 cs.P "item" (a_Pool_item cs)) (c_Item_price : Prp X.prog X.w X.K X.mg X.base 1 cs.I "price" (a_Item_price cs)) (c_paths : Cal X.prog X.w X.K X.mg X.base 65 "paths" (a_paths cs)) (c_cover : Cal X.prog X.w X.K X.mg X.base 9 "cover" (a_cover cs)) (ds : List D) (m : Mu) (Q : QD) (h : a_cheapest cs ds m Q) :
    ASs X (defBody s_cheapest) (startR n_cheapest ds) m { nx := fun _ m' => Q .non m', rt := Q } := by
  obtain ⟨rs, vals, rfl, ok, vo, q⟩ := h
  show ASs X (defBody s_cheapest) [some (poolR cs rs), some (valD vals), none, none, none, none, none, none] m _
  have ol := ok.len
  have os := open_len (rs := rs)
  have nl : (needN rs vals).length ≤ (openN rs).length := List.length_filter_le _ _
  walk_at "es"
  refine AE.callC c_needed hx (by omega) (by decide +kernel) ?_
  walk_at "es"
  refine ⟨rs, vals, rfl, ok, vo, fun b nb => ?_⟩
  refine ⟨_, by walk_at "sr", ?_⟩
  walk_at "e"; walk_at "e"
  refine AE.bSum hx fr ?_
  refine AE.lcMap (f := D.str) (g := fun n => .int (priceN rs n)) hx hs (by with_reducible (walk_at "nth")) (by decide +kernel) ?_
  refine AI.list ?_
  walk_at "e"
  refine ⟨_, .mu updM_same, needN rs vals, rfl, Nat.lt_of_lt_of_le (show (needN rs vals).length < 60 by omega) (by decide), fun m' hm' => .mu (hm' _ _ updM_same), ?_, ?_⟩
  · intro n hn m' hm'
    obtain ⟨hh, en⟩ := names_has (List.mem_filter.mp (List.mem_filter.mp hn).1).1
    refine ⟨_, by walk_at "sr", ?_⟩
    refine ABE.of hx hs fun s0 H0 C0 cl0 fp0 hb hbs => ?_
    refine AE.prp c_Item_price hb (by omega) ?_
    refine AE.mth c_Pool_item hb (by omega) ?_
    walk_at "e"
    refine ⟨_, .im, rfl, ?_⟩
    walk_at "es"
    exact ⟨rs, itN rs n, by rw [en], hh, _, .im, itN rs n, rfl, rfl, rfl⟩
  refine ⟨(needN rs vals).map (priceN rs), by rw [List.map_map]; exact .im, ?_⟩
  refine ⟨_, by walk_at "sr", ?_⟩
  walk_at "e"
  refine AS.forT (α := List Str) namD hxe hx (AI.list ?_)
  refine AE.callC c_paths hx (by omega) (by decide +kernel) ?_
  walk_at "es"
  refine ⟨rs, vals, rfl, ok, vo, ?_⟩
  have rn := (rest_names (rs := rs) (vals := vals)).length_eq
  have rl : ((openN rs).filter fun n => !decide (n ∈ needN rs vals)).length ≤ (openN rs).length := List.length_filter_le _ _
  have pf : (pathsN rs vals).flatten.length < 60 := by rw [paths_flat]; omega
  have pin : ∀ x ∈ (pathsN rs vals).flatten, x ∈ rs.map (·.1) ∧ PyData.canLay0 (.str x) = true := fun x hx => by
    rw [paths_flat] at hx
    have h1 := (open_mem.mp (List.mem_filter.mp (rest_names.mem_iff.mp hx)).1).1
    obtain ⟨r, hr, rfl⟩ := List.mem_map.mp h1
    exact ⟨h1, ok.lay r hr⟩
  have both : (needN rs vals).length + (pathsN rs vals).flatten.length ≤ (openN rs).length := by
    rw [paths_flat, rn]
    have := (part3 (l := openN rs) (p := fun n => decide (n ∈ needN rs vals)) (q := fun _ => false) (fun _ _ _ h => by cases h)).length_eq
    have e1 : (openN rs).filter (fun n => decide (n ∈ needN rs vals)) = needN rs vals := by
      unfold needN
      refine List.filter_congr fun n hn => ?_
      rw [Bool.eq_iff_iff, decide_eq_true_iff, List.mem_filter]
      exact ⟨fun h => h.2, fun h => ⟨hn, h⟩⟩
    rw [e1] at this
    simp at this
    simp
    omega
  have cl : (coversN rs (pathsN rs vals)).length ≤ (pathsN rs vals).flatten.length := covers_len
  refine ⟨_, .im, pathsN rs vals, fun pre ρ' m' => (∃ o4 o5 o6 o7, ρ' = [some (poolR cs rs), some (valD vals), some (.ref b), some (.int (((needN rs vals).map (priceN rs)).sum + costs rs pre)), o4, o5, o6, o7]) ∧ m' = updM m b (.lst ((needN rs vals ++ coversN rs pre).map D.str)), rfl, ⟨⟨none, none, none, none, by simp [costs]⟩, by simp [coversN]⟩, fun _ _ _ _ => .im, ?_, ?_⟩
  · rintro pre p post ρ' m' e ⟨⟨o4, o5, o6, o7, rfl⟩, rfl⟩
    have hp : p ∈ pathsN rs vals := by rw [e]; simp
    obtain ⟨p1, p2⟩ := path_in hp
    walk_at "e"
    refine ⟨_, by walk_at "sr", ?_⟩
    walk_at "e"
    refine AS.asg ?_
    refine AE.callC c_cover hx (by omega) (by decide +kernel) ?_
    walk_at "es"
    refine ⟨rs, p, rfl, ol, by omega, paths_ne p hp, fun x hx => pin x (p2 x hx), ?_⟩
    refine AG.tup2 hx (by with_reducible (walk_at "nth")) (by with_reducible (walk_at "nth")) (by decide +kernel) (by decide +kernel) ⟨_, _, rfl, .cons (by walk_at "sr") (.cons (by walk_at "sr") .nil), ?_⟩
    walk_at "e"
    refine AS.augAdd (i := 3) hx (by with_reducible (walk_at "nth")) (by decide +kernel) rfl ?_
    walk_at "e"
    refine ⟨_, rfl, _, by walk_at "sr", ?_⟩
    walk_at "e"
    refine AS.augL (i := 2) hx (by with_reducible (walk_at "nth")) (by decide +kernel) rfl ?_
    walk_at "e"
    have pre1 : (coversN rs pre).length + (coverP rs p).2.length ≤ (coversN rs (pathsN rs vals)).length := by
      rw [e]; simp [coversN]
    refine ⟨_, _, updM_same, .im, ?_, ?_⟩
    · simp only [List.length_map, List.length_append]
      exact Nat.le_trans (show (needN rs vals).length + (coversN rs pre).length + (coverP rs p).2.length ≤ 100 by omega) (by decide)
    walk_at "e"
    refine ⟨⟨o4, some (namD p), some (.int (coverP rs p).1), some (.lst ((coverP rs p).2.map D.str)), ?_⟩, ?_⟩
    · simp [costs, Int.add_assoc]
    · rw [updM_updM]; simp [coversN]
  · rintro ρ' m' ⟨⟨o4, o5, o6, o7, rfl⟩, rfl⟩
    walk_at "e"; walk_at "e"
    refine AE.vw ?_
    refine AE.tup ?_
    walk_at "e"; walk_at "e"; walk_at "e"
    refine AE.bSortS hx fr ?_
    walk_at "e"
    refine ⟨_, .mu updM_same, by rw [List.length_append]; omega, fun ys y1 y2 => ?_⟩
    walk_at "e"
    refine ⟨(show 2 ≤ sizeLine by decide), _, _, VW.drop (a := b), ?_⟩
    rw [delM_updM nb]
    exact q ys y1
open PySem PySem.Spec PyProof.Rows L2 Ab

/-! ### the cheapest cover of a path -/
/-- one of each two neighbours is in S -/
def covers (S : Str → Bool) : List Str → Prop
  | a :: b :: t => (S a = true ∨ S b = true) ∧ covers S (b :: t)
  | _ => True
/-- the price of what S takes of the names -/
def sumP (rs : List Itm) (S : Str → Bool) (xs : List Str) : Int := ((xs.filter S).map (priceN rs)).sum
theorem sumP_snoc {rs : List Itm} {S : Str → Bool} {xs : List Str} {x : Str} : sumP rs S (xs ++ [x]) = sumP rs S xs + if S x = true then priceN rs x else 0 := by
  unfold sumP
  rw [List.filter_append, List.filter_cons]
  cases S x <;> simp
theorem covers_snoc {S : Str → Bool} {x : Str} : ∀ {xs : List Str}, covers S (xs ++ [x]) ↔ covers S xs ∧ ∀ y, xs.getLast? = some y → S y = true ∨ S x = true
  | [] => by simp [covers]
  | [a] => by simp [covers]
  | a :: b :: t => by
    have ih := covers_snoc (S := S) (x := x) (xs := b :: t)
    simp only [List.cons_append, covers] at ih ⊢
    rw [ih, List.getLast?_cons_cons]
    exact ⟨fun ⟨h1, h2, h3⟩ => ⟨⟨h1, h2⟩, h3⟩, fun ⟨⟨h1, h2⟩, h3⟩ => ⟨h1, h2, h3⟩⟩
theorem minC_le (p q : Cov) : (minC p q).1 ≤ p.1 ∧ (minC p q).1 ≤ q.1 := by
  unfold minC
  have e : PySem.W.dataLt (dP (covD q)) (dP (covD p)) = decide (q.1 < p.1 ∨ (q.1 = p.1 ∧ PySem.W.dataLt (.tuple [dP (.lst (q.2.map D.str))]) (.tuple [dP (.lst (p.2.map D.str))]) = true)) := by
    show PySem.W.dataLt (.tuple (.int q.1 :: _)) (.tuple (.int p.1 :: _)) = _
    exact Ab.lt_int _ _ _ _
  rw [e]
  split
  · rename_i h
    have := of_decide_eq_true h
    omega
  · rename_i h
    have : ¬ (q.1 < p.1 ∨ _) := fun z => h (decide_eq_true z)
    omega
/-- what stands in the two covers: of all covers, those that take the last and those that do not -/
structure CovOk (rs : List Itm) (xs : List Str) (st : Option Cov × Cov) : Prop where
  /-- both are no dearer than any set that covers -/
  lo : ∀ S, covers S xs → (∀ y, xs.getLast? = some y → S y = true → ∃ t, st.1 = some t ∧ t.1 ≤ sumP rs S xs) ∧ ((∀ y, xs.getLast? = some y → S y = false) → st.2.1 ≤ sumP rs S xs)
theorem covOk_0 {rs : List Itm} : CovOk rs [] (none, (0, [])) := ⟨fun S _ => ⟨fun y h => (by simp at h), fun _ => by simp [sumP]⟩⟩
theorem covOk_step {rs : List Itm} {xs : List Str} {st : Option Cov × Cov} {n : Str} (h : CovOk rs xs st) (h0 : xs = [] → st = (none, (0, []))) (h1 : xs ≠ [] → ∃ t, st.1 = some t) : CovOk rs (xs ++ [n]) (stepC rs st n) := by
  refine ⟨fun S hS => ?_⟩
  obtain ⟨c1, c2⟩ := covers_snoc.mp hS
  obtain ⟨k1, k2⟩ := h.lo S c1
  rw [sumP_snoc]
  have gl : (xs ++ [n]).getLast? = some n := by simp
  constructor
  · intro y hy hyS
    rw [gl] at hy; cases hy
    rw [if_pos hyS]
    refine ⟨_, rfl, ?_⟩
    by_cases hx : xs = []
    · have e := h0 hx
      subst hx; subst e
      simp [sumP]
    · obtain ⟨t, et⟩ := h1 hx
      obtain ⟨tk, lf⟩ := st
      simp only at et
      subst et
      simp only
      obtain ⟨m1, m2⟩ := minC_le t lf
      cases hl : xs.getLast? with
      | none => exact absurd (List.getLast?_eq_none_iff.mp hl) hx
      | some y =>
        cases hy : S y with
        | true =>
          obtain ⟨t', e', le⟩ := k1 y hl hy
          cases e'
          omega
        | false =>
          have := k2 fun z hz => by rw [hl] at hz; cases hz; exact hy
          simp only at this
          omega
  · intro hn
    have nS := hn n gl
    rw [if_neg (by rw [nS]; exact Bool.false_ne_true), Int.add_zero]
    by_cases hx : xs = []
    · have e := h0 hx
      subst hx; subst e
      simp [stepC, sumP]
    · obtain ⟨t, et⟩ := h1 hx
      obtain ⟨tk, lf⟩ := st
      simp only at et
      subst et
      cases hl : xs.getLast? with
      | none => exact absurd (List.getLast?_eq_none_iff.mp hl) hx
      | some y =>
        have hy : S y = true := (c2 y hl).resolve_right (by rw [nS]; exact Bool.false_ne_true)
        obtain ⟨t', e', le⟩ := k1 y hl hy
        cases e'
        exact le
theorem covOk_fold {rs : List Itm} : ∀ {n : Nat} {xs : List Str}, xs.length = n → CovOk rs xs (xs.foldl (stepC rs) (none, (0, []))) := by
  intro n
  induction n with
  | zero => intro xs h; rw [List.length_eq_zero_iff.mp h]; exact covOk_0
  | succ n ih =>
    intro xs h
    obtain ⟨pre, x, rfl⟩ : ∃ pre x, xs = pre ++ [x] := ⟨xs.dropLast, xs.getLast (by intro z; rw [z] at h; cases h), (List.dropLast_concat_getLast _).symm⟩
    have hp : pre.length = n := by simpa using h
    rw [List.foldl_append]
    exact covOk_step (ih hp) (fun e => by rw [e]; rfl) fun ne => fold_some ne
/-- no set that covers a path is cheaper -/
theorem cover_le {rs : List Itm} {path : List Str} (ne : path ≠ []) {S : Str → Bool} (h : covers S path) : (coverP rs path).1 ≤ sumP rs S path := by
  obtain ⟨k1, k2⟩ := (covOk_fold (rs := rs) (xs := path) rfl).lo S h
  obtain ⟨t, et⟩ := fold_some (rs := rs) (st := (none, (0, []))) ne
  unfold coverP endC
  generalize path.foldl (stepC rs) (none, (0, [])) = st at k1 k2 et
  obtain ⟨tk, lf⟩ := st
  simp only at et
  subst et
  simp only
  obtain ⟨m1, m2⟩ := minC_le t lf
  cases hl : path.getLast? with
  | none => exact absurd (List.getLast?_eq_none_iff.mp hl) ne
  | some y =>
    cases hy : S y with
    | true =>
      obtain ⟨t', e', le⟩ := k1 y hl hy
      cases e'
      omega
    | false =>
      have := k2 fun z hz => by rw [hl] at hz; cases hz; exact hy
      simp only at this
      omega
/-- what the covers are: sets of names of the path that cover it, their prices -/
structure CovIs (rs : List Itm) (xs : List Str) (st : Option Cov × Cov) : Prop where
  tk : ∀ t, st.1 = some t → t.1 = (t.2.map (priceN rs)).sum ∧ t.2.Sublist xs ∧ covers (fun n => decide (n ∈ t.2)) xs ∧ ∀ y, xs.getLast? = some y → y ∈ t.2
  lf : st.2.1 = (st.2.2.map (priceN rs)).sum ∧ st.2.2.Sublist xs ∧ covers (fun n => decide (n ∈ st.2.2)) xs
theorem covers_mono {S T : Str → Bool} (h : ∀ n, S n = true → T n = true) : ∀ {xs : List Str}, covers S xs → covers T xs
  | [], _ => trivial
  | [_], _ => trivial
  | a :: b :: t, hc => ⟨hc.1.imp (h a) (h b), covers_mono h (xs := b :: t) hc.2⟩
theorem covIs_step {rs : List Itm} {xs : List Str} {st : Option Cov × Cov} {n : Str} (h : CovIs rs xs st) (h0 : xs = [] → st = (none, (0, []))) (h1 : xs ≠ [] → ∃ t, st.1 = some t) : CovIs rs (xs ++ [n]) (stepC rs st n) := by
  have gl : (xs ++ [n]).getLast? = some n := by simp
  by_cases hx : xs = []
  · have e := h0 hx
    subst hx; subst e
    refine ⟨fun t ht => ?_, by simp [stepC, covers]⟩
    cases ht
    simp [covers]
  · obtain ⟨t, et⟩ := h1 hx
    obtain ⟨tk, lf⟩ := st
    simp only at et
    subst et
    obtain ⟨a1, a2, a3, a4⟩ := h.tk t rfl
    obtain ⟨b1, b2, b3⟩ := h.lf
    have best : (minC t lf).1 = ((minC t lf).2.map (priceN rs)).sum ∧ (minC t lf).2.Sublist xs ∧ covers (fun n => decide (n ∈ (minC t lf).2)) xs := by
      rcases minC_or t lf with e | e <;> rw [e]
      · exact ⟨a1, a2, a3⟩
      · exact ⟨b1, b2, b3⟩
    obtain ⟨m1, m2, m3⟩ := best
    refine ⟨fun t' ht' => ?_, a1, a2.trans (List.sublist_append_left _ _), covers_snoc.mpr ⟨a3, fun y hy => .inl (decide_eq_true (a4 y hy))⟩⟩
    cases ht'
    refine ⟨by simp [m1], List.Sublist.append m2 (List.Sublist.refl _), covers_snoc.mpr ⟨covers_mono (fun x hx2 => ?_) m3, fun y _ => .inr (by simp)⟩, fun y hy => by rw [gl] at hy; cases hy; simp⟩
    have := of_decide_eq_true hx2
    exact decide_eq_true (List.mem_append_left _ this)
theorem covIs_fold {rs : List Itm} : ∀ {n : Nat} {xs : List Str}, xs.length = n → CovIs rs xs (xs.foldl (stepC rs) (none, (0, []))) := by
  intro n
  induction n with
  | zero =>
    intro xs h
    rw [List.length_eq_zero_iff.mp h]
    exact ⟨fun t ht => (by cases ht), by simp [covers]⟩
  | succ n ih =>
    intro xs h
    obtain ⟨pre, x, rfl⟩ : ∃ pre x, xs = pre ++ [x] := ⟨xs.dropLast, xs.getLast (by intro z; rw [z] at h; cases h), (List.dropLast_concat_getLast _).symm⟩
    have hp : pre.length = n := by simpa using h
    rw [List.foldl_append]
    exact covIs_step (ih hp) (fun e => by rw [e]; rfl) fun ne => fold_some ne
def IsCov (rs : List Itm) (path : List Str) (p : Cov) : Prop := p.1 = (p.2.map (priceN rs)).sum ∧ p.2.Sublist path ∧ covers (fun n => decide (n ∈ p.2)) path
theorem cover_is {rs : List Itm} {path : List Str} : IsCov rs path (coverP rs path) := by
  obtain ⟨k1, k2⟩ := covIs_fold (rs := rs) (xs := path) rfl
  unfold coverP endC
  generalize path.foldl (stepC rs) (none, (0, [])) = st at k1 k2
  obtain ⟨tk, lf⟩ := st
  cases tk with
  | none => exact k2
  | some t =>
    obtain ⟨a1, a2, a3, _⟩ := k1 t rfl
    show IsCov rs path (minC t lf)
    rcases minC_or t lf with e | e <;> rw [e]
    · exact ⟨a1, a2, a3⟩
    · exact k2
/-! ### all paths -/
/-- one of each two neighbours that overlap is in S -/
def adjC (S : Str → Bool) : List Itm → Prop
  | a :: b :: t => (overlap_ a b = true → S a.1 = true ∨ S b.1 = true) ∧ adjC S (b :: t)
  | _ => True
theorem adj_fold {S : Str → Bool} : ∀ {L : List Itm} {fs : List (List Str)} {cur : List Str} {l : Itm}, cur.getLast? = some l.1 → ((∀ p ∈ endP (L.foldl stepP (fs, cur, some l)), covers S p) ↔ (∀ p ∈ fs, covers S p) ∧ covers S cur ∧ adjC S (l :: L))
  | [], fs, cur, l, _ => by
    show (∀ p ∈ fs ++ [cur], covers S p) ↔ _
    simp [adjC, or_imp, forall_and]
  | r :: t, fs, cur, l, h => by
    rw [List.foldl_cons]
    by_cases ho : overlap_ l r = true
    · have e : stepP (fs, cur, some l) r = (fs, cur ++ [r.1], some r) := by simp [stepP, ho]
      rw [e, adj_fold (L := t) (by simp), covers_snoc, adjC]
      constructor
      · rintro ⟨h1, ⟨h2, h3⟩, h4⟩
        exact ⟨h1, h2, fun _ => h3 _ h, h4⟩
      · rintro ⟨h1, h2, h3, h4⟩
        exact ⟨h1, ⟨h2, fun y hy => by rw [h] at hy; cases hy; exact h3 ho⟩, h4⟩
    · have e : stepP (fs, cur, some l) r = (fs ++ [cur], [r.1], some r) := by simp [stepP, ho]
      rw [e, adj_fold (L := t) (by simp), adjC]
      constructor
      · rintro ⟨h1, _, h4⟩
        exact ⟨fun p hp => h1 p (List.mem_append_left _ hp), h1 cur (by simp), fun z => absurd z ho, h4⟩
      · rintro ⟨h1, h2, _, h4⟩
        refine ⟨fun p hp => ?_, trivial, h4⟩
        rcases List.mem_append.mp hp with hp | hp
        · exact h1 p hp
        · rw [List.mem_singleton.mp hp]; exact h2
theorem adj_paths {S : Str → Bool} {L : List Itm} : (∀ p ∈ pathsL L, covers S p) ↔ adjC S L := by
  cases L with
  | nil => simp [pathsL, endP, adjC]
  | cons r t =>
    show (∀ p ∈ endP (t.foldl stepP ([], [r.1], some r)), covers S p) ↔ _
    rw [adj_fold (by simp)]
    simp [covers]
theorem sum_perm {xs ys : List Int} (p : xs.Perm ys) : xs.sum = ys.sum := by
  induction p with
  | nil => rfl
  | cons x _ ih => rw [List.sum_cons, List.sum_cons, ih]
  | swap x y l => simp only [List.sum_cons]; omega
  | trans _ _ h1 h2 => exact h1.trans h2
theorem sumP_perm {rs : List Itm} {S : Str → Bool} {xs ys : List Str} (p : xs.Perm ys) : sumP rs S xs = sumP rs S ys := sum_perm ((p.filter _).map _)
theorem sumP_append {rs : List Itm} {S : Str → Bool} {xs ys : List Str} : sumP rs S (xs ++ ys) = sumP rs S xs + sumP rs S ys := by
  unfold sumP; rw [List.filter_append, List.map_append, List.sum_append]
theorem costs_le {rs : List Itm} {S : Str → Bool} : ∀ {ps : List (List Str)}, (∀ p ∈ ps, p ≠ [] ∧ covers S p) → costs rs ps ≤ sumP rs S ps.flatten
  | [], _ => by simp [costs, sumP]
  | p :: ps, h => by
    have h1 := cover_le (rs := rs) (h p List.mem_cons_self).1 (h p List.mem_cons_self).2
    have h2 := costs_le (rs := rs) (S := S) (ps := ps) fun q hq => h q (List.mem_cons_of_mem _ hq)
    rw [List.flatten_cons, sumP_append]
    unfold costs at h2 ⊢
    rw [List.map_cons, List.sum_cons]
    omega
/-- the open names: those needed, and those on the paths -/
theorem open_split {rs : List Itm} {vals : List (Str × Int)} : (needN rs vals ++ (pathsN rs vals).flatten).Perm (openN rs) := by
  rw [paths_flat]
  refine (List.Perm.append_left _ rest_names).trans ?_
  have := part3 (l := openN rs) (p := fun n => decide (n ∈ needN rs vals)) (q := fun _ => false) (fun _ _ _ h => by cases h)
  have e1 : (openN rs).filter (fun n => decide (n ∈ needN rs vals)) = needN rs vals := by
    unfold needN
    refine List.filter_congr fun n hn => ?_
    rw [Bool.eq_iff_iff, decide_eq_true_iff, List.mem_filter]
    exact ⟨fun h => h.2, fun h => ⟨hn, h⟩⟩
  rw [e1] at this
  have e2 : (openN rs).filter (fun _ => false) = [] := by simp
  rw [e2, List.append_nil] at this
  simpa using this
/-- a set that settles by the paths is no cheaper -/
theorem total_le {rs : List Itm} {vals : List (Str × Int)} {S : Str → Bool} (hn : ∀ n ∈ needN rs vals, S n = true) (ha : adjC S (restL rs vals)) : ((needN rs vals).map (priceN rs)).sum + costs rs (pathsN rs vals) ≤ sumP rs S (openN rs) := by
  rw [← sumP_perm (open_split (vals := vals)), sumP_append]
  have h1 : sumP rs S (needN rs vals) = ((needN rs vals).map (priceN rs)).sum := by
    unfold sumP
    rw [List.filter_eq_self.mpr hn]
  have h2 := costs_le (rs := rs) (S := S) (ps := pathsN rs vals) fun p hp => ⟨paths_ne p hp, adj_paths.mpr ha p hp⟩
  omega
theorem costs_sum {rs : List Itm} : ∀ {ps : List (List Str)}, costs rs ps = ((coversN rs ps).map (priceN rs)).sum
  | [] => by simp [costs, coversN]
  | p :: ps => by
    have h1 := (cover_is (rs := rs) (path := p)).1
    have h2 := costs_sum (rs := rs) (ps := ps)
    unfold costs coversN at h2 ⊢
    rw [List.map_cons, List.sum_cons, List.flatMap_cons, List.map_append, List.sum_append, h1, h2]
theorem covers_sub {rs : List Itm} : ∀ {ps : List (List Str)}, (coversN rs ps).Sublist ps.flatten
  | [] => by simp [coversN]
  | p :: ps => by
    have h1 := (cover_is (rs := rs) (path := p)).2.1
    have h2 := covers_sub (rs := rs) (ps := ps)
    unfold coversN at h2 ⊢
    rw [List.flatMap_cons, List.flatten_cons]
    exact h1.append h2
open PySem PySem.Spec PyProof.Rows L2 Ab

/-- the pen: a list of cells, a count, a number -/
abbrev penO (l : List Int) (i n : Int) : MO := .lst [.lst (l.map D.int), .int i, .int n]
def a__law_pen (cs : Cs) : ASp := fun ds m Q => ∃ (l : List Int) (d : D), ds = [d] ∧ IsLK m d (l.map D.int) ∧ ∀ a, m a = none → Q (.ref a) (updM m a (penO (l.take 60) 0 0))
def a__law_next (cs : Cs) : ASp := fun ds m Q => ∃ a l i n, ds = [.ref a] ∧ m a = some (penO l i n) ∧ 0 ≤ i ∧ i ≤ 1000000 ∧ l.length ≤ 60 ∧ ∀ z, 0 ≤ z → Q (.int z) (updM m a (penO l (i + 1) n))
/-- the pen at a, drawn from at most c times -/
def PenAt (m : Mu) (a : Addr) (c : Nat) : Prop := ∃ l i n, m a = some (penO l i n) ∧ 0 ≤ i ∧ i ≤ (c : Int) ∧ l.length ≤ 60 ∧ 0 ≤ n
/-- m' is m but for the pen at a, which stands by c -/
def PenTo (m : Mu) (a : Addr) (c : Nat) (m' : Mu) : Prop := ∃ l i n, m' = updM m a (penO l i n) ∧ 0 ≤ i ∧ i ≤ (c : Int) ∧ l.length ≤ 60 ∧ 0 ≤ n
def a__law_draw (cs : Cs) : ASp := fun ds m Q => ∃ a c b, ds = [.ref a, .int b] ∧ PenAt m a c ∧ c < 1000000 ∧ 0 < b ∧ b < 1000000 ∧ ∀ d m', 0 ≤ d → d < b → PenTo m a (c + 1) m' → Q (.int d) m'
theorem PenTo.at {m m' : Mu} {a : Addr} {c : Nat} (h : PenTo m a c m') : PenAt m' a c := by
  obtain ⟨l, i, n, rfl, h1, h2, h3, h4⟩ := h
  exact ⟨l, i, n, updM_same, h1, h2, h3, h4⟩
theorem PenAt.to {m : Mu} {a : Addr} {c : Nat} (h : PenAt m a c) : PenTo m a c m := by
  obtain ⟨l, i, n, e, h1, h2, h3, h4⟩ := h
  refine ⟨l, i, n, ?_, h1, h2, h3, h4⟩
  funext b; unfold updM; split
  · rename_i q; rw [q, e]
  · rfl
theorem PenTo.trans {m m' m2 : Mu} {a : Addr} {c c' : Nat} (h : PenTo m a c m') (h' : PenTo m' a c' m2) : PenTo m a c' m2 := by
  obtain ⟨l, i, n, rfl, h1, h2, h3, h4⟩ := h
  obtain ⟨l, i, n, rfl, h1, h2, h3, h4⟩ := h'
  exact ⟨l, i, n, updM_updM, h1, h2, h3, h4⟩
theorem PenTo.mono {m m' : Mu} {a : Addr} {c c' : Nat} (h : PenTo m a c m') (w : c ≤ c') : PenTo m a c' m' := by
  obtain ⟨l, i, n, e, h1, h2, h3, h4⟩ := h
  exact ⟨l, i, n, e, h1, by omega, h3, h4⟩
theorem PenAt.mono {m : Mu} {a : Addr} {c c' : Nat} (h : PenAt m a c) (w : c ≤ c') : PenAt m a c' := by
  obtain ⟨l, i, n, e, h1, h2, h3, h4⟩ := h
  exact ⟨l, i, n, e, h1, by omega, h3, h4⟩
theorem PenTo.ne {m m' : Mu} {a b : Addr} {c : Nat} (h : PenTo m a c m') (ne : b ≠ a) : m' b = m b := by
  obtain ⟨l, i, n, rfl, _⟩ := h
  exact updM_ne ne
theorem PenAt.upd {m : Mu} {a b : Addr} {c : Nat} {o : MO} (h : PenAt m a c) (ne : a ≠ b) : PenAt (updM m b o) a c := by
  obtain ⟨l, i, n, e, q⟩ := h
  exact ⟨l, i, n, by rw [updM_ne ne]; exact e, q⟩
theorem PenAt.del {m : Mu} {a b : Addr} {c : Nat} (h : PenAt m a c) (ne : a ≠ b) : PenAt (delM m b) a c := by
  obtain ⟨l, i, n, e, q⟩ := h
  refine ⟨l, i, n, ?_, q⟩
  unfold delM; rw [if_neg ne]; exact e
theorem PenAt.some {m : Mu} {a : Addr} {c : Nat} (h : PenAt m a c) : m a ≠ none := by
  obtain ⟨l, i, n, e, q⟩ := h
  rw [e]; simp
theorem PenAt.ne {m : Mu} {a b : Addr} {c : Nat} (h : PenAt m a c) (nb : m b = none) : a ≠ b := by
  obtain ⟨l, i, n, e, q⟩ := h
  exact neM e nb
/-- a list at b beside the pen -/
theorem PenTo.swap {m m' : Mu} {a b : Addr} {c : Nat} {o : MO} (h : PenTo (updM m b o) a c m') (ne : a ≠ b) : ∃ m2, PenTo m a c m2 ∧ m' = updM m2 b o := by
  obtain ⟨l, i, n, rfl, q⟩ := h
  exact ⟨_, ⟨l, i, n, rfl, q⟩, updM_comm ne.symm⟩
theorem PenTo.none {m m' : Mu} {a b : Addr} {c : Nat} (h : PenTo m a c m') (ne : a ≠ b) (nb : m b = none) : m' b = none := by
  rw [h.ne ne.symm]; exact nb
theorem ca_listcopy {X : Cx} : CallA X (.type "list") fun ds m Q => ∃ d es, ds = [d] ∧ IsQ m d es ∧ Q (.lst es) m := callA call_list_of fun ds m vs H Q hm rs ⟨d, es, e, hq, q⟩ => by
  subst e
  cases rs with
  | cons r t =>
    cases t
    obtain ⟨c, us, ev, sq, r2⟩ := hq.at hm r
    subst ev
    exact ⟨c, us, rfl, sq, fun l hl => post_lst hm hl r2 q⟩
abbrev n__law_pen : List Str := ["script"]
theorem sc__law_pen : FnScope n__law_pen ["script"] (defScope s__law_pen) := ⟨rfl, rfl, rfl, by decide +kernel, rfl, by decide +kernel, by decide +kernel⟩
theorem body__law_pen {X : Cx} {k : Nat} {cs : Cs} (hx : XF X (fbOf n__law_pen (defScope s__law_pen)) k) (hk : 0 ≤ k) (hxe : X.xe = fun _ _ => False) (hs : X.env.scope = defScope s__law_pen) (hf : Fc X.prog X.w X.K X.mg X.base cs) (fr : Fr X) (ds : List D) (m : Mu) (Q : QD) (h : a__law_pen cs ds m Q) :
    ASs X (defBody s__law_pen) (startR n__law_pen ds) m { nx := fun _ m' => Q .non m', rt := Q } := by
  obtain ⟨l, d, rfl, hd, q⟩ := h
  show ASs X (defBody s__law_pen) [some d] m _
  walk_at "es"
  refine AE.lstM ?_
  walk_at "e"
  refine AE.callT ca_listcopy hx (by decide +kernel) (fr _ (by decide +kernel)) rfl ?_
  walk_at "e"
  refine AE.sliceK ?_
  walk_at "e"
  refine AO.no (AO.at ?_)
  refine AE.int ?_
  refine ⟨60, rfl, _, hd, ?_⟩
  walk_at "e"
  refine ⟨_, _, rfl, .im, ?_⟩
  walk_at "es"
  refine ⟨(show 3 ≤ sizeLine by decide), fun a na => ?_⟩
  have e : Ab.cutD (l.map D.int) none (some 60) = (l.take 60).map D.int := by
    unfold Ab.cutD
    rw [HT.sIx_none, show (60 : Int) = ((60 : Nat) : Int) from rfl, HT.sIx_nat, List.length_map, List.drop_zero, Nat.sub_zero, List.map_take]
    by_cases hl : 60 ≤ l.length
    · rw [Nat.min_eq_left hl]
    · rw [Nat.min_eq_right (by omega), List.take_of_length_le (by simp), List.take_of_length_le (by simp; omega)]
  rw [e]
  exact q a na
abbrev n__law_next : List Str := ["pen", "index", "cell", "low", "mid", "top"]
theorem sc__law_next : FnScope n__law_next ["pen"] (defScope s__law_next) := ⟨rfl, rfl, rfl, by decide +kernel, rfl, by decide +kernel, by decide +kernel⟩
theorem body__law_next {X : Cx} {k : Nat} {cs : Cs} (hx : XF X (fbOf n__law_next (defScope s__law_next)) k) (hk : 0 ≤ k) (hxe : X.xe = fun _ _ => False) (hs : X.env.scope = defScope s__law_next) (hf : Fc X.prog X.w X.K X.mg X.base cs) (fr : Fr X) (ds : List D) (m : Mu) (Q : QD) (h : a__law_next cs ds m Q) :
    ASs X (defBody s__law_next) (startR n__law_next ds) m { nx := fun _ m' => Q .non m', rt := Q } := by
  obtain ⟨a, l, i, n, rfl, hm, h1, h2, h3, q⟩ := h
  show ASs X (defBody s__law_next) [some (.ref a), none, none, none, none, none] m _
  walk_at "es"
  refine AE.ix ixa_list ?_
  walk_at "es"
  refine ⟨_, 1, _, by walk_at "isl", rfl, rfl, ?_⟩
  walk_at "e"; walk_at "e"
  refine AS.asg ?_
  walk_at "es"
  refine AG.setL ?_
  walk_at "es"
  refine ⟨a, _, 1, 1, rfl, hm, rfl, rfl, ?_⟩
  show ASs X _ _ (updM m a (penO l (i + 1) n)) _
  walk_at "es"
  refine ⟨.inr ⟨by omega, by omega⟩, ?_⟩
  iterate 3 walk_at "e"
  refine ASs.cut (fun ρ m' => ∃ c : Int, ρ = [some (.ref a), some (.int i), some (.int c), none, none, none] ∧ m' = updM m a (penO l (i + 1) n)) ?_ ?_
  · walk_at "e"
    refine AT.neD (eqK_int.list) hx (by decide) ?_
    refine AE.ix ixa_list ?_
    walk_at "es"
    refine ⟨_, 0, _, by walk_at "isl", rfl, rfl, ?_⟩
    refine AE.lst ?_
    walk_at "e"
    refine ⟨Nat.zero_le _, l, [], .im, .im, fun _ _ => trivial, fun _ _ => trivial, ?_⟩
    refine ⟨fun c => ?_, fun c => ?_⟩
    · have hl : 0 < l.length := by
        cases l with
        | nil => simp at c
        | cons _ _ => simp
      walk_at "e"; walk_at "e"
      refine AE.ix ixa_list ?_
      refine AE.ix ixa_list ?_
      walk_at "es"
      refine ⟨_, 0, _, by walk_at "isl", rfl, rfl, ?_⟩
      walk_at "es"
      refine AE.bLen hx fr ?_
      refine AE.ix ixa_list ?_
      walk_at "es"
      refine ⟨_, 0, _, by walk_at "isl", rfl, rfl, ?_⟩
      refine ⟨_, .im, ?_⟩
      refine ⟨_, _, rfl, rfl, by simpa using hl, ?_⟩
      have b1 : 0 ≤ i % (((l.map D.int).length : Nat) : Int) := Int.emod_nonneg _ (by rw [List.length_map]; omega)
      have b2 : i % (((l.map D.int).length : Nat) : Int) < (((l.map D.int).length : Nat) : Int) := Int.emod_lt_of_pos _ (by simpa using hl)
      obtain ⟨j, hj⟩ : ∃ j : Nat, i % (((l.map D.int).length : Nat) : Int) = (j : Int) := ⟨_, (Int.toNat_of_nonneg b1).symm⟩
      rw [hj] at b2 ⊢
      have hjl : j < l.length := by simpa using b2
      refine ⟨_, _, .int l[j], .im, rfl, ?_, ?_⟩
      · have e0 : ixN (l.map D.int).length (j : Int) = some j := by
          unfold ixN
          simp [hjl]
        unfold atI
        rw [e0]
        simp [hjl]
      walk_at "e"; walk_at "e"
      exact ⟨_, rfl, rfl⟩
    · walk_at "e"
      exact ⟨_, rfl, rfl⟩
  · rintro ρ m' ⟨c, rfl, rfl⟩
    refine ASs.cut (fun ρ m' => ρ = [some (.ref a), some (.int i), some (.int c), none, none, none] ∧ m' = updM m a (penO l (i + 1) n)) ?_ ?_
    · walk_at "e"
      refine AT.ofW (AW.and ?_)
      walk_at "es"
      refine AE.bLen hx fr ?_
      refine AE.ix ixa_list ?_
      walk_at "es"
      refine ⟨_, 0, _, by walk_at "isl", rfl, rfl, ?_⟩
      refine ⟨_, .im, ?_⟩
      refine ⟨_, _, rfl, rfl, ?_⟩
      refine ⟨fun _ => ?_, fun _ => ?_⟩
      · refine AW.and1 ?_
        walk_at "es"
        refine ⟨⟨by decide, by decide, by decide⟩, ?_⟩
        walk_at "es"
        refine ⟨fun e => ?_, fun _ => ?_⟩
        · walk_at "es"
          refine q c ?_
          have := of_decide_eq_true e
          have p : (0 : Int) ≤ (10 : Int) ^ ((18 : Int).toNat) := by decide
          omega
        · walk_at "e"
          exact ⟨rfl, rfl⟩
      · refine ⟨fun e => (by cases e), fun _ => ?_⟩
        walk_at "e"
        exact ⟨rfl, rfl⟩
    · rintro ρ m' ⟨rfl, rfl⟩
      walk_at "es"
      refine ⟨by decide, ?_⟩
      walk_at "es"
      refine ⟨.inr ⟨by decide, by decide⟩, ?_⟩
      walk_at "es"
      refine ⟨by decide, ?_⟩
      have u1 : 0 ≤ (c % 2147483587 + i * 80039 + 47) % 2147483587 := Int.emod_nonneg _ (by decide)
      have u2 : (c % 2147483587 + i * 80039 + 47) % 2147483587 < 2147483587 := Int.emod_lt_of_pos _ (by decide)
      generalize (c % 2147483587 + i * 80039 + 47) % 2147483587 = low at u1 u2 ⊢
      walk_at "es"
      refine ⟨.inr ⟨by omega, by omega⟩, ?_⟩
      walk_at "es"
      refine ⟨.inr ⟨by decide, by decide⟩, ?_⟩
      walk_at "es"
      refine ⟨by decide, ?_⟩
      have v1 : 0 ≤ (low * low + i * 40013 + 29) % 2147483563 := Int.emod_nonneg _ (by decide)
      have v2 : (low * low + i * 40013 + 29) % 2147483563 < 2147483563 := Int.emod_lt_of_pos _ (by decide)
      generalize (low * low + i * 40013 + 29) % 2147483563 = mid at v1 v2 ⊢
      walk_at "es"
      refine ⟨.inr ⟨by omega, by omega⟩, ?_⟩
      walk_at "es"
      refine ⟨.inr ⟨by omega, by omega⟩, ?_⟩
      walk_at "es"
      refine ⟨.inr ⟨by decide, by decide⟩, ?_⟩
      walk_at "es"
      refine ⟨by decide, ?_⟩
      have w1 : 0 ≤ (mid * mid + low + i * i * 11) % 2147483549 := Int.emod_nonneg _ (by decide)
      have w2 : (mid * mid + low + i * i * 11) % 2147483549 < 2147483549 := Int.emod_lt_of_pos _ (by decide)
      generalize (mid * mid + low + i * i * 11) % 2147483549 = tp at w1 w2 ⊢
      walk_at "es"
      refine ⟨.inr ⟨by decide, by decide⟩, ?_⟩
      walk_at "es"
      refine ⟨.inr ⟨by decide, by decide⟩, ?_⟩
      walk_at "es"
      refine q _ ?_
      have : 0 ≤ tp * 2147483587 := Int.mul_nonneg w1 (by decide)
      have : 0 ≤ (tp * 2147483587 + mid) * 2147483563 := Int.mul_nonneg (by omega) (by decide)
      omega
abbrev n__law_draw : List Str := ["pen", "below", "digit"]
theorem sc__law_draw : FnScope n__law_draw ["pen", "below"] (defScope s__law_draw) := ⟨rfl, rfl, rfl, by decide +kernel, rfl, by decide +kernel, by decide +kernel⟩
theorem body__law_draw {X : Cx} {k : Nat} {cs : Cs} (hx : XF X (fbOf n__law_draw (defScope s__law_draw)) k) (hk : 8 ≤ k) (hxe : X.xe = fun _ _ => False) (hs : X.env.scope = defScope s__law_draw) (hf : Fc X.prog X.w X.K X.mg X.base cs) (fr : Fr X) (c__law_next : Cal X.prog X.w X.K X.mg X.base 1 "_law_next" (a__law_next cs)) (ds : List D) (m : Mu) (Q : QD) (h : a__law_draw cs ds m Q) :
    ASs X (defBody s__law_draw) (startR n__law_draw ds) m { nx := fun _ m' => Q .non m', rt := Q } := by
  obtain ⟨a, c0, b, rfl, ⟨l, i, n, hm, h1, h20, h3, h4⟩, hc0, h5, h6, q⟩ := h
  have h2 : i ≤ 1000000 := by omega
  show ASs X (defBody s__law_draw) [some (.ref a), some (.int b), none] m _
  refine ASs.cut (fun ρ m' => ρ = [some (.ref a), some (.int b), none] ∧ ∃ i' n', i ≤ i' ∧ i' ≤ i + 1 ∧ 0 ≤ n' ∧ m' = updM m a (penO l i' n')) ?_ ?_
  · walk_at "e"; walk_at "e"
    refine AE.ix ixa_list ?_
    walk_at "es"
    refine ⟨_, 2, _, by walk_at "isl", rfl, rfl, ?_⟩
    walk_at "es"
    refine ⟨fun _ => ?_, fun _ => ?_⟩
    · walk_at "e"
      refine AS.asg ?_
      refine AE.callC c__law_next hx (by omega) (by decide +kernel) ?_
      walk_at "es"
      refine ⟨a, l, i, n, rfl, hm, h1, h2, h3, fun z hz => ?_⟩
      refine AG.setL ?_
      walk_at "es"
      refine ⟨a, _, 2, 2, rfl, updM_same, rfl, rfl, ?_⟩
      walk_at "e"
      refine ⟨rfl, i + 1, z, by omega, by omega, hz, updM_updM⟩
    · walk_at "e"
      refine ⟨rfl, i, n, by omega, by omega, h4, ?_⟩
      funext c; unfold updM; split
      · rename_i e; rw [e, hm]
      · rfl
  · rintro ρ' m' ⟨rfl, i', n', a1, a2, a3, rfl⟩
    walk_at "e"; walk_at "e"; walk_at "e"
    refine AE.ix ixa_list ?_
    walk_at "es"
    refine ⟨_, 2, _, by walk_at "isl", rfl, rfl, ?_⟩
    walk_at "es"
    refine ⟨h5, ?_⟩
    walk_at "es"
    refine AS.asg ?_
    walk_at "e"
    refine AE.ix ixa_list ?_
    walk_at "es"
    refine ⟨_, 2, _, by walk_at "isl", rfl, rfl, ?_⟩
    walk_at "es"
    refine ⟨⟨h5, by omega⟩, ?_⟩
    refine AG.setL ?_
    walk_at "es"
    refine ⟨a, _, 2, 2, rfl, updM_same, rfl, rfl, ?_⟩
    walk_at "es"
    rw [updM_updM]
    exact q _ _ (Int.emod_nonneg _ (by omega)) (Int.emod_lt_of_pos _ h5) ⟨l, i', n' / b, rfl, by omega, by omega, h3, Int.ediv_nonneg a3 (by omega)⟩
open PySem PySem.Spec PyProof.Rows L2 Ab

abbrev Row := Itm
def rowD (r : Itm) : D := .tup [.str r.1, .int r.2.1, .int r.2.2.1, .int r.2.2.2]
/-- a row as the laws draw them: its range is at most W wide -/
structure GRow (W : Int) (r : Itm) : Prop where
  good : GoodName r.1
  le : r.2.1 ≤ r.2.2.1
  wd : r.2.2.1 - r.2.1 ≤ W
  lo : -(2 * 10 ^ 11) ≤ r.2.1
  hi : r.2.2.1 ≤ 2 * 10 ^ 11
  p0 : r.2.1 = r.2.2.1 → r.2.2.2 = 0
  p1 : r.2.1 < r.2.2.1 → 1 ≤ r.2.2.2 ∧ r.2.2.2 ≤ 999
structure GRows (n : Nat) (W : Int) (rows : List Itm) : Prop where
  len : rows.length ≤ n
  nd : (rows.map (·.1)).Nodup
  srt : sortedS (rows.map (·.1)) = true
  all : ∀ r ∈ rows, GRow W r
def nyms12 : List Str := ["a", "b", "c", "d", "e", "f", "g", "ab", "zz", "abcdefgh", "abcdefgi", "m"]
theorem nyms_ok : ∀ x ∈ nyms12, GoodName x := by unfold GoodName nyms12 LETS; decide +kernel
theorem nyms_nd : nyms12.Nodup := by unfold nyms12; decide +kernel
theorem ixN_of {n : Nat} {d : Int} (h0 : 0 ≤ d) (h1 : d < n) : ixN n d = some d.toNat := by
  obtain ⟨j, rfl⟩ : ∃ j : Nat, d = (j : Int) := ⟨_, (Int.toNat_of_nonneg h0).symm⟩
  have h2 : j < n := by omega
  unfold ixN; simp [h2]
theorem at_ints {zs : List Int} {d : Int} (h0 : 0 ≤ d) (h1 : d < zs.length) : ∃ z ∈ zs, atI (zs.map D.int) d = some (.int z) := by
  refine ⟨zs[d.toNat]'(by omega), List.getElem_mem _, ?_⟩
  have e0 : ixN (zs.map D.int).length d = some d.toNat := ixN_of h0 (by simpa using h1)
  have h2 : d.toNat < zs.length := by omega
  unfold atI
  rw [e0]
  simp [h2]
theorem erase_perm {α : Type} {xs : List α} {n : Nat} {x : α} (h : xs[n]? = some x) : (x :: xs.eraseIdx n).Perm xs := by
  obtain ⟨hl, rfl⟩ := List.getElem?_eq_some_iff.mp h
  have e : xs = xs.take n ++ xs[n] :: xs.drop (n + 1) := by
    conv => lhs; rw [← List.take_append_drop n xs]
    rw [List.drop_eq_getElem_cons hl]
  have e2 : xs.eraseIdx n = xs.take n ++ xs.drop (n + 1) := List.eraseIdx_eq_take_drop_succ xs n
  rw [e2]
  conv => rhs; rw [e]
  exact List.perm_middle.symm
def a__law_rows (cs : Cs) : ASp := fun ds m Q => ∃ (a : Addr) (c n : Nat) (W : Int), ds = [.ref a, .int (n : Int), .int W] ∧ PenAt m a c ∧ c < 900000 ∧ n ≤ 12 ∧ 1 ≤ W ∧ W ≤ 1000 ∧ ∀ rows m', GRows n (max 3 W) rows → PenTo m a (c + 64) m' → Q (.lst (rows.map rowD)) m'
abbrev n__law_rows : List Str := ["pen", "most", "width", "pool", "nyms", "turn", "shift", "high", "found", "nym", "spot", "size"]
theorem sc__law_rows : FnScope n__law_rows ["pen", "most", "width"] (defScope s__law_rows) := ⟨rfl, rfl, rfl, by decide +kernel, rfl, by decide +kernel, by decide +kernel⟩
theorem body__law_rows {X : Cx} {k : Nat} {cs : Cs} (hx : XF X (fbOf n__law_rows (defScope s__law_rows)) k) (hk : 16 ≤ k) (hxe : X.xe = fun _ _ => False) (hs : X.env.scope = defScope s__law_rows) (hf : Fc X.prog X.w X.K X.mg X.base cs) (fr : Fr X) (c__law_draw : Cal X.prog X.w X.K X.mg X.base 9 "_law_draw" (a__law_draw cs)) (ds : List D) (m : Mu) (Q : QD) (h : a__law_rows cs ds m Q) :
    ASs X (defBody s__law_rows) (startR n__law_rows ds) m { nx := fun _ m' => Q .non m', rt := Q } := by
  obtain ⟨a, c, n, W, rfl, hp, hc, hn, w1, w2, q⟩ := h
  show ASs X (defBody s__law_rows) [some (.ref a), some (.int (n : Int)), some (.int W), none, none, none, none, none, none, none, none, none] m _
  walk_at "e"; walk_at "e"
  refine AE.lstM ?_
  walk_at "es"
  refine ⟨(show 12 ≤ sizeLine by decide), fun b nb => ?_⟩
  have ne : a ≠ b := hp.ne nb
  walk_at "es"
  refine AS.setLcE (fun i : Nat => D.int (0 + (i : Int))) hx hs (by with_reducible (walk_at "nth")) (by decide +kernel) (by with_reducible (walk_at "nth")) (by decide +kernel) (by simp only [swapsWith, Env.blockKind, Env.kindOf, hs]; rfl) ?_
  refine AI.range1 hx (by decide +kernel) (fr _ (by decide +kernel)) ?_
  refine AE.callC c__law_draw hx (by omega) (by decide +kernel) ?_
  walk_at "es"
  refine ⟨a, c, (n : Int) + 1, rfl, hp.upd ne, by omega, by omega, by omega, fun t m1 t0 t1 hp1 => ?_⟩
  obtain ⟨m2, hp2, rfl⟩ := hp1.swap ne
  obtain ⟨tn, rfl⟩ : ∃ j : Nat, t = (j : Int) := ⟨_, (Int.toNat_of_nonneg t0).symm⟩
  have nb2 : m2 b = none := hp2.none ne nb
  refine ⟨_, rfl, by omega, by omega, List.range tn, fun pre out mi => ∃ os rest m3, out = os.map D.str ∧ (os ++ rest).Perm nyms12 ∧ os.length = pre.length ∧ PenTo m a (c + 1 + pre.length) m3 ∧ mi = updM m3 b (.lst (rest.map D.str)), rfl, ⟨by rw [List.length_range]; exact Nat.lt_of_le_of_lt (show tn ≤ 12 by omega) (by decide), ⟨[], nyms12, m2, rfl, .refl _, rfl, hp2, rfl⟩, fun _ _ _ _ _ _ _ => trivial, ?_⟩, ?_⟩
  · rintro pre i post out mi z e ⟨os, rest, m3, rfl, h1, h2, h3, rfl⟩ hol nz
    obtain ⟨nzb, nz3⟩ := updM_none nz
    have pl : pre.length < tn := by have := congrArg List.length e; simp at this; omega
    have rl : os.length + rest.length = 12 := by have := h1.length_eq; simpa [nyms12] using this
    have rz : (rest.length : Int) < 12 + 1 := by omega
    have nea : a ≠ z := h3.at.ne nz3
    refine ⟨_, by walk_at "sr", ?_⟩
    refine ABE.of hx hs fun s0 H0 C0 cl0 fp0 hb hbs => ?_
    refine AE.bm F.plainAttrs_list F.slot_list_pop F.type_list_pop ma_pop0 ?_
    walk_at "e"
    refine ⟨.list (.mu (by rw [updM_ne (Ne.symm nzb), updM_same])), ?_⟩
    walk_at "e"
    refine AE.callC c__law_draw hb (by omega) (by decide +kernel) ?_
    walk_at "e"; walk_at "e"; walk_at "e"
    refine AE.bLen hb fr ?_
    walk_at "e"
    refine ⟨_, .mu (by rw [updM_ne (Ne.symm nzb), updM_same]), ?_⟩
    walk_at "e"
    rw [List.length_map]
    refine ⟨a, c + 1 + pre.length, (rest.length : Int), rfl, (h3.at.upd ne).upd nea, by omega, by omega, by omega, fun d m4 d0 d1 hp4 => ?_⟩
    obtain ⟨m5, hp5, rfl⟩ := hp4.swap nea
    obtain ⟨m6, hp6, rfl⟩ := hp5.swap ne
    obtain ⟨dn, rfl⟩ : ∃ j : Nat, d = (j : Int) := ⟨_, (Int.toNat_of_nonneg d0).symm⟩
    have dl : dn < rest.length := by omega
    walk_at "e"
    refine ⟨b, rest.map D.str, _, dn, .str rest[dn], rfl, rfl, by rw [updM_ne (Ne.symm nzb), updM_same], by omega, by omega, ?_, ?_, ?_⟩
    · have z1 : ¬ ((dn : Int) < 0) := by omega
      simp [seqIndex?, dl, z1]
    · simp [dl]
    · refine ⟨updM m6 b (.lst ((rest.eraseIdx dn).map D.str)), ?_, ?_, os ++ [rest[dn]], rest.eraseIdx dn, m6, by simp, ?_, by simp [h2], ?_, rfl⟩
      · refine (congrArg (fun q => updM q b _) (updM_comm (Ne.symm nzb))).trans ?_
        rw [updM_updM, show (rest.map D.str).eraseIdx dn = (rest.eraseIdx dn).map D.str by simp [List.eraseIdx_eq_take_drop_succ]]
        exact updM_comm nzb
      · rw [updM_ne nzb, hp6.ne nea.symm]; exact nz3
      · rw [List.append_assoc]
        exact (List.Perm.append_left os (erase_perm (by simp [dl]))).trans h1
      · exact (h3.trans hp6).mono (by simp; omega)
  rintro out mj ⟨os, rest, m3, rfl, h1, h2, h3, rfl⟩
  rw [List.length_range] at h2 h3
  refine ⟨_, by walk_at "sr", ?_⟩
  refine ASs.vw (VW.drop (a := b)) ?_
  rw [delM_updM (h3.none ne nb)]
  walk_at "e"; walk_at "e"
  refine AE.ix ixa_list ?_
  refine AE.lst ?_
  walk_at "e"; walk_at "e"; walk_at "e"; walk_at "e"; walk_at "e"
  refine AE.neg ?_
  walk_at "e"
  refine ⟨_, rfl, ?_⟩
  walk_at "es"
  refine ⟨⟨by decide, by decide, by decide⟩, ?_⟩
  walk_at "es"
  refine ⟨⟨by decide, by decide, by decide⟩, ?_⟩
  walk_at "es"
  refine ⟨(show 6 ≤ sizeLine by decide), ?_⟩
  refine AE.callC c__law_draw hx (by omega) (by decide +kernel) ?_
  walk_at "es"
  refine ⟨a, c + 13, 6, rfl, (h3.at.mono (by omega)), by omega, by omega, by omega, fun d m4 d0 d1 hp4 => ?_⟩
  obtain ⟨sh, shm, she⟩ := at_ints (zs := [0, 0, -5, 1000, 10 ^ 11, 0 - 10 ^ 11]) d0 (by simpa using d1)
  have sh1 : -(10 ^ 11) ≤ sh ∧ sh ≤ 10 ^ 11 := by
    simp only [List.mem_cons, List.not_mem_nil, or_false] at shm
    omega
  refine ⟨_, _, _, .im, rfl, she, ?_⟩
  replace hp4 : PenTo m a (c + 14) m4 := h3.trans hp4
  refine ⟨_, by walk_at "sr", ?_⟩
  walk_at "e"; walk_at "e"
  refine AE.ix ixa_list ?_
  refine AE.lst ?_
  walk_at "es"
  refine ⟨(show 3 ≤ sizeLine by decide), ?_⟩
  refine AE.callC c__law_draw hx (by omega) (by decide +kernel) ?_
  walk_at "es"
  refine ⟨a, c + 14, 3, rfl, hp4.at, by omega, by omega, by omega, fun d m5 d0 d1 hp5 => ?_⟩
  obtain ⟨hg, hgm, hge⟩ := at_ints (zs := [1, 5, 999]) d0 (by simpa using d1)
  have hg1 : 1 ≤ hg ∧ hg ≤ 999 := by
    simp only [List.mem_cons, List.not_mem_nil, or_false] at hgm
    omega
  refine ⟨_, _, _, .im, rfl, hge, ?_⟩
  replace hp5 : PenTo m a (c + 15) m5 := hp4.trans hp5
  refine ⟨_, by walk_at "sr", ?_⟩
  walk_at "e"; walk_at "e"
  refine AE.lstM ?_
  walk_at "e"
  refine ⟨Nat.zero_le _, fun v nv => ?_⟩
  have nev : a ≠ v := hp5.at.ne nv
  have nv0 : m v = none := by rw [← hp5.ne nev.symm]; exact nv
  walk_at "es"
  refine AS.forT D.str hxe hx (AI.list ?_)
  refine AE.bSortS hx fr ?_
  walk_at "e"
  have ol : os.length ≤ 12 := by omega
  refine ⟨os, .im, by omega, fun ys y1 y2 => ?_⟩
  have yl : ys.length = os.length := y1.length_eq
  have ynd : ys.Nodup := by
    have h4 := h1.symm.nodup nyms_nd
    rw [List.nodup_append] at h4
    exact y1.symm.nodup h4.1
  have ymem : ∀ y ∈ ys, y ∈ nyms12 := fun y hy => h1.mem_iff.mp (List.mem_append_left _ (y1.mem_iff.mp hy))
  refine ⟨_, .im, ys, fun pre ρ' m' => ∃ rows : List Itm, rows.map (·.1) = pre ∧ (∀ r ∈ rows, GRow (max 3 W) r) ∧ (∃ o1 o2 o3, ρ' = [some (.ref a), some (.int (n : Int)), some (.int W), some (.ref b), some (.lst (os.map D.str)), none, some (.int sh), some (.int hg), some (.ref v), o1, o2, o3]) ∧ ∃ m2, PenTo m a (c + 15 + 4 * pre.length) m2 ∧ m' = updM m2 v (.lst (rows.map rowD)), rfl, ?_, fun _ _ _ _ => .im, ?_, ?_⟩
  · exact ⟨[], rfl, by simp, ⟨_, _, _, rfl⟩, m5, hp5, rfl⟩
  · rintro pre x post ρ' m' e ⟨rows, r1, r2, ⟨o1, o2, o3, rfl⟩, m6, hp6, rfl⟩
    have pl : pre.length < 12 := by have := congrArg List.length e; simp at this; omega
    have rl : rows.length = pre.length := by rw [← r1]; simp
    have nv6 : m6 v = none := hp6.none nev nv0
    have xok := nyms_ok x (ymem x (by rw [e]; simp))
    walk_at "es"
    refine AE.callC c__law_draw hx (by omega) (by decide +kernel) ?_
    walk_at "es"
    refine ⟨a, c + 15 + 4 * pre.length, W, rfl, hp6.at.upd nev, by omega, by omega, by omega, fun sp m7 s0 s1 hp7 => ?_⟩
    obtain ⟨m8, hp8, rfl⟩ := hp7.swap nev
    replace hp8 := hp6.trans hp8
    walk_at "es"
    refine AE.ix ixa_list ?_
    refine AE.lst ?_
    walk_at "es"
    refine AE.callC c__law_draw hx (by omega) (by decide +kernel) ?_
    walk_at "es"
    refine ⟨a, c + 15 + 4 * pre.length + 1, W, rfl, hp8.at.upd nev, by omega, by omega, by omega, fun s4 m9 s40 s41 hp9 => ?_⟩
    obtain ⟨m10, hp10, rfl⟩ := hp9.swap nev
    replace hp10 := hp8.trans hp10
    walk_at "es"
    refine ⟨(show 5 ≤ sizeLine by decide), ?_⟩
    refine AE.callC c__law_draw hx (by omega) (by decide +kernel) ?_
    walk_at "es"
    refine ⟨a, c + 15 + 4 * pre.length + 2, 5, rfl, hp10.at.upd nev, by omega, by omega, by omega, fun sd m11 s0' s1' hp11 => ?_⟩
    obtain ⟨m12, hp12, rfl⟩ := hp11.swap nev
    replace hp12 := hp10.trans hp12
    obtain ⟨sz, szm, sze⟩ := at_ints (zs := [0, 1, 2, 3, 1 + s4]) s0' (by simpa using s1')
    have sz1 : 0 ≤ sz ∧ sz ≤ max 3 W := by
      simp only [List.mem_cons, List.not_mem_nil, or_false] at szm
      omega
    refine ⟨_, _, _, .im, rfl, sze, ?_⟩
    refine ⟨_, by walk_at "sr", ?_⟩
    walk_at "e"; walk_at "e"
    refine AE.bm F.plainAttrs_list F.slot_list_append F.type_list_append ma_append ?_
    walk_at "e"
    refine ⟨.list (.mu updM_same), ?_⟩
    walk_at "e"
    refine AE.tup ?_
    iterate 10 walk_at "e"
    refine AE.imp (Q := fun d m' => ∃ pr m13, d = .int pr ∧ (sz = 0 → pr = 0) ∧ (sz ≠ 0 → 1 ≤ pr ∧ pr ≤ 999) ∧ PenTo m a (c + 15 + 4 * pre.length + 4) m13 ∧ m' = updM m13 v (.lst (rows.map rowD))) ?_ ?_
    · refine AE.ifx ?_
      refine AT.eqS ?_
      walk_at "es"
      refine ⟨rfl, fun hc => ?_, fun hc => ?_⟩
      · walk_at "e"
        exact ⟨0, m12, rfl, fun _ => rfl, fun z => absurd (by simpa using hc) z, hp12.mono (by omega), rfl⟩
      · walk_at "e"
        walk_at "e"
        refine AE.callC c__law_draw hx (by omega) (by decide +kernel) ?_
        walk_at "es"
        refine ⟨a, c + 15 + 4 * pre.length + 3, hg, rfl, hp12.at.upd nev, by omega, by omega, by omega, fun pz m14 p0 p1 hp14 => ?_⟩
        obtain ⟨m15, hp15, rfl⟩ := hp14.swap nev
        have hz : sz ≠ 0 := by simpa using hc
        refine ⟨_, .int, ?_⟩
        exact ⟨1 + pz, m15, rfl, fun z => absurd z hz, fun _ => by omega, hp12.trans hp15, rfl⟩
    · rintro _ _ ⟨pr, m13, rfl, q0, q1, hp13, rfl⟩
      walk_at "e"
      refine ⟨(show 4 ≤ sizeLine by decide), ?_⟩
      walk_at "e"
      refine ⟨v, _, _, rfl, rfl, updM_same, by simp; exact Nat.lt_trans (show rows.length < 12 by omega) (by decide), ?_⟩
      walk_at "e"
      refine ⟨rows ++ [(x, sh + sp, sh + sp + sz, pr)], by simp [r1], ?_, ⟨_, _, _, rfl⟩, m13, hp13.mono (by simp; omega), ?_⟩
      · intro r hr
        rcases List.mem_append.mp hr with hr | hr
        · exact r2 r hr
        · rw [List.mem_singleton] at hr
          subst hr
          refine ⟨xok, ?_, ?_, ?_, ?_, ?_, ?_⟩
          · show sh + sp ≤ sh + sp + sz
            omega
          · show sh + sp + sz - (sh + sp) ≤ max 3 W
            omega
          · show -(2 * 10 ^ 11) ≤ sh + sp
            omega
          · show sh + sp + sz ≤ 2 * 10 ^ 11
            omega
          · show sh + sp = sh + sp + sz → pr = 0
            exact fun z => q0 (by omega)
          · show sh + sp < sh + sp + sz → _
            exact fun z => q1 (by omega)
      · rw [updM_updM, List.map_append]
        rfl
  · rintro ρ' m' ⟨rows, r1, r2, ⟨o1, o2, o3, rfl⟩, m6, hp6, rfl⟩
    have nv6 : m6 v = none := hp6.none nev nv0
    walk_at "e"; walk_at "e"
    refine AE.vw ?_
    walk_at "e"
    refine ⟨_, _, VW.frz (u := .lst (rows.map rowD)) updM_same, ?_⟩
    rw [delM_updM nv6]
    have rl : rows.length = ys.length := by rw [← r1]; simp
    refine q rows m6 ⟨by omega, by rw [r1]; exact ynd, by rw [r1]; exact y2, r2⟩ (hp6.mono (by omega))
open PySem PySem.Spec PyProof.Rows L2 Ab

/-- rows in order of their names -/
structure SRows (rows : List Itm) : Prop where
  len : rows.length ≤ 12
  nd : (rows.map (·.1)).Nodup
  srt : sortedS (rows.map (·.1)) = true
  good : ∀ r ∈ rows, GoodName r.1
theorem GRows.s {n : Nat} {W : Int} {rows : List Itm} (h : GRows n W rows) (hn : n ≤ 12) : SRows rows := ⟨Nat.le_trans h.len hn, h.nd, h.srt, fun r hr => (h.all r hr).good⟩
theorem keyD_rows {rs : List Itm} (h : ∀ r ∈ rs, GoodName r.1) : KeyD rs rowD where
  isP := fun r hr => by show isPs [_, _, _, _] = true; simp [isPs, isP, good_lay (h r hr)]
  alike := PySem.W.AllAlike.of fun a b => by simp [rowD, dP, dPs, PySem.W.alike, PySem.W.alikeAll]
  sortable := PySem.W.Sortable.tuples fun r => ⟨_, _, rfl⟩
  depth := fun r hr => by simp [rowD, dP, dPs, PyData.depth, PyData.depthAll]
theorem srows_sort {rows : List Itm} (h : SRows rows) : rows.mergeSort (PySem.W.dataLe false fun y => dP (rowD y)) = rows := by
  refine List.mergeSort_of_pairwise ?_
  have h1 := sorted_pw h.srt
  have h2 := h.nd
  unfold List.Nodup at h2
  rw [List.pairwise_map] at h1 h2
  refine (h1.and h2).imp fun {a b} ⟨q1, q2⟩ => ?_
  have e : PySem.W.dataLt (dP (rowD b)) (dP (rowD a)) = false := by
    show PySem.W.dataLt (.tuple (.str b.1 :: _)) (.tuple (.str a.1 :: _)) = false
    rw [Ab.lt_str]
    exact decide_eq_false fun z => z.elim (fun z => q1 z) fun z => q2 z.1.symm
  show (!PySem.W.dataLt (dP (rowD b)) (dP (rowD a))) = true
  rw [e]; rfl
def aRow2 (f : Itm → Itm → Bool) (cs : Cs) : ASp := fun ds m Q => ∃ r1 r2, ds = [rowD r1, rowD r2] ∧ Q (.bl (f r1 r2)) m
abbrev a__law_before (cs : Cs) : ASp := aRow2 before_ cs
abbrev n__law_before : List Str := ["one", "two"]
theorem sc__law_before : FnScope n__law_before ["one", "two"] (defScope s__law_before) := ⟨rfl, rfl, rfl, by decide +kernel, rfl, by decide +kernel, by decide +kernel⟩
theorem body__law_before {X : Cx} {k : Nat} {cs : Cs} (hx : XF X (fbOf n__law_before (defScope s__law_before)) k) (hk : 0 ≤ k) (hxe : X.xe = fun _ _ => False) (hs : X.env.scope = defScope s__law_before) (hf : Fc X.prog X.w X.K X.mg X.base cs) (fr : Fr X) (ds : List D) (m : Mu) (Q : QD) (h : a__law_before cs ds m Q) :
    ASs X (defBody s__law_before) (startR n__law_before ds) m { nx := fun _ m' => Q .non m', rt := Q } := by
  obtain ⟨r1, r2, rfl, q⟩ := h
  show ASs X (defBody s__law_before) [some (rowD r1), some (rowD r2)] m _
  walk_at "es"
  refine AE.ix ixa_tup ?_
  walk_at "es"
  refine ⟨_, _, _, rfl, rfl, rfl, ?_⟩
  refine AE.ix ixa_tup ?_
  walk_at "es"
  refine ⟨_, _, _, rfl, rfl, rfl, ?_⟩
  walk_at "es"
  exact q
abbrev a__law_loose (cs : Cs) : ASp := aRow2 loose_ cs
abbrev n__law_loose : List Str := ["one", "two"]
theorem sc__law_loose : FnScope n__law_loose ["one", "two"] (defScope s__law_loose) := ⟨rfl, rfl, rfl, by decide +kernel, rfl, by decide +kernel, by decide +kernel⟩
theorem body__law_loose {X : Cx} {k : Nat} {cs : Cs} (hx : XF X (fbOf n__law_loose (defScope s__law_loose)) k) (hk : 8 ≤ k) (hxe : X.xe = fun _ _ => False) (hs : X.env.scope = defScope s__law_loose) (hf : Fc X.prog X.w X.K X.mg X.base cs) (fr : Fr X) (c__law_before : Cal X.prog X.w X.K X.mg X.base 1 "_law_before" (a__law_before cs)) (ds : List D) (m : Mu) (Q : QD) (h : a__law_loose cs ds m Q) :
    ASs X (defBody s__law_loose) (startR n__law_loose ds) m { nx := fun _ m' => Q .non m', rt := Q } := by
  obtain ⟨r1, r2, rfl, q⟩ := h
  show ASs X (defBody s__law_loose) [some (rowD r1), some (rowD r2)] m _
  have go : ASs X ((defBody s__law_loose).drop 1) [some (rowD r1), some (rowD r2)] m { nx := fun _ m' => Q .non m', rt := fun d m' => d = .bl (!before_ r1 r2 && !before_ r2 r1) ∧ m' = m } := by
    show ASs X ((defBody s__law_loose).drop 1) [some (rowD r1), some (rowD r2)] m _
    walk_at "e"; walk_at "e"
    refine AE.and ?_
    refine AE.not ?_
    refine AE.callC c__law_before hx (by omega) (by decide +kernel) ?_
    walk_at "es"
    refine ⟨r1, r2, rfl, ?_⟩
    walk_at "es"
    refine ⟨fun e => ?_, fun e => ?_⟩
    · refine AE.one (AE.not ?_)
      refine AE.callC c__law_before hx (by omega) (by decide +kernel) ?_
      walk_at "es"
      refine ⟨r2, r1, rfl, ?_⟩
      rw [e]; exact ⟨_, rfl, rfl, rfl⟩
    · rw [e]; exact ⟨rfl, rfl⟩
  have fin : loose_ r1 r2 = (!before_ r1 r2 && !before_ r2 r1) → ASs X ((defBody s__law_loose).drop 1) [some (rowD r1), some (rowD r2)] m { nx := fun _ m' => Q .non m', rt := Q } := fun e => go.imp (fun _ _ z => z) (fun d m' ⟨e1, e2⟩ => by rw [e1, e2, ← e]; exact q) (fun _ _ z => z.elim) fun _ _ z => z.elim
  walk_at "e"; walk_at "e"; walk_at "e"
  refine AT.eqS ?_
  refine AE.ix ixa_tup ?_
  walk_at "es"
  refine ⟨_, _, _, rfl, rfl, rfl, ?_⟩
  refine AE.ix ixa_tup ?_
  walk_at "es"
  refine ⟨_, _, _, rfl, rfl, rfl, ?_⟩
  refine ⟨_, _, rfl, rfl, rfl, ?_⟩
  have ex : ∀ r : Itm, decide (V.int r.2.1 = V.int r.2.2.1) = exact_ r := fun r => by unfold exact_; simp
  rw [ex]
  refine ⟨fun e1 => ?_, fun e1 => ?_⟩
  · refine AW.and1 ?_
    refine AT.eqS ?_
    refine AE.ix ixa_tup ?_
    walk_at "es"
    refine ⟨_, _, _, rfl, rfl, rfl, ?_⟩
    refine AE.ix ixa_tup ?_
    walk_at "es"
    refine ⟨_, _, _, rfl, rfl, rfl, ?_⟩
    refine ⟨_, _, rfl, rfl, rfl, ?_⟩
    rw [ex]
    refine ⟨fun e2 => ?_, fun e2 => ?_⟩
    · walk_at "es"
      have z : loose_ r1 r2 = false := by unfold loose_; rw [e1, e2]; rfl
      rw [z] at q; exact q
    · refine ASs.nil ?_
      exact fin (by unfold loose_; rw [e1, e2]; simp)
  · refine ff_and ?_
    refine ASs.nil ?_
    exact fin (by unfold loose_; rw [e1]; simp)
theorem flat_len {α β : Type} {f : α → List β} {c : Nat} : ∀ {xs : List α}, (∀ x ∈ xs, (f x).length ≤ c) → (xs.flatMap f).length ≤ xs.length * c
  | [], _ => by simp
  | x :: xs, h => by
    have h1 := h x List.mem_cons_self
    have h2 := flat_len (xs := xs) fun y hy => h y (List.mem_cons_of_mem _ hy)
    rw [List.flatMap_cons, List.length_append, List.length_cons, Nat.succ_mul]
    omega
/-- the loose pairs of rows in order of their names -/
def looseT1 (rows : List Itm) (a : Itm) : List (Str × Str) := (rows.filter fun b => ltS a.1 b.1 && loose_ a b).map fun b => (a.1, b.1)
def looseT (rows : List Itm) : List (Str × Str) := rows.flatMap (looseT1 rows)
def a__law_loose_pairs (cs : Cs) : ASp := fun ds m Q => ∃ rows, ds = [.lst (rows.map rowD)] ∧ SRows rows ∧ Q (.lst ((looseT rows).map pairS)) m
abbrev n__law_loose_pairs : List Str := ["rows", "found", "one", "two"]
theorem sc__law_loose_pairs : FnScope n__law_loose_pairs ["rows"] (defScope s__law_loose_pairs) := ⟨rfl, rfl, rfl, by decide +kernel, rfl, by decide +kernel, by decide +kernel⟩
theorem body__law_loose_pairs {X : Cx} {k : Nat} {cs : Cs} (hx : XF X (fbOf n__law_loose_pairs (defScope s__law_loose_pairs)) k) (hk : 16 ≤ k) (hxe : X.xe = fun _ _ => False) (hs : X.env.scope = defScope s__law_loose_pairs) (hf : Fc X.prog X.w X.K X.mg X.base cs) (fr : Fr X) (c__law_loose : Cal X.prog X.w X.K X.mg X.base 9 "_law_loose" (a__law_loose cs)) (ds : List D) (m : Mu) (Q : QD) (h : a__law_loose_pairs cs ds m Q) :
    ASs X (defBody s__law_loose_pairs) (startR n__law_loose_pairs ds) m { nx := fun _ m' => Q .non m', rt := Q } := by
  obtain ⟨rows, rfl, hr, q⟩ := h
  have rl := hr.len
  have rs : rows.length < sizeLine := Nat.lt_of_le_of_lt rl (by decide)
  show ASs X (defBody s__law_loose_pairs) [some (.lst (rows.map rowD)), none, none, none] m _
  walk_at "e"; walk_at "e"
  refine AE.lst ?_
  walk_at "e"
  refine ⟨Nat.zero_le _, ?_⟩
  walk_at "es"
  refine AS.forT rowD hxe hx (AI.list ?_)
  refine AE.bSorted (f := rowD) hx fr ?_
  walk_at "e"
  refine ⟨rows, .im, Nat.le_of_lt rs, keyD_rows hr.good, ?_⟩
  rw [srows_sort hr]
  refine ⟨_, .im, rows, fun pre ρ' m' => (∃ o, ρ' = [some (.lst (rows.map rowD)), some (.lst ((pre.flatMap (looseT1 rows)).map pairS)), o, none]) ∧ m' = m, rfl, ⟨⟨_, rfl⟩, rfl⟩, fun _ _ _ _ => .im, ?_, ?_⟩
  · rintro pre r post ρ' m' e ⟨⟨o, rfl⟩, rfl⟩
    have pl : pre.length < 12 := by have := congrArg List.length e; simp at this; omega
    have fl : (pre.flatMap (looseT1 rows)).length ≤ 12 * 12 := by
      refine Nat.le_trans (flat_len (c := 12) fun v hv => ?_) (Nat.mul_le_mul_right _ (by omega))
      rw [looseT1, List.length_map]; exact Nat.le_trans (List.length_filter_le _ _) rl
    have tl : (looseT1 rows r).length ≤ 12 := by
      rw [looseT1, List.length_map]; exact Nat.le_trans (List.length_filter_le _ _) rl
    walk_at "e"
    refine ⟨_, by walk_at "sr", ?_⟩
    walk_at "e"; walk_at "e"
    refine AE.add ?_
    walk_at "e"
    refine AE.lcIf (f := rowD) (g := fun b => pairS (r.1, b.1)) (t := fun b => ltS r.1 b.1 && loose_ r b) hx hs (by with_reducible (walk_at "nth")) (by decide +kernel) ?_
    refine AI.list ?_
    refine AE.bSorted (f := rowD) hx fr ?_
    walk_at "e"
    refine ⟨rows, .im, Nat.le_of_lt rs, keyD_rows hr.good, ?_⟩
    rw [srows_sort hr]
    refine ⟨_, .im, rows, rfl, rs, fun _ _ => .im, ?_, ?_⟩
    · intro b hb m' hm'
      refine ⟨_, by walk_at "sr", ?_, fun _ => ?_⟩
      · refine ABT.of hx hs fun s0 H0 C0 cl0 fp0 hb hbs => ?_
        walk_at "e"
        refine AT.ltS ?_
        refine AE.ix ixa_tup ?_
        walk_at "e"; walk_at "e"
        refine ⟨_, _, _, rfl, rfl, rfl, ?_⟩
        refine AE.ix ixa_tup ?_
        walk_at "e"; walk_at "e"
        refine ⟨_, _, _, rfl, rfl, rfl, ?_⟩
        refine ⟨_, _, rfl, rfl, ?_⟩
        show ((ltS r.1 b.1) = true → _) ∧ ((ltS r.1 b.1) = false → _)
        refine ⟨fun e1 => ?_, fun e1 => ⟨rfl, by simp [e1]⟩⟩
        refine AW.and1 ?_
        refine AT.val ?_
        refine AE.callC c__law_loose hb (by omega) (by decide +kernel) ?_
        walk_at "es"
        exact ⟨r, b, rfl, _, rfl, rfl, by simp [e1]⟩
      · refine ABE.of hx hs fun s0 H0 C0 cl0 fp0 hb hbs => ?_
        refine AE.tup ?_
        walk_at "e"
        refine AE.ix ixa_tup ?_
        walk_at "e"; walk_at "e"
        refine ⟨_, _, _, rfl, rfl, rfl, ?_⟩
        walk_at "e"
        refine AE.ix ixa_tup ?_
        walk_at "e"; walk_at "e"
        refine ⟨_, _, _, rfl, rfl, rfl, ?_⟩
        walk_at "e"
        exact ⟨(show 2 ≤ sizeLine by decide), rfl, rfl⟩
    · refine ⟨_, .cat .im .im ?_, ?_⟩
      · rw [List.length_map, List.length_map]
        refine Nat.le_trans (Nat.add_le_add fl (Nat.le_trans (List.length_filter_le _ _) rl)) (show 12 * 12 + 12 ≤ sizeLine by decide)
      · walk_at "e"
        walk_at "e"
        refine ⟨⟨some (rowD r), ?_⟩, rfl⟩
        rw [List.flatMap_append, List.map_append]
        simp [looseT1, pairS]
  · rintro ρ' m' ⟨⟨o, rfl⟩, rfl⟩
    walk_at "es"
    exact q
open PySem PySem.Spec PyProof.Rows L2 Ab

/-- drawn values for the open rows -/
structure KOk (rows : List Itm) (vals : List (Str × Int)) : Prop where
  nd : (vals.map (·.1)).Nodup
  op : ∀ n, n ∈ vals.map (·.1) ↔ ∃ r ∈ rows, r.1 = n ∧ r.2.1 < r.2.2.1
  bd : ∀ p ∈ vals, ∀ r ∈ rows, r.1 = p.1 → r.2.1 ≤ p.2 ∧ p.2 ≤ r.2.2.1
def a__law_truth (cs : Cs) : ASp := fun ds m Q => ∃ (a : Addr) (c n : Nat) (W : Int) (rows : List Itm), ds = [.ref a, .lst (rows.map rowD)] ∧ PenAt m a c ∧ c < 900000 ∧ GRows n W rows ∧ n ≤ 12 ∧ W ≤ 1000 ∧ ∀ vals m', KOk rows vals → PenTo m a (c + 400) m' → Q (valD vals) m'
abbrev n__law_truth : List Str := ["pen", "rows", "found", "nym", "low", "top", "cost", "ends", "other", "some", "end", "good", "spot", "turned"]
theorem sc__law_truth : FnScope n__law_truth ["pen", "rows"] (defScope s__law_truth) := ⟨rfl, rfl, rfl, by decide +kernel, rfl, by decide +kernel, by decide +kernel⟩
theorem body__law_truth {X : Cx} {k : Nat} {cs : Cs} (hx : XF X (fbOf n__law_truth (defScope s__law_truth)) k) (hk : 16 ≤ k) (hxe : X.xe = fun _ _ => False) (hs : X.env.scope = defScope s__law_truth) (hf : Fc X.prog X.w X.K X.mg X.base cs) (fr : Fr X) (c__law_draw : Cal X.prog X.w X.K X.mg X.base 9 "_law_draw" (a__law_draw cs)) (ds : List D) (m : Mu) (Q : QD) (h : a__law_truth cs ds m Q) :
    ASs X (defBody s__law_truth) (startR n__law_truth ds) m { nx := fun _ m' => Q .non m', rt := Q } := by
  obtain ⟨a, c, n, W, rows, rfl, hp, hc, hr, hn, hw, q⟩ := h
  show ASs X (defBody s__law_truth) [some (.ref a), some (.lst (rows.map rowD)), none, none, none, none, none, none, none, none, none, none, none, none] m _
  have rl := hr.len
  have rs : rows.length < sizeLine := Nat.lt_of_le_of_lt (show rows.length ≤ 12 by omega) (by decide)
  walk_at "e"; walk_at "e"
  refine AE.dicM fun b nb => ?_
  have ne : a ≠ b := hp.ne nb
  refine ⟨_, by walk_at "sr", ?_⟩
  walk_at "e"
  refine AS.forT (α := Itm) rowD hxe hx (AI.list ?_)
  walk_at "e"
  refine ⟨_, .im, rows, fun pre ρ' m' => ∃ vals m2, KOk pre vals ∧ (∃ o3 o4 o5 o6 o7 o8 o9 o10 o11 o12 o13, ρ' = [some (.ref a), some (.lst (rows.map rowD)), some (.ref b), o3, o4, o5, o6, o7, o8, o9, o10, o11, o12, o13]) ∧ PenTo m a (c + 30 * pre.length) m2 ∧ m' = updM m2 b (.dic (vals.map valK)), rfl, ⟨[], m, ⟨.nil, by simp, by simp⟩, ⟨_, _, _, _, _, _, _, _, _, _, _, rfl⟩, hp.to, rfl⟩, fun _ _ _ _ => .im, ?_, ?_⟩
  · rintro pre r post ρ' m' e ⟨vals, m2, ko, ⟨o3, o4, o5, o6, o7, o8, o9, o10, o11, o12, o13, rfl⟩, hp2, rfl⟩
    have pl : pre.length < 12 := by have := congrArg List.length e; simp at this; omega
    have hm : r ∈ rows := by rw [e]; simp
    have gr := hr.all r hm
    have nb2 : m2 b = none := hp2.none ne nb
    refine AG.tup4 hx (by with_reducible (walk_at "nth")) (by with_reducible (walk_at "nth")) (by with_reducible (walk_at "nth")) (by with_reducible (walk_at "nth")) (by decide +kernel) (by decide +kernel) (by decide +kernel) (by decide +kernel) ⟨_, _, rfl, .cons (by walk_at "sr") (.cons (by walk_at "sr") (.cons (by walk_at "sr") (.cons (by walk_at "sr") .nil))), ?_⟩
    walk_at "e"; walk_at "e"
    walk_at "es"
    have nin : r.1 ∉ pre.map (·.1) := by
      have nd := hr.nd
      rw [e, List.map_append, List.map_cons, List.nodup_append] at nd
      exact fun z => nd.2.2 r.1 z r.1 (by simp) rfl
    refine ds_and (fun lt => ?_) fun lt => ?_
    · walk_at "e"; walk_at "e"
      refine AE.add ?_
      refine AE.lcE (f := rowD) hx hs (by with_reducible (walk_at "nth")) (by decide +kernel) ?_
      refine AI.list ?_
      walk_at "e"
      refine ⟨_, .im, rows, fun pre2 out mi => ∃ zs : List Int, out = zs.map D.int ∧ zs.length = pre2.length ∧ ∃ m3, PenTo m a (c + 30 * pre.length + pre2.length) m3 ∧ mi = updM m3 b (.dic (vals.map valK)), rfl, ⟨rs, ⟨[], rfl, rfl, m2, hp2, rfl⟩, fun _ _ _ _ _ _ _ => .im, ?_⟩, ?_⟩
      · rintro pre2 s post2 out mi z e2 ⟨zs, rfl, hz, m3, hp3, rfl⟩ hol nz
        have p2l : pre2.length < 12 := by have := congrArg List.length e2; simp at this; omega
        obtain ⟨nzb, nz3⟩ := updM_none nz
        have nea : a ≠ z := hp3.at.ne nz3
        refine ⟨_, by walk_at "sr", ?_⟩
        refine ABE.of hx hs fun s0 H0 C0 cl0 fp0 hb hbs => ?_
        refine AE.ix ixa_tup ?_
        walk_at "e"; walk_at "e"; walk_at "e"
        refine AE.callC c__law_draw hb (by omega) (by decide +kernel) ?_
        walk_at "es"
        refine ⟨a, c + 30 * pre.length + pre2.length, 2, rfl, (hp3.at.upd ne).upd nea, by omega, by omega, by omega, fun d m4 d0 d1 hp4 => ?_⟩
        obtain ⟨m5, hp5, rfl⟩ := hp4.swap nea
        obtain ⟨m6, hp6, rfl⟩ := hp5.swap ne
        have fin : ∀ v : Int, ∃ mj, updM (updM m6 b (.dic (vals.map valK))) z (.lst (zs.map D.int)) = updM mj z (.lst (zs.map D.int)) ∧ mj z = none ∧ ∃ ys : List Int, zs.map D.int ++ [D.int v] = ys.map D.int ∧ ys.length = (pre2 ++ [s]).length ∧ ∃ m3, PenTo m a (c + 30 * pre.length + (pre2 ++ [s]).length) m3 ∧ mj = updM m3 b (.dic (vals.map valK)) := fun v =>
          ⟨_, rfl, by rw [updM_ne nzb, hp6.ne nea.symm]; exact nz3, zs ++ [v], by simp, by simp [hz], m6, (hp3.trans hp6).mono (by simp; omega), rfl⟩
        have d2 : d = 0 ∨ d = 1 := by omega
        rcases d2 with rfl | rfl
        · exact ⟨_, .int, _, _, _, rfl, rfl, rfl, fin _⟩
        · exact ⟨_, .int, _, _, _, rfl, rfl, rfl, fin _⟩
      · rintro out mj ⟨zs, rfl, hz, m3, hp3, rfl⟩
        have nb3 : m3 b = none := hp3.none ne nb
        refine AE.lst ?_
        walk_at "es"
        refine ⟨(show 2 ≤ sizeLine by decide), ?_⟩
        refine ⟨_, .cat .im .im (by simp only [List.length_map, List.length_cons, List.length_nil]; exact Nat.le_trans (show zs.length + 2 ≤ 100 by omega) (by decide)), ?_⟩
        have ee : zs.map D.int ++ [D.int r.2.1, D.int r.2.2.1] = (zs ++ [r.2.1, r.2.2.1]).map D.int := by simp
        rw [ee]
        generalize hes : zs ++ [r.2.1, r.2.2.1] = es
        have esl : es.length ≤ 14 := by rw [← hes]; simp; omega
        refine ⟨_, by walk_at "sr", ?_⟩
        walk_at "e"
        refine AS.setLcE (f := D.int) hx hs (by with_reducible (walk_at "nth")) (by decide +kernel) (by with_reducible (walk_at "nth")) (by decide +kernel) (by simp only [swapsWith, Env.blockKind, Env.kindOf, hs]; rfl) ?_
        refine AI.list ?_
        walk_at "e"
        refine ⟨_, .im, es, fun pre2 out mi => ∃ zs : List Int, out = zs.map D.int ∧ zs.length = pre2.length ∧ ∃ m4, PenTo m a (c + 30 * pre.length + 12 + pre2.length) m4 ∧ mi = updM m4 b (.dic (vals.map valK)), rfl, ⟨Nat.lt_of_le_of_lt esl (by decide), ⟨[], rfl, rfl, m3, hp3.mono (by simp; omega), rfl⟩, fun _ _ _ _ _ _ _ => .im, ?_⟩, ?_⟩
        · rintro pre2 s post2 out mi z e2 ⟨zs2, rfl, hz2, m4, hp4, rfl⟩ hol nz
          have p2l : pre2.length < 14 := by have := congrArg List.length e2; simp at this; omega
          obtain ⟨nzb, nz3⟩ := updM_none nz
          have nea : a ≠ z := hp4.at.ne nz3
          refine ⟨_, by walk_at "sr", ?_⟩
          refine ABE.of hx hs fun s0 H0 C0 cl0 fp0 hb hbs => ?_
          walk_at "e"; walk_at "e"; walk_at "e"
          refine AE.callC c__law_draw hb (by omega) (by decide +kernel) ?_
          walk_at "es"
          refine ⟨a, c + 30 * pre.length + 12 + pre2.length, 3, rfl, (hp4.at.upd ne).upd nea, by omega, by omega, by omega, fun d m5 d0 d1 hp5 => ?_⟩
          obtain ⟨m6, hp6, rfl⟩ := hp5.swap nea
          obtain ⟨m7, hp7, rfl⟩ := hp6.swap ne
          walk_at "e"; walk_at "e"
          refine ⟨_, _, rfl, rfl, ?_⟩
          exact ⟨_, rfl, by rw [updM_ne nzb, hp7.ne nea.symm]; exact nz3, zs2 ++ [s + d - 1], by simp, by simp [hz2], m7, (hp4.trans hp7).mono (by simp; omega), rfl⟩
        rintro out mj ⟨ws, rfl, hws, m4, hp4, rfl⟩
        have nb4 : m4 b = none := hp4.none ne nb
        refine ⟨_, by walk_at "sr", ?_⟩
        walk_at "e"
        refine AS.setLcIf (f := D.int) (g := D.int) (t := fun w => decide (r.2.1 ≤ w) && decide (w ≤ r.2.2.1)) hx hs (by with_reducible (walk_at "nth")) (by decide +kernel) (by with_reducible (walk_at "nth")) (by decide +kernel) (by simp only [swapsWith, Env.blockKind, Env.kindOf, hs]; rfl) ?_
        refine AI.list ?_
        walk_at "e"
        refine ⟨_, .im, ws, rfl, Nat.lt_of_le_of_lt (show ws.length ≤ 14 by omega) (by decide), fun _ _ => .im, ?_, ?_⟩
        · intro w hw2 m' hm'
          refine ⟨_, by walk_at "sr", ?_, fun _ => ?_⟩
          · refine ABT.of hx hs fun s0 H0 C0 cl0 fp0 hb hbs => ?_
            refine AT.chain oa_le oa_le ?_
            walk_at "e"; walk_at "e"
            refine ⟨_, _, rfl, rfl, ?_⟩
            refine ⟨_, rfl, ds_and (fun h1 => ?_) fun h1 => ?_⟩
            · walk_at "e"
              exact ⟨_, _, rfl, rfl, _, rfl, rfl, by simp [h1]⟩
            · exact ⟨_, rfl, rfl, by simp [h1]⟩
          · refine ABE.of hx hs fun s0 H0 C0 cl0 fp0 hb hbs => ?_
            walk_at "e"
            exact ⟨rfl, rfl⟩
        generalize hgs : ws.filter (fun w => decide (r.2.1 ≤ w) && decide (w ≤ r.2.2.1)) = gs
        have gsl : gs.length ≤ 14 := by rw [← hgs]; exact Nat.le_trans (List.length_filter_le _ _) (by omega)
        have gsr : ∀ w ∈ gs, r.2.1 ≤ w ∧ w ≤ r.2.2.1 := fun w hw2 => by
          rw [← hgs, List.mem_filter] at hw2; simpa using hw2.2
        have wd := gr.wd
        refine ⟨_, by walk_at "sr", ?_⟩
        walk_at "e"
        refine AS.dput hx ?_
        refine AE.ix ixa_list ?_
        refine AE.add ?_
        walk_at "e"
        refine AE.lst ?_
        walk_at "e"; walk_at "e"; walk_at "e"
        refine AE.callC c__law_draw hx (by omega) (by decide +kernel) ?_
        walk_at "es"
        refine ⟨a, c + 30 * pre.length + 26, r.2.2.1 - r.2.1 + 1, rfl, (hp4.mono (by omega)).at.upd ne, by omega, by omega, by omega, fun d m5 d0 d1 hp5 => ?_⟩
        obtain ⟨m6, hp6, rfl⟩ := hp5.swap ne
        replace hp6 := hp4.trans hp6
        refine ⟨_, .int, ?_⟩
        walk_at "e"
        refine ⟨(show 1 ≤ sizeLine by decide), ?_⟩
        refine ⟨_, .cat .im .im (by simp only [List.length_map, List.length_cons, List.length_nil]; exact Nat.le_trans (show gs.length + 1 ≤ 100 by omega) (by decide)), ?_⟩
        have ee2 : gs.map D.int ++ [D.int (r.2.1 + d)] = (gs ++ [r.2.1 + d]).map D.int := by simp
        rw [ee2]
        have allr : ∀ w ∈ gs ++ [r.2.1 + d], r.2.1 ≤ w ∧ w ≤ r.2.2.1 := fun w hw2 => by
          rcases List.mem_append.mp hw2 with h | h
          · exact gsr w h
          · rw [List.mem_singleton.mp h]; omega
        refine AE.callC c__law_draw hx (by omega) (by decide +kernel) ?_
        walk_at "e"; walk_at "e"; walk_at "e"
        refine AE.add ?_
        refine AE.bLen hx fr ?_
        walk_at "e"
        refine ⟨_, .im, ?_⟩
        walk_at "e"
        refine ⟨_, .int, ?_⟩
        walk_at "e"
        rw [List.length_map]
        refine ⟨a, c + 30 * pre.length + 27, (gs.length : Int) + 1, rfl, (hp6.mono (by omega)).at.upd ne, by omega, by omega, by omega, fun d7 m7 e0 e1 hp7 => ?_⟩
        obtain ⟨m8, hp8, rfl⟩ := hp7.swap ne
        replace hp8 := hp6.trans hp8
        have nb8 : m8 b = none := hp8.none ne nb
        obtain ⟨w, wm, we⟩ := at_ints (zs := gs ++ [r.2.1 + d]) e0 (by simp; omega)
        obtain ⟨wr1, wr2⟩ := allr w wm
        refine ⟨_, _, _, .im, rfl, we, ?_⟩
        walk_at "e"; walk_at "e"
        have nk : r.1 ∉ vals.map (·.1) := fun z => by
          obtain ⟨r', hr', er, _⟩ := (ko.op _).mp z
          exact nin (List.mem_map.mpr ⟨r', hr', er⟩)
        have vl : vals.length ≤ pre.length := by
          have sub : vals.map (·.1) ⊆ pre.map (·.1) := fun x hx2 => by
            obtain ⟨r', hr', er, _⟩ := (ko.op _).mp hx2
            exact List.mem_map.mpr ⟨r', hr', er⟩
          have := ko.nd.length_le_of_subset sub
          simpa using this
        refine ⟨b, _, _, rfl, updM_same, rfl, by rw [List.length_map]; exact Nat.lt_of_le_of_lt (show vals.length ≤ 12 by omega) (by decide), ?_⟩
        walk_at "e"
        refine ASs.nil ?_
        refine ⟨vals ++ [(r.1, w)], m8, ⟨?_, ?_, ?_⟩, ⟨_, _, _, _, _, _, _, _, _, _, _, rfl⟩, hp8.mono (by simp; omega), ?_⟩
        · rw [List.map_append, List.nodup_append]
          refine ⟨ko.nd, by simp, fun x hx2 y hy => ?_⟩
          rw [List.map_cons, List.map_nil, List.mem_singleton] at hy
          rw [hy]; exact fun z => nk (z ▸ hx2)
        · intro x
          rw [List.map_append, List.mem_append, ko.op x]
          constructor
          · rintro (⟨r', hr', er, lt'⟩ | hx2)
            · exact ⟨r', by simp [hr'], er, lt'⟩
            · rw [List.map_cons, List.map_nil, List.mem_singleton] at hx2
              exact ⟨r, by simp, hx2.symm, lt⟩
          · rintro ⟨r', hr', er, lt'⟩
            rcases List.mem_append.mp hr' with h | h
            · exact .inl ⟨r', h, er, lt'⟩
            · rw [List.mem_singleton.mp h] at er
              exact .inr (by simp [er])
        · intro p2 hp9 r' hr' er
          rcases List.mem_append.mp hp9 with h | h
          · rcases List.mem_append.mp hr' with h2 | h2
            · exact ko.bd p2 h r' h2 er
            · rw [List.mem_singleton.mp h2] at er
              exact absurd (List.mem_map.mpr ⟨p2, h, er.symm⟩) nk
          · rw [List.mem_singleton.mp h] at er ⊢
            have : r' = r := by
              have n1 := hr.nd
              have m1 : r' ∈ rows := by
                rcases List.mem_append.mp hr' with h2 | h2
                · rw [e]; simp [h2]
                · rw [List.mem_singleton.mp h2]; exact hm
              exact nd_inj n1 m1 hm er
            rw [this]; exact ⟨wr1, wr2⟩
        · rw [updM_updM, putKD_new (by
            intro z
            obtain ⟨u, hu, e⟩ := List.mem_map.mp z
            obtain ⟨w2, hw2, rfl⟩ := List.mem_map.mp hu
            exact nk (List.mem_map.mpr ⟨w2, hw2, by simpa [valK] using e⟩))]
          simp [valK]
    · refine ASs.nil (ASs.nil ?_)
      refine ⟨vals, m2, ⟨ko.nd, fun x => ?_, fun p2 hp9 r' hr' er => ?_⟩, ⟨_, _, _, _, _, _, _, _, _, _, _, rfl⟩, hp2.mono (by simp; omega), rfl⟩
      · rw [ko.op x]
        constructor
        · rintro ⟨r', hr', er, lt'⟩
          exact ⟨r', by simp [hr'], er, lt'⟩
        · rintro ⟨r', hr', er, lt'⟩
          rcases List.mem_append.mp hr' with h | h
          · exact ⟨r', h, er, lt'⟩
          · rw [List.mem_singleton.mp h] at lt'; exact absurd lt' lt
      · rcases List.mem_append.mp hr' with h2 | h2
        · exact ko.bd p2 hp9 r' h2 er
        · rw [List.mem_singleton.mp h2] at er
          obtain ⟨r3, hr3, er3, _⟩ := (ko.op _).mp (List.mem_map.mpr ⟨p2, hp9, rfl⟩)
          exact absurd (List.mem_map.mpr ⟨r3, hr3, er3.trans er.symm⟩) nin
  · rintro ρ' m' ⟨vals, m2, ko, ⟨o3, o4, o5, o6, o7, o8, o9, o10, o11, o12, o13, rfl⟩, hp2, rfl⟩
    have nb2 : m2 b = none := hp2.none ne nb
    have vl : vals.length ≤ rows.length := by
      have sub : vals.map (·.1) ⊆ rows.map (·.1) := fun x hx2 => by
        obtain ⟨r', hr', er, _⟩ := (ko.op _).mp hx2
        exact List.mem_map.mpr ⟨r', hr', er⟩
      have := ko.nd.length_le_of_subset sub
      simpa using this
    walk_at "e"; walk_at "e"
    refine AE.sliceV ?_
    refine AE.bSortDict hx fr ?_
    walk_at "e"
    refine ⟨_, vals.map (·.1), .mu updM_same, by rw [List.map_map, List.map_map]; rfl, by rw [List.length_map]; omega, fun ys y1 y2 => ?_⟩
    refine AO.no (AO.no ?_)
    refine AE.ix ixa_list ?_
    refine AE.lst ?_
    walk_at "e"; walk_at "e"; walk_at "e"
    refine AE.neg ?_
    walk_at "e"
    refine ⟨_, rfl, ?_⟩
    walk_at "e"
    refine ⟨(show 2 ≤ sizeLine by decide), ?_⟩
    refine AE.callC c__law_draw hx (by omega) (by decide +kernel) ?_
    walk_at "es"
    refine ⟨a, c + 30 * rows.length, 2, rfl, hp2.at.upd ne, by omega, by omega, by omega, fun d m5 d0 d1 hp5 => ?_⟩
    obtain ⟨m6, hp6, rfl⟩ := hp5.swap ne
    replace hp6 := hp2.trans hp6
    have nb6 : m6 b = none := hp6.none ne nb
    obtain ⟨st, stm, ste⟩ := at_ints (zs := [1, -1]) d0 (by simpa using d1)
    refine ⟨_, _, _, .im, rfl, ste, ?_⟩
    obtain ⟨s0, ts, tp, te⟩ : st ≠ 0 ∧ ∃ ts : List Str, ts.Perm (vals.map (·.1)) ∧ pickD (ys.map D.str) none none st = ts.map D.str := by
      simp only [List.mem_cons, List.not_mem_nil, or_false] at stm
      rcases stm with rfl | rfl
      · exact ⟨by decide, ys, y1, by rw [pick_all]⟩
      · exact ⟨by decide, ys.reverse, (List.reverse_perm _).trans y1, by rw [pick_rev, List.map_reverse]⟩
    refine ⟨st, s0, rfl, _, .im, ?_⟩
    rw [te]
    have tl : ts.length = vals.length := by rw [tp.length_eq, List.length_map]
    refine ⟨_, by walk_at "sr", ?_⟩
    walk_at "e"; walk_at "e"
    refine AE.vw ?_
    refine AE.callT (ca_dictP hx.calm) hx (by decide +kernel) (fr _ (by decide +kernel)) rfl ?_
    walk_at "e"
    refine AE.lcMap (f := D.str) (g := fun n => .tup [.str n, .int (val vals n)]) hx hs (by with_reducible (walk_at "nth")) (by decide +kernel) ?_
    refine AI.list ?_
    walk_at "e"
    refine ⟨_, .im, ts, rfl, Nat.lt_of_le_of_lt (show ts.length ≤ 12 by omega) (by decide), fun _ _ => .im, ?_, ?_⟩
    · intro x hx2 m' hm'
      refine ⟨_, by walk_at "sr", ?_⟩
      refine ABE.of hx hs fun s0 H0 C0 cl0 fp0 hb hbs => ?_
      refine AE.tup ?_
      walk_at "e"; walk_at "e"; walk_at "e"
      refine AE.dget hb ?_
      walk_at "e"; walk_at "e"
      refine ⟨_, _, _, .mu (hm' _ _ updM_same), rfl, val_get (tp.mem_iff.mp hx2), ?_⟩
      walk_at "e"
      exact ⟨(show 2 ≤ sizeLine by decide), rfl, rfl⟩
    walk_at "e"
    refine ⟨_, ts.map fun n => (.inr n, .int (val vals n)), rfl, by rw [List.map_map]; exact .im, fun p0 np => ?_⟩
    obtain ⟨nbp, np6⟩ := updM_none np
    refine ⟨_, _, (VW.frz updM_same).trans (VW.drop (a := b)), ?_⟩
    rw [delM_updM np, delM_updM nb6]
    have tn : ts.Nodup := tp.symm.nodup ko.nd
    have em : mergeD [] (ts.map fun n => ((.inr n, .int (val vals n)) : Key × D)) = (ts.map fun n => (n, val vals n)).map valK := by
      rw [mergeD_new (by
        rw [List.nil_append, List.map_map]
        exact List.Pairwise.map _ (fun a b h e => h (by simpa using e)) tn), List.nil_append, List.map_map]
      rfl
    have key : ∀ n, n ∈ vals.map (·.1) → (n, val vals n) ∈ vals := fun n h => lookup_mem (lookup_val h)
    show Q (.dic (mergeD [] _)) _
    rw [em]
    refine q (ts.map fun n => (n, val vals n)) m6 ⟨?_, fun x => ?_, fun p2 hp9 r' hr' er => ?_⟩ (hp6.mono (by omega))
    · rw [List.map_map]
      exact (by simpa [Function.comp_def] using tn)
    · rw [← ko.op x, ← tp.mem_iff, List.map_map]
      simp [Function.comp_def]
    · obtain ⟨x, hx2, rfl⟩ := List.mem_map.mp hp9
      exact ko.bd _ (key x (tp.mem_iff.mp hx2)) r' hr' er
open PySem PySem.Spec PyProof.Rows L2 Ab

def a__law_told (cs : Cs) : ASp := fun ds m Q => ∃ rows vals, ds = [.lst (rows.map rowD), valD vals] ∧ rows.length ≤ 12 ∧ (∀ r ∈ rows, r.1 ∈ vals.map (·.1) → r.2.1 < r.2.2.1) ∧ Q (.lst ((tellL vals rows).map rowD)) m
theorem getK_isSome {vals : List (Str × Int)} {n : Str} : (getK (vals.map valK) (.inr n)).isSome = decide (n ∈ vals.map (·.1)) := by
  by_cases h : n ∈ vals.map (·.1)
  · rw [val_get h, decide_eq_true h]; rfl
  · rw [decide_eq_false h]
    unfold getK
    have : (vals.map valK).find? (fun p => decide (p.1 = .inr n)) = none := by
      rw [List.find?_eq_none]
      intro p hp
      obtain ⟨q, hq, rfl⟩ := List.mem_map.mp hp
      have : q.1 ≠ n := fun e => h (List.mem_map.mpr ⟨q, hq, e⟩)
      simpa [valK] using this
    rw [this]; rfl
abbrev n__law_told : List Str := ["rows", "known", "found", "row"]
theorem sc__law_told : FnScope n__law_told ["rows", "known"] (defScope s__law_told) := ⟨rfl, rfl, rfl, by decide +kernel, rfl, by decide +kernel, by decide +kernel⟩
theorem body__law_told {X : Cx} {k : Nat} {cs : Cs} (hx : XF X (fbOf n__law_told (defScope s__law_told)) k) (hk : 0 ≤ k) (hxe : X.xe = fun _ _ => False) (hs : X.env.scope = defScope s__law_told) (hf : Fc X.prog X.w X.K X.mg X.base cs) (fr : Fr X) (ds : List D) (m : Mu) (Q : QD) (h : a__law_told cs ds m Q) :
    ASs X (defBody s__law_told) (startR n__law_told ds) m { nx := fun _ m' => Q .non m', rt := Q } := by
  obtain ⟨rows, vals, rfl, l1, op, q⟩ := h
  show ASs X (defBody s__law_told) [some (.lst (rows.map rowD)), some (valD vals), none, none] m _
  walk_at "e"; walk_at "e"
  refine AE.lstM ?_
  walk_at "e"
  refine ⟨Nat.zero_le _, fun b nb => ?_⟩
  refine ⟨_, by walk_at "sr", ?_⟩
  walk_at "e"
  refine AS.forT (α := Itm) rowD hxe hx (AI.list ?_)
  walk_at "e"
  refine ⟨_, .im, rows, fun pre ρ' m' => (∃ o, ρ' = [some (.lst (rows.map rowD)), some (valD vals), some (.ref b), o]) ∧ m' = updM m b (.lst ((tellL vals pre).map rowD)), rfl, ⟨⟨_, rfl⟩, rfl⟩, fun _ _ _ _ => .im, ?_, ?_⟩
  · rintro pre r post ρ' m' e ⟨⟨o, rfl⟩, rfl⟩
    have hm : r ∈ rows := by rw [e]; simp
    have pl : pre.length < 12 := by have := congrArg List.length e; simp at this; omega
    walk_at "e"
    refine ⟨_, by walk_at "sr", ?_⟩
    walk_at "e"
    refine AS.expr ?_
    refine AE.bm F.plainAttrs_list F.slot_list_append F.type_list_append ma_append ?_
    walk_at "e"
    refine ⟨.list (.mu updM_same), ?_⟩
    walk_at "e"
    refine AE.imp (Q := fun d m' => d = rowD (tellI vals r) ∧ m' = updM m b (.lst ((tellL vals pre).map rowD))) ?_ ?_
    · refine AE.ifx ?_
      refine AT.ofW (AW.and ?_)
      refine AT.din hx ?_
      refine AE.ix ixa_tup ?_
      walk_at "e"; walk_at "e"
      refine ⟨_, _, _, rfl, rfl, rfl, ?_⟩
      walk_at "e"
      refine ⟨_, _, .im, rfl, ?_⟩
      rw [getK_isSome]
      refine ds_and (fun h1 => ?_) fun h1 => ?_
      · refine AW.and1 ?_
        walk_at "e"
        refine AE.ix ixa_tup ?_
        walk_at "e"; walk_at "e"
        refine ⟨_, _, _, rfl, rfl, rfl, ?_⟩
        refine AE.ix ixa_tup ?_
        walk_at "e"; walk_at "e"
        refine ⟨_, _, _, rfl, rfl, rfl, ?_⟩
        refine ⟨_, _, rfl, rfl, ?_⟩
        refine dt_and (op r hm h1) ?_
        refine AE.tup ?_
        walk_at "e"
        refine AE.ix ixa_tup ?_
        walk_at "e"; walk_at "e"
        refine ⟨_, _, _, rfl, rfl, rfl, ?_⟩
        walk_at "e"
        refine AE.dget hx ?_
        walk_at "e"
        refine AE.ix ixa_tup ?_
        walk_at "e"; walk_at "e"
        refine ⟨_, _, _, rfl, rfl, rfl, ?_⟩
        refine ⟨_, _, _, .im, rfl, val_get h1, ?_⟩
        walk_at "e"
        refine AE.dget hx ?_
        walk_at "e"
        refine AE.ix ixa_tup ?_
        walk_at "e"; walk_at "e"
        refine ⟨_, _, _, rfl, rfl, rfl, ?_⟩
        refine ⟨_, _, _, .im, rfl, val_get h1, ?_⟩
        walk_at "e"; walk_at "e"; walk_at "e"
        refine ⟨(show 4 ≤ sizeLine by decide), ?_, rfl⟩
        unfold tellI
        rw [lookup_val h1]
        rfl
      · refine ff_and ?_
        walk_at "e"
        refine ⟨?_, rfl⟩
        unfold tellI
        rw [lookup_none h1]
    · rintro _ _ ⟨rfl, rfl⟩
      walk_at "e"
      refine ⟨b, _, _, rfl, rfl, updM_same, by rw [List.length_map, tellL, List.length_map]; exact Nat.lt_of_lt_of_le pl (by decide), ?_⟩
      walk_at "e"
      refine ⟨⟨_, rfl⟩, ?_⟩
      rw [updM_updM]
      simp [tellL]
  · rintro ρ' m' ⟨⟨o, rfl⟩, rfl⟩
    walk_at "e"; walk_at "e"
    refine AE.vw ?_
    walk_at "e"
    refine ⟨_, _, VW.frz updM_same, ?_⟩
    rw [delM_updM nb]
    exact q
def subL (xs : List Str) : List (List Str) := xs.foldl (fun F x => F ++ F.map fun o => o ++ [x]) [[]]
theorem subL_snoc (xs : List Str) (x : Str) : subL (xs ++ [x]) = subL xs ++ (subL xs).map fun o => o ++ [x] := by simp [subL, List.foldl_append]
theorem snoc_cases {α : Type} (xs : List α) : xs = [] ∨ ∃ pre r, xs = pre ++ [r] := by
  by_cases h : xs = []
  · exact .inl h
  · exact .inr ⟨xs.dropLast, xs.getLast h, (List.dropLast_concat_getLast h).symm⟩
theorem subL_len : ∀ {n : Nat} {xs : List Str}, xs.length = n → (subL xs).length = 2 ^ n ∧ ∀ o ∈ subL xs, o.length ≤ n := by
  intro n
  induction n with
  | zero => intro xs h; rw [List.length_eq_zero_iff.mp h]; simp [subL]
  | succ n ih =>
    intro xs h
    rcases snoc_cases xs with rfl | ⟨pre, r, rfl⟩
    · cases h
    · have hp : pre.length = n := by simpa using h
      obtain ⟨h1, h2⟩ := ih hp
      rw [subL_snoc]
      refine ⟨by rw [List.length_append, List.length_map, h1, Nat.pow_succ]; omega, fun o ho => ?_⟩
      rcases List.mem_append.mp ho with ho | ho
      · exact Nat.le_succ_of_le (h2 o ho)
      · obtain ⟨u, hu, rfl⟩ := List.mem_map.mp ho
        have := h2 u hu
        simp; omega
def a__law_subsets (cs : Cs) : ASp := fun ds m Q => ∃ xs : List Str, ds = [.lst (xs.map D.str)] ∧ xs.length ≤ 12 ∧ Q (.lst ((subL xs).map namD)) m
abbrev n__law_subsets : List Str := ["nyms", "found", "nym", "some"]
theorem sc__law_subsets : FnScope n__law_subsets ["nyms"] (defScope s__law_subsets) := ⟨rfl, rfl, rfl, by decide +kernel, rfl, by decide +kernel, by decide +kernel⟩
theorem body__law_subsets {X : Cx} {k : Nat} {cs : Cs} (hx : XF X (fbOf n__law_subsets (defScope s__law_subsets)) k) (hk : 0 ≤ k) (hxe : X.xe = fun _ _ => False) (hs : X.env.scope = defScope s__law_subsets) (hf : Fc X.prog X.w X.K X.mg X.base cs) (fr : Fr X) (ds : List D) (m : Mu) (Q : QD) (h : a__law_subsets cs ds m Q) :
    ASs X (defBody s__law_subsets) (startR n__law_subsets ds) m { nx := fun _ m' => Q .non m', rt := Q } := by
  obtain ⟨xs, rfl, l1, q⟩ := h
  show ASs X (defBody s__law_subsets) [some (.lst (xs.map D.str)), none, none, none] m _
  walk_at "e"; walk_at "e"
  refine AE.lst ?_
  walk_at "e"
  refine AE.lst ?_
  walk_at "e"
  refine ⟨Nat.zero_le _, ?_⟩
  walk_at "e"
  refine ⟨(show 1 ≤ sizeLine by decide), ?_⟩
  refine ⟨_, by walk_at "sr", ?_⟩
  walk_at "e"
  refine AS.forT (α := Str) D.str hxe hx (AI.list ?_)
  walk_at "e"
  refine ⟨_, .im, xs, fun pre ρ' m' => (∃ o, ρ' = [some (.lst (xs.map D.str)), some (.lst ((subL pre).map namD)), o, none]) ∧ m' = m, rfl, ⟨⟨_, rfl⟩, rfl⟩, fun _ _ _ _ => .im, ?_, ?_⟩
  · rintro pre x post ρ' m' e ⟨⟨o, rfl⟩, rfl⟩
    have pl : pre.length < 12 := by have := congrArg List.length e; simp at this; omega
    obtain ⟨h1, h2⟩ := subL_len (xs := pre) rfl
    have h3 : (subL pre).length ≤ 4096 := by
      rw [h1]; exact Nat.le_trans (Nat.pow_le_pow_right (by decide) (Nat.le_of_lt pl)) (by decide)
    walk_at "e"
    refine ⟨_, by walk_at "sr", ?_⟩
    walk_at "e"; walk_at "e"
    refine AE.add ?_
    walk_at "e"
    refine AE.lcMap (f := namD) (g := fun o => namD (o ++ [x])) hx hs (by with_reducible (walk_at "nth")) (by decide +kernel) ?_
    refine AI.list ?_
    walk_at "e"
    refine ⟨_, .im, subL pre, rfl, Nat.lt_of_le_of_lt h3 (by decide), fun _ _ => .im, ?_, ?_⟩
    · intro u hu m' hm'
      refine ⟨_, by walk_at "sr", ?_⟩
      refine ABE.of hx hs fun s0 H0 C0 cl0 fp0 hb hbs => ?_
      refine AE.add ?_
      walk_at "e"
      refine AE.lst ?_
      walk_at "e"; walk_at "e"; walk_at "e"
      refine ⟨(show 1 ≤ sizeLine by decide), ?_⟩
      have := h2 u hu
      refine ⟨_, .cat .im .im (by simp only [List.length_map, List.length_cons, List.length_nil]; exact Nat.le_trans (show u.length + 1 ≤ 100 by omega) (by decide)), rfl, ?_⟩
      simp [namD]
    · refine ⟨_, .cat .im .im (by simp only [List.length_map]; exact Nat.le_trans (show (subL pre).length + (subL pre).length ≤ 10000 by omega) (by decide)), ?_⟩
      refine ⟨_, by walk_at "sr", ?_⟩
      walk_at "e"
      refine ⟨⟨some (.str x), ?_⟩, rfl⟩
      rw [subL_snoc, List.map_append, List.map_map]
      rfl
  · rintro ρ' m' ⟨⟨o, rfl⟩, rfl⟩
    walk_at "es"
    exact q
open PySem PySem.Spec PyProof.Rows L2 Ab

theorem GRow.item {W : Int} {r : Itm} (h : GRow W r) : (r.1, r.2.1, r.2.2.1, if r.2.1 < r.2.2.1 then max 1 r.2.2.2 else 0) = r := by
  obtain ⟨n, lo, hi, p⟩ := r
  have h1 := h.le
  have h2 := h.p0
  have h3 := h.p1
  simp only at h1 h2 h3 ⊢
  by_cases c : lo < hi
  · rw [if_pos c, Int.max_eq_right (h3 c).1]
  · rw [if_neg c, h2 (by omega)]
def a__law_pool (cs : Cs) : ASp := fun ds m Q => ∃ (n : Nat) (W : Int) (rows : List Itm), ds = [.lst (rows.map rowD)] ∧ GRows n W rows ∧ n ≤ 12 ∧ ∀ qs : List Itm, qs.Perm rows → Q (poolR cs qs) m
abbrev n__law_pool : List Str := ["rows", "spot", "found", "nym", "low", "top", "cost"]
theorem sc__law_pool : FnScope n__law_pool ["rows"] (defScope s__law_pool) := ⟨rfl, rfl, rfl, by decide +kernel, rfl, by decide +kernel, by decide +kernel⟩
theorem body__law_pool {X : Cx} {k : Nat} {cs : Cs} (hx : XF X (fbOf n__law_pool (defScope s__law_pool)) k) (hk : 16 ≤ k) (hxe : X.xe = fun _ _ => False) (hs : X.env.scope = defScope s__law_pool) (hf : Fc X.prog X.w X.K X.mg X.base cs) (fr : Fr X) (n_Pool_ : Mkc X.prog X.w X.K X.mg X.base 1 "Pool" cs.P (starA (a_Pool___init__ cs))) (c_Pool_with_items : Mth X.prog X.w X.K X.mg X.base 9 cs.P "with_items" (starA (a_Pool_with_items cs))) (n_Item_ : Mkk X.prog X.w X.K X.mg X.base 9 3 ["price"] "Item" cs.I (a_Item___init__ cs)) (ds : List D) (m : Mu) (Q : QD) (h : a__law_pool cs ds m Q) :
    ASs X (defBody s__law_pool) (startR n__law_pool ds) m { nx := fun _ m' => Q .non m', rt := Q } := by
  obtain ⟨n, W, rows, rfl, hr, hn, q⟩ := h
  have rl := hr.len
  show ASs X (defBody s__law_pool) [some (.lst (rows.map rowD)), none, none, none, none, none, none] m _
  walk_at "e"; walk_at "e"
  refine AE.fdiv ?_
  refine AE.bLen hx fr ?_
  walk_at "e"
  refine ⟨_, .im, ?_⟩
  walk_at "e"
  rw [List.length_map]
  refine ⟨_, _, rfl, rfl, ⟨by decide, by decide⟩, ?_⟩
  have sp : ∃ s : Nat, ((rows.length : Nat) : Int) / 2 = (s : Int) ∧ s ≤ rows.length := ⟨rows.length / 2, by omega, by omega⟩
  obtain ⟨s, es, sl⟩ := sp
  rw [es]
  refine ⟨_, by walk_at "sr", ?_⟩
  walk_at "e"; walk_at "e"
  refine AE.vw ?_
  refine AE.mkC0 n_Pool_ hx (by omega) (by decide +kernel) fun a na => pool_new ⟨rfl, ?_⟩
  refine ⟨_, _, VW.frz updM_same, ?_⟩
  rw [delM_updM na]
  refine ⟨_, by walk_at "sr", ?_⟩
  walk_at "e"
  refine AS.forT (α := Itm) rowD hxe hx (AI.list ?_)
  refine AE.add ?_
  refine AE.sliceBy (st := -1) (by decide) ?_
  refine AE.slice ?_
  walk_at "e"
  refine AO.at ?_
  walk_at "e"
  refine ⟨_, rfl, AO.no ⟨_, .im, ?_⟩⟩
  refine AO.no (AO.no ?_)
  refine AE.neg ?_
  walk_at "e"
  refine ⟨1, rfl, rfl, _, .im, ?_⟩
  refine AE.slice ?_
  walk_at "e"
  refine AO.no (AO.at ?_)
  walk_at "e"
  refine ⟨_, rfl, _, .im, ?_⟩
  rw [cutD_drop rowD rows sl, cutD_take rowD rows sl, pick_rev, ← List.map_reverse]
  refine ⟨_, .cat .im .im (by simp only [List.length_map, List.length_reverse, List.length_drop, List.length_take]; exact Nat.le_trans (show rows.length - s + min s rows.length ≤ 100 by omega) (by decide)), ?_⟩
  have ep : ((rows.drop s).reverse ++ rows.take s).Perm rows := by
    refine (List.Perm.append_right _ (List.reverse_perm _)).trans ?_
    refine List.perm_append_comm.trans ?_
    rw [List.take_append_drop]
  generalize hqs : (rows.drop s).reverse ++ rows.take s = qs at ep
  have em : (rows.drop s).reverse.map rowD ++ (rows.take s).map rowD = qs.map rowD := by rw [← List.map_append, hqs]
  have gq : ∀ r ∈ qs, GRow W r := fun r hr0 => hr.all r (ep.mem_iff.mp hr0)
  have nq : (qs.map (·.1)).Nodup := (ep.map _).symm.nodup hr.nd
  have lq : qs.length ≤ 12 := by rw [ep.length_eq]; omega
  refine ⟨_, .im, qs, fun pre ρ' m' => (∃ o3 o4 o5 o6, ρ' = [some (.lst (rows.map rowD)), some (.int s), some (poolR cs pre), o3, o4, o5, o6]) ∧ m' = m, em, ⟨⟨_, _, _, _, rfl⟩, rfl⟩, fun _ _ _ _ => .im, ?_, ?_⟩
  · rintro pre r post ρ' m' e ⟨⟨o3, o4, o5, o6, rfl⟩, rfl⟩
    have gr : GRow W r := gq r (by rw [e]; simp)
    refine AG.tup4 hx (by with_reducible (walk_at "nth")) (by with_reducible (walk_at "nth")) (by with_reducible (walk_at "nth")) (by with_reducible (walk_at "nth")) (by decide +kernel) (by decide +kernel) (by decide +kernel) (by decide +kernel) ⟨_, _, rfl, .cons (by walk_at "sr") (.cons (by walk_at "sr") (.cons (by walk_at "sr") (.cons (by walk_at "sr") .nil))), ?_⟩
    walk_at "e"; walk_at "e"
    refine AE.mth c_Pool_with_items hx (by omega) ?_
    walk_at "e"
    refine ⟨_, .im, rfl, ?_⟩
    walk_at "e"
    refine AE.vw ?_
    refine AE.mkk n_Item_ hx (by omega) (by decide +kernel) ?_
    iterate 6 walk_at "e"
    walk_at "e"
    refine AK.cons ?_
    refine AE.bMax2 hx fr ?_
    walk_at "e"; walk_at "e"
    refine ⟨_, _, rfl, rfl, AK.nil ?_⟩
    refine ⟨rfl, rfl, fun a na => ?_⟩
    have gle := gr.le
    have g999 : r.2.2.2 ≤ 999 := by
      by_cases c : r.2.1 < r.2.2.1
      · exact (gr.p1 c).2
      · rw [gr.p0 (by omega)]; decide
    refine ⟨a, _, _, _, _, rfl, updM_same, gr.good, gr.le, by omega, by omega, ?_⟩
    refine ⟨rfl, _, _, VW.frz updM_same, ?_⟩
    rw [updM_updM, delM_updM na, gr.item]
    walk_at "e"
    have pn : r.1 ∉ pre.map (·.1) := by
      intro z
      rw [e, List.map_append, List.nodup_append] at nq
      exact nq.2.2 r.1 z r.1 (by simp) rfl
    have plen : pre.length + 1 ≤ 12 := by have := congrArg List.length e; simp at this; omega
    refine starA_of (rest := [itDr cs.I r]) ⟨pre, [r], rfl, by simp; omega, ?_⟩ (show 1 ≤ sizeLine by decide)
    rw [List.foldl_cons, List.foldl_nil, putI_new pn]
    refine ⟨_, by walk_at "sr", ?_⟩
    walk_at "e"
    exact ⟨⟨_, _, _, _, rfl⟩, rfl⟩
  · rintro ρ' m' ⟨⟨o3, o4, o5, o6, rfl⟩, rfl⟩
    walk_at "es"
    exact q qs ep
open PySem PySem.Spec PyProof.Rows L2 Ab

def chainN : List Str := ["a", "b", "c", "d", "e", "f", "g", "h", "i", "j"]
theorem chain_ok : ∀ x ∈ chainN, GoodName x := by unfold GoodName chainN LETS; decide +kernel
theorem chain_nd : chainN.Nodup := by unfold chainN; decide +kernel
theorem chain_srt : ∀ t < 11, sortedS (chainN.take t) = true := by unfold chainN; decide +kernel
def a__law_chain (cs : Cs) : ASp := fun ds m Q => ∃ (a : Addr) (c : Nat), ds = [.ref a] ∧ PenAt m a c ∧ c < 900000 ∧ ∀ rows vals m', GRows 10 10 rows → vals = rows.map (fun r => (r.1, r.2.1 + 5)) → (∀ r ∈ rows, r.2.2.1 = r.2.1 + 10) → PenTo m a (c + 40) m' → Q (.tup [.lst (rows.map rowD), valD vals]) m'
abbrev n__law_chain : List Str := ["pen", "rows", "known", "spot", "nyms", "nym"]
theorem sc__law_chain : FnScope n__law_chain ["pen"] (defScope s__law_chain) := ⟨rfl, rfl, rfl, by decide +kernel, rfl, by decide +kernel, by decide +kernel⟩
theorem body__law_chain {X : Cx} {k : Nat} {cs : Cs} (hx : XF X (fbOf n__law_chain (defScope s__law_chain)) k) (hk : 16 ≤ k) (hxe : X.xe = fun _ _ => False) (hs : X.env.scope = defScope s__law_chain) (hf : Fc X.prog X.w X.K X.mg X.base cs) (fr : Fr X) (c__law_draw : Cal X.prog X.w X.K X.mg X.base 9 "_law_draw" (a__law_draw cs)) (ds : List D) (m : Mu) (Q : QD) (h : a__law_chain cs ds m Q) :
    ASs X (defBody s__law_chain) (startR n__law_chain ds) m { nx := fun _ m' => Q .non m', rt := Q } := by
  obtain ⟨a, c, rfl, hp, hc, q⟩ := h
  show ASs X (defBody s__law_chain) [some (.ref a), none, none, none, none, none] m _
  walk_at "e"
  refine AS.par3 (i := 1) (j := 2) (l := 3) hx (by with_reducible (walk_at "nth")) (by with_reducible (walk_at "nth")) (by with_reducible (walk_at "nth")) (by decide) (by decide) (by decide) (by rw [hs]; decide +kernel) (by rw [hs]; decide +kernel) (by rw [hs]; decide +kernel) (by simp only [swappedStores, Env.blockKind, Env.kindOf, hs]; rfl) ?_
  walk_at "e"
  refine AE.lstM ?_
  walk_at "e"
  refine ⟨Nat.zero_le _, fun b nb => ?_⟩
  have neb : a ≠ b := hp.ne nb
  walk_at "e"
  refine AE.dicM fun d nd => ?_
  obtain ⟨ndb, nd0⟩ := updM_none nd
  have ned : a ≠ d := hp.ne nd0
  walk_at "e"
  walk_at "e"
  refine AE.callC c__law_draw hx (by omega) (by decide +kernel) ?_
  walk_at "es"
  refine ⟨a, c, 9, rfl, (hp.upd neb).upd ned, by omega, by omega, by omega, fun s0 m1 z0 z1 hp1 => ?_⟩
  obtain ⟨m2, hp2, rfl⟩ := hp1.swap ned
  obtain ⟨m3, hp3, rfl⟩ := hp2.swap neb
  walk_at "e"
  refine ⟨_, _, rfl, rfl, ?_⟩
  walk_at "e"
  refine ⟨_, _, _, _, _, _, rfl, by walk_at "sr", by walk_at "sr", by walk_at "sr", ?_⟩
  walk_at "e"; walk_at "e"
  refine AE.slice ?_
  refine AE.lst ?_
  walk_at "es"
  refine ⟨(show 10 ≤ sizeLine by decide), ?_⟩
  refine AO.no (AO.at ?_)
  refine AE.add ?_
  walk_at "e"
  refine AE.callC c__law_draw hx (by omega) (by decide +kernel) ?_
  walk_at "es"
  refine ⟨a, c + 1, 9, rfl, (hp3.at.upd neb).upd ned, by omega, by omega, by omega, fun t m4 t0 t1 hp4 => ?_⟩
  obtain ⟨m5, hp5, rfl⟩ := hp4.swap ned
  obtain ⟨m6, hp6, rfl⟩ := hp5.swap neb
  replace hp6 := hp3.trans hp6
  obtain ⟨tn, rfl⟩ : ∃ j : Nat, t = (j : Int) := ⟨_, (Int.toNat_of_nonneg t0).symm⟩
  refine ⟨_, .int, ?_⟩
  have ec : Ab.cutD (chainN.map D.str) none (some (2 + (tn : Int))) = (chainN.take (2 + tn)).map D.str := by
    have := cutD_take D.str chainN (show 2 + tn ≤ chainN.length by show 2 + tn ≤ 10; omega)
    simpa using this
  refine ⟨_, rfl, _, .im, ?_⟩
  have ec2 : Ab.cutD [.str "a", .str "b", .str "c", .str "d", .str "e", .str "f", .str "g", .str "h", .str "i", .str "j"] none (some (2 + (tn : Int))) = (chainN.take (2 + tn)).map D.str := ec
  rw [ec2]
  have srt := chain_srt (2 + tn) (by omega)
  have nsl : ∀ x ∈ chainN.take (2 + tn), x ∈ chainN := fun x hx2 => List.mem_of_mem_take hx2
  have nnd : (chainN.take (2 + tn)).Nodup := chain_nd.sublist (List.take_sublist _ _)
  have nln : (chainN.take (2 + tn)).length ≤ 10 := Nat.le_trans (List.length_take_le' _ _) (by decide)
  generalize chainN.take (2 + tn) = ns at srt nsl nnd nln ⊢
  refine ⟨_, by walk_at "sr", ?_⟩
  walk_at "e"
  refine AS.forT (α := Str) D.str hxe hx (AI.list ?_)
  walk_at "e"
  refine ⟨_, .im, ns, fun pre ρ' m' => ∃ (rows : List Itm) (sp : Int), rows.map (·.1) = pre ∧ (∀ r ∈ rows, GRow 10 r ∧ r.2.2.1 = r.2.1 + 10) ∧ -4 ≤ sp ∧ sp ≤ 4 + 9 * (pre.length : Int) ∧ (∃ o5, ρ' = [some (.ref a), some (.ref b), some (.ref d), some (.int sp), some (.lst (ns.map D.str)), o5]) ∧ ∃ m7, PenTo m a (c + 2 + 3 * pre.length) m7 ∧ m' = updM (updM m7 b (.lst (rows.map rowD))) d (.dic ((rows.map fun r => (r.1, r.2.1 + 5)).map valK)), rfl, ⟨[], s0 - 4, rfl, by simp, by omega, by simp; omega, ⟨_, rfl⟩, m6, hp6, rfl⟩, fun _ _ _ _ => .im, ?_, ?_⟩
  · rintro pre x post ρ' m' e ⟨rows, sp, e1, g1, s1, s2, ⟨o5, rfl⟩, m7, hp7, rfl⟩
    have pl : pre.length < 10 := by have := congrArg List.length e; simp at this; omega
    have rl : rows.length = pre.length := by rw [← e1, List.length_map]
    have gx := chain_ok x (nsl x (by rw [e]; simp))
    walk_at "e"
    refine ⟨_, by walk_at "sr", ?_⟩
    walk_at "e"
    refine AS.expr ?_
    refine AE.bm F.plainAttrs_list F.slot_list_append F.type_list_append ma_append ?_
    walk_at "e"
    refine ⟨.list (.mu (by rw [updM_ne ndb.symm, updM_same])), ?_⟩
    walk_at "e"
    refine AE.tup ?_
    iterate 10 walk_at "e"
    walk_at "e"; walk_at "e"
    refine AE.callC c__law_draw hx (by omega) (by decide +kernel) ?_
    walk_at "e"; walk_at "e"; walk_at "e"
    refine AE.ix ixa_list ?_
    refine AE.lst ?_
    walk_at "es"
    refine ⟨(show 3 ≤ sizeLine by decide), ?_⟩
    refine AE.callC c__law_draw hx (by omega) (by decide +kernel) ?_
    walk_at "es"
    refine ⟨a, c + 2 + 3 * pre.length, 3, rfl, (hp7.at.upd neb).upd ned, by omega, by omega, by omega, fun d8 m8 x0 x1 hp8 => ?_⟩
    obtain ⟨m9, hp9, rfl⟩ := hp8.swap ned
    obtain ⟨m10, hp10, rfl⟩ := hp9.swap neb
    replace hp10 := hp7.trans hp10
    obtain ⟨w, wm, we⟩ := at_ints (zs := [2, 9, 999]) x0 (by simpa using x1)
    have w1 : 1 ≤ w ∧ w ≤ 999 := by
      simp only [List.mem_cons, List.not_mem_nil, or_false] at wm
      omega
    refine ⟨_, _, _, .im, rfl, we, ?_⟩
    walk_at "e"
    refine ⟨a, c + 2 + 3 * pre.length + 1, w, rfl, (hp10.at.upd neb).upd ned, by omega, by omega, by omega, fun pz m11 y0 y1 hp11 => ?_⟩
    obtain ⟨m12, hp12, rfl⟩ := hp11.swap ned
    obtain ⟨m13, hp13, rfl⟩ := hp12.swap neb
    replace hp13 := hp10.trans hp13
    refine ⟨_, .int, ?_⟩
    walk_at "e"
    refine ⟨(show 4 ≤ sizeLine by decide), ?_⟩
    walk_at "e"
    refine ⟨b, _, _, rfl, rfl, by rw [updM_ne ndb.symm, updM_same], by rw [List.length_map]; exact Nat.lt_of_lt_of_le (show rows.length < 10 by omega) (by decide), ?_⟩
    walk_at "e"
    refine AS.dput hx ?_
    walk_at "e"; walk_at "e"; walk_at "e"
    refine ⟨_, .int, ?_⟩
    walk_at "e"; walk_at "e"
    have nk : x ∉ rows.map (·.1) := by
      rw [e1]
      rw [e, List.nodup_append] at nnd
      exact fun z => nnd.2.2 x z x (by simp) rfl
    refine ⟨d, _, _, rfl, by rw [updM_ne ndb, updM_same], rfl, by simp only [List.length_map]; exact Nat.lt_of_lt_of_le (show rows.length < 10 by omega) (by decide), ?_⟩
    rw [updM_comm ndb, updM_updM, updM_updM, putKD_new (by
      intro z
      obtain ⟨u, hu, e9⟩ := List.mem_map.mp z
      obtain ⟨w2, hw2, rfl⟩ := List.mem_map.mp hu
      obtain ⟨w3, hw3, rfl⟩ := List.mem_map.mp hw2
      exact nk (List.mem_map.mpr ⟨w3, hw3, by simpa [valK] using e9⟩))]
    iterate 6 walk_at "e"
    refine ⟨_, .int, ?_⟩
    refine AE.callC c__law_draw hx (by omega) (by decide +kernel) ?_
    walk_at "e"; walk_at "e"; walk_at "e"; walk_at "e"; walk_at "e"
    refine ⟨a, c + 2 + 3 * pre.length + 2, 3, rfl, (hp13.at.upd neb).upd ned, by omega, by omega, by omega, fun d14 m14 u0 u1 hp14 => ?_⟩
    obtain ⟨m15, hp15, rfl⟩ := hp14.swap ned
    obtain ⟨m16, hp16, rfl⟩ := hp15.swap neb
    replace hp16 := hp13.trans hp16
    refine ⟨_, .int, ?_⟩
    refine ⟨_, by walk_at "sr", ?_⟩
    walk_at "e"
    refine ⟨rows ++ [(x, sp, sp + 10, 1 + pz)], sp + 7 + d14, by simp [e1], fun r hr => ?_, by omega, by simp; omega, ⟨_, rfl⟩, m16, hp16.mono (by simp; omega), ?_⟩
    · rcases List.mem_append.mp hr with h | h
      · exact g1 r h
      · rw [List.mem_singleton.mp h]
        refine ⟨⟨gx, ?_, ?_, ?_, ?_, ?_, ?_⟩, rfl⟩
        · show sp ≤ sp + 10; omega
        · show sp + 10 - sp ≤ 10; omega
        · show -(2 * 10 ^ 11) ≤ sp; omega
        · show sp + 10 ≤ 2 * 10 ^ 11; omega
        · show sp = sp + 10 → _; omega
        · show sp < sp + 10 → 1 ≤ 1 + pz ∧ 1 + pz ≤ 999; omega
    · simp [rowD, valK]
  · rintro ρ' m' ⟨rows, sp, e1, g1, s1, s2, ⟨o5, rfl⟩, m7, hp7, rfl⟩
    have rl : rows.length ≤ 10 := by rw [← e1] at nln; simpa using nln
    have nb7 : m7 b = none := hp7.none neb nb
    have nd7 : m7 d = none := hp7.none ned nd0
    walk_at "e"; walk_at "e"
    refine AE.tup ?_
    walk_at "e"
    refine AE.vw ?_
    walk_at "e"
    refine ⟨_, _, VW.frz (u := .lst (rows.map rowD)) (by rw [updM_ne ndb.symm, updM_same]), ?_⟩
    rw [delM_updM2 ndb.symm, delM_updM nb7]
    walk_at "e"
    refine AE.vw ?_
    walk_at "e"
    refine ⟨_, _, VW.frz (u := .dic ((rows.map fun r => (r.1, r.2.1 + 5)).map valK)) updM_same, ?_⟩
    rw [delM_updM nd7]
    walk_at "e"
    refine ⟨(show 2 ≤ sizeLine by decide), ?_⟩
    exact q rows _ m7 ⟨rl, by rw [e1]; exact nnd, by rw [e1]; exact srt, fun r hr => (g1 r hr).1⟩ rfl (fun r hr => (g1 r hr).2) (hp7.mono (by omega))
open PySem PySem.Spec PyProof.Rows L2 Ab

/-! ### what settles -/
theorem loose_iff {a b : Itm} : loose_ a b = true ↔ ¬ (exact_ a = true ∧ exact_ b = true) ∧ a.2.1 ≤ b.2.2.1 ∧ b.2.1 ≤ a.2.2.1 := by
  unfold loose_ before_
  rw [Bool.and_eq_true, Bool.and_eq_true, Bool.not_eq_true', Bool.not_eq_true', Bool.not_eq_true', decide_eq_false_iff_not, decide_eq_false_iff_not, Bool.and_eq_false_iff]
  constructor
  · rintro ⟨h1, h2, h3⟩
    refine ⟨fun ⟨z1, z2⟩ => ?_, by omega, by omega⟩
    rcases h1 with h1 | h1
    · rw [z1] at h1; cases h1
    · rw [z2] at h1; cases h1
  · rintro ⟨h1, h2, h3⟩
    refine ⟨?_, by omega, by omega⟩
    cases e1 : exact_ a with
    | false => exact .inl rfl
    | true => cases e2 : exact_ b with
      | false => exact .inr rfl
      | true => exact absurd ⟨e1, e2⟩ h1
theorem loose_symm {a b : Itm} : loose_ a b = loose_ b a := by
  rw [Bool.eq_iff_iff, loose_iff, loose_iff]
  exact ⟨fun ⟨h1, h2, h3⟩ => ⟨fun ⟨a, b⟩ => h1 ⟨b, a⟩, h3, h2⟩, fun ⟨h1, h2, h3⟩ => ⟨fun ⟨a, b⟩ => h1 ⟨b, a⟩, h3, h2⟩⟩
theorem ltS_or {a b : Str} (h : a ≠ b) : ltS a b = true ∨ ltS b a = true := by
  unfold ltS
  by_cases c : a.cps.toList < b.cps.toList
  · exact .inl (decide_eq_true c)
  · right
    refine decide_eq_true ?_
    rcases Classical.em (b.cps.toList < a.cps.toList) with d | d
    · exact d
    · exact absurd (strs_ext (List.le_antisymm d c)) h
/-- no two rows are loose -/
theorem looseT_nil {rows : List Itm} : looseT rows = [] ↔ ∀ a ∈ rows, ∀ b ∈ rows, a.1 ≠ b.1 → loose_ a b = false := by
  constructor
  · intro h a ha b hb ne
    have key : ∀ a ∈ rows, ∀ b ∈ rows, ltS a.1 b.1 = true → loose_ a b = false := fun a ha b hb lt => by
      cases hl : loose_ a b with
      | false => rfl
      | true =>
        have : (a.1, b.1) ∈ looseT rows := by
          unfold looseT looseT1
          rw [List.mem_flatMap]
          exact ⟨a, ha, List.mem_map.mpr ⟨b, List.mem_filter.mpr ⟨hb, by rw [lt, hl]; rfl⟩, rfl⟩⟩
        rw [h] at this; simp at this
    rcases ltS_or ne with c | c
    · exact key a ha b hb c
    · rw [loose_symm]; exact key b hb a ha c
  · intro h
    refine List.eq_nil_iff_forall_not_mem.mpr fun p hp => ?_
    unfold looseT looseT1 at hp
    obtain ⟨a, ha, hp⟩ := List.mem_flatMap.mp hp
    obtain ⟨b, hb, rfl⟩ := List.mem_map.mp hp
    obtain ⟨hb, ht⟩ := List.mem_filter.mp hb
    rw [Bool.and_eq_true] at ht
    have ne : a.1 ≠ b.1 := fun e => by
      have := of_decide_eq_true ht.1
      rw [e] at this
      exact absurd this (List.lt_irrefl _)
    rw [h a ha b hb ne] at ht
    exact absurd ht.2 Bool.false_ne_true
/-- the value of a row, told or exact -/
def valR (vals : List (Str × Int)) (r : Itm) : Int := (tellI vals r).2.1
/-- the values of some of the names -/
def subV (vals : List (Str × Int)) (some : List Str) : List (Str × Int) := some.map fun n => (n, val vals n)
theorem sub_names {vals : List (Str × Int)} {some : List Str} : (subV vals some).map (·.1) = some := by
  unfold subV; rw [List.map_map]
  conv => rhs; rw [← List.map_id some]
  rfl
theorem sub_val {vals : List (Str × Int)} {some : List Str} {n : Str} (h : n ∈ some) : val (subV vals some) n = val vals n := by
  have h1 := lookup_mem (lookup_val (vals := subV vals some) (n := n) (by rw [sub_names]; exact h))
  unfold subV at h1
  obtain ⟨x, _, e⟩ := List.mem_map.mp h1
  have e1 : x = n := congrArg Prod.fst e
  have e2 : val vals x = val (subV vals some) n := congrArg Prod.snd e
  rw [← e2, e1]
theorem tell_sub {vals : List (Str × Int)} {some : List Str} {r : Itm} : tellI (subV vals some) r = if r.1 ∈ some then (r.1, val vals r.1, val vals r.1, 0) else r := by
  unfold tellI
  by_cases h : r.1 ∈ some
  · rw [if_pos h, lookup_val (by rw [sub_names]; exact h), sub_val h]
  · rw [if_neg h, lookup_none (by rw [sub_names]; exact h)]
section
variable {rows : List Itm} {vals : List (Str × Int)} (nd : (rows.map (·.1)).Nodup) (bd : ∀ r ∈ rows, r.2.1 ≤ r.2.2.1) (ko : KOk rows vals)
include nd bd ko
theorem open_iff {r : Itm} (hr : r ∈ rows) : r.1 ∈ vals.map (·.1) ↔ r.2.1 < r.2.2.1 := by
  rw [ko.op]
  constructor
  · rintro ⟨r', hr', e, lt⟩
    rw [← nd_inj nd hr' hr e]; exact lt
  · intro h; exact ⟨r, hr, rfl, h⟩
theorem valR_eq {r : Itm} (hr : r ∈ rows) : (r.2.1 < r.2.2.1 → valR vals r = val vals r.1) ∧ (r.2.1 = r.2.2.1 → valR vals r = r.2.1) := by
  unfold valR tellI
  constructor
  · intro h
    rw [lookup_val ((open_iff nd bd ko hr).mpr h)]
  · intro h
    rw [lookup_none (fun z => by have := (open_iff nd bd ko hr).mp z; omega)]
theorem valR_in {r : Itm} (hr : r ∈ rows) : r.2.1 ≤ valR vals r ∧ valR vals r ≤ r.2.2.1 := by
  have b := bd r hr
  rcases Int.lt_or_eq_of_le b with h | h
  · rw [(valR_eq nd bd ko hr).1 h]
    exact ko.bd _ (lookup_mem (lookup_val ((open_iff nd bd ko hr).mpr h))) r hr rfl
  · rw [(valR_eq nd bd ko hr).2 h]; omega
end
/-- r is needed: another value lies in its range -/
def needR (rows : List Itm) (vals : List (Str × Int)) (r : Itm) : Prop := ∃ x ∈ rows, x.1 ≠ r.1 ∧ r.2.1 ≤ valR vals x ∧ valR vals x ≤ r.2.2.1
section
variable {rows : List Itm} {vals : List (Str × Int)} {some : List Str} (nd : (rows.map (·.1)).Nodup) (bd : ∀ r ∈ rows, r.2.1 ≤ r.2.2.1) (ko : KOk rows vals) (sub : ∀ n ∈ some, n ∈ vals.map (·.1))
include nd bd ko sub
theorem told_range {r : Itm} (hr : r ∈ rows) : (tellI (subV vals some) r).2.1 ≤ valR vals r ∧ valR vals r ≤ (tellI (subV vals some) r).2.2.1 := by
  rw [tell_sub]
  split
  · rename_i h
    have lt := (open_iff nd bd ko hr).mp (sub _ h)
    rw [(valR_eq nd bd ko hr).1 lt]
    exact ⟨Int.le_refl _, Int.le_refl _⟩
  · exact valR_in nd bd ko hr
theorem told_exact {r : Itm} (hr : r ∈ rows) : exact_ (tellI (subV vals some) r) = false ↔ r.2.1 < r.2.2.1 ∧ r.1 ∉ some := by
  rw [tell_sub]
  split
  · rename_i h
    unfold exact_
    simp [h]
  · rename_i h
    unfold exact_
    have := bd r hr
    rw [decide_eq_false_iff_not]
    constructor
    · intro z; exact ⟨by omega, h⟩
    · intro z; omega
theorem told_open {r : Itm} (h : r.1 ∉ some) : tellI (subV vals some) r = r := by rw [tell_sub, if_neg h]
theorem told_point {r : Itm} (hr : r ∈ rows) (h : exact_ (tellI (subV vals some) r) = true) : (tellI (subV vals some) r).2.1 = valR vals r ∧ (tellI (subV vals some) r).2.2.1 = valR vals r := by
  have e : (tellI (subV vals some) r).2.1 = (tellI (subV vals some) r).2.2.1 := of_decide_eq_true h
  obtain ⟨h1, h2⟩ := told_range nd bd ko sub hr
  omega
/-- what settles takes all that are needed, and one of each two that overlap -/
theorem of_settled (h : ∀ a ∈ rows, ∀ b ∈ rows, a.1 ≠ b.1 → loose_ (tellI (subV vals some) a) (tellI (subV vals some) b) = false) :
    (∀ r ∈ rows, r.2.1 < r.2.2.1 → needR rows vals r → r.1 ∈ some) ∧ ∀ a ∈ rows, ∀ b ∈ rows, a.1 ≠ b.1 → a.2.1 < a.2.2.1 → b.2.1 < b.2.2.1 → overlap_ a b = true → a.1 ∈ some ∨ b.1 ∈ some := by
  constructor
  · rintro r hr lt ⟨x, hx, ne, h1, h2⟩
    apply Classical.byContradiction
    intro hn
    have ll := h r hr x hx (Ne.symm ne)
    have e1 := (told_exact nd bd ko sub hr).mpr ⟨lt, hn⟩
    have e2 := told_open (vals := vals) nd bd ko sub (r := r) hn
    obtain ⟨k1, k2⟩ := told_range nd bd ko sub hx
    have : loose_ (tellI (subV vals some) r) (tellI (subV vals some) x) = true := loose_iff.mpr ⟨fun z => by rw [e1] at z; exact Bool.false_ne_true z.1, by rw [e2]; omega, by rw [e2]; omega⟩
    rw [ll] at this; cases this
  · intro a ha b hb ne la lb ov
    apply Classical.byContradiction
    intro hn
    have na : a.1 ∉ some := fun z => hn (.inl z)
    have nb : b.1 ∉ some := fun z => hn (.inr z)
    have ll := h a ha b hb ne
    have e1 := (told_exact nd bd ko sub ha).mpr ⟨la, na⟩
    rw [told_open nd bd ko sub na, told_open nd bd ko sub nb] at ll
    rw [told_open nd bd ko sub na] at e1
    unfold overlap_ at ov
    rw [Bool.and_eq_true, decide_eq_true_iff, decide_eq_true_iff] at ov
    have : loose_ a b = true := loose_iff.mpr ⟨fun z => by rw [e1] at z; exact Bool.false_ne_true z.1, ov.1, ov.2⟩
    rw [ll] at this; cases this
theorem settled_of (h1 : ∀ r ∈ rows, r.2.1 < r.2.2.1 → needR rows vals r → r.1 ∈ some) (h2 : ∀ a ∈ rows, ∀ b ∈ rows, a.1 ≠ b.1 → a.2.1 < a.2.2.1 → b.2.1 < b.2.2.1 → ¬ needR rows vals a → ¬ needR rows vals b → overlap_ a b = true → a.1 ∈ some ∨ b.1 ∈ some) :
    ∀ a ∈ rows, ∀ b ∈ rows, a.1 ≠ b.1 → loose_ (tellI (subV vals some) a) (tellI (subV vals some) b) = false := by
  have half : ∀ a ∈ rows, ∀ b ∈ rows, a.1 ≠ b.1 → exact_ (tellI (subV vals some) a) = false → loose_ (tellI (subV vals some) a) (tellI (subV vals some) b) = false := fun a ha b hb ne ea => by
    cases hl : loose_ (tellI (subV vals some) a) (tellI (subV vals some) b) with
    | false => rfl
    | true =>
      exfalso
      obtain ⟨la, na⟩ := (told_exact nd bd ko sub ha).mp ea
      obtain ⟨_, o1, o2⟩ := loose_iff.mp hl
      rw [told_open nd bd ko sub na] at o1 o2
      have nna : ¬ needR rows vals a := fun z => na (h1 a ha la z)
      cases eb : exact_ (tellI (subV vals some) b) with
      | true =>
        obtain ⟨p1, p2⟩ := told_point nd bd ko sub hb eb
        rw [p2] at o1; rw [p1] at o2
        exact nna ⟨b, hb, Ne.symm ne, o1, o2⟩
      | false =>
        obtain ⟨lb, nb⟩ := (told_exact nd bd ko sub hb).mp eb
        rw [told_open nd bd ko sub nb] at o1 o2
        have nnb : ¬ needR rows vals b := fun z => nb (h1 b hb lb z)
        rcases h2 a ha b hb ne la lb nna nnb (by unfold overlap_; rw [decide_eq_true o1, decide_eq_true o2]; rfl) with z | z
        · exact na z
        · exact nb z
  intro a ha b hb ne
  cases ea : exact_ (tellI (subV vals some) a) with
  | false => exact half a ha b hb ne ea
  | true =>
    cases eb : exact_ (tellI (subV vals some) b) with
    | false => rw [loose_symm]; exact half b hb a ha (Ne.symm ne) eb
    | true =>
      cases hl : loose_ (tellI (subV vals some) a) (tellI (subV vals some) b) with
      | false => rfl
      | true => exact absurd ⟨ea, eb⟩ (loose_iff.mp hl).1
end
/-! ### neighbours -/
section
variable {rows : List Itm} {vals : List (Str × Int)} (nd : (rows.map (·.1)).Nodup) (bd : ∀ r ∈ rows, r.2.1 ≤ r.2.2.1) (ko : KOk rows vals)
include nd bd ko
theorem between {x z y : Itm} (hx : x ∈ rows) (hz : z ∈ rows) (hy : y ∈ rows) (nx : ¬ needR rows vals x) (nz : ¬ needR rows vals z) (ny : ¬ needR rows vals y) (xz : x.1 ≠ z.1) (zy : z.1 ≠ y.1) (l1 : x.2.1 ≤ z.2.1) (l2 : z.2.1 ≤ y.2.1) : ¬ y.2.1 ≤ x.2.2.1 := fun ov => by
  obtain ⟨z1, z2⟩ := valR_in nd bd ko hz
  obtain ⟨y1, y2⟩ := valR_in nd bd ko hy
  have a1 : ¬ valR vals z ≤ x.2.2.1 := fun h => nx ⟨z, hz, Ne.symm xz, by omega, h⟩
  have a2 : ¬ valR vals z ≤ y.2.2.1 := fun h => ny ⟨z, hz, zy, by omega, h⟩
  exact nz ⟨y, hy, Ne.symm zy, by omega, by omega⟩
theorem adj_all {S : Str → Bool} : ∀ {L : List Itm}, (∀ r ∈ L, r ∈ rows ∧ ¬ needR rows vals r) → (L.map (·.1)).Nodup → L.Pairwise (fun a b => a.2.1 ≤ b.2.1) → (adjC S L ↔ ∀ a ∈ L, ∀ b ∈ L, a.1 ≠ b.1 → overlap_ a b = true → S a.1 = true ∨ S b.1 = true)
  | [], _, _, _ => by simp [adjC]
  | [x], _, _, _ => by
    simp only [adjC, true_iff]
    intro a ha b hb ne
    rw [List.mem_singleton] at ha hb
    rw [ha, hb] at ne; exact absurd rfl ne
  | x :: z :: t, hL, hn, hp => by
    have ih := adj_all (S := S) (L := z :: t) (fun r hr => hL r (List.mem_cons_of_mem _ hr)) (by rw [List.map_cons, List.nodup_cons] at hn; exact hn.2) (List.pairwise_cons.mp hp).2
    have ovs : ∀ a b : Itm, overlap_ a b = overlap_ b a := fun a b => by unfold overlap_; rw [Bool.and_comm]
    have far : ∀ y ∈ t, overlap_ x y = true → False := fun y hy ov => by
      obtain ⟨p1, p2⟩ := List.pairwise_cons.mp hp
      obtain ⟨q1, q2⟩ := List.pairwise_cons.mp p2
      rw [List.map_cons, List.map_cons, List.nodup_cons, List.nodup_cons] at hn
      have xz : x.1 ≠ z.1 := fun e => hn.1 (by rw [e]; simp)
      have zy : z.1 ≠ y.1 := fun e => hn.2.1 (by rw [e]; exact List.mem_map.mpr ⟨y, hy, rfl⟩)
      obtain ⟨x1, x2⟩ := hL x (by simp)
      obtain ⟨z1, z2⟩ := hL z (by simp)
      obtain ⟨y1, y2⟩ := hL y (by simp [hy])
      unfold overlap_ at ov
      rw [Bool.and_eq_true, decide_eq_true_iff, decide_eq_true_iff] at ov
      exact between nd bd ko x1 z1 y1 x2 z2 y2 xz zy (p1 z (by simp)) (q1 y hy) ov.2
    rw [adjC, ih]
    constructor
    · rintro ⟨h1, h2⟩ a ha b hb ne ov
      rcases List.mem_cons.mp ha with e1 | a1 <;> rcases List.mem_cons.mp hb with e2 | b1
      · exact absurd (by rw [e1, e2]) ne
      · subst e1
        rcases List.mem_cons.mp b1 with e3 | b2
        · subst e3; exact h1 ov
        · exact (far b b2 ov).elim
      · subst e2
        rcases List.mem_cons.mp a1 with e3 | a2
        · subst e3; exact (h1 (by rw [ovs]; exact ov)).symm
        · exact (far a a2 (by rw [ovs]; exact ov)).elim
      · exact h2 a a1 b b1 ne ov
    · intro h
      rw [List.map_cons, List.map_cons, List.nodup_cons] at hn
      have xz : x.1 ≠ z.1 := fun e => hn.1 (by rw [e]; simp)
      exact ⟨fun ov => h x (by simp) z (by simp) xz ov, fun a ha b hb ne ov => h a (List.mem_cons_of_mem _ ha) b (List.mem_cons_of_mem _ hb) ne ov⟩
end
/-! ### rows and the pool of them -/
theorem GRows.pool {n : Nat} {W : Int} {rows qs : List Itm} (h : GRows n W rows) (hn : n ≤ 12) (p : qs.Perm rows) : PoolOk qs :=
  ⟨by rw [p.length_eq]; have := h.len; omega, (p.map (·.1)).symm.nodup h.nd, fun r hr => good_lay (h.all r (p.mem_iff.mp hr)).good⟩
theorem GRows.names {n : Nat} {W : Int} {rows qs : List Itm} (h : GRows n W rows) (p : qs.Perm rows) : namesL qs = rows.map (·.1) := (names_eq (p.map (·.1)).symm h.srt).symm
theorem itN_perm {rows qs : List Itm} (nd : (rows.map (·.1)).Nodup) (p : qs.Perm rows) {r : Itm} (h : r ∈ rows) : itN qs r.1 = r := itN_of (has_of ((p.map (·.1)).symm.nodup nd) (p.mem_iff.mpr h))
section
variable {n : Nat} {W : Int} {rows qs : List Itm} {vals : List (Str × Int)} (hg : GRows n W rows) (p : qs.Perm rows) (ko : KOk rows vals)
include hg p
theorem open_rows : openN qs = (rows.filter fun r => !exact_ r).map (·.1) := by
  unfold openN
  rw [hg.names p, List.filter_map]
  congr 1
  refine List.filter_congr fun r hr => ?_
  show (!exact_ (itN qs r.1)) = !exact_ r
  rw [itN_perm hg.nd p hr]
theorem open_rows_mem {x : Str} : x ∈ openN qs ↔ ∃ r ∈ rows, r.1 = x ∧ r.2.1 < r.2.2.1 := by
  rw [open_rows hg p, List.mem_map]
  constructor
  · rintro ⟨r, hr, rfl⟩
    obtain ⟨h1, h2⟩ := List.mem_filter.mp hr
    have := (hg.all r h1).le
    unfold exact_ at h2
    simp at h2
    exact ⟨r, h1, rfl, by omega⟩
  · rintro ⟨r, hr, rfl, lt⟩
    refine ⟨r, List.mem_filter.mpr ⟨hr, ?_⟩, rfl⟩
    unfold exact_
    simp; omega
include ko
theorem vok_of : VOk qs vals := by
  refine ⟨⟨ko.nd, fun q hq => ?_⟩, ?_⟩
  · obtain ⟨r, hr, e, lt⟩ := (ko.op q.1).mp (List.mem_map.mpr ⟨q, hq, rfl⟩)
    obtain ⟨b1, b2⟩ := ko.bd q hq r hr e
    exact ⟨r, p.mem_iff.mpr hr, e, b1, b2, (hg.all r hr).good⟩
  · have n2 : (openN qs).Nodup := by
      unfold openN
      rw [hg.names p]
      exact hg.nd.filter _
    rw [List.perm_ext_iff_of_nodup ko.nd n2]
    intro x
    rw [ko.op, open_rows_mem hg p]
theorem need_rows {r : Itm} (hr : r ∈ rows) : needB qs vals r.1 = true ↔ needR rows vals r := by
  unfold needB needR
  have tn : namesL (tellL vals qs) = rows.map (·.1) := by
    have : ((rows.map (·.1))).Perm ((tellL vals qs).map (·.1)) := by rw [tellL_names]; exact (p.map (·.1)).symm
    exact (names_eq this hg.srt).symm
  have tnd : ((tellL vals qs).map (·.1)).Nodup := by rw [tellL_names]; exact (p.map (·.1)).symm.nodup hg.nd
  have tit : ∀ x ∈ rows, itN (tellL vals qs) x.1 = tellI vals x := fun x hx => by
    have hm : tellI vals x ∈ tellL vals qs := List.mem_map.mpr ⟨x, p.mem_iff.mpr hx, rfl⟩
    have := itN_of (has_of tnd hm)
    rw [tell_name] at this
    exact this
  rw [itN_perm hg.nd p hr, tn, Option.isSome_iff_ne_none]
  constructor
  · intro h
    apply Classical.byContradiction
    intro hn
    apply h
    rw [List.find?_eq_none]
    intro y hy hb
    obtain ⟨x, hx, rfl⟩ := List.mem_map.mp hy
    unfold insB at hb
    rw [tit x hx] at hb
    simp only [Bool.and_eq_true, Bool.not_eq_true', decide_eq_false_iff_not, decide_eq_true_iff] at hb
    exact hn ⟨x, hx, hb.1, hb.2.1, hb.2.2⟩
  · rintro ⟨x, hx, ne, h1, h2⟩ hn
    have := List.find?_eq_none.mp hn x.1 (List.mem_map.mpr ⟨x, hx, rfl⟩)
    apply this
    unfold insB
    rw [tit x hx]
    unfold valR at h1 h2
    simp [ne, h1, h2]
theorem needN_rows {x : Str} : x ∈ needN qs vals ↔ ∃ r ∈ rows, r.1 = x ∧ r.2.1 < r.2.2.1 ∧ needR rows vals r := by
  unfold needN
  rw [List.mem_filter, open_rows_mem hg p]
  constructor
  · rintro ⟨⟨r, hr, rfl, lt⟩, h⟩
    exact ⟨r, hr, rfl, lt, (need_rows hg p ko hr).mp h⟩
  · rintro ⟨r, hr, rfl, lt, h⟩
    exact ⟨⟨r, hr, rfl, lt⟩, (need_rows hg p ko hr).mpr h⟩
theorem rest_mem {r : Itm} : r ∈ restL qs vals ↔ r ∈ rows ∧ r.2.1 < r.2.2.1 ∧ ¬ needR rows vals r := by
  unfold restL
  rw [(sort_perm _ _).mem_iff, List.mem_map]
  constructor
  · rintro ⟨x, hx, rfl⟩
    obtain ⟨h1, h2⟩ := List.mem_filter.mp hx
    obtain ⟨r, hr, rfl, lt⟩ := (open_rows_mem hg p).mp h1
    rw [itN_perm hg.nd p hr]
    refine ⟨hr, lt, fun z => ?_⟩
    have : r.1 ∈ needN qs vals := (needN_rows hg p ko).mpr ⟨r, hr, rfl, lt, z⟩
    simp [this] at h2
  · rintro ⟨hr, lt, nn⟩
    refine ⟨r.1, List.mem_filter.mpr ⟨(open_rows_mem hg p).mpr ⟨r, hr, rfl, lt⟩, ?_⟩, itN_perm hg.nd p hr⟩
    have : r.1 ∉ needN qs vals := fun z => by
      obtain ⟨r', hr', e, _, h'⟩ := (needN_rows hg p ko).mp z
      rw [nd_inj hg.nd hr' hr e] at h'
      exact nn h'
    simp [this]
theorem rest_pw : (restL qs vals).Pairwise fun a b => a.2.1 ≤ b.2.1 := by
  unfold restL
  refine (sort_pw (fun r => dP (keyI r)) _).imp fun {a b} hl => ?_
  have e : PySem.W.dataLt (dP (keyI b)) (dP (keyI a)) = false := by
    have : (!PySem.W.dataLt (dP (keyI b)) (dP (keyI a))) = true := hl
    simpa using this
  have e2 : PySem.W.dataLt (.tuple (.int b.2.1 :: [.int b.2.2.1, .str b.1])) (.tuple (.int a.2.1 :: [.int a.2.2.1, .str a.1])) = false := e
  rw [Ab.lt_int, decide_eq_false_iff_not] at e2
  have h1 : ¬ b.2.1 < a.2.1 := fun z => e2 (.inl z)
  omega
theorem rest_nd : ((restL qs vals).map (·.1)).Nodup := by
  refine rest_names.symm.nodup ?_
  unfold openN
  rw [hg.names p]
  exact (hg.nd.filter _).filter _
end
open PySem PySem.Spec PyProof.Rows L2 Ab

/-! ### the cheapest set is right -/
/-- the names that cheapest returns, in any order -/
def askP (qs : List Itm) (vals : List (Str × Int)) : List Str := needN qs vals ++ coversN qs (pathsN qs vals)
def settled (rows : List Itm) (vals : List (Str × Int)) (some : List Str) : Prop := looseT (tellL (subV vals some) rows) = []
theorem settled_iff {rows : List Itm} {vals : List (Str × Int)} {some : List Str} : settled rows vals some ↔ ∀ a ∈ rows, ∀ b ∈ rows, a.1 ≠ b.1 → loose_ (tellI (subV vals some) a) (tellI (subV vals some) b) = false := by
  unfold settled
  rw [looseT_nil]
  constructor
  · intro h a ha b hb ne
    exact h _ (List.mem_map.mpr ⟨a, ha, rfl⟩) _ (List.mem_map.mpr ⟨b, hb, rfl⟩) (by rw [tell_name, tell_name]; exact ne)
  · intro h a ha b hb ne
    obtain ⟨a', ha', rfl⟩ := List.mem_map.mp ha
    obtain ⟨b', hb', rfl⟩ := List.mem_map.mp hb
    rw [tell_name, tell_name] at ne
    exact h a' ha' b' hb' ne
theorem subL_sub : ∀ {n : Nat} {xs : List Str}, xs.length = n → ∀ o ∈ subL xs, o.Sublist xs := by
  intro n
  induction n with
  | zero =>
    intro xs h o ho
    rw [List.length_eq_zero_iff.mp h] at ho ⊢
    simp [subL] at ho
    rw [ho]; exact List.Sublist.refl _
  | succ n ih =>
    intro xs h o ho
    rcases snoc_cases xs with e | ⟨pre, x, e⟩
    · rw [e] at h; simp at h
    · subst e
      have hp : pre.length = n := by simpa using h
      rw [subL_snoc] at ho
      rcases List.mem_append.mp ho with ho | ho
      · exact (ih hp o ho).trans (List.sublist_append_left _ _)
      · obtain ⟨o', ho', rfl⟩ := List.mem_map.mp ho
        exact (ih hp o' ho').append (List.Sublist.refl _)
theorem subL_filter {p : Str → Bool} : ∀ {n : Nat} {xs : List Str}, xs.length = n → xs.filter p ∈ subL xs := by
  intro n
  induction n with
  | zero =>
    intro xs h
    rw [List.length_eq_zero_iff.mp h]
    simp [subL]
  | succ n ih =>
    intro xs h
    rcases snoc_cases xs with e | ⟨pre, x, e⟩
    · rw [e] at h; simp at h
    · subst e
      have hp : pre.length = n := by simpa using h
      rw [subL_snoc, List.filter_append, List.mem_append]
      cases hx : p x with
      | false =>
        left
        have : List.filter p [x] = [] := by simp [hx]
        rw [this, List.append_nil]
        exact ih hp
      | true =>
        right
        have : List.filter p [x] = [x] := by simp [hx]
        rw [this]
        exact List.mem_map.mpr ⟨_, ih hp, rfl⟩
section
variable {n : Nat} {W : Int} {rows qs : List Itm} {vals : List (Str × Int)} (hg : GRows n W rows) (p : qs.Perm rows) (ko : KOk rows vals)
include hg p ko
theorem names_open {x : Str} : x ∈ vals.map (·.1) ↔ x ∈ openN qs := by
  rw [ko.op, open_rows_mem hg p]
theorem ask_ok : (askP qs vals).Nodup ∧ ∀ x ∈ askP qs vals, x ∈ vals.map (·.1) := by
  have s : (askP qs vals).Sublist (needN qs vals ++ (pathsN qs vals).flatten) := List.Sublist.append (List.Sublist.refl _) covers_sub
  have pr := open_split (rs := qs) (vals := vals)
  have n2 : (openN qs).Nodup := by
    unfold openN
    rw [hg.names p]
    exact hg.nd.filter _
  exact ⟨s.nodup (pr.symm.nodup n2), fun x hx => (names_open hg p ko).mpr (pr.mem_iff.mp (s.subset hx))⟩
theorem ask_settled {ys : List Str} (hy : ys.Perm (askP qs vals)) : settled rows vals ys := by
  have bd : ∀ r ∈ rows, r.2.1 ≤ r.2.2.1 := fun r hr => (hg.all r hr).le
  obtain ⟨_, a2⟩ := ask_ok hg p ko
  rw [settled_iff]
  refine settled_of hg.nd bd ko (fun x hx => a2 x (hy.mem_iff.mp hx)) (fun r hr lt nr => ?_) fun a ha b hb ne la lb na nb ov => ?_
  · exact hy.mem_iff.mpr (List.mem_append_left _ ((needN_rows hg p ko).mpr ⟨r, hr, rfl, lt, nr⟩))
  · have h1 : adjC (fun n => decide (n ∈ ys)) (restL qs vals) := adj_paths.mp fun q hq => covers_mono (fun x hx => by
      have hx := of_decide_eq_true hx
      exact decide_eq_true (hy.mem_iff.mpr (List.mem_append_right _ (List.mem_flatMap.mpr ⟨q, hq, hx⟩)))) (cover_is (rs := qs) (path := q)).2.2
    have h2 := (adj_all hg.nd bd ko (fun r hr => ⟨((rest_mem hg p ko).mp hr).1, ((rest_mem hg p ko).mp hr).2.2⟩) (rest_nd hg p ko) (rest_pw hg p ko)).mp h1
    rcases h2 a ((rest_mem hg p ko).mpr ⟨ha, la, na⟩) b ((rest_mem hg p ko).mpr ⟨hb, lb, nb⟩) ne ov with z | z
    · exact .inl (of_decide_eq_true z)
    · exact .inr (of_decide_eq_true z)
theorem price_perm {x : Str} (h : x ∈ rows.map (·.1)) : priceN qs x = priceN rows x := by
  obtain ⟨r, hr, rfl⟩ := List.mem_map.mp h
  unfold priceN
  rw [itN_perm hg.nd p hr, itN_perm hg.nd (List.Perm.refl _) hr]
theorem name_row {x : Str} (h : x ∈ vals.map (·.1)) : x ∈ rows.map (·.1) := by
  obtain ⟨r, hr, e, _⟩ := (ko.op x).mp h
  exact List.mem_map.mpr ⟨r, hr, e⟩
theorem sum_perm_rows {xs : List Str} (h : ∀ x ∈ xs, x ∈ vals.map (·.1)) : (xs.map (priceN qs)).sum = (xs.map (priceN rows)).sum := by
  congr 1
  exact List.map_congr_left fun x hx => price_perm hg p ko (name_row hg p ko (h x hx))
theorem ask_price {ys : List Str} (hy : ys.Perm (askP qs vals)) : (ys.map (priceN rows)).sum = ((needN qs vals).map (priceN qs)).sum + costs qs (pathsN qs vals) := by
  obtain ⟨_, a2⟩ := ask_ok hg p ko
  rw [← sum_perm_rows hg p ko (fun x hx => a2 x (hy.mem_iff.mp hx)), sum_perm (hy.map _), costs_sum]
  unfold askP
  rw [List.map_append, List.sum_append]
theorem ask_least {some : List Str} (hn : some.Nodup) (hs : ∀ x ∈ some, x ∈ vals.map (·.1)) (h : settled rows vals some) : ((needN qs vals).map (priceN qs)).sum + costs qs (pathsN qs vals) ≤ (some.map (priceN rows)).sum := by
  have bd : ∀ r ∈ rows, r.2.1 ≤ r.2.2.1 := fun r hr => (hg.all r hr).le
  obtain ⟨h1, h2⟩ := of_settled hg.nd bd ko hs (settled_iff.mp h)
  have key := total_le (rs := qs) (vals := vals) (S := fun n => decide (n ∈ some)) (fun x hx => by
    obtain ⟨r, hr, e, lt, nr⟩ := (needN_rows hg p ko).mp hx
    rw [← e]
    exact decide_eq_true (h1 r hr lt nr)) (by
    refine (adj_all hg.nd bd ko (fun r hr => ⟨((rest_mem hg p ko).mp hr).1, ((rest_mem hg p ko).mp hr).2.2⟩) (rest_nd hg p ko) (rest_pw hg p ko)).mpr fun a ha b hb ne ov => ?_
    obtain ⟨a1, a2, _⟩ := (rest_mem hg p ko).mp ha
    obtain ⟨b1, b2, _⟩ := (rest_mem hg p ko).mp hb
    rcases h2 a a1 b b1 ne a2 b2 ov with z | z
    · exact .inl (decide_eq_true z)
    · exact .inr (decide_eq_true z))
  rw [← sum_perm_rows hg p ko hs]
  have n2 : (openN qs).Nodup := by
    unfold openN
    rw [hg.names p]
    exact hg.nd.filter _
  have pe : ((openN qs).filter fun n => decide (n ∈ some)).Perm some := by
    rw [List.perm_ext_iff_of_nodup (n2.filter _) hn]
    intro x
    rw [List.mem_filter, decide_eq_true_iff]
    exact ⟨fun z => z.2, fun z => ⟨(names_open hg p ko).mp (hs x z), z⟩⟩
  have e : sumP qs (fun n => decide (n ∈ some)) (openN qs) = (some.map (priceN qs)).sum := sum_perm (pe.map _)
  rw [← e]
  exact key
theorem ask_in : ∃ o ∈ subL (vals.map (·.1)), o.Perm (askP qs vals) := by
  obtain ⟨a1, a2⟩ := ask_ok hg p ko
  refine ⟨_, subL_filter (p := fun x => decide (x ∈ askP qs vals)) rfl, ?_⟩
  rw [List.perm_ext_iff_of_nodup (ko.nd.filter _) a1]
  intro x
  rw [List.mem_filter, decide_eq_true_iff]
  exact ⟨fun z => z.2, fun z => ⟨a2 x z, z⟩⟩
end
open PySem PySem.Spec PyProof.Rows L2 Ab

theorem told_srows {n : Nat} {W : Int} {rows : List Itm} {vals : List (Str × Int)} (hg : GRows n W rows) (hn : n ≤ 12) : SRows (tellL vals rows) :=
  ⟨by unfold tellL; rw [List.length_map]; exact Nat.le_trans hg.len hn, by rw [tellL_names]; exact hg.nd, by rw [tellL_names]; exact hg.srt, fun r hr => by
    obtain ⟨r', hr', rfl⟩ := List.mem_map.mp hr
    rw [tell_name]; exact (hg.all r' hr').good⟩
theorem looseT_lay {rows : List Itm} (h : SRows rows) : ∀ x ∈ looseT rows, PyData.canLay0 (.str x.1) = true ∧ PyData.canLay0 (.str x.2) = true := by
  intro x hx
  unfold looseT looseT1 at hx
  rw [List.mem_flatMap] at hx
  obtain ⟨u, hu, hx⟩ := hx
  obtain ⟨v, hv, rfl⟩ := List.mem_map.mp hx
  exact ⟨good_lay (h.good u hu), good_lay (h.good v (List.mem_filter.mp hv).1)⟩
def costV (rows : List Itm) : List (Str × Int) := rows.map fun r => (r.1, r.2.2.2)
theorem costV_names {rows : List Itm} : (costV rows).map (·.1) = rows.map (·.1) := by unfold costV; rw [List.map_map]; rfl
theorem cost_val {rows : List Itm} (nd : (rows.map (·.1)).Nodup) {x : Str} (h : x ∈ rows.map (·.1)) : val (costV rows) x = priceN rows x := by
  have h1 := lookup_mem (lookup_val (vals := costV rows) (n := x) (by rw [costV_names]; exact h))
  unfold costV at h1
  obtain ⟨r, hr, e⟩ := List.mem_map.mp h1
  have e1 : r.1 = x := congrArg Prod.fst e
  have e2 : r.2.2.2 = val (costV rows) x := congrArg Prod.snd e
  rw [← e2, ← e1]
  unfold priceN
  rw [itN_perm nd (List.Perm.refl _) hr]
theorem dict_of {xs : List (Str × Int)} (h : (xs.map (·.1)).Nodup) : mergeD [] (xs.map valK) = xs.map valK := by
  rw [mergeD_new (by
    rw [List.nil_append, List.map_map]
    have e : xs.map (Prod.fst ∘ valK) = (xs.map (·.1)).map (Sum.inr (α := Int)) := by rw [List.map_map]; rfl
    rw [e]
    exact List.Pairwise.map _ (fun a b h e => h (by simpa using e)) h), List.nil_append]
theorem sub_all {rows : List Itm} {xs : List Str} (nd : (rows.map (·.1)).Nodup) (h : ∀ x ∈ xs, x ∈ rows.map (·.1)) : (xs.map fun x => val (costV rows) x) = xs.map (priceN rows) :=
  List.map_congr_left fun x hx => cost_val nd (h x hx)
def optI : Option Int → D
  | none => .non
  | some v => .int v
/-- the best of the sets seen so far -/
structure BestOk (rows : List Itm) (vals : List (Str × Int)) (pre : List (List Str)) (o : Option Int) : Prop where
  is : ∀ v, o = some v → ∃ s ∈ pre, settled rows vals s ∧ v = (s.map (priceN rows)).sum
  le : ∀ s ∈ pre, settled rows vals s → ∃ v, o = some v ∧ v ≤ (s.map (priceN rows)).sum
theorem best_skip {rows vals pre o} {s : List Str} (h : BestOk rows vals pre o) (hs : settled rows vals s → ∃ v, o = some v ∧ v ≤ (s.map (priceN rows)).sum) : BestOk rows vals (pre ++ [s]) o :=
  ⟨fun v e => by
    obtain ⟨t, ht, k⟩ := h.is v e
    exact ⟨t, List.mem_append_left _ ht, k⟩, fun t ht k => by
    rcases List.mem_append.mp ht with ht | ht
    · exact h.le t ht k
    · rw [List.mem_singleton] at ht; subst ht; exact hs k⟩
theorem best_take {rows vals pre} {o : Option Int} {s : List Str} (h : BestOk rows vals pre o) (hs : settled rows vals s) (hb : ∀ v, o = some v → (s.map (priceN rows)).sum < v) : BestOk rows vals (pre ++ [s]) (some (s.map (priceN rows)).sum) :=
  ⟨fun v e => ⟨s, by simp, hs, by cases e; rfl⟩, fun t ht k => by
    refine ⟨_, rfl, ?_⟩
    rcases List.mem_append.mp ht with ht | ht
    · obtain ⟨v, e, le⟩ := h.le t ht k
      have := hb v e
      omega
    · rw [List.mem_singleton] at ht; subst ht; exact Int.le_refl _⟩
def a__law_right (cs : Cs) : ASp := fun ds m Q => ∃ (n : Nat) (W : Int) (rows : List Itm) (vals : List (Str × Int)), ds = [.lst (rows.map rowD), valD vals] ∧ GRows n W rows ∧ n ≤ 12 ∧ KOk rows vals ∧ Q (.bl true) m
abbrev n__law_right : List Str := ["rows", "known", "cost", "row", "total", "picked", "best", "some", "price_of_some", "nym"]
theorem sc__law_right : FnScope n__law_right ["rows", "known"] (defScope s__law_right) := ⟨rfl, rfl, rfl, by decide +kernel, rfl, by decide +kernel, by decide +kernel⟩
theorem body__law_right {X : Cx} {k : Nat} {cs : Cs} (hx : XF X (fbOf n__law_right (defScope s__law_right)) k) (hk : 80 ≤ k) (hxe : X.xe = fun _ _ => False) (hs : X.env.scope = defScope s__law_right) (hf : Fc X.prog X.w X.K X.mg X.base cs) (fr : Fr X) (c__law_pool : Cal X.prog X.w X.K X.mg X.base 17 "_law_pool" (a__law_pool cs)) (c__law_told : Cal X.prog X.w X.K X.mg X.base 1 "_law_told" (a__law_told cs)) (c__law_subsets : Cal X.prog X.w X.K X.mg X.base 1 "_law_subsets" (a__law_subsets cs)) (c__law_loose_pairs : Cal X.prog X.w X.K X.mg X.base 17 "_law_loose_pairs" (a__law_loose_pairs cs)) (c_cheapest : Cal X.prog X.w X.K X.mg X.base 73 "cheapest" (a_cheapest cs)) (ds : List D) (m : Mu) (Q : QD) (h : a__law_right cs ds m Q) :
    ASs X (defBody s__law_right) (startR n__law_right ds) m { nx := fun _ m' => Q .non m', rt := Q } := by
  obtain ⟨n, W, rows, vals, rfl, hg, hn, ko, q⟩ := h
  have rl : rows.length ≤ 12 := Nat.le_trans hg.len hn
  have rs : rows.length < sizeLine := Nat.lt_of_le_of_lt rl (by decide)
  have cn : ((costV rows).map (·.1)).Nodup := by rw [costV_names]; exact hg.nd
  show ASs X (defBody s__law_right) [some (.lst (rows.map rowD)), some (valD vals), none, none, none, none, none, none, none, none] m _
  walk_at "e"; walk_at "e"
  refine AE.vw ?_
  refine AE.callT (ca_dictP hx.calm) hx (by decide +kernel) (fr _ (by decide +kernel)) rfl ?_
  walk_at "e"
  refine AE.lcMap (f := rowD) (g := fun r => .tup [.str r.1, .int r.2.2.2]) hx hs (by with_reducible (walk_at "nth")) (by decide +kernel) ?_
  refine AI.list ?_
  walk_at "e"
  refine ⟨_, .im, rows, rfl, rs, fun _ _ => .im, ?_, ?_⟩
  · intro r hr m' hm'
    refine ⟨_, by walk_at "sr", ?_⟩
    refine ABE.of hx hs fun s0 H0 C0 cl0 fp0 hb hbs => ?_
    refine AE.tup ?_
    walk_at "e"
    refine AE.ix ixa_tup ?_
    walk_at "e"; walk_at "e"
    refine ⟨_, _, _, rfl, rfl, rfl, ?_⟩
    walk_at "e"
    refine AE.ix ixa_tup ?_
    walk_at "e"; walk_at "e"
    refine ⟨_, _, _, rfl, rfl, rfl, ?_⟩
    walk_at "e"
    exact ⟨(show 2 ≤ sizeLine by decide), rfl, rfl⟩
  walk_at "e"
  refine ⟨_, (costV rows).map valK, rfl, by unfold costV; rw [List.map_map, List.map_map]; exact .im, fun p0 np => ?_⟩
  rw [dict_of cn]
  refine ⟨_, _, VW.frz (u := .dic ((costV rows).map valK)) updM_same, ?_⟩
  rw [delM_updM np]
  refine ⟨_, by walk_at "sr", ?_⟩
  walk_at "e"
  refine AS.asg ?_
  refine AE.callC c_cheapest hx (by omega) (by decide +kernel) ?_
  walk_at "e"
  refine AE.callC c__law_pool hx (by omega) (by decide +kernel) ?_
  walk_at "e"; walk_at "e"; walk_at "e"
  refine ⟨n, W, rows, rfl, hg, hn, fun qs p => ?_⟩
  walk_at "e"; walk_at "e"; walk_at "e"
  refine ⟨qs, vals, rfl, hg.pool hn p, vok_of hg p ko, fun ys hy => ?_⟩
  refine AG.tup2 hx (by with_reducible (walk_at "nth")) (by with_reducible (walk_at "nth")) (by decide +kernel) (by decide +kernel) ⟨_, _, rfl, .cons (by walk_at "sr") (.cons (by walk_at "sr") .nil), ?_⟩
  rw [← ask_price hg p ko hy]
  obtain ⟨a1, a2⟩ := ask_ok hg p ko
  walk_at "e"; walk_at "e"; walk_at "e"
  refine ⟨_, by walk_at "sr", ?_⟩
  walk_at "e"
  refine AS.forT (α := List Str) namD hxe hx (AI.list ?_)
  refine AE.callC c__law_subsets hx (by omega) (by decide +kernel) ?_
  walk_at "e"
  refine AE.callT (ca_listK hx.calm) hx (by decide +kernel) (fr _ (by decide +kernel)) rfl ?_
  walk_at "e"; walk_at "e"; walk_at "e"
  refine ⟨_, _, rfl, .im, ?_⟩
  walk_at "e"
  have vl : (vals.map (·.1)).length ≤ 12 := by
    have := ko.nd.length_le_of_subset (fun x hx => name_row hg p ko hx)
    rw [List.length_map (as := rows)] at this
    omega
  refine ⟨vals.map (·.1), by rw [List.map_map, List.map_map]; rfl, vl, ?_⟩
  obtain ⟨sl1, sl2⟩ := subL_len (xs := vals.map (·.1)) rfl
  have sl3 : (subL (vals.map (·.1))).length < sizeLine := by
    rw [sl1]; exact Nat.lt_of_le_of_lt (Nat.pow_le_pow_right (by decide) vl) (show 2 ^ 12 < sizeLine by decide)
  refine ⟨_, .im, subL (vals.map (·.1)), fun pre ρ' m' => (∃ o o7 o8, BestOk rows vals pre o ∧ ρ' = [some (.lst (rows.map rowD)), some (valD vals), some (.dic ((costV rows).map valK)), none, some (.int (ys.map (priceN rows)).sum), some (namD ys), some (optI o), o7, o8, none]) ∧ m' = m, rfl, ⟨⟨none, _, _, ⟨fun v e => (by cases e), fun s h => (by simp at h)⟩, rfl⟩, rfl⟩, fun _ _ _ _ => .im, ?_, ?_⟩
  · rintro pre s post ρ' m' e ⟨⟨o, o7, o8, hb0, rfl⟩, rfl⟩
    have sm : s ∈ subL (vals.map (·.1)) := by rw [e]; simp
    have ss := subL_sub rfl s sm
    have snd : s.Nodup := ss.nodup ko.nd
    have sin : ∀ x ∈ s, x ∈ vals.map (·.1) := fun x hx => ss.subset hx
    have sr : ∀ x ∈ s, x ∈ rows.map (·.1) := fun x hx => name_row hg p ko (sin x hx)
    have sll : s.length ≤ 12 := Nat.le_trans ss.length_le vl
    walk_at "e"
    refine ⟨_, by walk_at "sr", ?_⟩
    walk_at "e"; walk_at "e"
    refine AE.bSum hx fr ?_
    refine AE.lcMap (f := D.str) (g := fun x => .int (val (costV rows) x)) hx hs (by with_reducible (walk_at "nth")) (by decide +kernel) ?_
    refine AI.list ?_
    walk_at "e"
    refine ⟨_, .im, s, rfl, Nat.lt_of_le_of_lt sll (by decide), fun _ _ => .im, ?_, ?_⟩
    · intro x hx2 m' hm'
      refine ⟨_, by walk_at "sr", ?_⟩
      refine ABE.of hx hs fun s0 H0 C0 cl0 fp0 hb hbs => ?_
      refine AE.dget hb ?_
      walk_at "e"; walk_at "e"
      refine ⟨_, _, _, .im, rfl, val_get (by rw [costV_names]; exact sr x hx2), rfl, rfl⟩
    refine ⟨s.map fun x => val (costV rows) x, by rw [List.map_map]; exact .im, ?_⟩
    rw [sub_all hg.nd sr]
    refine ⟨_, by walk_at "sr", ?_⟩
    walk_at "e"; walk_at "e"
    refine AT.imp (Q := fun c m'' => (c = true → ∀ v, o = some v → (s.map (priceN rows)).sum < v) ∧ (c = false → ∃ v, o = some v ∧ v ≤ (s.map (priceN rows)).sum) ∧ m'' = m') ?_ ?_
    · refine AT.ofW (AW.or ?_)
      refine AT.isN ?_
      walk_at "e"
      cases o with
      | none =>
        refine tt_and ?_
        exact ⟨fun _ v e => (by cases e), fun e => (by cases e), rfl⟩
      | some v =>
        refine ff_and ?_
        refine AW.or1 ?_
        refine AT.lt ?_
        walk_at "e"; walk_at "e"
        refine ⟨_, v, rfl, rfl, fun e w ew => ?_, fun e => ⟨v, rfl, ?_⟩, rfl⟩
        · cases ew; exact of_decide_eq_true e
        · have := of_decide_eq_false e; omega
    · rintro c m'' ⟨k1, k2, rfl⟩
      refine ⟨fun hc => ?_, fun hc => ?_⟩
      · walk_at "e"; walk_at "e"
        refine AT.eqD (eqK_str.pair eqK_str).list hx (by decide) ?_
        refine AE.callC c__law_loose_pairs hx (by omega) (by decide +kernel) ?_
        walk_at "e"
        refine AE.callC c__law_told hx (by omega) (by decide +kernel) ?_
        walk_at "e"; walk_at "e"; walk_at "e"
        refine AE.vw ?_
        refine AE.callT (ca_dictP hx.calm) hx (by decide +kernel) (fr _ (by decide +kernel)) rfl ?_
        walk_at "e"
        refine AE.lcMap (f := D.str) (g := fun x => .tup [.str x, .int (val vals x)]) hx hs (by with_reducible (walk_at "nth")) (by decide +kernel) ?_
        refine AI.list ?_
        walk_at "e"
        refine ⟨_, .im, s, rfl, Nat.lt_of_le_of_lt sll (by decide), fun _ _ => .im, ?_, ?_⟩
        · intro x hx2 m' hm'
          refine ⟨_, by walk_at "sr", ?_⟩
          refine ABE.of hx hs fun s0 H0 C0 cl0 fp0 hb hbs => ?_
          refine AE.tup ?_
          walk_at "e"; walk_at "e"; walk_at "e"
          refine AE.dget hb ?_
          walk_at "e"; walk_at "e"
          refine ⟨_, _, _, .im, rfl, val_get (sin x hx2), ?_⟩
          walk_at "e"
          exact ⟨(show 2 ≤ sizeLine by decide), rfl, rfl⟩
        walk_at "e"
        refine ⟨_, (subV vals s).map valK, rfl, by unfold subV; rw [List.map_map, List.map_map]; exact .im, fun p1 np1 => ?_⟩
        rw [dict_of (by rw [sub_names]; exact snd)]
        refine ⟨_, _, VW.frz (u := .dic ((subV vals s).map valK)) updM_same, ?_⟩
        rw [delM_updM np1]
        walk_at "e"
        refine ⟨rows, subV vals s, rfl, rl, fun r hr hrn => ?_, ?_⟩
        · rw [sub_names] at hrn
          exact (open_iff hg.nd (fun r hr => (hg.all r hr).le) ko hr).mp (sin r.1 hrn)
        walk_at "e"
        refine ⟨_, rfl, told_srows hg hn, ?_⟩
        refine AE.lst ?_
        walk_at "e"
        refine ⟨Nat.zero_le _, looseT (tellL (subV vals s) rows), [], .im, .im, looseT_lay (told_srows hg hn), fun x hx => by simp at hx, ?_⟩
        refine ds_and (fun hset => ?_) fun hset => ?_
        · walk_at "es"
          exact ⟨⟨_, _, _, best_take hb0 hset (k1 hc), rfl⟩, rfl⟩
        · walk_at "es"
          exact ⟨⟨_, _, _, best_skip hb0 fun z => absurd z hset, rfl⟩, rfl⟩
      · obtain ⟨v, ev, lv⟩ := k2 hc
        walk_at "es"
        exact ⟨⟨_, _, _, best_skip hb0 fun _ => ⟨v, ev, lv⟩, rfl⟩, rfl⟩
  · rintro ρ' m' ⟨⟨o, o7, o8, hb0, rfl⟩, rfl⟩
    have yl : ys.length ≤ 12 := by
      have := (hy.symm.nodup a1).length_le_of_subset (fun x hx => a2 x (hy.mem_iff.mp hx))
      omega
    have yin : ∀ x ∈ ys, x ∈ vals.map (·.1) := fun x hx => a2 x (hy.mem_iff.mp hx)
    have yr : ∀ x ∈ ys, x ∈ rows.map (·.1) := fun x hx => name_row hg p ko (yin x hx)
    have ynd : ys.Nodup := hy.symm.nodup a1
    have yset : looseT (tellL (subV vals ys) rows) = [] := ask_settled hg p ko hy
    have ob : o = some (ys.map (priceN rows)).sum := by
      obtain ⟨t, tm, tp⟩ := ask_in hg p ko
      have tset := ask_settled hg p ko tp
      obtain ⟨v, rfl, lv⟩ := hb0.le t tm tset
      obtain ⟨u, um, uset, rfl⟩ := hb0.is v rfl
      have us := subL_sub rfl u um
      have h1 := ask_least hg p ko (us.nodup ko.nd) (fun x hx => us.subset hx) uset
      rw [← ask_price hg p ko hy] at h1
      rw [ask_price hg p ko tp, ← ask_price hg p ko hy] at lv
      congr 1
      omega
    subst ob
    walk_at "e"; walk_at "e"
    refine AT.ofW (AW.or ?_)
    refine AT.neS ?_
    walk_at "e"; walk_at "e"
    refine ⟨_, _, rfl, rfl, rfl, nt_and rfl ?_⟩
    refine AW.or1 ?_
    refine AT.neS ?_
    refine AE.bSum hx fr ?_
    refine AE.lcMap (f := D.str) (g := fun x => .int (val (costV rows) x)) hx hs (by with_reducible (walk_at "nth")) (by decide +kernel) ?_
    refine AI.list ?_
    walk_at "e"
    refine ⟨_, .im, ys, rfl, Nat.lt_of_le_of_lt yl (by decide), fun _ _ => .im, ?_, ?_⟩
    · intro x hx2 m' hm'
      refine ⟨_, by walk_at "sr", ?_⟩
      refine ABE.of hx hs fun s0 H0 C0 cl0 fp0 hb hbs => ?_
      refine AE.dget hb ?_
      walk_at "e"; walk_at "e"
      refine ⟨_, _, _, .im, rfl, val_get (by rw [costV_names]; exact yr x hx2), rfl, rfl⟩
    refine ⟨ys.map fun x => val (costV rows) x, by rw [List.map_map]; exact .im, ?_⟩
    rw [sub_all hg.nd yr]
    walk_at "e"
    refine ⟨_, _, rfl, rfl, rfl, nt_and rfl ?_⟩
    walk_at "e"; walk_at "e"; walk_at "e"
    refine AE.eqD (eqK_str.pair eqK_str).list hx (by decide) ?_
    refine AE.callC c__law_loose_pairs hx (by omega) (by decide +kernel) ?_
    walk_at "e"
    refine AE.callC c__law_told hx (by omega) (by decide +kernel) ?_
    walk_at "e"; walk_at "e"; walk_at "e"
    refine AE.vw ?_
    refine AE.callT (ca_dictP hx.calm) hx (by decide +kernel) (fr _ (by decide +kernel)) rfl ?_
    walk_at "e"
    refine AE.lcMap (f := D.str) (g := fun x => .tup [.str x, .int (val vals x)]) hx hs (by with_reducible (walk_at "nth")) (by decide +kernel) ?_
    refine AI.list ?_
    walk_at "e"
    refine ⟨_, .im, ys, rfl, Nat.lt_of_le_of_lt yl (by decide), fun _ _ => .im, ?_, ?_⟩
    · intro x hx2 m' hm'
      refine ⟨_, by walk_at "sr", ?_⟩
      refine ABE.of hx hs fun s0 H0 C0 cl0 fp0 hb hbs => ?_
      refine AE.tup ?_
      walk_at "e"; walk_at "e"; walk_at "e"
      refine AE.dget hb ?_
      walk_at "e"; walk_at "e"
      refine ⟨_, _, _, .im, rfl, val_get (yin x hx2), ?_⟩
      walk_at "e"
      exact ⟨(show 2 ≤ sizeLine by decide), rfl, rfl⟩
    walk_at "e"
    refine ⟨_, (subV vals ys).map valK, rfl, by unfold subV; rw [List.map_map, List.map_map]; exact .im, fun p1 np1 => ?_⟩
    rw [dict_of (by rw [sub_names]; exact ynd)]
    refine ⟨_, _, VW.frz (u := .dic ((subV vals ys).map valK)) updM_same, ?_⟩
    rw [delM_updM np1]
    walk_at "e"
    refine ⟨rows, subV vals ys, rfl, rl, fun r hr hrn => ?_, ?_⟩
    · rw [sub_names] at hrn
      exact (open_iff hg.nd (fun r hr => (hg.all r hr).le) ko hr).mp (yin r.1 hrn)
    walk_at "e"
    refine ⟨_, rfl, told_srows hg hn, ?_⟩
    refine AE.lst ?_
    walk_at "e"
    refine ⟨Nat.zero_le _, looseT (tellL (subV vals ys) rows), [], .im, .im, looseT_lay (told_srows hg hn), fun x hx => by simp at hx, ?_⟩
    rw [decide_eq_true yset]
    exact q
open PySem PySem.Spec PyProof.Rows L2 Ab

def a_law (cs : Cs) : ASp := fun ds m Q => ∃ (l : List Int) (sd : D), ds = [sd] ∧ IsLK m sd (l.map D.int) ∧ ∀ m', Q (.bl true) m'
theorem penAt0 {l : List Int} {m : Mu} {a : Addr} : PenAt (updM m a (penO (l.take 60) 0 0)) a 0 := ⟨_, 0, 0, updM_same, by decide, by decide, by simp; omega, by decide⟩
theorem rising_take : ∀ (l : List Str) (p : Str) (k : Nat), risingS p l = true → risingS p (l.take k) = true
  | [], _, _, _ => by simp [risingS]
  | _ :: _, _, 0, _ => by simp [risingS]
  | x :: r, p, k + 1, h => by
    unfold risingS at h
    rw [Bool.and_eq_true] at h
    rw [List.take_succ_cons]
    unfold risingS
    rw [Bool.and_eq_true]
    exact ⟨h.1, rising_take r x k h.2⟩
theorem sorted_take {l : List Str} {k : Nat} (h : sortedS l = true) : sortedS (l.take k) = true := by
  cases l with
  | nil => rw [List.take_nil]; exact h
  | cons x r =>
    cases k with
    | zero => rfl
    | succ k => exact rising_take r x k h
theorem grows_take {n k : Nat} {W : Int} {rows : List Itm} (h : GRows n W rows) : GRows k W (rows.take k) := by
  refine ⟨List.length_take_le _ _, ?_, ?_, fun r hr => h.all r (List.mem_of_mem_take hr)⟩
  · rw [List.map_take]; exact h.nd.sublist (List.take_sublist _ _)
  · rw [List.map_take]; exact sorted_take h.srt
theorem cutD_min {α : Type} (f : α → D) (xs : List α) {n : Nat} : Ab.cutD (xs.map f) none (some (n : Int)) = (xs.take n).map f := by
  unfold Ab.cutD
  rw [HT.sIx_none, HT.sIx_nat, List.length_map, List.drop_zero, Nat.sub_zero, ← List.map_take]
  congr 1
  rcases Nat.le_total n xs.length with h | h
  · rw [Nat.min_eq_left h]
  · rw [Nat.min_eq_right h, List.take_of_length_le h, List.take_of_length_le (Nat.le_refl _)]
theorem chain_val {R rows : List Itm} (nd : (R.map (·.1)).Nodup) (hr : ∀ r ∈ rows, r ∈ R) {r : Itm} (h : r ∈ rows) : val (R.map fun r => (r.1, r.2.1 + 5)) r.1 = r.2.1 + 5 := by
  have nm : (R.map fun r => ((r.1, r.2.1 + 5) : Str × Int)).map (·.1) = R.map (·.1) := by rw [List.map_map]; rfl
  have h1 := lookup_mem (lookup_val (vals := R.map fun r => (r.1, r.2.1 + 5)) (n := r.1) (by rw [nm]; exact List.mem_map.mpr ⟨r, hr r h, rfl⟩))
  obtain ⟨x, hx, e⟩ := List.mem_map.mp h1
  obtain ⟨e1, e2⟩ := Prod.mk.inj e
  rw [← e2, nd_inj nd hx (hr r h) e1]
theorem chain_kok {rows : List Itm} (nd : (rows.map (·.1)).Nodup) (h : ∀ r ∈ rows, r.2.2.1 = r.2.1 + 10) : KOk rows (rows.map fun r => (r.1, r.2.1 + 5)) := by
  refine ⟨by rw [List.map_map]; exact nd, fun n => ?_, fun p hp r hr e => ?_⟩
  · rw [List.map_map, List.mem_map]
    constructor
    · rintro ⟨r, hr, rfl⟩
      exact ⟨r, hr, rfl, by have := h r hr; omega⟩
    · rintro ⟨r, hr, rfl, _⟩
      exact ⟨r, hr, rfl⟩
  · obtain ⟨x, hx, rfl⟩ := List.mem_map.mp hp
    have ex := nd_inj nd hr hx e
    subst ex
    have := h r hr
    show r.2.1 ≤ r.2.1 + 5 ∧ r.2.1 + 5 ≤ r.2.2.1
    omega
abbrev n_law : List Str := ["script", "pen", "turn", "rows", "known", "row"]
theorem sc_law : FnScope n_law ["script"] (defScope s_law) := ⟨rfl, rfl, rfl, by decide +kernel, rfl, by decide +kernel, by decide +kernel⟩
theorem body_law {X : Cx} {k : Nat} {cs : Cs} (hx : XF X (fbOf n_law (defScope s_law)) k) (hk : 88 ≤ k) (hxe : X.xe = fun _ _ => False) (hs : X.env.scope = defScope s_law) (hf : Fc X.prog X.w X.K X.mg X.base cs) (fr : Fr X) (c__law_pen : Cal X.prog X.w X.K X.mg X.base 1 "_law_pen" (a__law_pen cs)) (c__law_rows : Cal X.prog X.w X.K X.mg X.base 17 "_law_rows" (a__law_rows cs)) (c__law_truth : Cal X.prog X.w X.K X.mg X.base 17 "_law_truth" (a__law_truth cs)) (c__law_right : Cal X.prog X.w X.K X.mg X.base 81 "_law_right" (a__law_right cs)) (c__law_chain : Cal X.prog X.w X.K X.mg X.base 17 "_law_chain" (a__law_chain cs)) (ds : List D) (m : Mu) (Q : QD) (h : a_law cs ds m Q) :
    ASs X (defBody s_law) (startR n_law ds) m { nx := fun _ m' => Q .non m', rt := Q } := by
  obtain ⟨l, sd, rfl, hsd, q⟩ := h
  show ASs X (defBody s_law) [some sd, none, none, none, none, none] m _
  walk_at "es"
  refine AE.callC c__law_pen hx (by omega) (by decide +kernel) ?_
  walk_at "es"
  refine ⟨l, sd, rfl, hsd, fun a na => ?_⟩
  walk_at "es"
  refine AS.forT (fun i : Nat => D.int (0 + (i : Int))) hxe hx (AI.range1 hx (by decide +kernel) (fr _ (by decide +kernel)) ?_)
  walk_at "e"
  refine ⟨4, rfl, by decide, by decide, List.range 4, fun pre ρ' m' => (∃ o2 o3 o4, ρ' = [some sd, some (.ref a), o2, o3, o4, none]) ∧ PenAt m' a (600 * pre.length), rfl, ⟨⟨_, _, _, rfl⟩, penAt0⟩, fun _ _ _ _ => trivial, ?_, ?_⟩
  · rintro pre t post ρ' m0 e ⟨⟨o2, o3, o4, rfl⟩, hp⟩
    have pl : pre.length < 4 := by have := congrArg List.length e; simp at this; omega
    walk_at "es"
    refine AE.callC c__law_rows hx (by omega) (by decide +kernel) ?_
    walk_at "es"
    refine ⟨a, _, 7, 12, rfl, hp, by omega, by omega, by omega, by omega, fun rows m2 hg hp2 => ?_⟩
    refine ⟨_, by walk_at "sr", ?_⟩
    walk_at "e"; walk_at "e"; walk_at "e"; walk_at "e"
    refine AE.callC c__law_right hx (by omega) (by decide +kernel) ?_
    walk_at "e"; walk_at "e"; walk_at "e"
    refine AE.callC c__law_truth hx (by omega) (by decide +kernel) ?_
    walk_at "es"
    refine ⟨a, _, 7, _, rows, rfl, hp2.at, by omega, hg, by decide, by decide, fun vals m3 ko hp3 => ?_⟩
    walk_at "es"
    refine ⟨7, _, rows, vals, rfl, hg, by decide, ko, ?_⟩
    refine ⟨_, rfl, ff_and ?_⟩
    walk_at "e"; walk_at "e"
    refine AS.asg ?_
    refine AE.callC c__law_chain hx (by omega) (by decide +kernel) ?_
    walk_at "es"
    refine ⟨a, _, rfl, hp3.at, by omega, fun R vs m4 hR evs h10 hp4 => ?_⟩
    refine AG.tup2 hx (by with_reducible (walk_at "nth")) (by with_reducible (walk_at "nth")) (by decide +kernel) (by decide +kernel) ⟨_, _, rfl, .cons (by walk_at "sr") (.cons (by walk_at "sr") .nil), ?_⟩
    walk_at "e"; walk_at "e"
    refine AE.slice ?_
    walk_at "e"
    refine AO.no (AO.at ?_)
    walk_at "e"
    refine ⟨7, rfl, _, .im, ?_⟩
    rw [show Ab.cutD (R.map rowD) none (some (7 : Int)) = (R.take 7).map rowD from cutD_min rowD R (n := 7)]
    refine ⟨_, by walk_at "sr", ?_⟩
    have hR7 : ∀ r ∈ R.take 7, r ∈ R := fun r hr => List.mem_of_mem_take hr
    have hg7 : GRows 7 10 (R.take 7) := grows_take hR
    have h7 : ∀ r ∈ R.take 7, r.2.2.1 = r.2.1 + 10 := fun r hr => h10 r (hR7 r hr)
    have cv : ∀ r ∈ R.take 7, val vs r.1 = r.2.1 + 5 := fun r hr => by rw [evs]; exact chain_val hR.nd hR7 hr
    have vin : ∀ r ∈ R.take 7, r.1 ∈ vs.map (·.1) := fun r hr => by
      rw [evs, List.map_map]
      exact List.mem_map.mpr ⟨r, hR7 r hr, rfl⟩
    clear hR7
    generalize R.take 7 = rs at hg7 h7 cv vin ⊢
    have ks := chain_kok hg7.nd h7
    walk_at "e"; walk_at "e"; walk_at "e"; walk_at "e"
    refine AE.callC c__law_right hx (by omega) (by decide +kernel) ?_
    walk_at "e"; walk_at "e"; walk_at "e"
    refine AE.vw ?_
    refine AE.callT (ca_dictP hx.calm) hx (by decide +kernel) (fr _ (by decide +kernel)) rfl ?_
    walk_at "e"
    refine AE.lcMap (f := rowD) (g := fun r => .tup [.str r.1, .int (r.2.1 + 5)]) hx hs (by with_reducible (walk_at "nth")) (by decide +kernel) ?_
    refine AI.list ?_
    walk_at "e"
    refine ⟨_, .im, rs, rfl, Nat.lt_of_le_of_lt hg7.len (by decide), fun _ _ => .im, ?_, ?_⟩
    · intro r hr m' hm'
      refine ⟨_, by walk_at "sr", ?_⟩
      refine ABE.of hx hs fun s0 H0 C0 cl0 fp0 hb hbs => ?_
      refine AE.tup ?_
      walk_at "e"
      refine AE.ix ixa_tup ?_
      walk_at "e"; walk_at "e"
      refine ⟨_, _, _, rfl, rfl, rfl, ?_⟩
      walk_at "e"
      refine AE.dget hb ?_
      walk_at "e"
      refine AE.ix ixa_tup ?_
      walk_at "e"; walk_at "e"
      refine ⟨_, _, _, rfl, rfl, rfl, ?_⟩
      refine ⟨_, _, _, .im, rfl, val_get (vin r hr), ?_⟩
      walk_at "e"
      refine ⟨(show 2 ≤ sizeLine by decide), ?_⟩
      rw [cv r hr]
      exact ⟨rfl, rfl⟩
    walk_at "e"
    refine ⟨_, (rs.map fun r => (r.1, r.2.1 + 5)).map valK, rfl, by rw [List.map_map, List.map_map]; exact .im, fun p1 np1 => ?_⟩
    rw [dict_of ks.nd]
    refine ⟨_, _, VW.frz (u := .dic ((rs.map fun r => (r.1, r.2.1 + 5)).map valK)) updM_same, ?_⟩
    rw [delM_updM np1]
    walk_at "e"
    refine ⟨7, 10, rs, _, rfl, hg7, by decide, ks, ?_⟩
    refine ⟨_, rfl, ff_and ?_⟩
    walk_at "es"
    exact ⟨⟨_, _, _, rfl⟩, hp4.at.mono (by simp; omega)⟩
  · rintro ρ' m' ⟨⟨o2, o3, o4, rfl⟩, hp⟩
    walk_at "es"
    exact q m'
open PySem PySem.Spec PyProof.Rows L2 Ab He
def fn : List DefL := [
  ⟨.glo "law", "law", "law", s_law, []⟩,
  ⟨.glo "is_integer", "is_integer", "is_integer", s_is_integer, []⟩,
  ⟨.stat "Item" "is_name", "is_name", "Item.is_name", s_Item_is_name, []⟩,
  ⟨.meth "Item" "__init__", "__init__", "Item.__init__", s_Item___init__, [("price", (.int 1))]⟩,
  ⟨.prop "Item" "name", "name", "Item.name", s_Item_name, []⟩,
  ⟨.prop "Item" "least", "least", "Item.least", s_Item_least, []⟩,
  ⟨.prop "Item" "greatest", "greatest", "Item.greatest", s_Item_greatest, []⟩,
  ⟨.prop "Item" "price", "price", "Item.price", s_Item_price, []⟩,
  ⟨.prop "Item" "is_exact", "is_exact", "Item.is_exact", s_Item_is_exact, []⟩,
  ⟨.meth "Pool" "__init__", "__init__", "Pool.__init__", s_Pool___init__, []⟩,
  ⟨.clsm "Pool" "read", "read", "Pool.read", s_Pool_read, []⟩,
  ⟨.meth "Pool" "with_items", "with_items", "Pool.with_items", s_Pool_with_items, []⟩,
  ⟨.prop "Pool" "names", "names", "Pool.names", s_Pool_names, []⟩,
  ⟨.meth "Pool" "item", "item", "Pool.item", s_Pool_item, []⟩,
  ⟨.glo "sort_key", "sort_key", "sort_key", s_sort_key, []⟩,
  ⟨.prop "Item" "value", "value", "Item.value", s_Item_value, []⟩,
  ⟨.clsm "Item" "exact", "exact", "Item.exact", s_Item_exact, []⟩,
  ⟨.meth "Item" "told", "told", "Item.told", s_Item_told, []⟩,
  ⟨.meth "Pool" "told", "told", "Pool.told", s_Pool_told, []⟩,
  ⟨.glo "check_values", "check_values", "check_values", s_check_values, []⟩,
  ⟨.glo "truth", "truth", "truth", s_truth, []⟩,
  ⟨.glo "open_names", "open_names", "open_names", s_open_names, []⟩,
  ⟨.glo "first_inside", "first_inside", "first_inside", s_first_inside, []⟩,
  ⟨.glo "needed", "needed", "needed", s_needed, []⟩,
  ⟨.glo "overlap", "overlap", "overlap", s_overlap, []⟩,
  ⟨.glo "paths", "paths", "paths", s_paths, []⟩,
  ⟨.glo "cover", "cover", "cover", s_cover, []⟩,
  ⟨.glo "cheapest", "cheapest", "cheapest", s_cheapest, []⟩,
  ⟨.glo "_law_pen", "_law_pen", "_law_pen", s__law_pen, []⟩,
  ⟨.glo "_law_next", "_law_next", "_law_next", s__law_next, []⟩,
  ⟨.glo "_law_draw", "_law_draw", "_law_draw", s__law_draw, []⟩,
  ⟨.glo "_law_rows", "_law_rows", "_law_rows", s__law_rows, []⟩,
  ⟨.glo "_law_before", "_law_before", "_law_before", s__law_before, []⟩,
  ⟨.glo "_law_loose", "_law_loose", "_law_loose", s__law_loose, []⟩,
  ⟨.glo "_law_loose_pairs", "_law_loose_pairs", "_law_loose_pairs", s__law_loose_pairs, []⟩,
  ⟨.glo "_law_truth", "_law_truth", "_law_truth", s__law_truth, []⟩,
  ⟨.glo "_law_told", "_law_told", "_law_told", s__law_told, []⟩,
  ⟨.glo "_law_subsets", "_law_subsets", "_law_subsets", s__law_subsets, []⟩,
  ⟨.glo "_law_pool", "_law_pool", "_law_pool", s__law_pool, []⟩,
  ⟨.glo "_law_chain", "_law_chain", "_law_chain", s__law_chain, []⟩,
  ⟨.glo "_law_right", "_law_right", "_law_right", s__law_right, []⟩]
def globs : List Str := ["law", "is_integer", "sort_key", "check_values", "truth", "open_names", "first_inside", "needed", "overlap", "paths", "cover", "cheapest", "_law_pen", "_law_next", "_law_draw", "_law_rows", "_law_before", "_law_loose", "_law_loose_pairs", "_law_truth", "_law_told", "_law_subsets", "_law_pool", "_law_chain", "_law_right", "Item", "Pool"]
def more : List Fa := [.noat "Item" "parts", .noat "Pool" "by_name", .str "LETTERS" "abcdefghijklmnopqrstuvwxyz", .int "MAX_NAME" 8, .cls "Item", .cls "Pool", .meth "Pool" "with_items", .meth "Pool" "item", .meth "Item" "told", .meth "Pool" "told", .mkr "Item", .mkr "Pool"]
def fa : List Fa := globs.map Fa.glo ++ frees.map Fa.free ++ more
def fx : List Fx := [.cread "Item", .insty "Item", .kit "Item", .cread "Pool", .insty "Pool", .kit "Pool", .cint "Item" "MOST" 999, .stat "Item" "is_name", .prop "Item" "name", .prop "Item" "least", .prop "Item" "greatest", .prop "Item" "price", .prop "Item" "is_exact", .clsm "Pool" "read", .prop "Pool" "names", .prop "Item" "value", .clsm "Item" "exact", .bm "Pool" "with_items"]
abbrev RWW : PySem.W.OpenLaw := PySem.Challenge.rw_askranges_k71_whole_cheapest_of_all_sets
abbrev R : PySem.W.OpenRow := PySem.W.OpenLaw.row RWW
abbrev hk : PySem.W.Hook := hookL 7 fa fx fn
def ob (s : PySem.W.SharedT) : Bool × List FnW := obsLG 7 fa fx fn (HandSHeadRun.getT s)
theorem ob_eq (s : PySem.W.SharedT) : ob s = hk.obs s.abs := obsLG_eq (HandSHeadRun.getT_eq s)
def loose : List Str := (["_wall", "AskError", "InvalidValue", "DuplicateName", "ParseError", "InvalidItem", "InvalidPool", "UnknownName", "InvalidValues", "LETTERS", "MAX_NAME", "is_integer", "Item", "sort_key", "read_number", "read_item", "Pool", "check_values", "truth", "open_names"] : List Str) ++ (["first_inside", "needed", "overlap", "paths", "cover", "cheapest", "_law_pen", "_law_next", "_law_draw", "_law_rows", "_law_truth", "_law_told", "_law_before", "_law_loose", "_law_loose_pairs", "_law_subsets", "_law_pool", "_law_chain", "_law_right"] : List Str)
theorem run (w : World) : HandSHeadRun.RunEq R (PySem.W.view R.prog [45]) hk ob 60000 loose w := by
  intro os
  kernel_rfl
open PySem PySem.Spec PyProof.Rows L2 Ab He
open He5 (wf)
section
variable {P : Program} {w : World} {K : PySem.W.Frag} {mg : Str → Option Value} {base : Heap} {f : Addr} {cs : Cs} {fd : FuncData}
theorem d_is_integer (F : FunD K "is_integer" "is_integer" (defArgs s_is_integer) (defBody s_is_integer) (defScope s_is_integer) [] [] f fd) (hf : Fc P w K mg base cs) (fr : ∀ x : Str, frees.contains x = true → mg x = none) : AFd P w K mg base 1 f fd ["thing"] (a_is_integer cs) :=
  afd_of F sc_is_integer (fun ds m Q h => by first | (obtain ⟨rfl, _⟩ := h; rfl) | (obtain ⟨_, rfl, _⟩ := h; rfl) | (obtain ⟨_, _, rfl, _⟩ := h; rfl) | (obtain ⟨_, _, _, rfl, _⟩ := h; rfl) | (obtain ⟨_, _, _, _, rfl, _⟩ := h; rfl) | (obtain ⟨_, _, _, _, _, rfl, _⟩ := h; rfl) | (obtain ⟨_, _, _, _, _, _, rfl, _⟩ := h; rfl) | (obtain ⟨_, _, _, _, _, _, _, rfl, _⟩ := h; rfl) | (obtain ⟨_, _, _, _, _, _, _, _, rfl, _⟩ := h; rfl) | (obtain ⟨_, _, _, _, _, _, _, _, _, rfl, _⟩ := h; rfl) | (obtain ⟨_, _, _, _, _, _, _, _, _, _, rfl, _⟩ := h; rfl) | (obtain ⟨_, _, _, _, _, _, _, _, _, _, _, rfl, _⟩ := h; rfl) | (obtain ⟨_, _, _, _, _, _, _, _, _, _, _, _, rfl, _⟩ := h; rfl) | (obtain ⟨_, rfl⟩ := h; rfl) | (obtain ⟨_, _, rfl⟩ := h; rfl) | (obtain ⟨_, _, _, rfl⟩ := h; rfl) | (obtain ⟨_, _, _, _, rfl⟩ := h; rfl) | (obtain ⟨_, _, _, _, _, rfl⟩ := h; rfl) | (obtain ⟨_, _, _, _, _, _, rfl⟩ := h; rfl) | (obtain ⟨_, _, _, _, _, _, _, rfl⟩ := h; rfl)) fun X hX hx hxe hs ds m Q h => by
    obtain ⟨e1, e2, e3, e4, e5⟩ := hX
    subst e1 e2 e3 e4 e5
    exact body_is_integer hx (by decide) hxe hs hf fr  ds m Q h
theorem d_Item_is_name (F : FunD K "is_name" "Item.is_name" (defArgs s_Item_is_name) (defBody s_Item_is_name) (defScope s_Item_is_name) [] [] f fd) (hf : Fc P w K mg base cs) (fr : ∀ x : Str, frees.contains x = true → mg x = none) : AFd P w K mg base 1 f fd ["thing"] (a_Item_is_name cs) :=
  afd_of F sc_Item_is_name (fun ds m Q h => by first | (obtain ⟨rfl, _⟩ := h; rfl) | (obtain ⟨_, rfl, _⟩ := h; rfl) | (obtain ⟨_, _, rfl, _⟩ := h; rfl) | (obtain ⟨_, _, _, rfl, _⟩ := h; rfl) | (obtain ⟨_, _, _, _, rfl, _⟩ := h; rfl) | (obtain ⟨_, _, _, _, _, rfl, _⟩ := h; rfl) | (obtain ⟨_, _, _, _, _, _, rfl, _⟩ := h; rfl) | (obtain ⟨_, _, _, _, _, _, _, rfl, _⟩ := h; rfl) | (obtain ⟨_, _, _, _, _, _, _, _, rfl, _⟩ := h; rfl) | (obtain ⟨_, _, _, _, _, _, _, _, _, rfl, _⟩ := h; rfl) | (obtain ⟨_, _, _, _, _, _, _, _, _, _, rfl, _⟩ := h; rfl) | (obtain ⟨_, _, _, _, _, _, _, _, _, _, _, rfl, _⟩ := h; rfl) | (obtain ⟨_, _, _, _, _, _, _, _, _, _, _, _, rfl, _⟩ := h; rfl) | (obtain ⟨_, rfl⟩ := h; rfl) | (obtain ⟨_, _, rfl⟩ := h; rfl) | (obtain ⟨_, _, _, rfl⟩ := h; rfl) | (obtain ⟨_, _, _, _, rfl⟩ := h; rfl) | (obtain ⟨_, _, _, _, _, rfl⟩ := h; rfl) | (obtain ⟨_, _, _, _, _, _, rfl⟩ := h; rfl) | (obtain ⟨_, _, _, _, _, _, _, rfl⟩ := h; rfl)) fun X hX hx hxe hs ds m Q h => by
    obtain ⟨e1, e2, e3, e4, e5⟩ := hX
    subst e1 e2 e3 e4 e5
    exact body_Item_is_name hx (by decide) hxe hs hf fr  ds m Q h
theorem d_Item___init__ (F : FunD K "__init__" "Item.__init__" (defArgs s_Item___init__) (defBody s_Item___init__) (defScope s_Item___init__) [] [("price", V.int 1)] f fd) (hf : Fc P w K mg base cs) (fr : ∀ x : Str, frees.contains x = true → mg x = none) (c_Item_is_name : Stm P w K mg base 1 cs.I "is_name" (a_Item_is_name cs)) (c_is_integer : Cal P w K mg base 1 "is_integer" (a_is_integer cs)) : AFd P w K mg base 9 f fd ["self", "name", "least", "greatest", "price"] (a_Item___init__ cs) :=
  afd_of F sc_Item___init__ (fun ds m Q h => by first | (obtain ⟨rfl, _⟩ := h; rfl) | (obtain ⟨_, rfl, _⟩ := h; rfl) | (obtain ⟨_, _, rfl, _⟩ := h; rfl) | (obtain ⟨_, _, _, rfl, _⟩ := h; rfl) | (obtain ⟨_, _, _, _, rfl, _⟩ := h; rfl) | (obtain ⟨_, _, _, _, _, rfl, _⟩ := h; rfl) | (obtain ⟨_, _, _, _, _, _, rfl, _⟩ := h; rfl) | (obtain ⟨_, _, _, _, _, _, _, rfl, _⟩ := h; rfl) | (obtain ⟨_, _, _, _, _, _, _, _, rfl, _⟩ := h; rfl) | (obtain ⟨_, _, _, _, _, _, _, _, _, rfl, _⟩ := h; rfl) | (obtain ⟨_, _, _, _, _, _, _, _, _, _, rfl, _⟩ := h; rfl) | (obtain ⟨_, _, _, _, _, _, _, _, _, _, _, rfl, _⟩ := h; rfl) | (obtain ⟨_, _, _, _, _, _, _, _, _, _, _, _, rfl, _⟩ := h; rfl) | (obtain ⟨_, rfl⟩ := h; rfl) | (obtain ⟨_, _, rfl⟩ := h; rfl) | (obtain ⟨_, _, _, rfl⟩ := h; rfl) | (obtain ⟨_, _, _, _, rfl⟩ := h; rfl) | (obtain ⟨_, _, _, _, _, rfl⟩ := h; rfl) | (obtain ⟨_, _, _, _, _, _, rfl⟩ := h; rfl) | (obtain ⟨_, _, _, _, _, _, _, rfl⟩ := h; rfl)) fun X hX hx hxe hs ds m Q h => by
    obtain ⟨e1, e2, e3, e4, e5⟩ := hX
    subst e1 e2 e3 e4 e5
    exact body_Item___init__ hx (by decide) hxe hs hf fr c_Item_is_name c_is_integer ds m Q h
theorem d_Item_name (F : FunD K "name" "Item.name" (defArgs s_Item_name) (defBody s_Item_name) (defScope s_Item_name) [] [] f fd) (hf : Fc P w K mg base cs) (fr : ∀ x : Str, frees.contains x = true → mg x = none) : AFd P w K mg base 1 f fd ["self"] (a_Item_name cs) :=
  afd_of F sc_Item_name (fun ds m Q h => by first | (obtain ⟨rfl, _⟩ := h; rfl) | (obtain ⟨_, rfl, _⟩ := h; rfl) | (obtain ⟨_, _, rfl, _⟩ := h; rfl) | (obtain ⟨_, _, _, rfl, _⟩ := h; rfl) | (obtain ⟨_, _, _, _, rfl, _⟩ := h; rfl) | (obtain ⟨_, _, _, _, _, rfl, _⟩ := h; rfl) | (obtain ⟨_, _, _, _, _, _, rfl, _⟩ := h; rfl) | (obtain ⟨_, _, _, _, _, _, _, rfl, _⟩ := h; rfl) | (obtain ⟨_, _, _, _, _, _, _, _, rfl, _⟩ := h; rfl) | (obtain ⟨_, _, _, _, _, _, _, _, _, rfl, _⟩ := h; rfl) | (obtain ⟨_, _, _, _, _, _, _, _, _, _, rfl, _⟩ := h; rfl) | (obtain ⟨_, _, _, _, _, _, _, _, _, _, _, rfl, _⟩ := h; rfl) | (obtain ⟨_, _, _, _, _, _, _, _, _, _, _, _, rfl, _⟩ := h; rfl) | (obtain ⟨_, rfl⟩ := h; rfl) | (obtain ⟨_, _, rfl⟩ := h; rfl) | (obtain ⟨_, _, _, rfl⟩ := h; rfl) | (obtain ⟨_, _, _, _, rfl⟩ := h; rfl) | (obtain ⟨_, _, _, _, _, rfl⟩ := h; rfl) | (obtain ⟨_, _, _, _, _, _, rfl⟩ := h; rfl) | (obtain ⟨_, _, _, _, _, _, _, rfl⟩ := h; rfl)) fun X hX hx hxe hs ds m Q h => by
    obtain ⟨e1, e2, e3, e4, e5⟩ := hX
    subst e1 e2 e3 e4 e5
    exact body_Item_name hx (by decide) hxe hs hf fr  ds m Q h
theorem d_Item_least (F : FunD K "least" "Item.least" (defArgs s_Item_least) (defBody s_Item_least) (defScope s_Item_least) [] [] f fd) (hf : Fc P w K mg base cs) (fr : ∀ x : Str, frees.contains x = true → mg x = none) : AFd P w K mg base 1 f fd ["self"] (a_Item_least cs) :=
  afd_of F sc_Item_least (fun ds m Q h => by first | (obtain ⟨rfl, _⟩ := h; rfl) | (obtain ⟨_, rfl, _⟩ := h; rfl) | (obtain ⟨_, _, rfl, _⟩ := h; rfl) | (obtain ⟨_, _, _, rfl, _⟩ := h; rfl) | (obtain ⟨_, _, _, _, rfl, _⟩ := h; rfl) | (obtain ⟨_, _, _, _, _, rfl, _⟩ := h; rfl) | (obtain ⟨_, _, _, _, _, _, rfl, _⟩ := h; rfl) | (obtain ⟨_, _, _, _, _, _, _, rfl, _⟩ := h; rfl) | (obtain ⟨_, _, _, _, _, _, _, _, rfl, _⟩ := h; rfl) | (obtain ⟨_, _, _, _, _, _, _, _, _, rfl, _⟩ := h; rfl) | (obtain ⟨_, _, _, _, _, _, _, _, _, _, rfl, _⟩ := h; rfl) | (obtain ⟨_, _, _, _, _, _, _, _, _, _, _, rfl, _⟩ := h; rfl) | (obtain ⟨_, _, _, _, _, _, _, _, _, _, _, _, rfl, _⟩ := h; rfl) | (obtain ⟨_, rfl⟩ := h; rfl) | (obtain ⟨_, _, rfl⟩ := h; rfl) | (obtain ⟨_, _, _, rfl⟩ := h; rfl) | (obtain ⟨_, _, _, _, rfl⟩ := h; rfl) | (obtain ⟨_, _, _, _, _, rfl⟩ := h; rfl) | (obtain ⟨_, _, _, _, _, _, rfl⟩ := h; rfl) | (obtain ⟨_, _, _, _, _, _, _, rfl⟩ := h; rfl)) fun X hX hx hxe hs ds m Q h => by
    obtain ⟨e1, e2, e3, e4, e5⟩ := hX
    subst e1 e2 e3 e4 e5
    exact body_Item_least hx (by decide) hxe hs hf fr  ds m Q h
theorem d_Item_greatest (F : FunD K "greatest" "Item.greatest" (defArgs s_Item_greatest) (defBody s_Item_greatest) (defScope s_Item_greatest) [] [] f fd) (hf : Fc P w K mg base cs) (fr : ∀ x : Str, frees.contains x = true → mg x = none) : AFd P w K mg base 1 f fd ["self"] (a_Item_greatest cs) :=
  afd_of F sc_Item_greatest (fun ds m Q h => by first | (obtain ⟨rfl, _⟩ := h; rfl) | (obtain ⟨_, rfl, _⟩ := h; rfl) | (obtain ⟨_, _, rfl, _⟩ := h; rfl) | (obtain ⟨_, _, _, rfl, _⟩ := h; rfl) | (obtain ⟨_, _, _, _, rfl, _⟩ := h; rfl) | (obtain ⟨_, _, _, _, _, rfl, _⟩ := h; rfl) | (obtain ⟨_, _, _, _, _, _, rfl, _⟩ := h; rfl) | (obtain ⟨_, _, _, _, _, _, _, rfl, _⟩ := h; rfl) | (obtain ⟨_, _, _, _, _, _, _, _, rfl, _⟩ := h; rfl) | (obtain ⟨_, _, _, _, _, _, _, _, _, rfl, _⟩ := h; rfl) | (obtain ⟨_, _, _, _, _, _, _, _, _, _, rfl, _⟩ := h; rfl) | (obtain ⟨_, _, _, _, _, _, _, _, _, _, _, rfl, _⟩ := h; rfl) | (obtain ⟨_, _, _, _, _, _, _, _, _, _, _, _, rfl, _⟩ := h; rfl) | (obtain ⟨_, rfl⟩ := h; rfl) | (obtain ⟨_, _, rfl⟩ := h; rfl) | (obtain ⟨_, _, _, rfl⟩ := h; rfl) | (obtain ⟨_, _, _, _, rfl⟩ := h; rfl) | (obtain ⟨_, _, _, _, _, rfl⟩ := h; rfl) | (obtain ⟨_, _, _, _, _, _, rfl⟩ := h; rfl) | (obtain ⟨_, _, _, _, _, _, _, rfl⟩ := h; rfl)) fun X hX hx hxe hs ds m Q h => by
    obtain ⟨e1, e2, e3, e4, e5⟩ := hX
    subst e1 e2 e3 e4 e5
    exact body_Item_greatest hx (by decide) hxe hs hf fr  ds m Q h
theorem d_Item_price (F : FunD K "price" "Item.price" (defArgs s_Item_price) (defBody s_Item_price) (defScope s_Item_price) [] [] f fd) (hf : Fc P w K mg base cs) (fr : ∀ x : Str, frees.contains x = true → mg x = none) : AFd P w K mg base 1 f fd ["self"] (a_Item_price cs) :=
  afd_of F sc_Item_price (fun ds m Q h => by first | (obtain ⟨rfl, _⟩ := h; rfl) | (obtain ⟨_, rfl, _⟩ := h; rfl) | (obtain ⟨_, _, rfl, _⟩ := h; rfl) | (obtain ⟨_, _, _, rfl, _⟩ := h; rfl) | (obtain ⟨_, _, _, _, rfl, _⟩ := h; rfl) | (obtain ⟨_, _, _, _, _, rfl, _⟩ := h; rfl) | (obtain ⟨_, _, _, _, _, _, rfl, _⟩ := h; rfl) | (obtain ⟨_, _, _, _, _, _, _, rfl, _⟩ := h; rfl) | (obtain ⟨_, _, _, _, _, _, _, _, rfl, _⟩ := h; rfl) | (obtain ⟨_, _, _, _, _, _, _, _, _, rfl, _⟩ := h; rfl) | (obtain ⟨_, _, _, _, _, _, _, _, _, _, rfl, _⟩ := h; rfl) | (obtain ⟨_, _, _, _, _, _, _, _, _, _, _, rfl, _⟩ := h; rfl) | (obtain ⟨_, _, _, _, _, _, _, _, _, _, _, _, rfl, _⟩ := h; rfl) | (obtain ⟨_, rfl⟩ := h; rfl) | (obtain ⟨_, _, rfl⟩ := h; rfl) | (obtain ⟨_, _, _, rfl⟩ := h; rfl) | (obtain ⟨_, _, _, _, rfl⟩ := h; rfl) | (obtain ⟨_, _, _, _, _, rfl⟩ := h; rfl) | (obtain ⟨_, _, _, _, _, _, rfl⟩ := h; rfl) | (obtain ⟨_, _, _, _, _, _, _, rfl⟩ := h; rfl)) fun X hX hx hxe hs ds m Q h => by
    obtain ⟨e1, e2, e3, e4, e5⟩ := hX
    subst e1 e2 e3 e4 e5
    exact body_Item_price hx (by decide) hxe hs hf fr  ds m Q h
theorem d_Item_is_exact (F : FunD K "is_exact" "Item.is_exact" (defArgs s_Item_is_exact) (defBody s_Item_is_exact) (defScope s_Item_is_exact) [] [] f fd) (hf : Fc P w K mg base cs) (fr : ∀ x : Str, frees.contains x = true → mg x = none) : AFd P w K mg base 1 f fd ["self"] (a_Item_is_exact cs) :=
  afd_of F sc_Item_is_exact (fun ds m Q h => by first | (obtain ⟨rfl, _⟩ := h; rfl) | (obtain ⟨_, rfl, _⟩ := h; rfl) | (obtain ⟨_, _, rfl, _⟩ := h; rfl) | (obtain ⟨_, _, _, rfl, _⟩ := h; rfl) | (obtain ⟨_, _, _, _, rfl, _⟩ := h; rfl) | (obtain ⟨_, _, _, _, _, rfl, _⟩ := h; rfl) | (obtain ⟨_, _, _, _, _, _, rfl, _⟩ := h; rfl) | (obtain ⟨_, _, _, _, _, _, _, rfl, _⟩ := h; rfl) | (obtain ⟨_, _, _, _, _, _, _, _, rfl, _⟩ := h; rfl) | (obtain ⟨_, _, _, _, _, _, _, _, _, rfl, _⟩ := h; rfl) | (obtain ⟨_, _, _, _, _, _, _, _, _, _, rfl, _⟩ := h; rfl) | (obtain ⟨_, _, _, _, _, _, _, _, _, _, _, rfl, _⟩ := h; rfl) | (obtain ⟨_, _, _, _, _, _, _, _, _, _, _, _, rfl, _⟩ := h; rfl) | (obtain ⟨_, rfl⟩ := h; rfl) | (obtain ⟨_, _, rfl⟩ := h; rfl) | (obtain ⟨_, _, _, rfl⟩ := h; rfl) | (obtain ⟨_, _, _, _, rfl⟩ := h; rfl) | (obtain ⟨_, _, _, _, _, rfl⟩ := h; rfl) | (obtain ⟨_, _, _, _, _, _, rfl⟩ := h; rfl) | (obtain ⟨_, _, _, _, _, _, _, rfl⟩ := h; rfl)) fun X hX hx hxe hs ds m Q h => by
    obtain ⟨e1, e2, e3, e4, e5⟩ := hX
    subst e1 e2 e3 e4 e5
    exact body_Item_is_exact hx (by decide) hxe hs hf fr  ds m Q h
theorem d_Pool___init__ (F : FunD K "__init__" "Pool.__init__" (defArgs s_Pool___init__) (defBody s_Pool___init__) (defScope s_Pool___init__) [] [] f fd) (hf : Fc P w K mg base cs) (fr : ∀ x : Str, frees.contains x = true → mg x = none) : AFn P w K mg base 1 f (starA (a_Pool___init__ cs)) :=
  afn_star (ps := ["self"]) (pv := "items") F sc_Pool___init__ (star1 F (fun _ _ _ _ _ _ _ => rfl) fun _ _ _ _ _ _ _ _ _ => rfl) fun X hX hx hxe hs ds m Q h => by
    obtain ⟨e1, e2, e3, e4, e5⟩ := hX
    subst e1 e2 e3 e4 e5
    exact body_Pool___init__ hx (by decide) hxe hs hf fr  ds m Q h
theorem d_Pool_read (F : FunD K "read" "Pool.read" (defArgs s_Pool_read) (defBody s_Pool_read) (defScope s_Pool_read) [] [] f fd) (hf : Fc P w K mg base cs) (fr : ∀ x : Str, frees.contains x = true → mg x = none) (n_Pool_ : Mkc P w K mg base 1 "Pool" cs.P (starA (a_Pool___init__ cs))) : AFd P w K mg base 9 f fd ["cls", "text"] (a_Pool_read cs) :=
  afd_of F sc_Pool_read (fun ds m Q h => by first | (obtain ⟨rfl, _⟩ := h; rfl) | (obtain ⟨_, rfl, _⟩ := h; rfl) | (obtain ⟨_, _, rfl, _⟩ := h; rfl) | (obtain ⟨_, _, _, rfl, _⟩ := h; rfl) | (obtain ⟨_, _, _, _, rfl, _⟩ := h; rfl) | (obtain ⟨_, _, _, _, _, rfl, _⟩ := h; rfl) | (obtain ⟨_, _, _, _, _, _, rfl, _⟩ := h; rfl) | (obtain ⟨_, _, _, _, _, _, _, rfl, _⟩ := h; rfl) | (obtain ⟨_, _, _, _, _, _, _, _, rfl, _⟩ := h; rfl) | (obtain ⟨_, _, _, _, _, _, _, _, _, rfl, _⟩ := h; rfl) | (obtain ⟨_, _, _, _, _, _, _, _, _, _, rfl, _⟩ := h; rfl) | (obtain ⟨_, _, _, _, _, _, _, _, _, _, _, rfl, _⟩ := h; rfl) | (obtain ⟨_, _, _, _, _, _, _, _, _, _, _, _, rfl, _⟩ := h; rfl) | (obtain ⟨_, rfl⟩ := h; rfl) | (obtain ⟨_, _, rfl⟩ := h; rfl) | (obtain ⟨_, _, _, rfl⟩ := h; rfl) | (obtain ⟨_, _, _, _, rfl⟩ := h; rfl) | (obtain ⟨_, _, _, _, _, rfl⟩ := h; rfl) | (obtain ⟨_, _, _, _, _, _, rfl⟩ := h; rfl) | (obtain ⟨_, _, _, _, _, _, _, rfl⟩ := h; rfl)) fun X hX hx hxe hs ds m Q h => by
    obtain ⟨e1, e2, e3, e4, e5⟩ := hX
    subst e1 e2 e3 e4 e5
    exact body_Pool_read hx (by decide) hxe hs hf fr n_Pool_ ds m Q h
theorem d_Pool_with_items (F : FunD K "with_items" "Pool.with_items" (defArgs s_Pool_with_items) (defBody s_Pool_with_items) (defScope s_Pool_with_items) [] [] f fd) (hf : Fc P w K mg base cs) (fr : ∀ x : Str, frees.contains x = true → mg x = none) (n_Pool_ : Mkc P w K mg base 1 "Pool" cs.P (starA (a_Pool___init__ cs))) (c_Item_name : Prp P w K mg base 1 cs.I "name" (a_Item_name cs)) : AFn P w K mg base 9 f (starA (a_Pool_with_items cs)) :=
  afn_star (ps := ["self"]) (pv := "items") F sc_Pool_with_items (star1 F (fun _ _ _ _ _ _ _ => rfl) fun _ _ _ _ _ _ _ _ _ => rfl) fun X hX hx hxe hs ds m Q h => by
    obtain ⟨e1, e2, e3, e4, e5⟩ := hX
    subst e1 e2 e3 e4 e5
    exact body_Pool_with_items hx (by decide) hxe hs hf fr n_Pool_ c_Item_name ds m Q h
theorem d_Pool_names (F : FunD K "names" "Pool.names" (defArgs s_Pool_names) (defBody s_Pool_names) (defScope s_Pool_names) [] [] f fd) (hf : Fc P w K mg base cs) (fr : ∀ x : Str, frees.contains x = true → mg x = none) : AFd P w K mg base 1 f fd ["self"] (a_Pool_names cs) :=
  afd_of F sc_Pool_names (fun ds m Q h => by first | (obtain ⟨rfl, _⟩ := h; rfl) | (obtain ⟨_, rfl, _⟩ := h; rfl) | (obtain ⟨_, _, rfl, _⟩ := h; rfl) | (obtain ⟨_, _, _, rfl, _⟩ := h; rfl) | (obtain ⟨_, _, _, _, rfl, _⟩ := h; rfl) | (obtain ⟨_, _, _, _, _, rfl, _⟩ := h; rfl) | (obtain ⟨_, _, _, _, _, _, rfl, _⟩ := h; rfl) | (obtain ⟨_, _, _, _, _, _, _, rfl, _⟩ := h; rfl) | (obtain ⟨_, _, _, _, _, _, _, _, rfl, _⟩ := h; rfl) | (obtain ⟨_, _, _, _, _, _, _, _, _, rfl, _⟩ := h; rfl) | (obtain ⟨_, _, _, _, _, _, _, _, _, _, rfl, _⟩ := h; rfl) | (obtain ⟨_, _, _, _, _, _, _, _, _, _, _, rfl, _⟩ := h; rfl) | (obtain ⟨_, _, _, _, _, _, _, _, _, _, _, _, rfl, _⟩ := h; rfl) | (obtain ⟨_, rfl⟩ := h; rfl) | (obtain ⟨_, _, rfl⟩ := h; rfl) | (obtain ⟨_, _, _, rfl⟩ := h; rfl) | (obtain ⟨_, _, _, _, rfl⟩ := h; rfl) | (obtain ⟨_, _, _, _, _, rfl⟩ := h; rfl) | (obtain ⟨_, _, _, _, _, _, rfl⟩ := h; rfl) | (obtain ⟨_, _, _, _, _, _, _, rfl⟩ := h; rfl)) fun X hX hx hxe hs ds m Q h => by
    obtain ⟨e1, e2, e3, e4, e5⟩ := hX
    subst e1 e2 e3 e4 e5
    exact body_Pool_names hx (by decide) hxe hs hf fr  ds m Q h
theorem d_Pool_item (F : FunD K "item" "Pool.item" (defArgs s_Pool_item) (defBody s_Pool_item) (defScope s_Pool_item) [] [] f fd) (hf : Fc P w K mg base cs) (fr : ∀ x : Str, frees.contains x = true → mg x = none) : AFd P w K mg base 1 f fd ["self", "name"] (a_Pool_item cs) :=
  afd_of F sc_Pool_item (fun ds m Q h => by first | (obtain ⟨rfl, _⟩ := h; rfl) | (obtain ⟨_, rfl, _⟩ := h; rfl) | (obtain ⟨_, _, rfl, _⟩ := h; rfl) | (obtain ⟨_, _, _, rfl, _⟩ := h; rfl) | (obtain ⟨_, _, _, _, rfl, _⟩ := h; rfl) | (obtain ⟨_, _, _, _, _, rfl, _⟩ := h; rfl) | (obtain ⟨_, _, _, _, _, _, rfl, _⟩ := h; rfl) | (obtain ⟨_, _, _, _, _, _, _, rfl, _⟩ := h; rfl) | (obtain ⟨_, _, _, _, _, _, _, _, rfl, _⟩ := h; rfl) | (obtain ⟨_, _, _, _, _, _, _, _, _, rfl, _⟩ := h; rfl) | (obtain ⟨_, _, _, _, _, _, _, _, _, _, rfl, _⟩ := h; rfl) | (obtain ⟨_, _, _, _, _, _, _, _, _, _, _, rfl, _⟩ := h; rfl) | (obtain ⟨_, _, _, _, _, _, _, _, _, _, _, _, rfl, _⟩ := h; rfl) | (obtain ⟨_, rfl⟩ := h; rfl) | (obtain ⟨_, _, rfl⟩ := h; rfl) | (obtain ⟨_, _, _, rfl⟩ := h; rfl) | (obtain ⟨_, _, _, _, rfl⟩ := h; rfl) | (obtain ⟨_, _, _, _, _, rfl⟩ := h; rfl) | (obtain ⟨_, _, _, _, _, _, rfl⟩ := h; rfl) | (obtain ⟨_, _, _, _, _, _, _, rfl⟩ := h; rfl)) fun X hX hx hxe hs ds m Q h => by
    obtain ⟨e1, e2, e3, e4, e5⟩ := hX
    subst e1 e2 e3 e4 e5
    exact body_Pool_item hx (by decide) hxe hs hf fr  ds m Q h
theorem d_sort_key (F : FunD K "sort_key" "sort_key" (defArgs s_sort_key) (defBody s_sort_key) (defScope s_sort_key) [] [] f fd) (hf : Fc P w K mg base cs) (fr : ∀ x : Str, frees.contains x = true → mg x = none) (c_Item_least : Prp P w K mg base 1 cs.I "least" (a_Item_least cs)) (c_Item_greatest : Prp P w K mg base 1 cs.I "greatest" (a_Item_greatest cs)) (c_Item_name : Prp P w K mg base 1 cs.I "name" (a_Item_name cs)) : AFd P w K mg base 9 f fd ["item"] (a_sort_key cs) :=
  afd_of F sc_sort_key (fun ds m Q h => by first | (obtain ⟨rfl, _⟩ := h; rfl) | (obtain ⟨_, rfl, _⟩ := h; rfl) | (obtain ⟨_, _, rfl, _⟩ := h; rfl) | (obtain ⟨_, _, _, rfl, _⟩ := h; rfl) | (obtain ⟨_, _, _, _, rfl, _⟩ := h; rfl) | (obtain ⟨_, _, _, _, _, rfl, _⟩ := h; rfl) | (obtain ⟨_, _, _, _, _, _, rfl, _⟩ := h; rfl) | (obtain ⟨_, _, _, _, _, _, _, rfl, _⟩ := h; rfl) | (obtain ⟨_, _, _, _, _, _, _, _, rfl, _⟩ := h; rfl) | (obtain ⟨_, _, _, _, _, _, _, _, _, rfl, _⟩ := h; rfl) | (obtain ⟨_, _, _, _, _, _, _, _, _, _, rfl, _⟩ := h; rfl) | (obtain ⟨_, _, _, _, _, _, _, _, _, _, _, rfl, _⟩ := h; rfl) | (obtain ⟨_, _, _, _, _, _, _, _, _, _, _, _, rfl, _⟩ := h; rfl) | (obtain ⟨_, rfl⟩ := h; rfl) | (obtain ⟨_, _, rfl⟩ := h; rfl) | (obtain ⟨_, _, _, rfl⟩ := h; rfl) | (obtain ⟨_, _, _, _, rfl⟩ := h; rfl) | (obtain ⟨_, _, _, _, _, rfl⟩ := h; rfl) | (obtain ⟨_, _, _, _, _, _, rfl⟩ := h; rfl) | (obtain ⟨_, _, _, _, _, _, _, rfl⟩ := h; rfl)) fun X hX hx hxe hs ds m Q h => by
    obtain ⟨e1, e2, e3, e4, e5⟩ := hX
    subst e1 e2 e3 e4 e5
    exact body_sort_key hx (by decide) hxe hs hf fr c_Item_least c_Item_greatest c_Item_name ds m Q h
theorem d_Item_value (F : FunD K "value" "Item.value" (defArgs s_Item_value) (defBody s_Item_value) (defScope s_Item_value) [] [] f fd) (hf : Fc P w K mg base cs) (fr : ∀ x : Str, frees.contains x = true → mg x = none) (c_Item_is_exact : Prp P w K mg base 1 cs.I "is_exact" (a_Item_is_exact cs)) : AFd P w K mg base 9 f fd ["self"] (a_Item_value cs) :=
  afd_of F sc_Item_value (fun ds m Q h => by first | (obtain ⟨rfl, _⟩ := h; rfl) | (obtain ⟨_, rfl, _⟩ := h; rfl) | (obtain ⟨_, _, rfl, _⟩ := h; rfl) | (obtain ⟨_, _, _, rfl, _⟩ := h; rfl) | (obtain ⟨_, _, _, _, rfl, _⟩ := h; rfl) | (obtain ⟨_, _, _, _, _, rfl, _⟩ := h; rfl) | (obtain ⟨_, _, _, _, _, _, rfl, _⟩ := h; rfl) | (obtain ⟨_, _, _, _, _, _, _, rfl, _⟩ := h; rfl) | (obtain ⟨_, _, _, _, _, _, _, _, rfl, _⟩ := h; rfl) | (obtain ⟨_, _, _, _, _, _, _, _, _, rfl, _⟩ := h; rfl) | (obtain ⟨_, _, _, _, _, _, _, _, _, _, rfl, _⟩ := h; rfl) | (obtain ⟨_, _, _, _, _, _, _, _, _, _, _, rfl, _⟩ := h; rfl) | (obtain ⟨_, _, _, _, _, _, _, _, _, _, _, _, rfl, _⟩ := h; rfl) | (obtain ⟨_, rfl⟩ := h; rfl) | (obtain ⟨_, _, rfl⟩ := h; rfl) | (obtain ⟨_, _, _, rfl⟩ := h; rfl) | (obtain ⟨_, _, _, _, rfl⟩ := h; rfl) | (obtain ⟨_, _, _, _, _, rfl⟩ := h; rfl) | (obtain ⟨_, _, _, _, _, _, rfl⟩ := h; rfl) | (obtain ⟨_, _, _, _, _, _, _, rfl⟩ := h; rfl)) fun X hX hx hxe hs ds m Q h => by
    obtain ⟨e1, e2, e3, e4, e5⟩ := hX
    subst e1 e2 e3 e4 e5
    exact body_Item_value hx (by decide) hxe hs hf fr c_Item_is_exact ds m Q h
theorem d_Item_exact (F : FunD K "exact" "Item.exact" (defArgs s_Item_exact) (defBody s_Item_exact) (defScope s_Item_exact) [] [] f fd) (hf : Fc P w K mg base cs) (fr : ∀ x : Str, frees.contains x = true → mg x = none) (m_Item_ : Mkc P w K mg base 9 "Item" cs.I (fun ds m Q => (a_Item___init__ cs) (ds ++ [D.int 1]) m Q)) : AFd P w K mg base 17 f fd ["cls", "name", "value"] (a_Item_exact cs) :=
  afd_of F sc_Item_exact (fun ds m Q h => by first | (obtain ⟨rfl, _⟩ := h; rfl) | (obtain ⟨_, rfl, _⟩ := h; rfl) | (obtain ⟨_, _, rfl, _⟩ := h; rfl) | (obtain ⟨_, _, _, rfl, _⟩ := h; rfl) | (obtain ⟨_, _, _, _, rfl, _⟩ := h; rfl) | (obtain ⟨_, _, _, _, _, rfl, _⟩ := h; rfl) | (obtain ⟨_, _, _, _, _, _, rfl, _⟩ := h; rfl) | (obtain ⟨_, _, _, _, _, _, _, rfl, _⟩ := h; rfl) | (obtain ⟨_, _, _, _, _, _, _, _, rfl, _⟩ := h; rfl) | (obtain ⟨_, _, _, _, _, _, _, _, _, rfl, _⟩ := h; rfl) | (obtain ⟨_, _, _, _, _, _, _, _, _, _, rfl, _⟩ := h; rfl) | (obtain ⟨_, _, _, _, _, _, _, _, _, _, _, rfl, _⟩ := h; rfl) | (obtain ⟨_, _, _, _, _, _, _, _, _, _, _, _, rfl, _⟩ := h; rfl) | (obtain ⟨_, rfl⟩ := h; rfl) | (obtain ⟨_, _, rfl⟩ := h; rfl) | (obtain ⟨_, _, _, rfl⟩ := h; rfl) | (obtain ⟨_, _, _, _, rfl⟩ := h; rfl) | (obtain ⟨_, _, _, _, _, rfl⟩ := h; rfl) | (obtain ⟨_, _, _, _, _, _, rfl⟩ := h; rfl) | (obtain ⟨_, _, _, _, _, _, _, rfl⟩ := h; rfl)) fun X hX hx hxe hs ds m Q h => by
    obtain ⟨e1, e2, e3, e4, e5⟩ := hX
    subst e1 e2 e3 e4 e5
    exact body_Item_exact hx (by decide) hxe hs hf fr m_Item_ ds m Q h
theorem d_Item_told (F : FunD K "told" "Item.told" (defArgs s_Item_told) (defBody s_Item_told) (defScope s_Item_told) [] [] f fd) (hf : Fc P w K mg base cs) (fr : ∀ x : Str, frees.contains x = true → mg x = none) (c_is_integer : Cal P w K mg base 1 "is_integer" (a_is_integer cs)) (c_Item_least : Prp P w K mg base 1 cs.I "least" (a_Item_least cs)) (c_Item_greatest : Prp P w K mg base 1 cs.I "greatest" (a_Item_greatest cs)) (c_Item_name : Prp P w K mg base 1 cs.I "name" (a_Item_name cs)) (c_Item_exact : Clm P w K mg base 17 cs.I "exact" (a_Item_exact cs)) : AFd P w K mg base 25 f fd ["self", "value"] (a_Item_told cs) :=
  afd_of F sc_Item_told (fun ds m Q h => by first | (obtain ⟨rfl, _⟩ := h; rfl) | (obtain ⟨_, rfl, _⟩ := h; rfl) | (obtain ⟨_, _, rfl, _⟩ := h; rfl) | (obtain ⟨_, _, _, rfl, _⟩ := h; rfl) | (obtain ⟨_, _, _, _, rfl, _⟩ := h; rfl) | (obtain ⟨_, _, _, _, _, rfl, _⟩ := h; rfl) | (obtain ⟨_, _, _, _, _, _, rfl, _⟩ := h; rfl) | (obtain ⟨_, _, _, _, _, _, _, rfl, _⟩ := h; rfl) | (obtain ⟨_, _, _, _, _, _, _, _, rfl, _⟩ := h; rfl) | (obtain ⟨_, _, _, _, _, _, _, _, _, rfl, _⟩ := h; rfl) | (obtain ⟨_, _, _, _, _, _, _, _, _, _, rfl, _⟩ := h; rfl) | (obtain ⟨_, _, _, _, _, _, _, _, _, _, _, rfl, _⟩ := h; rfl) | (obtain ⟨_, _, _, _, _, _, _, _, _, _, _, _, rfl, _⟩ := h; rfl) | (obtain ⟨_, rfl⟩ := h; rfl) | (obtain ⟨_, _, rfl⟩ := h; rfl) | (obtain ⟨_, _, _, rfl⟩ := h; rfl) | (obtain ⟨_, _, _, _, rfl⟩ := h; rfl) | (obtain ⟨_, _, _, _, _, rfl⟩ := h; rfl) | (obtain ⟨_, _, _, _, _, _, rfl⟩ := h; rfl) | (obtain ⟨_, _, _, _, _, _, _, rfl⟩ := h; rfl)) fun X hX hx hxe hs ds m Q h => by
    obtain ⟨e1, e2, e3, e4, e5⟩ := hX
    subst e1 e2 e3 e4 e5
    exact body_Item_told hx (by decide) hxe hs hf fr c_is_integer c_Item_least c_Item_greatest c_Item_name c_Item_exact ds m Q h
theorem d_Pool_told (F : FunD K "told" "Pool.told" (defArgs s_Pool_told) (defBody s_Pool_told) (defScope s_Pool_told) [] [] f fd) (hf : Fc P w K mg base cs) (fr : ∀ x : Str, frees.contains x = true → mg x = none) (c_Pool_item : Mth P w K mg base 1 cs.P "item" (a_Pool_item cs)) (c_Item_told : Mth P w K mg base 25 cs.I "told" (a_Item_told cs)) (s_Pool_with_items : MthB P w K mg base 9 cs.P "with_items" (starA (a_Pool_with_items cs))) : AFd P w K mg base 33 f fd ["self", "values"] (a_Pool_told cs) :=
  afd_of F sc_Pool_told (fun ds m Q h => by first | (obtain ⟨rfl, _⟩ := h; rfl) | (obtain ⟨_, rfl, _⟩ := h; rfl) | (obtain ⟨_, _, rfl, _⟩ := h; rfl) | (obtain ⟨_, _, _, rfl, _⟩ := h; rfl) | (obtain ⟨_, _, _, _, rfl, _⟩ := h; rfl) | (obtain ⟨_, _, _, _, _, rfl, _⟩ := h; rfl) | (obtain ⟨_, _, _, _, _, _, rfl, _⟩ := h; rfl) | (obtain ⟨_, _, _, _, _, _, _, rfl, _⟩ := h; rfl) | (obtain ⟨_, _, _, _, _, _, _, _, rfl, _⟩ := h; rfl) | (obtain ⟨_, _, _, _, _, _, _, _, _, rfl, _⟩ := h; rfl) | (obtain ⟨_, _, _, _, _, _, _, _, _, _, rfl, _⟩ := h; rfl) | (obtain ⟨_, _, _, _, _, _, _, _, _, _, _, rfl, _⟩ := h; rfl) | (obtain ⟨_, _, _, _, _, _, _, _, _, _, _, _, rfl, _⟩ := h; rfl) | (obtain ⟨_, rfl⟩ := h; rfl) | (obtain ⟨_, _, rfl⟩ := h; rfl) | (obtain ⟨_, _, _, rfl⟩ := h; rfl) | (obtain ⟨_, _, _, _, rfl⟩ := h; rfl) | (obtain ⟨_, _, _, _, _, rfl⟩ := h; rfl) | (obtain ⟨_, _, _, _, _, _, rfl⟩ := h; rfl) | (obtain ⟨_, _, _, _, _, _, _, rfl⟩ := h; rfl)) fun X hX hx hxe hs ds m Q h => by
    obtain ⟨e1, e2, e3, e4, e5⟩ := hX
    subst e1 e2 e3 e4 e5
    exact body_Pool_told hx (by decide) hxe hs hf fr c_Pool_item c_Item_told s_Pool_with_items ds m Q h
theorem d_check_values (F : FunD K "check_values" "check_values" (defArgs s_check_values) (defBody s_check_values) (defScope s_check_values) [] [] f fd) (hf : Fc P w K mg base cs) (fr : ∀ x : Str, frees.contains x = true → mg x = none) (c_Pool_names : Prp P w K mg base 1 cs.P "names" (a_Pool_names cs)) (c_Pool_item : Mth P w K mg base 1 cs.P "item" (a_Pool_item cs)) (c_Item_is_exact : Prp P w K mg base 1 cs.I "is_exact" (a_Item_is_exact cs)) (c_Pool_told : Mth P w K mg base 33 cs.P "told" (a_Pool_told cs)) : AFd P w K mg base 41 f fd ["pool", "values"] (a_check_values cs) :=
  afd_of F sc_check_values (fun ds m Q h => by first | (obtain ⟨rfl, _⟩ := h; rfl) | (obtain ⟨_, rfl, _⟩ := h; rfl) | (obtain ⟨_, _, rfl, _⟩ := h; rfl) | (obtain ⟨_, _, _, rfl, _⟩ := h; rfl) | (obtain ⟨_, _, _, _, rfl, _⟩ := h; rfl) | (obtain ⟨_, _, _, _, _, rfl, _⟩ := h; rfl) | (obtain ⟨_, _, _, _, _, _, rfl, _⟩ := h; rfl) | (obtain ⟨_, _, _, _, _, _, _, rfl, _⟩ := h; rfl) | (obtain ⟨_, _, _, _, _, _, _, _, rfl, _⟩ := h; rfl) | (obtain ⟨_, _, _, _, _, _, _, _, _, rfl, _⟩ := h; rfl) | (obtain ⟨_, _, _, _, _, _, _, _, _, _, rfl, _⟩ := h; rfl) | (obtain ⟨_, _, _, _, _, _, _, _, _, _, _, rfl, _⟩ := h; rfl) | (obtain ⟨_, _, _, _, _, _, _, _, _, _, _, _, rfl, _⟩ := h; rfl) | (obtain ⟨_, rfl⟩ := h; rfl) | (obtain ⟨_, _, rfl⟩ := h; rfl) | (obtain ⟨_, _, _, rfl⟩ := h; rfl) | (obtain ⟨_, _, _, _, rfl⟩ := h; rfl) | (obtain ⟨_, _, _, _, _, rfl⟩ := h; rfl) | (obtain ⟨_, _, _, _, _, _, rfl⟩ := h; rfl) | (obtain ⟨_, _, _, _, _, _, _, rfl⟩ := h; rfl)) fun X hX hx hxe hs ds m Q h => by
    obtain ⟨e1, e2, e3, e4, e5⟩ := hX
    subst e1 e2 e3 e4 e5
    exact body_check_values hx (by decide) hxe hs hf fr c_Pool_names c_Pool_item c_Item_is_exact c_Pool_told ds m Q h
theorem d_truth (F : FunD K "truth" "truth" (defArgs s_truth) (defBody s_truth) (defScope s_truth) [] [] f fd) (hf : Fc P w K mg base cs) (fr : ∀ x : Str, frees.contains x = true → mg x = none) (c_check_values : Cal P w K mg base 41 "check_values" (a_check_values cs)) (c_Pool_told : Mth P w K mg base 33 cs.P "told" (a_Pool_told cs)) : AFd P w K mg base 49 f fd ["pool", "values"] (a_truth cs) :=
  afd_of F sc_truth (fun ds m Q h => by first | (obtain ⟨rfl, _⟩ := h; rfl) | (obtain ⟨_, rfl, _⟩ := h; rfl) | (obtain ⟨_, _, rfl, _⟩ := h; rfl) | (obtain ⟨_, _, _, rfl, _⟩ := h; rfl) | (obtain ⟨_, _, _, _, rfl, _⟩ := h; rfl) | (obtain ⟨_, _, _, _, _, rfl, _⟩ := h; rfl) | (obtain ⟨_, _, _, _, _, _, rfl, _⟩ := h; rfl) | (obtain ⟨_, _, _, _, _, _, _, rfl, _⟩ := h; rfl) | (obtain ⟨_, _, _, _, _, _, _, _, rfl, _⟩ := h; rfl) | (obtain ⟨_, _, _, _, _, _, _, _, _, rfl, _⟩ := h; rfl) | (obtain ⟨_, _, _, _, _, _, _, _, _, _, rfl, _⟩ := h; rfl) | (obtain ⟨_, _, _, _, _, _, _, _, _, _, _, rfl, _⟩ := h; rfl) | (obtain ⟨_, _, _, _, _, _, _, _, _, _, _, _, rfl, _⟩ := h; rfl) | (obtain ⟨_, rfl⟩ := h; rfl) | (obtain ⟨_, _, rfl⟩ := h; rfl) | (obtain ⟨_, _, _, rfl⟩ := h; rfl) | (obtain ⟨_, _, _, _, rfl⟩ := h; rfl) | (obtain ⟨_, _, _, _, _, rfl⟩ := h; rfl) | (obtain ⟨_, _, _, _, _, _, rfl⟩ := h; rfl) | (obtain ⟨_, _, _, _, _, _, _, rfl⟩ := h; rfl)) fun X hX hx hxe hs ds m Q h => by
    obtain ⟨e1, e2, e3, e4, e5⟩ := hX
    subst e1 e2 e3 e4 e5
    exact body_truth hx (by decide) hxe hs hf fr c_check_values c_Pool_told ds m Q h
theorem d_open_names (F : FunD K "open_names" "open_names" (defArgs s_open_names) (defBody s_open_names) (defScope s_open_names) [] [] f fd) (hb : Binds K fd ["pool"] []) (hf : Fc P w K mg base cs) (fr : ∀ x : Str, frees.contains x = true → mg x = none) (c_Pool_names : Prp P w K mg base 1 cs.P "names" (a_Pool_names cs)) (c_Pool_item : Mth P w K mg base 1 cs.P "item" (a_Pool_item cs)) (c_Item_is_exact : Prp P w K mg base 1 cs.I "is_exact" (a_Item_is_exact cs)) : ∃ d : Slp.GK, d.f = f ∧ d.ps = (["pool"] : List Str) ∧ Slp.YLaw P w K mg base 8 d (y_open_names cs) :=
  ylaw_of (P := P) (w := w) (mg := mg) (base := base) (asp := y_open_names cs) F hb sc_open_names (fun _ => rfl) (fun ds es h => by first | (obtain ⟨rfl, _⟩ := h; rfl) | (obtain ⟨_, rfl, _⟩ := h; rfl) | (obtain ⟨_, _, rfl, _⟩ := h; rfl) | (obtain ⟨_, _, _, rfl, _⟩ := h; rfl) | (obtain ⟨_, _, _, _, rfl, _⟩ := h; rfl) | (obtain ⟨_, _, _, _, _, rfl, _⟩ := h; rfl) | (obtain ⟨_, _, _, _, _, _, rfl, _⟩ := h; rfl) | (obtain ⟨_, _, _, _, _, _, _, rfl, _⟩ := h; rfl) | (obtain ⟨_, _, _, _, _, _, _, _, rfl, _⟩ := h; rfl) | (obtain ⟨_, _, _, _, _, _, _, _, _, rfl, _⟩ := h; rfl) | (obtain ⟨_, _, _, _, _, _, _, _, _, _, rfl, _⟩ := h; rfl) | (obtain ⟨_, _, _, _, _, _, _, _, _, _, _, rfl, _⟩ := h; rfl) | (obtain ⟨_, _, _, _, _, _, _, _, _, _, _, _, rfl, _⟩ := h; rfl) | (obtain ⟨_, rfl⟩ := h; rfl) | (obtain ⟨_, _, rfl⟩ := h; rfl) | (obtain ⟨_, _, _, rfl⟩ := h; rfl) | (obtain ⟨_, _, _, _, rfl⟩ := h; rfl) | (obtain ⟨_, _, _, _, _, rfl⟩ := h; rfl) | (obtain ⟨_, _, _, _, _, _, rfl⟩ := h; rfl) | (obtain ⟨_, _, _, _, _, _, _, rfl⟩ := h; rfl)) fun G hX hx0 Ft hs0 ds es h he => by
    obtain ⟨e1, e2, e3, e4, e5⟩ := hX
    subst e1 e2 e3 e4 e5
    exact body_open_names hx0 (by decide) Ft hs0 hf fr c_Pool_names c_Pool_item c_Item_is_exact ds es h he
theorem d_first_inside (F : FunD K "first_inside" "first_inside" (defArgs s_first_inside) (defBody s_first_inside) (defScope s_first_inside) [] [] f fd) (hf : Fc P w K mg base cs) (fr : ∀ x : Str, frees.contains x = true → mg x = none) (c_Pool_names : Prp P w K mg base 1 cs.P "names" (a_Pool_names cs)) (c_Item_name : Prp P w K mg base 1 cs.I "name" (a_Item_name cs)) (c_Item_least : Prp P w K mg base 1 cs.I "least" (a_Item_least cs)) (c_Pool_item : Mth P w K mg base 1 cs.P "item" (a_Pool_item cs)) (c_Item_value : Prp P w K mg base 9 cs.I "value" (a_Item_value cs)) (c_Item_greatest : Prp P w K mg base 1 cs.I "greatest" (a_Item_greatest cs)) : AFd P w K mg base 17 f fd ["item", "real"] (a_first_inside cs) :=
  afd_of F sc_first_inside (fun ds m Q h => by first | (obtain ⟨rfl, _⟩ := h; rfl) | (obtain ⟨_, rfl, _⟩ := h; rfl) | (obtain ⟨_, _, rfl, _⟩ := h; rfl) | (obtain ⟨_, _, _, rfl, _⟩ := h; rfl) | (obtain ⟨_, _, _, _, rfl, _⟩ := h; rfl) | (obtain ⟨_, _, _, _, _, rfl, _⟩ := h; rfl) | (obtain ⟨_, _, _, _, _, _, rfl, _⟩ := h; rfl) | (obtain ⟨_, _, _, _, _, _, _, rfl, _⟩ := h; rfl) | (obtain ⟨_, _, _, _, _, _, _, _, rfl, _⟩ := h; rfl) | (obtain ⟨_, _, _, _, _, _, _, _, _, rfl, _⟩ := h; rfl) | (obtain ⟨_, _, _, _, _, _, _, _, _, _, rfl, _⟩ := h; rfl) | (obtain ⟨_, _, _, _, _, _, _, _, _, _, _, rfl, _⟩ := h; rfl) | (obtain ⟨_, _, _, _, _, _, _, _, _, _, _, _, rfl, _⟩ := h; rfl) | (obtain ⟨_, rfl⟩ := h; rfl) | (obtain ⟨_, _, rfl⟩ := h; rfl) | (obtain ⟨_, _, _, rfl⟩ := h; rfl) | (obtain ⟨_, _, _, _, rfl⟩ := h; rfl) | (obtain ⟨_, _, _, _, _, rfl⟩ := h; rfl) | (obtain ⟨_, _, _, _, _, _, rfl⟩ := h; rfl) | (obtain ⟨_, _, _, _, _, _, _, rfl⟩ := h; rfl)) fun X hX hx hxe hs ds m Q h => by
    obtain ⟨e1, e2, e3, e4, e5⟩ := hX
    subst e1 e2 e3 e4 e5
    exact body_first_inside hx (by decide) hxe hs hf fr c_Pool_names c_Item_name c_Item_least c_Pool_item c_Item_value c_Item_greatest ds m Q h
theorem d_needed (F : FunD K "needed" "needed" (defArgs s_needed) (defBody s_needed) (defScope s_needed) [] [] f fd) (hf : Fc P w K mg base cs) (fr : ∀ x : Str, frees.contains x = true → mg x = none) (c_truth : Cal P w K mg base 49 "truth" (a_truth cs)) (c_open_names : GCal P w K mg base 8 "open_names" (y_open_names cs)) (c_first_inside : Cal P w K mg base 17 "first_inside" (a_first_inside cs)) (c_Pool_item : Mth P w K mg base 1 cs.P "item" (a_Pool_item cs)) : AFd P w K mg base 57 f fd ["pool", "values"] (a_needed cs) :=
  afd_of F sc_needed (fun ds m Q h => by first | (obtain ⟨rfl, _⟩ := h; rfl) | (obtain ⟨_, rfl, _⟩ := h; rfl) | (obtain ⟨_, _, rfl, _⟩ := h; rfl) | (obtain ⟨_, _, _, rfl, _⟩ := h; rfl) | (obtain ⟨_, _, _, _, rfl, _⟩ := h; rfl) | (obtain ⟨_, _, _, _, _, rfl, _⟩ := h; rfl) | (obtain ⟨_, _, _, _, _, _, rfl, _⟩ := h; rfl) | (obtain ⟨_, _, _, _, _, _, _, rfl, _⟩ := h; rfl) | (obtain ⟨_, _, _, _, _, _, _, _, rfl, _⟩ := h; rfl) | (obtain ⟨_, _, _, _, _, _, _, _, _, rfl, _⟩ := h; rfl) | (obtain ⟨_, _, _, _, _, _, _, _, _, _, rfl, _⟩ := h; rfl) | (obtain ⟨_, _, _, _, _, _, _, _, _, _, _, rfl, _⟩ := h; rfl) | (obtain ⟨_, _, _, _, _, _, _, _, _, _, _, _, rfl, _⟩ := h; rfl) | (obtain ⟨_, rfl⟩ := h; rfl) | (obtain ⟨_, _, rfl⟩ := h; rfl) | (obtain ⟨_, _, _, rfl⟩ := h; rfl) | (obtain ⟨_, _, _, _, rfl⟩ := h; rfl) | (obtain ⟨_, _, _, _, _, rfl⟩ := h; rfl) | (obtain ⟨_, _, _, _, _, _, rfl⟩ := h; rfl) | (obtain ⟨_, _, _, _, _, _, _, rfl⟩ := h; rfl)) fun X hX hx hxe hs ds m Q h => by
    obtain ⟨e1, e2, e3, e4, e5⟩ := hX
    subst e1 e2 e3 e4 e5
    exact body_needed hx (by decide) hxe hs hf fr c_truth c_open_names c_first_inside c_Pool_item ds m Q h
theorem d_overlap (F : FunD K "overlap" "overlap" (defArgs s_overlap) (defBody s_overlap) (defScope s_overlap) [] [] f fd) (hf : Fc P w K mg base cs) (fr : ∀ x : Str, frees.contains x = true → mg x = none) (c_Item_least : Prp P w K mg base 1 cs.I "least" (a_Item_least cs)) (c_Item_greatest : Prp P w K mg base 1 cs.I "greatest" (a_Item_greatest cs)) : AFd P w K mg base 9 f fd ["first", "second"] (a_overlap cs) :=
  afd_of F sc_overlap (fun ds m Q h => by first | (obtain ⟨rfl, _⟩ := h; rfl) | (obtain ⟨_, rfl, _⟩ := h; rfl) | (obtain ⟨_, _, rfl, _⟩ := h; rfl) | (obtain ⟨_, _, _, rfl, _⟩ := h; rfl) | (obtain ⟨_, _, _, _, rfl, _⟩ := h; rfl) | (obtain ⟨_, _, _, _, _, rfl, _⟩ := h; rfl) | (obtain ⟨_, _, _, _, _, _, rfl, _⟩ := h; rfl) | (obtain ⟨_, _, _, _, _, _, _, rfl, _⟩ := h; rfl) | (obtain ⟨_, _, _, _, _, _, _, _, rfl, _⟩ := h; rfl) | (obtain ⟨_, _, _, _, _, _, _, _, _, rfl, _⟩ := h; rfl) | (obtain ⟨_, _, _, _, _, _, _, _, _, _, rfl, _⟩ := h; rfl) | (obtain ⟨_, _, _, _, _, _, _, _, _, _, _, rfl, _⟩ := h; rfl) | (obtain ⟨_, _, _, _, _, _, _, _, _, _, _, _, rfl, _⟩ := h; rfl) | (obtain ⟨_, rfl⟩ := h; rfl) | (obtain ⟨_, _, rfl⟩ := h; rfl) | (obtain ⟨_, _, _, rfl⟩ := h; rfl) | (obtain ⟨_, _, _, _, rfl⟩ := h; rfl) | (obtain ⟨_, _, _, _, _, rfl⟩ := h; rfl) | (obtain ⟨_, _, _, _, _, _, rfl⟩ := h; rfl) | (obtain ⟨_, _, _, _, _, _, _, rfl⟩ := h; rfl)) fun X hX hx hxe hs ds m Q h => by
    obtain ⟨e1, e2, e3, e4, e5⟩ := hX
    subst e1 e2 e3 e4 e5
    exact body_overlap hx (by decide) hxe hs hf fr c_Item_least c_Item_greatest ds m Q h
theorem d_paths (F : FunD K "paths" "paths" (defArgs s_paths) (defBody s_paths) (defScope s_paths) [] [] f fd) (hf : Fc P w K mg base cs) (fr : ∀ x : Str, frees.contains x = true → mg x = none) (c_needed : Cal P w K mg base 57 "needed" (a_needed cs)) (c_open_names : GCal P w K mg base 8 "open_names" (y_open_names cs)) (c_Pool_item : Mth P w K mg base 1 cs.P "item" (a_Pool_item cs)) (c_sort_key : Cal P w K mg base 9 "sort_key" (a_sort_key cs)) (c_overlap : Cal P w K mg base 9 "overlap" (a_overlap cs)) (c_Item_name : Prp P w K mg base 1 cs.I "name" (a_Item_name cs)) : AFd P w K mg base 65 f fd ["pool", "values"] (a_paths cs) :=
  afd_of F sc_paths (fun ds m Q h => by first | (obtain ⟨rfl, _⟩ := h; rfl) | (obtain ⟨_, rfl, _⟩ := h; rfl) | (obtain ⟨_, _, rfl, _⟩ := h; rfl) | (obtain ⟨_, _, _, rfl, _⟩ := h; rfl) | (obtain ⟨_, _, _, _, rfl, _⟩ := h; rfl) | (obtain ⟨_, _, _, _, _, rfl, _⟩ := h; rfl) | (obtain ⟨_, _, _, _, _, _, rfl, _⟩ := h; rfl) | (obtain ⟨_, _, _, _, _, _, _, rfl, _⟩ := h; rfl) | (obtain ⟨_, _, _, _, _, _, _, _, rfl, _⟩ := h; rfl) | (obtain ⟨_, _, _, _, _, _, _, _, _, rfl, _⟩ := h; rfl) | (obtain ⟨_, _, _, _, _, _, _, _, _, _, rfl, _⟩ := h; rfl) | (obtain ⟨_, _, _, _, _, _, _, _, _, _, _, rfl, _⟩ := h; rfl) | (obtain ⟨_, _, _, _, _, _, _, _, _, _, _, _, rfl, _⟩ := h; rfl) | (obtain ⟨_, rfl⟩ := h; rfl) | (obtain ⟨_, _, rfl⟩ := h; rfl) | (obtain ⟨_, _, _, rfl⟩ := h; rfl) | (obtain ⟨_, _, _, _, rfl⟩ := h; rfl) | (obtain ⟨_, _, _, _, _, rfl⟩ := h; rfl) | (obtain ⟨_, _, _, _, _, _, rfl⟩ := h; rfl) | (obtain ⟨_, _, _, _, _, _, _, rfl⟩ := h; rfl)) fun X hX hx hxe hs ds m Q h => by
    obtain ⟨e1, e2, e3, e4, e5⟩ := hX
    subst e1 e2 e3 e4 e5
    exact body_paths hx (by decide) hxe hs hf fr c_needed c_open_names c_Pool_item c_sort_key c_overlap c_Item_name ds m Q h
theorem d_cover (F : FunD K "cover" "cover" (defArgs s_cover) (defBody s_cover) (defScope s_cover) [] [] f fd) (hf : Fc P w K mg base cs) (fr : ∀ x : Str, frees.contains x = true → mg x = none) (c_Pool_item : Mth P w K mg base 1 cs.P "item" (a_Pool_item cs)) (c_Item_price : Prp P w K mg base 1 cs.I "price" (a_Item_price cs)) : AFd P w K mg base 9 f fd ["pool", "path"] (a_cover cs) :=
  afd_of F sc_cover (fun ds m Q h => by first | (obtain ⟨rfl, _⟩ := h; rfl) | (obtain ⟨_, rfl, _⟩ := h; rfl) | (obtain ⟨_, _, rfl, _⟩ := h; rfl) | (obtain ⟨_, _, _, rfl, _⟩ := h; rfl) | (obtain ⟨_, _, _, _, rfl, _⟩ := h; rfl) | (obtain ⟨_, _, _, _, _, rfl, _⟩ := h; rfl) | (obtain ⟨_, _, _, _, _, _, rfl, _⟩ := h; rfl) | (obtain ⟨_, _, _, _, _, _, _, rfl, _⟩ := h; rfl) | (obtain ⟨_, _, _, _, _, _, _, _, rfl, _⟩ := h; rfl) | (obtain ⟨_, _, _, _, _, _, _, _, _, rfl, _⟩ := h; rfl) | (obtain ⟨_, _, _, _, _, _, _, _, _, _, rfl, _⟩ := h; rfl) | (obtain ⟨_, _, _, _, _, _, _, _, _, _, _, rfl, _⟩ := h; rfl) | (obtain ⟨_, _, _, _, _, _, _, _, _, _, _, _, rfl, _⟩ := h; rfl) | (obtain ⟨_, rfl⟩ := h; rfl) | (obtain ⟨_, _, rfl⟩ := h; rfl) | (obtain ⟨_, _, _, rfl⟩ := h; rfl) | (obtain ⟨_, _, _, _, rfl⟩ := h; rfl) | (obtain ⟨_, _, _, _, _, rfl⟩ := h; rfl) | (obtain ⟨_, _, _, _, _, _, rfl⟩ := h; rfl) | (obtain ⟨_, _, _, _, _, _, _, rfl⟩ := h; rfl)) fun X hX hx hxe hs ds m Q h => by
    obtain ⟨e1, e2, e3, e4, e5⟩ := hX
    subst e1 e2 e3 e4 e5
    exact body_cover hx (by decide) hxe hs hf fr c_Pool_item c_Item_price ds m Q h
theorem d_cheapest (F : FunD K "cheapest" "cheapest" (defArgs s_cheapest) (defBody s_cheapest) (defScope s_cheapest) [] [] f fd) (hf : Fc P w K mg base cs) (fr : ∀ x : Str, frees.contains x = true → mg x = none) (c_needed : Cal P w K mg base 57 "needed" (a_needed cs)) (c_Pool_item : Mth P w K mg base 1 cs.P "item" (a_Pool_item cs)) (c_Item_price : Prp P w K mg base 1 cs.I "price" (a_Item_price cs)) (c_paths : Cal P w K mg base 65 "paths" (a_paths cs)) (c_cover : Cal P w K mg base 9 "cover" (a_cover cs)) : AFd P w K mg base 73 f fd ["pool", "values"] (a_cheapest cs) :=
  afd_of F sc_cheapest (fun ds m Q h => by first | (obtain ⟨rfl, _⟩ := h; rfl) | (obtain ⟨_, rfl, _⟩ := h; rfl) | (obtain ⟨_, _, rfl, _⟩ := h; rfl) | (obtain ⟨_, _, _, rfl, _⟩ := h; rfl) | (obtain ⟨_, _, _, _, rfl, _⟩ := h; rfl) | (obtain ⟨_, _, _, _, _, rfl, _⟩ := h; rfl) | (obtain ⟨_, _, _, _, _, _, rfl, _⟩ := h; rfl) | (obtain ⟨_, _, _, _, _, _, _, rfl, _⟩ := h; rfl) | (obtain ⟨_, _, _, _, _, _, _, _, rfl, _⟩ := h; rfl) | (obtain ⟨_, _, _, _, _, _, _, _, _, rfl, _⟩ := h; rfl) | (obtain ⟨_, _, _, _, _, _, _, _, _, _, rfl, _⟩ := h; rfl) | (obtain ⟨_, _, _, _, _, _, _, _, _, _, _, rfl, _⟩ := h; rfl) | (obtain ⟨_, _, _, _, _, _, _, _, _, _, _, _, rfl, _⟩ := h; rfl) | (obtain ⟨_, rfl⟩ := h; rfl) | (obtain ⟨_, _, rfl⟩ := h; rfl) | (obtain ⟨_, _, _, rfl⟩ := h; rfl) | (obtain ⟨_, _, _, _, rfl⟩ := h; rfl) | (obtain ⟨_, _, _, _, _, rfl⟩ := h; rfl) | (obtain ⟨_, _, _, _, _, _, rfl⟩ := h; rfl) | (obtain ⟨_, _, _, _, _, _, _, rfl⟩ := h; rfl)) fun X hX hx hxe hs ds m Q h => by
    obtain ⟨e1, e2, e3, e4, e5⟩ := hX
    subst e1 e2 e3 e4 e5
    exact body_cheapest hx (by decide) hxe hs hf fr c_needed c_Pool_item c_Item_price c_paths c_cover ds m Q h
theorem d__law_pen (F : FunD K "_law_pen" "_law_pen" (defArgs s__law_pen) (defBody s__law_pen) (defScope s__law_pen) [] [] f fd) (hf : Fc P w K mg base cs) (fr : ∀ x : Str, frees.contains x = true → mg x = none) : AFd P w K mg base 1 f fd ["script"] (a__law_pen cs) :=
  afd_of F sc__law_pen (fun ds m Q h => by first | (obtain ⟨rfl, _⟩ := h; rfl) | (obtain ⟨_, rfl, _⟩ := h; rfl) | (obtain ⟨_, _, rfl, _⟩ := h; rfl) | (obtain ⟨_, _, _, rfl, _⟩ := h; rfl) | (obtain ⟨_, _, _, _, rfl, _⟩ := h; rfl) | (obtain ⟨_, _, _, _, _, rfl, _⟩ := h; rfl) | (obtain ⟨_, _, _, _, _, _, rfl, _⟩ := h; rfl) | (obtain ⟨_, _, _, _, _, _, _, rfl, _⟩ := h; rfl) | (obtain ⟨_, _, _, _, _, _, _, _, rfl, _⟩ := h; rfl) | (obtain ⟨_, _, _, _, _, _, _, _, _, rfl, _⟩ := h; rfl) | (obtain ⟨_, _, _, _, _, _, _, _, _, _, rfl, _⟩ := h; rfl) | (obtain ⟨_, _, _, _, _, _, _, _, _, _, _, rfl, _⟩ := h; rfl) | (obtain ⟨_, _, _, _, _, _, _, _, _, _, _, _, rfl, _⟩ := h; rfl) | (obtain ⟨_, rfl⟩ := h; rfl) | (obtain ⟨_, _, rfl⟩ := h; rfl) | (obtain ⟨_, _, _, rfl⟩ := h; rfl) | (obtain ⟨_, _, _, _, rfl⟩ := h; rfl) | (obtain ⟨_, _, _, _, _, rfl⟩ := h; rfl) | (obtain ⟨_, _, _, _, _, _, rfl⟩ := h; rfl) | (obtain ⟨_, _, _, _, _, _, _, rfl⟩ := h; rfl)) fun X hX hx hxe hs ds m Q h => by
    obtain ⟨e1, e2, e3, e4, e5⟩ := hX
    subst e1 e2 e3 e4 e5
    exact body__law_pen hx (by decide) hxe hs hf fr  ds m Q h
theorem d__law_next (F : FunD K "_law_next" "_law_next" (defArgs s__law_next) (defBody s__law_next) (defScope s__law_next) [] [] f fd) (hf : Fc P w K mg base cs) (fr : ∀ x : Str, frees.contains x = true → mg x = none) : AFd P w K mg base 1 f fd ["pen"] (a__law_next cs) :=
  afd_of F sc__law_next (fun ds m Q h => by first | (obtain ⟨rfl, _⟩ := h; rfl) | (obtain ⟨_, rfl, _⟩ := h; rfl) | (obtain ⟨_, _, rfl, _⟩ := h; rfl) | (obtain ⟨_, _, _, rfl, _⟩ := h; rfl) | (obtain ⟨_, _, _, _, rfl, _⟩ := h; rfl) | (obtain ⟨_, _, _, _, _, rfl, _⟩ := h; rfl) | (obtain ⟨_, _, _, _, _, _, rfl, _⟩ := h; rfl) | (obtain ⟨_, _, _, _, _, _, _, rfl, _⟩ := h; rfl) | (obtain ⟨_, _, _, _, _, _, _, _, rfl, _⟩ := h; rfl) | (obtain ⟨_, _, _, _, _, _, _, _, _, rfl, _⟩ := h; rfl) | (obtain ⟨_, _, _, _, _, _, _, _, _, _, rfl, _⟩ := h; rfl) | (obtain ⟨_, _, _, _, _, _, _, _, _, _, _, rfl, _⟩ := h; rfl) | (obtain ⟨_, _, _, _, _, _, _, _, _, _, _, _, rfl, _⟩ := h; rfl) | (obtain ⟨_, rfl⟩ := h; rfl) | (obtain ⟨_, _, rfl⟩ := h; rfl) | (obtain ⟨_, _, _, rfl⟩ := h; rfl) | (obtain ⟨_, _, _, _, rfl⟩ := h; rfl) | (obtain ⟨_, _, _, _, _, rfl⟩ := h; rfl) | (obtain ⟨_, _, _, _, _, _, rfl⟩ := h; rfl) | (obtain ⟨_, _, _, _, _, _, _, rfl⟩ := h; rfl)) fun X hX hx hxe hs ds m Q h => by
    obtain ⟨e1, e2, e3, e4, e5⟩ := hX
    subst e1 e2 e3 e4 e5
    exact body__law_next hx (by decide) hxe hs hf fr  ds m Q h
theorem d__law_draw (F : FunD K "_law_draw" "_law_draw" (defArgs s__law_draw) (defBody s__law_draw) (defScope s__law_draw) [] [] f fd) (hf : Fc P w K mg base cs) (fr : ∀ x : Str, frees.contains x = true → mg x = none) (c__law_next : Cal P w K mg base 1 "_law_next" (a__law_next cs)) : AFd P w K mg base 9 f fd ["pen", "below"] (a__law_draw cs) :=
  afd_of F sc__law_draw (fun ds m Q h => by first | (obtain ⟨rfl, _⟩ := h; rfl) | (obtain ⟨_, rfl, _⟩ := h; rfl) | (obtain ⟨_, _, rfl, _⟩ := h; rfl) | (obtain ⟨_, _, _, rfl, _⟩ := h; rfl) | (obtain ⟨_, _, _, _, rfl, _⟩ := h; rfl) | (obtain ⟨_, _, _, _, _, rfl, _⟩ := h; rfl) | (obtain ⟨_, _, _, _, _, _, rfl, _⟩ := h; rfl) | (obtain ⟨_, _, _, _, _, _, _, rfl, _⟩ := h; rfl) | (obtain ⟨_, _, _, _, _, _, _, _, rfl, _⟩ := h; rfl) | (obtain ⟨_, _, _, _, _, _, _, _, _, rfl, _⟩ := h; rfl) | (obtain ⟨_, _, _, _, _, _, _, _, _, _, rfl, _⟩ := h; rfl) | (obtain ⟨_, _, _, _, _, _, _, _, _, _, _, rfl, _⟩ := h; rfl) | (obtain ⟨_, _, _, _, _, _, _, _, _, _, _, _, rfl, _⟩ := h; rfl) | (obtain ⟨_, rfl⟩ := h; rfl) | (obtain ⟨_, _, rfl⟩ := h; rfl) | (obtain ⟨_, _, _, rfl⟩ := h; rfl) | (obtain ⟨_, _, _, _, rfl⟩ := h; rfl) | (obtain ⟨_, _, _, _, _, rfl⟩ := h; rfl) | (obtain ⟨_, _, _, _, _, _, rfl⟩ := h; rfl) | (obtain ⟨_, _, _, _, _, _, _, rfl⟩ := h; rfl)) fun X hX hx hxe hs ds m Q h => by
    obtain ⟨e1, e2, e3, e4, e5⟩ := hX
    subst e1 e2 e3 e4 e5
    exact body__law_draw hx (by decide) hxe hs hf fr c__law_next ds m Q h
theorem d__law_rows (F : FunD K "_law_rows" "_law_rows" (defArgs s__law_rows) (defBody s__law_rows) (defScope s__law_rows) [] [] f fd) (hf : Fc P w K mg base cs) (fr : ∀ x : Str, frees.contains x = true → mg x = none) (c__law_draw : Cal P w K mg base 9 "_law_draw" (a__law_draw cs)) : AFd P w K mg base 17 f fd ["pen", "most", "width"] (a__law_rows cs) :=
  afd_of F sc__law_rows (fun ds m Q h => by first | (obtain ⟨rfl, _⟩ := h; rfl) | (obtain ⟨_, rfl, _⟩ := h; rfl) | (obtain ⟨_, _, rfl, _⟩ := h; rfl) | (obtain ⟨_, _, _, rfl, _⟩ := h; rfl) | (obtain ⟨_, _, _, _, rfl, _⟩ := h; rfl) | (obtain ⟨_, _, _, _, _, rfl, _⟩ := h; rfl) | (obtain ⟨_, _, _, _, _, _, rfl, _⟩ := h; rfl) | (obtain ⟨_, _, _, _, _, _, _, rfl, _⟩ := h; rfl) | (obtain ⟨_, _, _, _, _, _, _, _, rfl, _⟩ := h; rfl) | (obtain ⟨_, _, _, _, _, _, _, _, _, rfl, _⟩ := h; rfl) | (obtain ⟨_, _, _, _, _, _, _, _, _, _, rfl, _⟩ := h; rfl) | (obtain ⟨_, _, _, _, _, _, _, _, _, _, _, rfl, _⟩ := h; rfl) | (obtain ⟨_, _, _, _, _, _, _, _, _, _, _, _, rfl, _⟩ := h; rfl) | (obtain ⟨_, rfl⟩ := h; rfl) | (obtain ⟨_, _, rfl⟩ := h; rfl) | (obtain ⟨_, _, _, rfl⟩ := h; rfl) | (obtain ⟨_, _, _, _, rfl⟩ := h; rfl) | (obtain ⟨_, _, _, _, _, rfl⟩ := h; rfl) | (obtain ⟨_, _, _, _, _, _, rfl⟩ := h; rfl) | (obtain ⟨_, _, _, _, _, _, _, rfl⟩ := h; rfl)) fun X hX hx hxe hs ds m Q h => by
    obtain ⟨e1, e2, e3, e4, e5⟩ := hX
    subst e1 e2 e3 e4 e5
    exact body__law_rows hx (by decide) hxe hs hf fr c__law_draw ds m Q h
theorem d__law_before (F : FunD K "_law_before" "_law_before" (defArgs s__law_before) (defBody s__law_before) (defScope s__law_before) [] [] f fd) (hf : Fc P w K mg base cs) (fr : ∀ x : Str, frees.contains x = true → mg x = none) : AFd P w K mg base 1 f fd ["one", "two"] (a__law_before cs) :=
  afd_of F sc__law_before (fun ds m Q h => by first | (obtain ⟨rfl, _⟩ := h; rfl) | (obtain ⟨_, rfl, _⟩ := h; rfl) | (obtain ⟨_, _, rfl, _⟩ := h; rfl) | (obtain ⟨_, _, _, rfl, _⟩ := h; rfl) | (obtain ⟨_, _, _, _, rfl, _⟩ := h; rfl) | (obtain ⟨_, _, _, _, _, rfl, _⟩ := h; rfl) | (obtain ⟨_, _, _, _, _, _, rfl, _⟩ := h; rfl) | (obtain ⟨_, _, _, _, _, _, _, rfl, _⟩ := h; rfl) | (obtain ⟨_, _, _, _, _, _, _, _, rfl, _⟩ := h; rfl) | (obtain ⟨_, _, _, _, _, _, _, _, _, rfl, _⟩ := h; rfl) | (obtain ⟨_, _, _, _, _, _, _, _, _, _, rfl, _⟩ := h; rfl) | (obtain ⟨_, _, _, _, _, _, _, _, _, _, _, rfl, _⟩ := h; rfl) | (obtain ⟨_, _, _, _, _, _, _, _, _, _, _, _, rfl, _⟩ := h; rfl) | (obtain ⟨_, rfl⟩ := h; rfl) | (obtain ⟨_, _, rfl⟩ := h; rfl) | (obtain ⟨_, _, _, rfl⟩ := h; rfl) | (obtain ⟨_, _, _, _, rfl⟩ := h; rfl) | (obtain ⟨_, _, _, _, _, rfl⟩ := h; rfl) | (obtain ⟨_, _, _, _, _, _, rfl⟩ := h; rfl) | (obtain ⟨_, _, _, _, _, _, _, rfl⟩ := h; rfl)) fun X hX hx hxe hs ds m Q h => by
    obtain ⟨e1, e2, e3, e4, e5⟩ := hX
    subst e1 e2 e3 e4 e5
    exact body__law_before hx (by decide) hxe hs hf fr  ds m Q h
theorem d__law_loose (F : FunD K "_law_loose" "_law_loose" (defArgs s__law_loose) (defBody s__law_loose) (defScope s__law_loose) [] [] f fd) (hf : Fc P w K mg base cs) (fr : ∀ x : Str, frees.contains x = true → mg x = none) (c__law_before : Cal P w K mg base 1 "_law_before" (a__law_before cs)) : AFd P w K mg base 9 f fd ["one", "two"] (a__law_loose cs) :=
  afd_of F sc__law_loose (fun ds m Q h => by first | (obtain ⟨rfl, _⟩ := h; rfl) | (obtain ⟨_, rfl, _⟩ := h; rfl) | (obtain ⟨_, _, rfl, _⟩ := h; rfl) | (obtain ⟨_, _, _, rfl, _⟩ := h; rfl) | (obtain ⟨_, _, _, _, rfl, _⟩ := h; rfl) | (obtain ⟨_, _, _, _, _, rfl, _⟩ := h; rfl) | (obtain ⟨_, _, _, _, _, _, rfl, _⟩ := h; rfl) | (obtain ⟨_, _, _, _, _, _, _, rfl, _⟩ := h; rfl) | (obtain ⟨_, _, _, _, _, _, _, _, rfl, _⟩ := h; rfl) | (obtain ⟨_, _, _, _, _, _, _, _, _, rfl, _⟩ := h; rfl) | (obtain ⟨_, _, _, _, _, _, _, _, _, _, rfl, _⟩ := h; rfl) | (obtain ⟨_, _, _, _, _, _, _, _, _, _, _, rfl, _⟩ := h; rfl) | (obtain ⟨_, _, _, _, _, _, _, _, _, _, _, _, rfl, _⟩ := h; rfl) | (obtain ⟨_, rfl⟩ := h; rfl) | (obtain ⟨_, _, rfl⟩ := h; rfl) | (obtain ⟨_, _, _, rfl⟩ := h; rfl) | (obtain ⟨_, _, _, _, rfl⟩ := h; rfl) | (obtain ⟨_, _, _, _, _, rfl⟩ := h; rfl) | (obtain ⟨_, _, _, _, _, _, rfl⟩ := h; rfl) | (obtain ⟨_, _, _, _, _, _, _, rfl⟩ := h; rfl)) fun X hX hx hxe hs ds m Q h => by
    obtain ⟨e1, e2, e3, e4, e5⟩ := hX
    subst e1 e2 e3 e4 e5
    exact body__law_loose hx (by decide) hxe hs hf fr c__law_before ds m Q h
theorem d__law_loose_pairs (F : FunD K "_law_loose_pairs" "_law_loose_pairs" (defArgs s__law_loose_pairs) (defBody s__law_loose_pairs) (defScope s__law_loose_pairs) [] [] f fd) (hf : Fc P w K mg base cs) (fr : ∀ x : Str, frees.contains x = true → mg x = none) (c__law_loose : Cal P w K mg base 9 "_law_loose" (a__law_loose cs)) : AFd P w K mg base 17 f fd ["rows"] (a__law_loose_pairs cs) :=
  afd_of F sc__law_loose_pairs (fun ds m Q h => by first | (obtain ⟨rfl, _⟩ := h; rfl) | (obtain ⟨_, rfl, _⟩ := h; rfl) | (obtain ⟨_, _, rfl, _⟩ := h; rfl) | (obtain ⟨_, _, _, rfl, _⟩ := h; rfl) | (obtain ⟨_, _, _, _, rfl, _⟩ := h; rfl) | (obtain ⟨_, _, _, _, _, rfl, _⟩ := h; rfl) | (obtain ⟨_, _, _, _, _, _, rfl, _⟩ := h; rfl) | (obtain ⟨_, _, _, _, _, _, _, rfl, _⟩ := h; rfl) | (obtain ⟨_, _, _, _, _, _, _, _, rfl, _⟩ := h; rfl) | (obtain ⟨_, _, _, _, _, _, _, _, _, rfl, _⟩ := h; rfl) | (obtain ⟨_, _, _, _, _, _, _, _, _, _, rfl, _⟩ := h; rfl) | (obtain ⟨_, _, _, _, _, _, _, _, _, _, _, rfl, _⟩ := h; rfl) | (obtain ⟨_, _, _, _, _, _, _, _, _, _, _, _, rfl, _⟩ := h; rfl) | (obtain ⟨_, rfl⟩ := h; rfl) | (obtain ⟨_, _, rfl⟩ := h; rfl) | (obtain ⟨_, _, _, rfl⟩ := h; rfl) | (obtain ⟨_, _, _, _, rfl⟩ := h; rfl) | (obtain ⟨_, _, _, _, _, rfl⟩ := h; rfl) | (obtain ⟨_, _, _, _, _, _, rfl⟩ := h; rfl) | (obtain ⟨_, _, _, _, _, _, _, rfl⟩ := h; rfl)) fun X hX hx hxe hs ds m Q h => by
    obtain ⟨e1, e2, e3, e4, e5⟩ := hX
    subst e1 e2 e3 e4 e5
    exact body__law_loose_pairs hx (by decide) hxe hs hf fr c__law_loose ds m Q h
theorem d__law_truth (F : FunD K "_law_truth" "_law_truth" (defArgs s__law_truth) (defBody s__law_truth) (defScope s__law_truth) [] [] f fd) (hf : Fc P w K mg base cs) (fr : ∀ x : Str, frees.contains x = true → mg x = none) (c__law_draw : Cal P w K mg base 9 "_law_draw" (a__law_draw cs)) : AFd P w K mg base 17 f fd ["pen", "rows"] (a__law_truth cs) :=
  afd_of F sc__law_truth (fun ds m Q h => by first | (obtain ⟨rfl, _⟩ := h; rfl) | (obtain ⟨_, rfl, _⟩ := h; rfl) | (obtain ⟨_, _, rfl, _⟩ := h; rfl) | (obtain ⟨_, _, _, rfl, _⟩ := h; rfl) | (obtain ⟨_, _, _, _, rfl, _⟩ := h; rfl) | (obtain ⟨_, _, _, _, _, rfl, _⟩ := h; rfl) | (obtain ⟨_, _, _, _, _, _, rfl, _⟩ := h; rfl) | (obtain ⟨_, _, _, _, _, _, _, rfl, _⟩ := h; rfl) | (obtain ⟨_, _, _, _, _, _, _, _, rfl, _⟩ := h; rfl) | (obtain ⟨_, _, _, _, _, _, _, _, _, rfl, _⟩ := h; rfl) | (obtain ⟨_, _, _, _, _, _, _, _, _, _, rfl, _⟩ := h; rfl) | (obtain ⟨_, _, _, _, _, _, _, _, _, _, _, rfl, _⟩ := h; rfl) | (obtain ⟨_, _, _, _, _, _, _, _, _, _, _, _, rfl, _⟩ := h; rfl) | (obtain ⟨_, rfl⟩ := h; rfl) | (obtain ⟨_, _, rfl⟩ := h; rfl) | (obtain ⟨_, _, _, rfl⟩ := h; rfl) | (obtain ⟨_, _, _, _, rfl⟩ := h; rfl) | (obtain ⟨_, _, _, _, _, rfl⟩ := h; rfl) | (obtain ⟨_, _, _, _, _, _, rfl⟩ := h; rfl) | (obtain ⟨_, _, _, _, _, _, _, rfl⟩ := h; rfl)) fun X hX hx hxe hs ds m Q h => by
    obtain ⟨e1, e2, e3, e4, e5⟩ := hX
    subst e1 e2 e3 e4 e5
    exact body__law_truth hx (by decide) hxe hs hf fr c__law_draw ds m Q h
theorem d__law_told (F : FunD K "_law_told" "_law_told" (defArgs s__law_told) (defBody s__law_told) (defScope s__law_told) [] [] f fd) (hf : Fc P w K mg base cs) (fr : ∀ x : Str, frees.contains x = true → mg x = none) : AFd P w K mg base 1 f fd ["rows", "known"] (a__law_told cs) :=
  afd_of F sc__law_told (fun ds m Q h => by first | (obtain ⟨rfl, _⟩ := h; rfl) | (obtain ⟨_, rfl, _⟩ := h; rfl) | (obtain ⟨_, _, rfl, _⟩ := h; rfl) | (obtain ⟨_, _, _, rfl, _⟩ := h; rfl) | (obtain ⟨_, _, _, _, rfl, _⟩ := h; rfl) | (obtain ⟨_, _, _, _, _, rfl, _⟩ := h; rfl) | (obtain ⟨_, _, _, _, _, _, rfl, _⟩ := h; rfl) | (obtain ⟨_, _, _, _, _, _, _, rfl, _⟩ := h; rfl) | (obtain ⟨_, _, _, _, _, _, _, _, rfl, _⟩ := h; rfl) | (obtain ⟨_, _, _, _, _, _, _, _, _, rfl, _⟩ := h; rfl) | (obtain ⟨_, _, _, _, _, _, _, _, _, _, rfl, _⟩ := h; rfl) | (obtain ⟨_, _, _, _, _, _, _, _, _, _, _, rfl, _⟩ := h; rfl) | (obtain ⟨_, _, _, _, _, _, _, _, _, _, _, _, rfl, _⟩ := h; rfl) | (obtain ⟨_, rfl⟩ := h; rfl) | (obtain ⟨_, _, rfl⟩ := h; rfl) | (obtain ⟨_, _, _, rfl⟩ := h; rfl) | (obtain ⟨_, _, _, _, rfl⟩ := h; rfl) | (obtain ⟨_, _, _, _, _, rfl⟩ := h; rfl) | (obtain ⟨_, _, _, _, _, _, rfl⟩ := h; rfl) | (obtain ⟨_, _, _, _, _, _, _, rfl⟩ := h; rfl)) fun X hX hx hxe hs ds m Q h => by
    obtain ⟨e1, e2, e3, e4, e5⟩ := hX
    subst e1 e2 e3 e4 e5
    exact body__law_told hx (by decide) hxe hs hf fr  ds m Q h
theorem d__law_subsets (F : FunD K "_law_subsets" "_law_subsets" (defArgs s__law_subsets) (defBody s__law_subsets) (defScope s__law_subsets) [] [] f fd) (hf : Fc P w K mg base cs) (fr : ∀ x : Str, frees.contains x = true → mg x = none) : AFd P w K mg base 1 f fd ["nyms"] (a__law_subsets cs) :=
  afd_of F sc__law_subsets (fun ds m Q h => by first | (obtain ⟨rfl, _⟩ := h; rfl) | (obtain ⟨_, rfl, _⟩ := h; rfl) | (obtain ⟨_, _, rfl, _⟩ := h; rfl) | (obtain ⟨_, _, _, rfl, _⟩ := h; rfl) | (obtain ⟨_, _, _, _, rfl, _⟩ := h; rfl) | (obtain ⟨_, _, _, _, _, rfl, _⟩ := h; rfl) | (obtain ⟨_, _, _, _, _, _, rfl, _⟩ := h; rfl) | (obtain ⟨_, _, _, _, _, _, _, rfl, _⟩ := h; rfl) | (obtain ⟨_, _, _, _, _, _, _, _, rfl, _⟩ := h; rfl) | (obtain ⟨_, _, _, _, _, _, _, _, _, rfl, _⟩ := h; rfl) | (obtain ⟨_, _, _, _, _, _, _, _, _, _, rfl, _⟩ := h; rfl) | (obtain ⟨_, _, _, _, _, _, _, _, _, _, _, rfl, _⟩ := h; rfl) | (obtain ⟨_, _, _, _, _, _, _, _, _, _, _, _, rfl, _⟩ := h; rfl) | (obtain ⟨_, rfl⟩ := h; rfl) | (obtain ⟨_, _, rfl⟩ := h; rfl) | (obtain ⟨_, _, _, rfl⟩ := h; rfl) | (obtain ⟨_, _, _, _, rfl⟩ := h; rfl) | (obtain ⟨_, _, _, _, _, rfl⟩ := h; rfl) | (obtain ⟨_, _, _, _, _, _, rfl⟩ := h; rfl) | (obtain ⟨_, _, _, _, _, _, _, rfl⟩ := h; rfl)) fun X hX hx hxe hs ds m Q h => by
    obtain ⟨e1, e2, e3, e4, e5⟩ := hX
    subst e1 e2 e3 e4 e5
    exact body__law_subsets hx (by decide) hxe hs hf fr  ds m Q h
theorem d__law_pool (F : FunD K "_law_pool" "_law_pool" (defArgs s__law_pool) (defBody s__law_pool) (defScope s__law_pool) [] [] f fd) (hf : Fc P w K mg base cs) (fr : ∀ x : Str, frees.contains x = true → mg x = none) (n_Pool_ : Mkc P w K mg base 1 "Pool" cs.P (starA (a_Pool___init__ cs))) (c_Pool_with_items : Mth P w K mg base 9 cs.P "with_items" (starA (a_Pool_with_items cs))) (n_Item_ : Mkk P w K mg base 9 3 ["price"] "Item" cs.I (a_Item___init__ cs)) : AFd P w K mg base 17 f fd ["rows"] (a__law_pool cs) :=
  afd_of F sc__law_pool (fun ds m Q h => by first | (obtain ⟨rfl, _⟩ := h; rfl) | (obtain ⟨_, rfl, _⟩ := h; rfl) | (obtain ⟨_, _, rfl, _⟩ := h; rfl) | (obtain ⟨_, _, _, rfl, _⟩ := h; rfl) | (obtain ⟨_, _, _, _, rfl, _⟩ := h; rfl) | (obtain ⟨_, _, _, _, _, rfl, _⟩ := h; rfl) | (obtain ⟨_, _, _, _, _, _, rfl, _⟩ := h; rfl) | (obtain ⟨_, _, _, _, _, _, _, rfl, _⟩ := h; rfl) | (obtain ⟨_, _, _, _, _, _, _, _, rfl, _⟩ := h; rfl) | (obtain ⟨_, _, _, _, _, _, _, _, _, rfl, _⟩ := h; rfl) | (obtain ⟨_, _, _, _, _, _, _, _, _, _, rfl, _⟩ := h; rfl) | (obtain ⟨_, _, _, _, _, _, _, _, _, _, _, rfl, _⟩ := h; rfl) | (obtain ⟨_, _, _, _, _, _, _, _, _, _, _, _, rfl, _⟩ := h; rfl) | (obtain ⟨_, rfl⟩ := h; rfl) | (obtain ⟨_, _, rfl⟩ := h; rfl) | (obtain ⟨_, _, _, rfl⟩ := h; rfl) | (obtain ⟨_, _, _, _, rfl⟩ := h; rfl) | (obtain ⟨_, _, _, _, _, rfl⟩ := h; rfl) | (obtain ⟨_, _, _, _, _, _, rfl⟩ := h; rfl) | (obtain ⟨_, _, _, _, _, _, _, rfl⟩ := h; rfl)) fun X hX hx hxe hs ds m Q h => by
    obtain ⟨e1, e2, e3, e4, e5⟩ := hX
    subst e1 e2 e3 e4 e5
    exact body__law_pool hx (by decide) hxe hs hf fr n_Pool_ c_Pool_with_items n_Item_ ds m Q h
theorem d__law_chain (F : FunD K "_law_chain" "_law_chain" (defArgs s__law_chain) (defBody s__law_chain) (defScope s__law_chain) [] [] f fd) (hf : Fc P w K mg base cs) (fr : ∀ x : Str, frees.contains x = true → mg x = none) (c__law_draw : Cal P w K mg base 9 "_law_draw" (a__law_draw cs)) : AFd P w K mg base 17 f fd ["pen"] (a__law_chain cs) :=
  afd_of F sc__law_chain (fun ds m Q h => by first | (obtain ⟨rfl, _⟩ := h; rfl) | (obtain ⟨_, rfl, _⟩ := h; rfl) | (obtain ⟨_, _, rfl, _⟩ := h; rfl) | (obtain ⟨_, _, _, rfl, _⟩ := h; rfl) | (obtain ⟨_, _, _, _, rfl, _⟩ := h; rfl) | (obtain ⟨_, _, _, _, _, rfl, _⟩ := h; rfl) | (obtain ⟨_, _, _, _, _, _, rfl, _⟩ := h; rfl) | (obtain ⟨_, _, _, _, _, _, _, rfl, _⟩ := h; rfl) | (obtain ⟨_, _, _, _, _, _, _, _, rfl, _⟩ := h; rfl) | (obtain ⟨_, _, _, _, _, _, _, _, _, rfl, _⟩ := h; rfl) | (obtain ⟨_, _, _, _, _, _, _, _, _, _, rfl, _⟩ := h; rfl) | (obtain ⟨_, _, _, _, _, _, _, _, _, _, _, rfl, _⟩ := h; rfl) | (obtain ⟨_, _, _, _, _, _, _, _, _, _, _, _, rfl, _⟩ := h; rfl) | (obtain ⟨_, rfl⟩ := h; rfl) | (obtain ⟨_, _, rfl⟩ := h; rfl) | (obtain ⟨_, _, _, rfl⟩ := h; rfl) | (obtain ⟨_, _, _, _, rfl⟩ := h; rfl) | (obtain ⟨_, _, _, _, _, rfl⟩ := h; rfl) | (obtain ⟨_, _, _, _, _, _, rfl⟩ := h; rfl) | (obtain ⟨_, _, _, _, _, _, _, rfl⟩ := h; rfl)) fun X hX hx hxe hs ds m Q h => by
    obtain ⟨e1, e2, e3, e4, e5⟩ := hX
    subst e1 e2 e3 e4 e5
    exact body__law_chain hx (by decide) hxe hs hf fr c__law_draw ds m Q h
theorem d__law_right (F : FunD K "_law_right" "_law_right" (defArgs s__law_right) (defBody s__law_right) (defScope s__law_right) [] [] f fd) (hf : Fc P w K mg base cs) (fr : ∀ x : Str, frees.contains x = true → mg x = none) (c__law_pool : Cal P w K mg base 17 "_law_pool" (a__law_pool cs)) (c__law_told : Cal P w K mg base 1 "_law_told" (a__law_told cs)) (c__law_subsets : Cal P w K mg base 1 "_law_subsets" (a__law_subsets cs)) (c__law_loose_pairs : Cal P w K mg base 17 "_law_loose_pairs" (a__law_loose_pairs cs)) (c_cheapest : Cal P w K mg base 73 "cheapest" (a_cheapest cs)) : AFd P w K mg base 81 f fd ["rows", "known"] (a__law_right cs) :=
  afd_of F sc__law_right (fun ds m Q h => by first | (obtain ⟨rfl, _⟩ := h; rfl) | (obtain ⟨_, rfl, _⟩ := h; rfl) | (obtain ⟨_, _, rfl, _⟩ := h; rfl) | (obtain ⟨_, _, _, rfl, _⟩ := h; rfl) | (obtain ⟨_, _, _, _, rfl, _⟩ := h; rfl) | (obtain ⟨_, _, _, _, _, rfl, _⟩ := h; rfl) | (obtain ⟨_, _, _, _, _, _, rfl, _⟩ := h; rfl) | (obtain ⟨_, _, _, _, _, _, _, rfl, _⟩ := h; rfl) | (obtain ⟨_, _, _, _, _, _, _, _, rfl, _⟩ := h; rfl) | (obtain ⟨_, _, _, _, _, _, _, _, _, rfl, _⟩ := h; rfl) | (obtain ⟨_, _, _, _, _, _, _, _, _, _, rfl, _⟩ := h; rfl) | (obtain ⟨_, _, _, _, _, _, _, _, _, _, _, rfl, _⟩ := h; rfl) | (obtain ⟨_, _, _, _, _, _, _, _, _, _, _, _, rfl, _⟩ := h; rfl) | (obtain ⟨_, rfl⟩ := h; rfl) | (obtain ⟨_, _, rfl⟩ := h; rfl) | (obtain ⟨_, _, _, rfl⟩ := h; rfl) | (obtain ⟨_, _, _, _, rfl⟩ := h; rfl) | (obtain ⟨_, _, _, _, _, rfl⟩ := h; rfl) | (obtain ⟨_, _, _, _, _, _, rfl⟩ := h; rfl) | (obtain ⟨_, _, _, _, _, _, _, rfl⟩ := h; rfl)) fun X hX hx hxe hs ds m Q h => by
    obtain ⟨e1, e2, e3, e4, e5⟩ := hX
    subst e1 e2 e3 e4 e5
    exact body__law_right hx (by decide) hxe hs hf fr c__law_pool c__law_told c__law_subsets c__law_loose_pairs c_cheapest ds m Q h
theorem d_law (F : FunD K "law" "law" (defArgs s_law) (defBody s_law) (defScope s_law) [] [] f fd) (hf : Fc P w K mg base cs) (fr : ∀ x : Str, frees.contains x = true → mg x = none) (c__law_pen : Cal P w K mg base 1 "_law_pen" (a__law_pen cs)) (c__law_rows : Cal P w K mg base 17 "_law_rows" (a__law_rows cs)) (c__law_truth : Cal P w K mg base 17 "_law_truth" (a__law_truth cs)) (c__law_right : Cal P w K mg base 81 "_law_right" (a__law_right cs)) (c__law_chain : Cal P w K mg base 17 "_law_chain" (a__law_chain cs)) : AFd P w K mg base 89 f fd ["script"] (a_law cs) :=
  afd_of F sc_law (fun ds m Q h => by first | (obtain ⟨rfl, _⟩ := h; rfl) | (obtain ⟨_, rfl, _⟩ := h; rfl) | (obtain ⟨_, _, rfl, _⟩ := h; rfl) | (obtain ⟨_, _, _, rfl, _⟩ := h; rfl) | (obtain ⟨_, _, _, _, rfl, _⟩ := h; rfl) | (obtain ⟨_, _, _, _, _, rfl, _⟩ := h; rfl) | (obtain ⟨_, _, _, _, _, _, rfl, _⟩ := h; rfl) | (obtain ⟨_, _, _, _, _, _, _, rfl, _⟩ := h; rfl) | (obtain ⟨_, _, _, _, _, _, _, _, rfl, _⟩ := h; rfl) | (obtain ⟨_, _, _, _, _, _, _, _, _, rfl, _⟩ := h; rfl) | (obtain ⟨_, _, _, _, _, _, _, _, _, _, rfl, _⟩ := h; rfl) | (obtain ⟨_, _, _, _, _, _, _, _, _, _, _, rfl, _⟩ := h; rfl) | (obtain ⟨_, _, _, _, _, _, _, _, _, _, _, _, rfl, _⟩ := h; rfl) | (obtain ⟨_, rfl⟩ := h; rfl) | (obtain ⟨_, _, rfl⟩ := h; rfl) | (obtain ⟨_, _, _, rfl⟩ := h; rfl) | (obtain ⟨_, _, _, _, rfl⟩ := h; rfl) | (obtain ⟨_, _, _, _, _, rfl⟩ := h; rfl) | (obtain ⟨_, _, _, _, _, _, rfl⟩ := h; rfl) | (obtain ⟨_, _, _, _, _, _, _, rfl⟩ := h; rfl)) fun X hX hx hxe hs ds m Q h => by
    obtain ⟨e1, e2, e3, e4, e5⟩ := hX
    subst e1 e2 e3 e4 e5
    exact body_law hx (by decide) hxe hs hf fr c__law_pen c__law_rows c__law_truth c__law_right c__law_chain ds m Q h
end
theorem mem_more (i : Nat) {f : Fa} (h : more[i]? = some f) : f ∈ fa := List.mem_append_right _ (List.mem_of_getElem? h)
theorem mem_fx (i : Nat) {f : Fx} (h : fx[i]? = some f) : f ∈ fx := List.mem_of_getElem? h
def csOf (K : PySem.W.Frag) : Cs := ⟨ga K "Item", ga K "Pool"⟩
theorem facts {P : Program} {w : World} {K : PySem.W.Frag} {h : Heap} {mg : Str → Option Value} {f : Addr} (X : K.In h) (G : h.Ns mainGlobals mg) (hfa : mg ("law" : Str) = some (.ref f)) (c : SaysL fa fx fn K) :
    ∃ fd : FuncData, (∀ (s : Shared) (v : Value), BindsTo s fd ⟨[v], []⟩ [("script", v)]) ∧ ∀ base : Heap, AFd P w K mg base 89 f fd ["script"] (a_law (csOf K)) := by
  have gl : ∀ x : Str, x ∈ globs → mg x = some (.ref (ga K x)) := fun x hx => He.glo_ok X G (c.fact (List.mem_append_left _ (List.mem_append_left _ (List.mem_map.mpr ⟨x, hx, rfl⟩))))
  have fr : ∀ x : Str, frees.contains x = true → mg x = none := fun x hx => He.free_ok X G (c.fact (List.mem_append_left _ (List.mem_append_right _ (List.mem_map.mpr ⟨x, by simpa using hx, rfl⟩))))
  have clI : Cls K (csOf K).I := He.cls_ok (c.fact (mem_more 4 rfl))
  have rdI := fx_cread (c.own (mem_fx 0 rfl))
  have clP : Cls K (csOf K).P := He.cls_ok (c.fact (mem_more 5 rfl))
  have rdP := fx_cread (c.own (mem_fx 3 rfl))
  obtain ⟨fd0, F0⟩ := c.def_ 0
  have e0 := hfa.symm.trans (gl "law" (by decide +kernel))
  cases e0
  refine ⟨fd0, fun s v => FunD.bindsA (ps := ["script"]) F0 (fun _ _ _ _ _ _ us hl => match us, hl with | [_], _ => rfl) s [v] rfl, fun base => ?_⟩
  have hf : Fc P w K mg base (csOf K) := {
    gI := gl _ (by decide +kernel)
    cI := clI
    tI := fx_insty (c.own (mem_fx 1 rfl)) clI
    kI := fx_kit (c.own (mem_fx 2 rfl))
    nI_parts := He.noat_ok (c.fact (mem_more 0 rfl))
    gP := gl _ (by decide +kernel)
    cP := clP
    tP := fx_insty (c.own (mem_fx 4 rfl)) clP
    kP := fx_kit (c.own (mem_fx 5 rfl))
    nP_by_name := He.noat_ok (c.fact (mem_more 1 rfl))
    i_LETTERS := He.str_ok X G (c.fact (mem_more 2 rfl))
    i_MAX_NAME := He.int_ok X G (c.fact (mem_more 3 rfl))
    most := by
      obtain ⟨u, h⟩ := fx_cint (c.own (mem_fx 6 rfl))
      exact ⟨_, u, rdI, h⟩ }
  obtain ⟨fd1, F1⟩ := c.def_ 1
  obtain ⟨fd2, F2⟩ := c.def_ 2
  obtain ⟨fd3, F3⟩ := c.def_ 3
  obtain ⟨fd4, F4⟩ := c.def_ 4
  obtain ⟨fd5, F5⟩ := c.def_ 5
  obtain ⟨fd6, F6⟩ := c.def_ 6
  obtain ⟨fd7, F7⟩ := c.def_ 7
  obtain ⟨fd8, F8⟩ := c.def_ 8
  obtain ⟨fd9, F9⟩ := c.def_ 9
  obtain ⟨fd10, F10⟩ := c.def_ 10
  obtain ⟨fd11, F11⟩ := c.def_ 11
  obtain ⟨fd12, F12⟩ := c.def_ 12
  obtain ⟨fd13, F13⟩ := c.def_ 13
  obtain ⟨fd14, F14⟩ := c.def_ 14
  obtain ⟨fd15, F15⟩ := c.def_ 15
  obtain ⟨fd16, F16⟩ := c.def_ 16
  obtain ⟨fd17, F17⟩ := c.def_ 17
  obtain ⟨fd18, F18⟩ := c.def_ 18
  obtain ⟨fd19, F19⟩ := c.def_ 19
  obtain ⟨fd20, F20⟩ := c.def_ 20
  obtain ⟨fd21, F21⟩ := c.def_ 21
  obtain ⟨fd22, F22⟩ := c.def_ 22
  obtain ⟨fd23, F23⟩ := c.def_ 23
  obtain ⟨fd24, F24⟩ := c.def_ 24
  obtain ⟨fd25, F25⟩ := c.def_ 25
  obtain ⟨fd26, F26⟩ := c.def_ 26
  obtain ⟨fd27, F27⟩ := c.def_ 27
  obtain ⟨fd28, F28⟩ := c.def_ 28
  obtain ⟨fd29, F29⟩ := c.def_ 29
  obtain ⟨fd30, F30⟩ := c.def_ 30
  obtain ⟨fd31, F31⟩ := c.def_ 31
  obtain ⟨fd32, F32⟩ := c.def_ 32
  obtain ⟨fd33, F33⟩ := c.def_ 33
  obtain ⟨fd34, F34⟩ := c.def_ 34
  obtain ⟨fd35, F35⟩ := c.def_ 35
  obtain ⟨fd36, F36⟩ := c.def_ 36
  obtain ⟨fd37, F37⟩ := c.def_ 37
  obtain ⟨fd38, F38⟩ := c.def_ 38
  obtain ⟨fd39, F39⟩ := c.def_ 39
  obtain ⟨fd40, F40⟩ := c.def_ 40
  have c_is_integer : Cal P w K mg base 1 "is_integer" (a_is_integer (csOf K)) := .of (d_is_integer F1 hf fr ) (b1 F1 fun _ _ _ _ _ _ _ => rfl) (gl _ (by decide +kernel)) F1.kp
  have c_Item_is_name : Stm P w K mg base 1 (csOf K).I "is_name" (a_Item_is_name (csOf K)) := ⟨_, _, _, fx_stat (c.own (mem_fx 7 rfl)) rdI F2.kp, (d_Item_is_name F2 hf fr ).pos (b1 F2 fun _ _ _ _ _ _ _ => rfl)⟩
  have n_Item_ : Mkk P w K mg base 9 3 ["price"] "Item" (csOf K).I (a_Item___init__ (csOf K)) := by
    obtain ⟨mv, hb⟩ := FunD.kbinds0 (ps := ["self", "name", "least", "greatest", "price"]) F3 4 ["price"] [] (fun vs _ zs => vs ++ zs) (fun z => by cases z) (fun _ hq => by cases hq) (fun r1 _ r3 => r1.append r3) fun D doc pm an cdv ct us mv ws l1 l2 l3 => by
      match us, l1, ws, l3 with
      | [_, _, _, _], _, [_], _ => rfl
    exact ⟨⟨_, _, _, _, He.mkr_ok (c.fact (mem_more 10 rfl)), (d_Item___init__ F3 hf fr c_Item_is_name c_is_integer), hb⟩, gl _ (by decide +kernel)⟩
  have m_Item_ : Mkc P w K mg base 9 "Item" (csOf K).I (fun ds m Q => (a_Item___init__ (csOf K)) (ds ++ [D.int 1]) m Q) := by
    obtain ⟨mv, hb⟩ := FunD.kbinds0 (ps := ["self", "name", "least", "greatest", "price"]) F3 4 [] [("price", V.int 1)] (fun vs mz zs => vs ++ mz ++ zs) (fun z => by cases z) (fun q hq => hq) (fun r1 r2 r3 => (r1.append r2).append r3) fun D doc pm an cdv ct us mv ws l1 l2 l3 => by
      match us, l1, mv, l2, ws, l3 with
      | [_, _, _, _], _, [_], _, [], _ => exact ⟨_, _, _, _, _, _, rfl, rfl, rfl⟩
    have hv : Vals [V.int 1] mv := by simpa using hb.rel (vs := []) (zs := []) (us := []) (ws := []) .nil .nil
    have lm : mv.length = 1 := hv.length.symm
    have bb : L2.Binds K _ ["self", "name", "least", "greatest", "price"] mv := fun s us X hl => by
      have l1 : us.length = 4 := by simp at hl; omega
      have z := hb.to s us [] X l1 rfl
      simpa using z
    exact ⟨⟨_, He.mkr_ok (c.fact (mem_more 10 rfl)), AFd.dfl (d_Item___init__ F3 hf fr c_Item_is_name c_is_integer) (dds := [D.int 1]) bb hv fun _ _ => .cons .int (.nil)⟩, gl _ (by decide +kernel)⟩
  have c_Item_name : Prp P w K mg base 1 (csOf K).I "name" (a_Item_name (csOf K)) := ⟨_, _, _, _, clI, fx_prop (c.own (mem_fx 8 rfl)), (d_Item_name F4 hf fr ), (b1 F4 fun _ _ _ _ _ _ _ => rfl)⟩
  have c_Item_least : Prp P w K mg base 1 (csOf K).I "least" (a_Item_least (csOf K)) := ⟨_, _, _, _, clI, fx_prop (c.own (mem_fx 9 rfl)), (d_Item_least F5 hf fr ), (b1 F5 fun _ _ _ _ _ _ _ => rfl)⟩
  have c_Item_greatest : Prp P w K mg base 1 (csOf K).I "greatest" (a_Item_greatest (csOf K)) := ⟨_, _, _, _, clI, fx_prop (c.own (mem_fx 10 rfl)), (d_Item_greatest F6 hf fr ), (b1 F6 fun _ _ _ _ _ _ _ => rfl)⟩
  have c_Item_price : Prp P w K mg base 1 (csOf K).I "price" (a_Item_price (csOf K)) := ⟨_, _, _, _, clI, fx_prop (c.own (mem_fx 11 rfl)), (d_Item_price F7 hf fr ), (b1 F7 fun _ _ _ _ _ _ _ => rfl)⟩
  have c_Item_is_exact : Prp P w K mg base 1 (csOf K).I "is_exact" (a_Item_is_exact (csOf K)) := ⟨_, _, _, _, clI, fx_prop (c.own (mem_fx 12 rfl)), (d_Item_is_exact F8 hf fr ), (b1 F8 fun _ _ _ _ _ _ _ => rfl)⟩
  have n_Pool_ : Mkc P w K mg base 1 "Pool" (csOf K).P (starA (a_Pool___init__ (csOf K))) := ⟨⟨_, He.mkr_ok (c.fact (mem_more 11 rfl)), (d_Pool___init__ F9 hf fr )⟩, gl _ (by decide +kernel)⟩
  have c_Pool_read : Clm P w K mg base 9 (csOf K).P "read" (a_Pool_read (csOf K)) := ⟨_, _, _, rdP, fx_clsm (c.own (mem_fx 13 rfl)), (d_Pool_read F10 hf fr n_Pool_).pos (b2 F10 fun _ _ _ _ _ _ _ _ => rfl)⟩
  have c_Pool_with_items : Mth P w K mg base 9 (csOf K).P "with_items" (starA (a_Pool_with_items (csOf K))) := ⟨_, clP, He.meth_ok (c.fact (mem_more 6 rfl)), (d_Pool_with_items F11 hf fr n_Pool_ c_Item_name)⟩
  have s_Pool_with_items : MthB P w K mg base 9 (csOf K).P "with_items" (starA (a_Pool_with_items (csOf K))) := by
    obtain ⟨b1, b2, b3, b4⟩ := fx_bm (c.own (mem_fx 17 rfl))
    exact ⟨_, clP, ⟨(He.meth_ok (c.fact (mem_more 6 rfl))), b1, b2, b3, b4⟩, (d_Pool_with_items F11 hf fr n_Pool_ c_Item_name)⟩
  have c_Pool_names : Prp P w K mg base 1 (csOf K).P "names" (a_Pool_names (csOf K)) := ⟨_, _, _, _, clP, fx_prop (c.own (mem_fx 14 rfl)), (d_Pool_names F12 hf fr ), (b1 F12 fun _ _ _ _ _ _ _ => rfl)⟩
  have c_Pool_item : Mth P w K mg base 1 (csOf K).P "item" (a_Pool_item (csOf K)) := ⟨_, clP, He.meth_ok (c.fact (mem_more 7 rfl)), (d_Pool_item F13 hf fr ).pos (b2 F13 fun _ _ _ _ _ _ _ _ => rfl)⟩
  have c_sort_key : Cal P w K mg base 9 "sort_key" (a_sort_key (csOf K)) := .of (d_sort_key F14 hf fr c_Item_least c_Item_greatest c_Item_name) (b1 F14 fun _ _ _ _ _ _ _ => rfl) (gl _ (by decide +kernel)) F14.kp
  have c_Item_value : Prp P w K mg base 9 (csOf K).I "value" (a_Item_value (csOf K)) := ⟨_, _, _, _, clI, fx_prop (c.own (mem_fx 15 rfl)), (d_Item_value F15 hf fr c_Item_is_exact), (b1 F15 fun _ _ _ _ _ _ _ => rfl)⟩
  have c_Item_exact : Clm P w K mg base 17 (csOf K).I "exact" (a_Item_exact (csOf K)) := ⟨_, _, _, rdI, fx_clsm (c.own (mem_fx 16 rfl)), (d_Item_exact F16 hf fr m_Item_).pos (b3 F16 fun _ _ _ _ _ _ _ _ _ => rfl)⟩
  have c_Item_told : Mth P w K mg base 25 (csOf K).I "told" (a_Item_told (csOf K)) := ⟨_, clI, He.meth_ok (c.fact (mem_more 8 rfl)), (d_Item_told F17 hf fr c_is_integer c_Item_least c_Item_greatest c_Item_name c_Item_exact).pos (b2 F17 fun _ _ _ _ _ _ _ _ => rfl)⟩
  have c_Pool_told : Mth P w K mg base 33 (csOf K).P "told" (a_Pool_told (csOf K)) := ⟨_, clP, He.meth_ok (c.fact (mem_more 9 rfl)), (d_Pool_told F18 hf fr c_Pool_item c_Item_told s_Pool_with_items).pos (b2 F18 fun _ _ _ _ _ _ _ _ => rfl)⟩
  have c_check_values : Cal P w K mg base 41 "check_values" (a_check_values (csOf K)) := .of (d_check_values F19 hf fr c_Pool_names c_Pool_item c_Item_is_exact c_Pool_told) (b2 F19 fun _ _ _ _ _ _ _ _ => rfl) (gl _ (by decide +kernel)) F19.kp
  have c_truth : Cal P w K mg base 49 "truth" (a_truth (csOf K)) := .of (d_truth F20 hf fr c_check_values c_Pool_told) (b2 F20 fun _ _ _ _ _ _ _ _ => rfl) (gl _ (by decide +kernel)) F20.kp
  have c_open_names : GCal P w K mg base 8 "open_names" (y_open_names (csOf K)) := gcal_of (gl _ (by decide +kernel)) F21.kp (d_open_names F21 (b1 F21 fun _ _ _ _ _ _ _ => rfl) hf fr c_Pool_names c_Pool_item c_Item_is_exact)
  have c_first_inside : Cal P w K mg base 17 "first_inside" (a_first_inside (csOf K)) := .of (d_first_inside F22 hf fr c_Pool_names c_Item_name c_Item_least c_Pool_item c_Item_value c_Item_greatest) (b2 F22 fun _ _ _ _ _ _ _ _ => rfl) (gl _ (by decide +kernel)) F22.kp
  have c_needed : Cal P w K mg base 57 "needed" (a_needed (csOf K)) := .of (d_needed F23 hf fr c_truth c_open_names c_first_inside c_Pool_item) (b2 F23 fun _ _ _ _ _ _ _ _ => rfl) (gl _ (by decide +kernel)) F23.kp
  have c_overlap : Cal P w K mg base 9 "overlap" (a_overlap (csOf K)) := .of (d_overlap F24 hf fr c_Item_least c_Item_greatest) (b2 F24 fun _ _ _ _ _ _ _ _ => rfl) (gl _ (by decide +kernel)) F24.kp
  have c_paths : Cal P w K mg base 65 "paths" (a_paths (csOf K)) := .of (d_paths F25 hf fr c_needed c_open_names c_Pool_item c_sort_key c_overlap c_Item_name) (b2 F25 fun _ _ _ _ _ _ _ _ => rfl) (gl _ (by decide +kernel)) F25.kp
  have c_cover : Cal P w K mg base 9 "cover" (a_cover (csOf K)) := .of (d_cover F26 hf fr c_Pool_item c_Item_price) (b2 F26 fun _ _ _ _ _ _ _ _ => rfl) (gl _ (by decide +kernel)) F26.kp
  have c_cheapest : Cal P w K mg base 73 "cheapest" (a_cheapest (csOf K)) := .of (d_cheapest F27 hf fr c_needed c_Pool_item c_Item_price c_paths c_cover) (b2 F27 fun _ _ _ _ _ _ _ _ => rfl) (gl _ (by decide +kernel)) F27.kp
  have c__law_pen : Cal P w K mg base 1 "_law_pen" (a__law_pen (csOf K)) := .of (d__law_pen F28 hf fr ) (b1 F28 fun _ _ _ _ _ _ _ => rfl) (gl _ (by decide +kernel)) F28.kp
  have c__law_next : Cal P w K mg base 1 "_law_next" (a__law_next (csOf K)) := .of (d__law_next F29 hf fr ) (b1 F29 fun _ _ _ _ _ _ _ => rfl) (gl _ (by decide +kernel)) F29.kp
  have c__law_draw : Cal P w K mg base 9 "_law_draw" (a__law_draw (csOf K)) := .of (d__law_draw F30 hf fr c__law_next) (b2 F30 fun _ _ _ _ _ _ _ _ => rfl) (gl _ (by decide +kernel)) F30.kp
  have c__law_rows : Cal P w K mg base 17 "_law_rows" (a__law_rows (csOf K)) := .of (d__law_rows F31 hf fr c__law_draw) (b3 F31 fun _ _ _ _ _ _ _ _ _ => rfl) (gl _ (by decide +kernel)) F31.kp
  have c__law_before : Cal P w K mg base 1 "_law_before" (a__law_before (csOf K)) := .of (d__law_before F32 hf fr ) (b2 F32 fun _ _ _ _ _ _ _ _ => rfl) (gl _ (by decide +kernel)) F32.kp
  have c__law_loose : Cal P w K mg base 9 "_law_loose" (a__law_loose (csOf K)) := .of (d__law_loose F33 hf fr c__law_before) (b2 F33 fun _ _ _ _ _ _ _ _ => rfl) (gl _ (by decide +kernel)) F33.kp
  have c__law_loose_pairs : Cal P w K mg base 17 "_law_loose_pairs" (a__law_loose_pairs (csOf K)) := .of (d__law_loose_pairs F34 hf fr c__law_loose) (b1 F34 fun _ _ _ _ _ _ _ => rfl) (gl _ (by decide +kernel)) F34.kp
  have c__law_truth : Cal P w K mg base 17 "_law_truth" (a__law_truth (csOf K)) := .of (d__law_truth F35 hf fr c__law_draw) (b2 F35 fun _ _ _ _ _ _ _ _ => rfl) (gl _ (by decide +kernel)) F35.kp
  have c__law_told : Cal P w K mg base 1 "_law_told" (a__law_told (csOf K)) := .of (d__law_told F36 hf fr ) (b2 F36 fun _ _ _ _ _ _ _ _ => rfl) (gl _ (by decide +kernel)) F36.kp
  have c__law_subsets : Cal P w K mg base 1 "_law_subsets" (a__law_subsets (csOf K)) := .of (d__law_subsets F37 hf fr ) (b1 F37 fun _ _ _ _ _ _ _ => rfl) (gl _ (by decide +kernel)) F37.kp
  have c__law_pool : Cal P w K mg base 17 "_law_pool" (a__law_pool (csOf K)) := .of (d__law_pool F38 hf fr n_Pool_ c_Pool_with_items n_Item_) (b1 F38 fun _ _ _ _ _ _ _ => rfl) (gl _ (by decide +kernel)) F38.kp
  have c__law_chain : Cal P w K mg base 17 "_law_chain" (a__law_chain (csOf K)) := .of (d__law_chain F39 hf fr c__law_draw) (b1 F39 fun _ _ _ _ _ _ _ => rfl) (gl _ (by decide +kernel)) F39.kp
  have c__law_right : Cal P w K mg base 81 "_law_right" (a__law_right (csOf K)) := .of (d__law_right F40 hf fr c__law_pool c__law_told c__law_subsets c__law_loose_pairs c_cheapest) (b2 F40 fun _ _ _ _ _ _ _ _ => rfl) (gl _ (by decide +kernel)) F40.kp
  exact d_law F0 hf fr c__law_pen c__law_rows c__law_truth c__law_right c__law_chain
end K71
open PySem PySem.W PySem.Calls PyProof.Rows
theorem PySem.Challenge.cw_askranges_k71_whole_cheapest_of_all_sets_holds : PySem.Challenge.rw_askranges_k71_whole_cheapest_of_all_sets.Holds := by
  w_on; o_law
  refine HandSHeadRun.head_any (r := K71.R) (q := view K71.R.prog [45]) (H := K71.hk) (ob := K71.ob) (M := 60000) (loose := K71.loose) (d := HandSHeadRun.topDef K71.R.prog 45) (kwd := []) K71.ob_eq
    (by kernel_rfl) (fun s => by kernel_rfl) K71.run (by kernel_rfl) (by kernel_rfl) (by kernel_rfl) (by rfl) (by first | assumption | decide +kernel) (by decide +kernel) ⟨rfl, rfl, rfl, rfl, rfl, by decide +kernel⟩ ?hw ?hc
  case hw => w_witness2
  case hc =>
    refine L2.walk_ofE (l := K71.RWW) (n := 63) (k := 89) (x := "script") (CX := L2.CX0) rfl (by decide) (by kernel_rfl) ⟨rfl, by decide, by decide⟩ ?F (fun _ _ _ _ z => z)
    intro w mg fa h Y G hmg0
    obtain ⟨K, KX, c⟩ := Y
    have hmg : mg ("law" : PySem.Str) = some (.ref fa) := by
      have e : (HandSHeadRun.topDef K71.R.prog 45).name = ("law" : PySem.Str) := by kernel_rfl
      rw [← e]
      exact hmg0
    obtain ⟨fd, hb, hF⟩ := K71.facts (P := K71.RWW.prog) (w := w) KX G hmg c
    refine ⟨K, fd, Ab.liftSp K (K71.a_law (K71.csOf K)), KX, hb, fun H a ns hl hO hS => ?_, fun base _ _ => (hF base).ok⟩
    have hm : Ab.HM K (fun _ => none) H := fun a o e => by cases e
    have nd : ∀ b, ¬ Ab.dom (fun _ => none) b := fun b z => z rfl
    rcases hS with hS | hS
    · exact ⟨[.lst (ns.map Ab.D.int)], fun _ => none, fun d _ => d = .bl true, hm, .cons (.lst (nd a) hS Ab.to_ints) .nil, ⟨ns, _, rfl, .l .im, fun _ => rfl⟩, fun d m' v H' _ _ r e => by subst e; cases r; rfl⟩
    · exact ⟨[.kl (ns.map Ab.D.int)], fun _ => none, fun d _ => d = .bl true, hm, .cons (.kl (.inr hS) Ab.to_ints) .nil, ⟨ns, _, rfl, .k, fun _ => rfl⟩, fun d m' v H' _ _ r e => by subst e; cases r; rfl⟩
