import PyProof.Rows.All
import Wide.All
import OpenK.AllK
import Wide.FinOn
import HandS.ForMost
import HandS.Walk
import HandS.Wide
import HandS.NoneIn
import HandS.TupAny
import HandS.SortInts
import HandS.IsInst
import HandS.Zip
import HandS.TupMul
import HandS.Conv
import KE.DataMinMax
import KE.OsSort
import KE.SortData
import KE.KRevSl
import HandS.ReCall
import KE.KxText
import PyProof.ReprLen
import PySem.Challenge.RW_rightage_k36_left_out_and_widened
set_option Elab.async false
set_option linter.all false
set_option maxRecDepth 100000
set_option maxHeartbeats 4000000
/-! Data by value over the hand layer: D, what stands for it, the judgements' readings. -/
namespace DL
open PySem L2

inductive D where
  | non | bl (b : Bool) | int (i : Int) | str (x : Str) | tup (l : List D) | lst (l : List D) | scr (l : List D) | ref (n : Nat)

/-- what stands at a changing object's number -/
inductive Ob where
  | lst (l : List D)

structure Ids where
  ids : List Addr
  ban : List Addr

/-- a list that is known to the object, or one of the module's -/
def SqF (K : PySem.W.Frag) (H : Hp) (a : Addr) (xs : List V) : Prop :=
  (∃ o, H a = some (.frz o (.lst xs))) ∨
    ∃ (o : Obj) (its : Array Value) (n : Nat), K.lookup a = some o ∧ o.cls = .type "list" ∧ o.dict = none ∧ o.data = .seq its n ∧ its.size ≤ sizeLine ∧ Vals xs its.toList
theorem SqF.sq {K : PySem.W.Frag} {H : Hp} {a : Addr} {xs : List V} (h : SqF K H a xs) : SqL K H a xs := by
  rcases h with h | h
  · exact .inl (.inr h)
  · exact .inr h
mutual
def Rep (K : PySem.W.Frag) (I : Ids) (H : Hp) : D → V → Prop
  | .non, v => v = .non
  | .bl b, v => v = .bl b
  | .int i, v => v = .int i
  | .str x, v => v = .str x
  | .tup l, v => ∃ a xs, v = .ref a ∧ SqT K H a xs ∧ Reps K I H l xs
  | .lst l, v => ∃ a xs, v = .ref a ∧ H a = some (.lst xs) ∧ a ∉ I.ids ∧ a ∉ I.ban ∧ Reps K I H l xs
  | .scr l, v => ∃ a xs, v = .ref a ∧ SqF K H a xs ∧ Reps K I H l xs
  | .ref n, v => ∃ a, I.ids[n]? = some a ∧ v = .ref a
def Reps (K : PySem.W.Frag) (I : Ids) (H : Hp) : List D → List V → Prop
  | [], xs => xs = []
  | d :: ds, xs => ∃ x r, xs = x :: r ∧ Rep K I H d x ∧ Reps K I H ds r
end

def IsMut : HO → Prop
  | .lst _ => True
  | .dK _ => True
  | .dT _ => True
  | .ins _ _ _ => True
  | _ => False
def ObRep (K : PySem.W.Frag) (I : Ids) (H : Hp) : Ob → Addr → Prop
  | .lst l, a => ∃ xs, H a = some (.lst xs) ∧ Reps K I H l xs

abbrev Sto := List Ob
structure StOk (K : PySem.W.Frag) (I : Ids) (H : Hp) (st : Sto) : Prop where
  len : I.ids.length = st.length
  nd : I.ids.Nodup
  mu : ∀ a ∈ I.ids, ∃ o, H a = some o ∧ IsMut o
  bn : ∀ a ∈ I.ban, a ∉ I.ids ∧ H a ≠ none
  ob : ∀ (n : Nat) (o : Ob) (a : Addr), st[n]? = some o → I.ids[n]? = some a → ObRep K I H o a

structure Grow (I : Ids) (H : Hp) (I' : Ids) (H' : Hp) : Prop where
  ban : ∃ b, I'.ban = b ++ I.ban ∧ ∀ a ∈ b, H a = none
  ext : ∃ more, I'.ids = I.ids ++ more ∧ ∀ a ∈ more, H a = none
  keep : ∀ a o, H a = some o → a ∉ I.ids → H' a = some o
  there : ∀ a, H a ≠ none → H' a ≠ none

theorem Grow.refl (I : Ids) (H : Hp) : Grow I H I H := ⟨⟨[], by simp, by simp⟩, ⟨[], by simp, by simp⟩, fun _ _ h _ => h, fun _ h => h⟩
theorem Grow.nid {I I' : Ids} {H H' : Hp} (g : Grow I H I' H') {a : Addr} {o : HO} (h : H a = some o) (n : a ∉ I.ids) : a ∉ I'.ids := by
  obtain ⟨more, e, f⟩ := g.ext
  rw [e, List.mem_append, not_or]
  exact ⟨n, fun z => by rw [f a z] at h; cases h⟩
theorem Grow.nban {I I' : Ids} {H H' : Hp} (g : Grow I H I' H') {a : Addr} {o : HO} (h : H a = some o) (n : a ∉ I.ban) : a ∉ I'.ban := by
  obtain ⟨more, e, f⟩ := g.ban
  rw [e, List.mem_append, not_or]
  exact ⟨fun z => absurd (f a z) (by rw [h]; simp), n⟩
theorem Grow.none_of {I I' : Ids} {H H' : Hp} (g : Grow I H I' H') {a : Addr} (h : H' a = none) : H a = none := by
  cases q : H a with
  | none => rfl
  | some o => exact absurd h (g.there a (by rw [q]; simp))
theorem Grow.trans {I I1 I2 : Ids} {H H1 H2 : Hp} (a : Grow I H I1 H1) (b : Grow I1 H1 I2 H2) : Grow I H I2 H2 := by
  refine ⟨?_, ?_, fun x o h n => b.keep x o (a.keep x o h n) (a.nid h n), fun x h => b.there x (a.there x h)⟩
  · obtain ⟨m1, e1, f1⟩ := a.ban
    obtain ⟨m2, e2, f2⟩ := b.ban
    refine ⟨m2 ++ m1, by rw [e2, e1, List.append_assoc], fun x hx => ?_⟩
    rcases List.mem_append.mp hx with h | h
    · exact a.none_of (f2 x h)
    · exact f1 x h
  · obtain ⟨m1, e1, f1⟩ := a.ext
    obtain ⟨m2, e2, f2⟩ := b.ext
    refine ⟨m1 ++ m2, by rw [e2, e1, List.append_assoc], fun x hx => ?_⟩
    rcases List.mem_append.mp hx with h | h
    · exact f1 x h
    · exact a.none_of (f2 x h)
/-- a new object, of no number -/
theorem Grow.new {I : Ids} {H : Hp} {p : Addr} {o : HO} (h : H p = none) : Grow I H I (upd H p o) := by
  refine ⟨⟨[], by simp, by simp⟩, ⟨[], by simp, by simp⟩, fun a u e _ => by rw [upd_ne (ne_of_none e h)]; exact e, fun a e => ?_⟩
  by_cases q : a = p
  · subst q; exact absurd h e
  · rw [upd_ne q]; exact e
theorem Grow.get {I I' : Ids} {H H' : Hp} (g : Grow I H I' H') {n : Nat} {a : Addr} (h : I.ids[n]? = some a) : I'.ids[n]? = some a := by
  obtain ⟨more, e, _⟩ := g.ext
  rw [e]
  have hl : n < I.ids.length := (List.getElem?_eq_some_iff.mp h).1
  rw [List.getElem?_append_left hl]
  exact h

section
variable {K : PySem.W.Frag} {I I' : Ids} {H H' : Hp} {st st' : Sto}
theorem StOk.ntup (s : StOk K I H st) {a : Addr} {o : HO} (h : H a = some o) (n : ¬ IsMut o) : a ∉ I.ids := fun z => by
  obtain ⟨u, e, m⟩ := s.mu a z
  rw [h] at e; cases e
  exact n m
theorem Rd.grow {u : HO} {a : Addr} (s : StOk K I H st) (g : Grow I H I' H') (n : ¬ IsMut u) (h : Rd H a u) : Rd H' a u := by
  rcases h with h | ⟨o, h⟩
  · exact .inl (g.keep a u h (s.ntup h n))
  · exact .inr ⟨o, g.keep a _ h (s.ntup h (fun z => z))⟩
theorem SqT.grow {a : Addr} {xs : List V} (s : StOk K I H st) (g : Grow I H I' H') (h : SqT K H a xs) : SqT K H' a xs := by
  rcases h with h | h
  · exact .inl (Rd.grow s g (fun z => z) h)
  · exact .inr h
mutual
theorem Rep.grow (s : StOk K I H st) (g : Grow I H I' H') : ∀ (d : D) (v : V), Rep K I H d v → Rep K I' H' d v
  | .non, _, h => h
  | .bl _, _, h => h
  | .int _, _, h => h
  | .str _, _, h => h
  | .tup l, v, h => by
    unfold Rep at h ⊢
    obtain ⟨a, xs, e, q, r⟩ := h
    exact ⟨a, xs, e, SqT.grow s g q, Reps.grow s g l xs r⟩
  | .lst l, v, h => by
    unfold Rep at h ⊢
    obtain ⟨a, xs, e, q, n1, n2, r⟩ := h
    exact ⟨a, xs, e, g.keep a _ q n1, g.nid q n1, g.nban q n2, Reps.grow s g l xs r⟩
  | .scr l, v, h => by
    unfold Rep at h ⊢
    obtain ⟨a, xs, e, q, r⟩ := h
    refine ⟨a, xs, e, ?_, Reps.grow s g l xs r⟩
    rcases q with ⟨o, q⟩ | q
    · exact .inl ⟨o, g.keep a _ q (s.ntup q fun z => z)⟩
    · exact .inr q
  | .ref n, v, h => by
    unfold Rep at h ⊢
    obtain ⟨a, q, e⟩ := h
    exact ⟨a, g.get q, e⟩
theorem Reps.grow (s : StOk K I H st) (g : Grow I H I' H') : ∀ (ds : List D) (vs : List V), Reps K I H ds vs → Reps K I' H' ds vs
  | [], _, h => h
  | d :: ds, vs, h => by
    unfold Reps at h ⊢
    obtain ⟨x, r, e, q, t⟩ := h
    exact ⟨x, r, e, Rep.grow s g d x q, Reps.grow s g ds r t⟩
end
theorem Reps.length : ∀ {ds : List D} {vs : List V}, Reps K I H ds vs → ds.length = vs.length
  | [], _, h => by unfold Reps at h; subst h; rfl
  | d :: ds, vs, h => by
    unfold Reps at h
    obtain ⟨x, r, rfl, _, t⟩ := h
    simp [Reps.length t]
theorem Reps.nil : Reps K I H [] [] := by unfold Reps; rfl
theorem Reps.cons {d : D} {v : V} {ds : List D} {vs : List V} (a : Rep K I H d v) (b : Reps K I H ds vs) : Reps K I H (d :: ds) (v :: vs) := by
  unfold Reps; exact ⟨v, vs, rfl, a, b⟩
theorem Reps.append : ∀ {ds es : List D} {vs ws : List V}, Reps K I H ds vs → Reps K I H es ws → Reps K I H (ds ++ es) (vs ++ ws)
  | [], _, _, _, a, b => by unfold Reps at a; subst a; exact b
  | d :: ds, es, vs, ws, a, b => by
    unfold Reps at a
    obtain ⟨x, r, rfl, q, t⟩ := a
    exact Reps.cons q (Reps.append t b)
theorem Reps.get : ∀ {ds : List D} {vs : List V} {i : Nat} {d : D}, Reps K I H ds vs → ds[i]? = some d → ∃ v, vs[i]? = some v ∧ Rep K I H d v
  | [], _, _, _, _, h => by simp at h
  | d :: ds, vs, 0, e, a, h => by
    unfold Reps at a
    obtain ⟨x, r, rfl, q, t⟩ := a
    simp at h; subst h
    exact ⟨x, rfl, q⟩
  | d :: ds, vs, i + 1, e, a, h => by
    unfold Reps at a
    obtain ⟨x, r, rfl, q, t⟩ := a
    simp at h
    obtain ⟨v, h1, h2⟩ := Reps.get t h
    exact ⟨v, by simpa using h1, h2⟩
theorem Reps.getV : ∀ {ds : List D} {vs : List V} {i : Nat} {v : V}, Reps K I H ds vs → vs[i]? = some v → ∃ d, ds[i]? = some d ∧ Rep K I H d v := fun {ds vs i v} a h => by
  have hl := a.length
  have hi : i < vs.length := (List.getElem?_eq_some_iff.mp h).1
  have e : ds[i]? = some ds[i] := List.getElem?_eq_getElem (by omega)
  obtain ⟨w, h1, h2⟩ := a.get e
  rw [h] at h1; cases h1
  exact ⟨_, e, h2⟩
theorem Reps.take : ∀ {ds : List D} {vs : List V} (n : Nat), Reps K I H ds vs → Reps K I H (ds.take n) (vs.take n)
  | _, _, 0, _ => by simpa using Reps.nil
  | [], _, n + 1, a => by unfold Reps at a; subst a; simpa using Reps.nil
  | d :: ds, vs, n + 1, a => by
    unfold Reps at a
    obtain ⟨x, r, rfl, q, t⟩ := a
    simpa using Reps.cons q (Reps.take n t)
theorem Reps.drop : ∀ {ds : List D} {vs : List V} (n : Nat), Reps K I H ds vs → Reps K I H (ds.drop n) (vs.drop n)
  | _, _, 0, a => by simpa using a
  | [], _, n + 1, a => by unfold Reps at a; subst a; simpa using Reps.nil
  | d :: ds, vs, n + 1, a => by
    unfold Reps at a
    obtain ⟨x, r, rfl, q, t⟩ := a
    simpa using Reps.drop n t
theorem Reps.set : ∀ {ds : List D} {vs : List V} {d : D} {v : V} (n : Nat), Reps K I H ds vs → Rep K I H d v → Reps K I H (ds.set n d) (vs.set n v)
  | [], _, _, _, n, a, _ => by unfold Reps at a; subst a; simpa using Reps.nil
  | d :: ds, vs, _, _, 0, a, b => by
    unfold Reps at a
    obtain ⟨x, r, rfl, q, t⟩ := a
    simpa using Reps.cons b t
  | d :: ds, vs, _, _, n + 1, a, b => by
    unfold Reps at a
    obtain ⟨x, r, rfl, q, t⟩ := a
    simpa using Reps.cons q (Reps.set n t b)
end

/-! ### the slots -/
abbrev En := List (Option D)
structure EnvRep (K : PySem.W.Frag) (I : Ids) (H : Hp) (ρ : En) (σ : St) : Prop where
  len : ρ.length = σ.length
  val : ∀ (i : Nat) (d : D), ρ[i]? = some (some d) → ∃ v, σ[i]? = some (some v) ∧ Rep K I H d v
structure Sit (K : PySem.W.Frag) (I : Ids) (H : Hp) (ρ : En) (σ : St) (st : Sto) : Prop where
  st : StOk K I H st
  env : EnvRep K I H ρ σ
section
variable {K : PySem.W.Frag} {I I' : Ids} {H H' : Hp} {st st' : Sto} {ρ : En} {σ : St}
theorem EnvRep.grow (e : EnvRep K I H ρ σ) (s : StOk K I H st) (g : Grow I H I' H') : EnvRep K I' H' ρ σ :=
  ⟨e.len, fun i d h => let ⟨v, h1, h2⟩ := e.val i d h; ⟨v, h1, h2.grow s g⟩⟩
theorem Sit.grow (x : Sit K I H ρ σ st) (g : Grow I H I' H') (s' : StOk K I' H' st') : Sit K I' H' ρ σ st' := ⟨s', x.env.grow x.st g⟩
theorem EnvRep.set {i : Nat} {d : D} {v : V} (e : EnvRep K I H ρ σ) (r : Rep K I H d v) : EnvRep K I H (ρ.set i (some d)) (σ.set i (some v)) := by
  refine ⟨by rw [List.length_set, List.length_set]; exact e.len, fun j c h => ?_⟩
  by_cases q : i = j
  · subst q
    by_cases hi : i < ρ.length
    · rw [List.getElem?_set_self hi] at h
      cases h
      exact ⟨v, by rw [List.getElem?_set_self (by rw [← e.len]; exact hi)], r⟩
    · rw [List.getElem?_eq_none (by simpa using hi)] at h; cases h
  · rw [List.getElem?_set_ne q] at h
    obtain ⟨w, h1, h2⟩ := e.val j c h
    exact ⟨w, by rw [List.getElem?_set_ne q]; exact h1, h2⟩
def wipeD (ρ : En) : List Nat → En
  | [] => ρ
  | v :: vs => (wipeD ρ vs).set v none
theorem EnvRep.wipe (e : EnvRep K I H ρ σ) : ∀ vs : List Nat, EnvRep K I H (wipeD ρ vs) (wipe σ vs)
  | [] => e
  | v :: vs => by
    have q := EnvRep.wipe e vs
    unfold wipeD L2.wipe
    refine ⟨by rw [List.length_set, List.length_set]; exact q.len, fun j c h => ?_⟩
    by_cases z : v = j
    · subst z
      by_cases hi : v < (wipeD ρ vs).length
      · rw [List.getElem?_set_self hi] at h; cases h
      · rw [List.getElem?_eq_none (by simpa using hi)] at h; cases h
    · rw [List.getElem?_set_ne z] at h
      rw [List.getElem?_set_ne z]
      exact q.val j c h
end

/-! ### what is reckoned, and readings by it -/
abbrev M (α : Type) := Sto → Option (α × Sto)
abbrev EM (α : Type) := En → M α
section
variable (K : PySem.W.Frag)
def tX (m : EM D) : TE := fun σ H Q => ∃ I ρ st d st', Sit K I H ρ σ st ∧ m ρ st = some (d, st') ∧
  ∀ I' H' v, Grow I H I' H' → StOk K I' H' st' → Rep K I' H' d v → Q v H'
def tXs (m : EM (List D)) : TA := fun σ H Q => ∃ I ρ st d st', Sit K I H ρ σ st ∧ m ρ st = some (d, st') ∧
  ∀ I' H' v, Grow I H I' H' → StOk K I' H' st' → Reps K I' H' d v → Q v H'
def tXb (m : EM Bool) : TT := fun σ H Q => ∃ I ρ st b st', Sit K I H ρ σ st ∧ m ρ st = some (b, st') ∧
  ∀ I' H', Grow I H I' H' → StOk K I' H' st' → Q b H'
def rX2 (g : D → D → M D) : R2 := fun x y H Q => ∃ I st d e r st', StOk K I H st ∧ Rep K I H d x ∧ Rep K I H e y ∧ g d e st = some (r, st') ∧
  ∀ I' H' v, Grow I H I' H' → StOk K I' H' st' → Rep K I' H' r v → Q v H'
def rX1 (g : D → M D) : V → Hp → VK → Prop := fun x H Q => ∃ I st d r st', StOk K I H st ∧ Rep K I H d x ∧ g d st = some (r, st') ∧
  ∀ I' H' v, Grow I H I' H' → StOk K I' H' st' → Rep K I' H' r v → Q v H'
def rXs (g : List D → M D) : List V → Hp → VK → Prop := fun xs H Q => ∃ I st d r st', StOk K I H st ∧ Reps K I H d xs ∧ g d st = some (r, st') ∧
  ∀ I' H' v, Grow I H I' H' → StOk K I' H' st' → Rep K I' H' r v → Q v H'
end
end DL


set_option Elab.async false
set_option linter.all false
set_option maxRecDepth 100000
set_option maxHeartbeats 4000000
namespace DL
open PySem L2

theorem peImp {X : Cx} {e : Expr} {t t' : TE} (h : PE X e t) (k : ∀ σ H Q, t' σ H Q → t σ H Q) : PE X e t' := ⟨fun pins s σ H Q I hw => h.run pins s σ H Q I (k σ H Q hw)⟩
theorem ptImp {X : Cx} {e : Expr} {t t' : TT} (h : PT X e t) (k : ∀ σ H Q, t' σ H Q → t σ H Q) : PT X e t' := ⟨fun pins s σ H Q I hw => h.run pins s σ H Q I (k σ H Q hw)⟩
theorem pwImp {X : Cx} {e : Expr} {t t' : TT} (h : PW X e t) (k : ∀ σ H Q, t' σ H Q → t σ H Q) : PW X e t' := ⟨fun wh pins s σ H Q I hw => h.run wh pins s σ H Q I (k σ H Q hw)⟩
theorem paImp {X : Cx} {e : List Expr} {t t' : TA} (h : PA X e t) (k : ∀ σ H Q, t' σ H Q → t σ H Q) : PA X e t' := ⟨fun pos pins s σ H Q I hw => h.run pos pins s σ H Q I (k σ H Q hw)⟩
theorem psImp {X : Cx} {e : Stmt} {t t' : TS} (h : PS X e t) (k : ∀ D σ H, t' D σ H → t D σ H) : PS X e t' := ⟨fun pins s σ H D I hw => h.run pins s σ H D I (k D σ H hw)⟩
theorem pssImp {X : Cx} {e : List Stmt} {t t' : TS} (h : PSs X e t) (k : ∀ D σ H, t' D σ H → t D σ H) : PSs X e t' := ⟨fun pins s σ H D I hw => h.run pins s σ H D I (k D σ H hw)⟩
theorem opImp {X : Cx} {f : Value → Value → Sem Value} {r r' : R2} (h : OpR X f r) (k : ∀ x y H Q, r' x y H Q → r x y H Q) : OpR X f r' := fun pins s σ H x y v u Q I rx ry hw => h pins s σ H x y v u Q I rx ry (k x y H Q hw)
theorem callImp {X : Cx} {f : Value} {r r' : List V → Hp → VK → Prop} (h : CallR X f r) (k : ∀ xs H Q, r' xs H Q → r xs H Q) : CallR X f r' := fun pins s σ H xs us Q I rx hw => h pins s σ H xs us Q I rx (k xs H Q hw)

theorem Rep.up {K : PySem.W.Frag} {I I' : Ids} {H H' : Hp} {st : Sto} {d : D} {v : V} (r : Rep K I H d v) (s : StOk K I H st) (g : Grow I H I' H') : Rep K I' H' d v := Rep.grow s g d v r
theorem Reps.up {K : PySem.W.Frag} {I I' : Ids} {H H' : Hp} {st : Sto} {d : List D} {v : List V} (r : Reps K I H d v) (s : StOk K I H st) (g : Grow I H I' H') : Reps K I' H' d v := Reps.grow s g d v r

section
variable {K : PySem.W.Frag} {I I' : Ids} {H H' : Hp} {st st' : Sto}
theorem Grow.sameIds {H H' : Hp} (g : Grow I H I H') (s : StOk K I H st) (h : ∀ a ∈ I.ids, H' a = H a) : StOk K I H' st := by
  refine ⟨s.len, s.nd, fun a ha => ?_, fun a ha => ⟨(s.bn a ha).1, g.there a (s.bn a ha).2⟩, fun n o a h1 h2 => ?_⟩
  · rw [h a ha]; exact s.mu a ha
  · have q := s.ob n o a h1 h2
    have e := h a (List.mem_of_getElem? h2)
    cases o with
    | lst l =>
      obtain ⟨xs, e1, r⟩ := q
      exact ⟨xs, e.trans e1, r.up s g⟩
theorem StOk.nin (s : StOk K I H st) {p : Addr} (h : H p = none) : p ∉ I.ids ∧ p ∉ I.ban := by
  refine ⟨fun z => ?_, fun z => (s.bn p z).2 h⟩
  obtain ⟨o, e, _⟩ := s.mu p z
  rw [h] at e; cases e
theorem StOk.new (s : StOk K I H st) {p : Addr} {o : HO} (h : H p = none) : StOk K I (upd H p o) st :=
  (Grow.new h).sameIds s fun a ha => upd_ne fun e => (s.nin h).1 (e ▸ ha)
theorem Rep.newTup {l : List D} {xs : List V} (s : StOk K I H st) {p : Addr} (h : H p = none) (r : Reps K I H l xs) : Rep K I (upd H p (.tup xs)) (.tup l) (.ref p) := by
  unfold Rep
  exact ⟨p, xs, rfl, .of upd_same, r.up s (Grow.new h)⟩
theorem Rep.newLst {l : List D} {xs : List V} (s : StOk K I H st) {p : Addr} (h : H p = none) (r : Reps K I H l xs) : Rep K I (upd H p (.lst xs)) (.lst l) (.ref p) := by
  unfold Rep
  exact ⟨p, xs, rfl, upd_same, (s.nin h).1, (s.nin h).2, r.up s (Grow.new h)⟩
end

section
variable {K : PySem.W.Frag} {I : Ids} {H : Hp} {st : Sto}
mutual
theorem Rep.free {b : List Addr} (hb : ∀ a ∈ b, a ∈ I.ban) : ∀ (d : D) (v : V), Rep K I H d v → Rep K ⟨I.ids, b⟩ H d v
  | .non, _, h => h
  | .bl _, _, h => h
  | .int _, _, h => h
  | .str _, _, h => h
  | .tup l, v, h => by
    unfold Rep at h ⊢
    obtain ⟨a, zs, e, q, r⟩ := h
    exact ⟨a, zs, e, q, Reps.free hb l zs r⟩
  | .lst l, v, h => by
    unfold Rep at h ⊢
    obtain ⟨a, zs, e, q, n1, n2, r⟩ := h
    exact ⟨a, zs, e, q, n1, fun z => n2 (hb a z), Reps.free hb l zs r⟩
  | .scr l, v, h => by
    unfold Rep at h ⊢
    obtain ⟨a, zs, e, q, r⟩ := h
    exact ⟨a, zs, e, q, Reps.free hb l zs r⟩
  | .ref n, v, h => h
theorem Reps.free {b : List Addr} (hb : ∀ a ∈ b, a ∈ I.ban) : ∀ (ds : List D) (vs : List V), Reps K I H ds vs → Reps K ⟨I.ids, b⟩ H ds vs
  | [], _, h => h
  | d :: ds, vs, h => by
    unfold Reps at h ⊢
    obtain ⟨x, r, e, q, t⟩ := h
    exact ⟨x, r, e, Rep.free hb d x q, Reps.free hb ds r t⟩
end
theorem StOk.free {b : List Addr} (s : StOk K I H st) (hb : ∀ a ∈ b, a ∈ I.ban) : StOk K ⟨I.ids, b⟩ H st := by
  refine ⟨s.len, s.nd, s.mu, fun a ha => s.bn a (hb a ha), fun n o a h1 h2 => ?_⟩
  have q := s.ob n o a h1 h2
  cases o with
  | lst l =>
    obtain ⟨zs, e1, r⟩ := q
    exact ⟨zs, e1, r.free hb⟩
mutual
theorem Rep.number {p : Addr} {b : List Addr} (hp : p ∈ I.ban) (hb : ∀ a ∈ b, a ∈ I.ban) : ∀ {d : D} {v : V}, Rep K I H d v → Rep K ⟨I.ids ++ [p], b⟩ H d v
  | .non, _, h => h
  | .bl _, _, h => h
  | .int _, _, h => h
  | .str _, _, h => h
  | .tup l, v, h => by
    unfold Rep at h ⊢
    obtain ⟨a, zs, e, q, r⟩ := h
    exact ⟨a, zs, e, q, Reps.number hp hb r⟩
  | .lst l, v, h => by
    unfold Rep at h ⊢
    obtain ⟨a, zs, e, q, n1, n2, r⟩ := h
    refine ⟨a, zs, e, q, fun z => ?_, fun z => n2 (hb a z), Reps.number hp hb r⟩
    rcases List.mem_append.mp z with z | z
    · exact n1 z
    · exact n2 (by rw [List.mem_singleton.mp z]; exact hp)
  | .scr l, v, h => by
    unfold Rep at h ⊢
    obtain ⟨a, zs, e, q, r⟩ := h
    exact ⟨a, zs, e, q, Reps.number hp hb r⟩
  | .ref n, v, h => by
    unfold Rep at h ⊢
    obtain ⟨a, q, e⟩ := h
    exact ⟨a, by rw [List.getElem?_append_left (List.getElem?_eq_some_iff.mp q).1]; exact q, e⟩
theorem Reps.number {p : Addr} {b : List Addr} (hp : p ∈ I.ban) (hb : ∀ a ∈ b, a ∈ I.ban) : ∀ {ds : List D} {vs : List V}, Reps K I H ds vs → Reps K ⟨I.ids ++ [p], b⟩ H ds vs
  | [], _, h => h
  | d :: ds, vs, h => by
    unfold Reps at h ⊢
    obtain ⟨x, r, e, q, t⟩ := h
    exact ⟨x, r, e, Rep.number hp hb q, Reps.number hp hb t⟩
end
theorem Grow.subBan {I' : Ids} {H' : Hp} (g : Grow I H I' H') : ∀ a ∈ I.ban, a ∈ I'.ban := fun a ha => by
  obtain ⟨b, e, _⟩ := g.ban
  rw [e]; exact List.mem_append_right _ ha
theorem StOk.hide {p : Addr} {xs : List V} (S : StOk K I H st) (hp : H p = none) : Grow I H ⟨I.ids, p :: I.ban⟩ (upd H p (.lst xs)) ∧ StOk K ⟨I.ids, p :: I.ban⟩ (upd H p (.lst xs)) st := by
  have q := Grow.new (I := I) (o := HO.lst xs) hp
  have g : Grow I H ⟨I.ids, p :: I.ban⟩ (upd H p (.lst xs)) := ⟨⟨[p], rfl, fun a ha => by rw [List.mem_singleton.mp ha]; exact hp⟩, ⟨[], by simp, by simp⟩, q.keep, q.there⟩
  have S1 : StOk K I (upd H p (.lst xs)) st := S.new hp
  refine ⟨g, S1.len, S1.nd, S1.mu, fun a ha => ?_, fun n o a h1 h2 => ?_⟩
  · rcases List.mem_cons.mp ha with z | z
    · subst z; exact ⟨(S.nin hp).1, by rw [upd_same]; simp⟩
    · exact S1.bn a z
  · have q := S.ob n o a h1 h2
    cases o with
    | lst l =>
      obtain ⟨zs, e1, r⟩ := q
      exact ⟨zs, by rw [upd_ne (ne_of_none e1 hp)]; exact e1, r.up S g⟩
end

/-- a list by its number, read -/
def dr (st : Sto) : D → D
  | .ref n => match st[n]? with
    | some (.lst l) => .lst l
    | none => .ref n
  | d => d
def RepW (K : PySem.W.Frag) (I : Ids) (H : Hp) : D → V → Prop
  | .lst l, v => ∃ a xs, v = .ref a ∧ H a = some (.lst xs) ∧ Reps K I H l xs
  | d, v => Rep K I H d v
section
variable {K : PySem.W.Frag} {I I' : Ids} {H H' : Hp} {st st' : Sto}
theorem Rep.w {d : D} {v : V} (r : Rep K I H d v) : RepW K I H d v := by
  cases d with
  | lst l =>
    unfold Rep at r
    obtain ⟨a, xs, e, q, _, _, t⟩ := r
    exact ⟨a, xs, e, q, t⟩
  | _ => exact r
theorem Rep.dr (s : StOk K I H st) {d : D} {v : V} (r : Rep K I H d v) : RepW K I H (dr st d) v := by
  cases d with
  | ref n =>
    show RepW K I H (match st[n]? with | some (.lst l) => .lst l | none => .ref n) v
    cases q : st[n]? with
    | none => exact r
    | some o =>
      cases o with
      | lst l =>
        show RepW K I H (.lst l) v
        unfold Rep at r
        obtain ⟨a, h1, rfl⟩ := r
        obtain ⟨xs, e, t⟩ := s.ob n _ a q h1
        exact ⟨a, xs, rfl, e, t⟩
  | lst l => exact r.w
  | _ => exact r
theorem RepW.int {i : Int} {v : V} (h : RepW K I H (.int i) v) : v = .int i := h
theorem RepW.str {i : Str} {v : V} (h : RepW K I H (.str i) v) : v = .str i := h
theorem RepW.bl {i : Bool} {v : V} (h : RepW K I H (.bl i) v) : v = .bl i := h
theorem RepW.non {v : V} (h : RepW K I H .non v) : v = .non := h
theorem RepW.tup {l : List D} {v : V} (h : RepW K I H (.tup l) v) : ∃ a xs, v = .ref a ∧ SqT K H a xs ∧ Reps K I H l xs := by
  unfold RepW Rep at h; exact h
theorem RepW.lst {l : List D} {v : V} (h : RepW K I H (.lst l) v) : ∃ a xs, v = .ref a ∧ H a = some (.lst xs) ∧ Reps K I H l xs := h
theorem RepW.scr {l : List D} {v : V} (h : RepW K I H (.scr l) v) : ∃ a xs, v = .ref a ∧ SqF K H a xs ∧ Reps K I H l xs := by
  unfold RepW Rep at h; exact h
end

/-! ### names, constants -/
def eVar (i : Nat) : EM D := fun ρ st => match ρ[i]? with
  | some (some d) => some (d, st)
  | _ => none
def eC (d : D) : EM D := fun _ st => some (d, st)
section
variable {X : Cx}
theorem ex_var {e : Expr} {i : Nat} (h : PE X e (tVar i)) : PE X e (tX X.K (eVar i)) := by
  refine peImp h fun σ H Q hw => ?_
  obtain ⟨I, ρ, st, d, st', S, e, k⟩ := hw
  unfold eVar at e
  split at e
  · rename_i d' hd
    cases e
    obtain ⟨v, h1, h2⟩ := S.env.val i _ hd
    exact ⟨v, h1, k I H v (.refl I H) S.st h2⟩
  · cases e
theorem ex_const {e : Expr} {d : D} {v : V} (h : PE X e (tC v)) (r : ∀ I H, Rep X.K I H d v) : PE X e (tX X.K (eC d)) := by
  refine peImp h fun σ H Q hw => ?_
  obtain ⟨I, ρ, st, d', st', S, e, k⟩ := hw
  cases e
  exact k I H v (.refl I H) S.st (r I H)
theorem ex_int {i j pos} : PE X (.Constant (.int i) j pos) (tX X.K (eC (.int i))) := ex_const pe_int fun _ _ => by unfold Rep; rfl
theorem ex_bl {i j pos} : PE X (.Constant (.bool i) j pos) (tX X.K (eC (.bl i))) := ex_const pe_bl fun _ _ => by unfold Rep; rfl
theorem ex_non {j pos} : PE X (.Constant .none j pos) (tX X.K (eC .non)) := ex_const pe_non fun _ _ => by unfold Rep; rfl
theorem ex_str {i j pos} : PE X (.Constant (.str i) j pos) (tX X.K (eC (.str i))) := ex_const pe_str fun _ _ => by unfold Rep; rfl
/-- a module's constant -/
theorem ex_gint {x : Str} {i : Int} {t : Tok} {pos : Pos} (hg : Gl X x) (hm : X.mg x = some (.int i t)) (hd : (x == ("__debug__" : Str)) = false := by decide) : PE X (.Name x pos) (tX X.K (eC (.int i))) := ex_const (pe_glob (v := .int i) hg hm ⟨t, rfl⟩ hd) fun _ _ => by unfold Rep; rfl
theorem ex_gstr {x : Str} {i : Str} {t : Tok} {pos : Pos} (hg : Gl X x) (hm : X.mg x = some (.str i t)) (hd : (x == ("__debug__" : Str)) = false := by decide) : PE X (.Name x pos) (tX X.K (eC (.str i))) := ex_const (pe_glob (v := .str i) hg hm ⟨t, rfl⟩ hd) fun _ _ => by unfold Rep; rfl
end

/-! ### operators -/
def eBin (g : D → D → M D) (a b : EM D) : EM D := fun ρ st => (a ρ st).bind fun p => (b ρ p.2).bind fun q => g p.1 q.1 q.2
def eUn (g : D → M D) (a : EM D) : EM D := fun ρ st => (a ρ st).bind fun p => g p.1 p.2
def OpX (X : Cx) (f : Value → Value → Sem Value) (g : D → D → M D) : Prop := OpR X f (rX2 X.K g)
def UnX (X : Cx) (f : Value → Sem Value) (g : D → M D) : Prop := UnR X f (rX1 X.K g)
def CallX (X : Cx) (f : Value) (g : List D → M D) : Prop := CallR X f (rXs X.K g)
section
variable {X : Cx} {a b c : Expr} {ma mb mc : EM D} {g g' : D → D → M D} {pos : Pos}
theorem op_reads {σ : St} {H : Hp} {Q : VK} (h : tX X.K (eBin g ma mb) σ H Q) : tOp (rX2 X.K g) (tX X.K ma) (tX X.K mb) σ H Q := by
  obtain ⟨I, ρ, st, r, st', S, e, k⟩ := h
  unfold eBin at e
  obtain ⟨⟨d, s1⟩, e1, e⟩ := Option.bind_eq_some_iff.mp e
  obtain ⟨⟨d2, s2⟩, e2, e⟩ := Option.bind_eq_some_iff.mp e
  refine ⟨I, ρ, st, d, s1, S, e1, fun I1 H1 x g1 S1 r1 => ?_⟩
  refine ⟨I1, ρ, s1, d2, s2, S.grow g1 S1, e2, fun I2 H2 y g2 S2 r2 => ?_⟩
  exact ⟨I2, s2, d, d2, r, st', S2, r1.up S1 g2, r2, e, fun I3 H3 v g3 S3 r3 => k I3 H3 v ((g1.trans g2).trans g3) S3 r3⟩
theorem ex_bin {op : Operator} (ho : OpX X (binaryOp op) g) (ha : PE X a (tX X.K ma)) (hb : PE X b (tX X.K mb)) : PE X (.BinOp a op b pos) (tX X.K (eBin g ma mb)) :=
  peImp (pe_op ho ha hb) fun _ _ _ h => op_reads h
theorem ex_cmp {op : CmpOp} (ho : OpX X (compareOp op) g) (ha : PE X a (tX X.K ma)) (hb : PE X b (tX X.K mb)) (hm : behindInMarks op b = false) : PE X (.Compare a [op] [b] pos) (tX X.K (eBin g ma mb)) :=
  peImp (pe_cmpR ho ha hb hm) fun _ _ _ h => op_reads h
theorem ex_un {op : UnaryOp} {g : D → M D} (ho : UnX X (unaryOp op) g) (ha : PE X a (tX X.K ma)) : PE X (.UnaryOp op a pos) (tX X.K (eUn g ma)) := by
  refine peImp (pe_un ho ha) fun σ H Q h => ?_
  obtain ⟨I, ρ, st, r, st', S, e, k⟩ := h
  unfold eUn at e
  obtain ⟨⟨d, s1⟩, e1, e⟩ := Option.bind_eq_some_iff.mp e
  refine ⟨I, ρ, st, d, s1, S, e1, fun I1 H1 x g1 S1 r1 => ?_⟩
  exact ⟨I1, s1, d, r, st', S1, r1, e, fun I3 H3 v g3 S3 r3 => k I3 H3 v (g1.trans g3) S3 r3⟩

/-- a value's truth as a test's outcome -/
def eB (m : EM D) : EM Bool := fun ρ st => (m ρ st).bind fun p => match p.1 with
  | .bl b => some (b, p.2)
  | _ => none
theorem tB_reads {m : EM D} {σ : St} {H : Hp} {Q : Bool → Hp → Prop} (h : tXb X.K (eB m) σ H Q) : tX X.K m σ H fun x H1 => ∃ c, x = .bl c ∧ Q c H1 := by
  obtain ⟨I, ρ, st, r, st', S, e, k⟩ := h
  unfold eB at e
  obtain ⟨⟨d, s1⟩, e1, e⟩ := Option.bind_eq_some_iff.mp e
  refine ⟨I, ρ, st, d, s1, S, e1, fun I1 H1 x g1 S1 r1 => ?_⟩
  dsimp only at e
  split at e
  · cases e
    unfold Rep at r1
    exact ⟨_, r1, k I1 H1 g1 S1⟩
  · cases e
theorem tt_cmp {op : CmpOp} (ho : OpX X (compareOp op) g) (ha : PE X a (tX X.K ma)) (hb : PE X b (tX X.K mb)) (hm : behindInMarks op b = false) : PT X (.Compare a [op] [b] pos) (tXb X.K (eB (eBin g ma mb))) :=
  ptImp (pt_cmpR ho ha hb hm) fun σ H Q h => by
    obtain ⟨I, ρ, st, r, st', S, e, k⟩ := tB_reads h
    exact op_reads ⟨I, ρ, st, r, st', S, e, k⟩
theorem tt_val {e : Expr} {m : EM D} (h : PE X e (tX X.K m)) (he : ∀ whole, isTrue e X.env whole = (do let v ← whole; standAt e.pos; holding [v] (truthy v)) := by intro _; rfl) : PT X e (tXb X.K (eB m)) :=
  ptImp (pt_val h he) fun σ H Q h => tB_reads h
/-- a op b op' c -/
def eChain (g g' : D → D → M D) (a b c : EM D) : EM D := fun ρ st => (a ρ st).bind fun p => (b ρ p.2).bind fun q => (g p.1 q.1 q.2).bind fun r => match r.1 with
  | .bl true => (c ρ r.2).bind fun t => g' q.1 t.1 t.2
  | .bl false => some (.bl false, r.2)
  | _ => none
theorem ex_chain {op op' : CmpOp} (ho : OpX X (compareOp op) g) (ho' : OpX X (compareOp op') g') (ha : PE X a (tX X.K ma)) (hb : PE X b (tX X.K mb)) (hc : PE X c (tX X.K mc))
    (hm : lastMarks [op, op'] [b, c] = false) : PE X (.Compare a [op, op'] [b, c] pos) (tX X.K (eChain g g' ma mb mc)) := by
  refine peImp (pe_chain ho ho' ha hb hc (hm := hm)) fun σ H Q h => ?_
  obtain ⟨I, ρ, st, r, st', S, e, k⟩ := h
  unfold eChain at e
  obtain ⟨⟨d, s1⟩, e1, e⟩ := Option.bind_eq_some_iff.mp e
  obtain ⟨⟨d2, s2⟩, e2, e⟩ := Option.bind_eq_some_iff.mp e
  obtain ⟨⟨d3, s3⟩, e3, e⟩ := Option.bind_eq_some_iff.mp e
  refine ⟨I, ρ, st, d, s1, S, e1, fun I1 H1 x g1 S1 r1 => ?_⟩
  refine ⟨I1, ρ, s1, d2, s2, S.grow g1 S1, e2, fun I2 H2 y g2 S2 r2 => ?_⟩
  refine ⟨I2, s2, d, d2, d3, s3, S2, r1.up S1 g2, r2, e3, fun I3 H3 v g3 S3 r3 => ?_⟩
  dsimp only at e
  have g123 := (g1.trans g2).trans g3
  split at e
  · unfold Rep at r3
    refine ⟨true, r3, ?_⟩
    rw [if_pos rfl]
    obtain ⟨⟨d4, s4⟩, e4, e⟩ := Option.bind_eq_some_iff.mp e
    refine ⟨I3, ρ, s3, d4, s4, S.grow g123 S3, e4, fun I4 H4 z g4 S4 r4 => ?_⟩
    exact ⟨I4, s4, d2, d4, r, st', S4, (r2.up S2 g3).up S3 g4, r4, e, fun I5 H5 w g5 S5 r5 => k I5 H5 w ((g123.trans g4).trans g5) S5 r5⟩
  · unfold Rep at r3
    refine ⟨false, r3, ?_⟩
    rw [if_neg Bool.false_ne_true]
    cases e
    exact k I3 H3 _ g123 S3 (by unfold Rep; rfl)
  · cases e
end
end DL


set_option Elab.async false
set_option linter.all false
set_option maxRecDepth 100000
set_option maxHeartbeats 4000000
namespace DL
open PySem L2

/-! ### and, or, not, if else -/
def eAnd (a b : EM D) : EM D := fun ρ st => (a ρ st).bind fun p => match p.1 with
  | .bl true => b ρ p.2
  | .bl false => some (.bl false, p.2)
  | _ => none
def eOr (a b : EM D) : EM D := fun ρ st => (a ρ st).bind fun p => match p.1 with
  | .bl true => some (.bl true, p.2)
  | .bl false => b ρ p.2
  | _ => none
def eNot (a : EM D) : EM D := fun ρ st => (a ρ st).bind fun p => match p.1 with
  | .bl c => some (.bl (!c), p.2)
  | _ => none
def bAnd (a b : EM Bool) : EM Bool := fun ρ st => (a ρ st).bind fun p => match p.1 with
  | true => b ρ p.2
  | false => some (false, p.2)
def bOr (a b : EM Bool) : EM Bool := fun ρ st => (a ρ st).bind fun p => match p.1 with
  | true => some (true, p.2)
  | false => b ρ p.2
def bNot (a : EM Bool) : EM Bool := fun ρ st => (a ρ st).bind fun p => some (!p.1, p.2)
def eIf (c : EM Bool) (a b : EM D) : EM D := fun ρ st => (c ρ st).bind fun p => match p.1 with
  | true => a ρ p.2
  | false => b ρ p.2
section
variable {X : Cx} {a b c : Expr} {ma mb mc : EM D} {ba bb bc : EM Bool} {pos : Pos} {rest : List Expr}
theorem ex_one {op} (h : PE X a (tX X.K ma)) : PE X (.BoolOp op [a] pos) (tX X.K ma) := pe_one h
theorem ex_and (ha : PE X a (tX X.K ma)) (hb : PE X (.BoolOp .And (b :: rest) pos) (tX X.K mb)) : PE X (.BoolOp .And (a :: b :: rest) pos) (tX X.K (eAnd ma mb)) := by
  refine peImp (pe_and ha hb) fun σ H Q h => ?_
  obtain ⟨I, ρ, st, r, st', S, e, k⟩ := h
  unfold eAnd at e
  obtain ⟨⟨d, s1⟩, e1, e⟩ := Option.bind_eq_some_iff.mp e
  refine ⟨I, ρ, st, d, s1, S, e1, fun I1 H1 x g1 S1 r1 => ?_⟩
  dsimp only at e
  split at e
  · unfold Rep at r1
    refine ⟨true, r1, ?_⟩
    rw [if_pos rfl]
    exact ⟨I1, ρ, s1, r, st', S.grow g1 S1, e, fun I2 H2 y g2 S2 r2 => k I2 H2 y (g1.trans g2) S2 r2⟩
  · unfold Rep at r1
    refine ⟨false, r1, ?_⟩
    rw [if_neg Bool.false_ne_true]
    cases e
    exact k I1 H1 _ g1 S1 (by unfold Rep; rfl)
  · cases e
theorem ex_or (ha : PE X a (tX X.K ma)) (hb : PE X (.BoolOp .Or (b :: rest) pos) (tX X.K mb)) : PE X (.BoolOp .Or (a :: b :: rest) pos) (tX X.K (eOr ma mb)) := by
  refine peImp (pe_or ha hb) fun σ H Q h => ?_
  obtain ⟨I, ρ, st, r, st', S, e, k⟩ := h
  unfold eOr at e
  obtain ⟨⟨d, s1⟩, e1, e⟩ := Option.bind_eq_some_iff.mp e
  refine ⟨I, ρ, st, d, s1, S, e1, fun I1 H1 x g1 S1 r1 => ?_⟩
  dsimp only at e
  split at e
  · unfold Rep at r1
    refine ⟨true, r1, ?_⟩
    rw [if_pos rfl]
    cases e
    exact k I1 H1 _ g1 S1 (by unfold Rep; rfl)
  · unfold Rep at r1
    refine ⟨false, r1, ?_⟩
    rw [if_neg Bool.false_ne_true]
    exact ⟨I1, ρ, s1, r, st', S.grow g1 S1, e, fun I2 H2 y g2 S2 r2 => k I2 H2 y (g1.trans g2) S2 r2⟩
  · cases e
theorem ex_not (ha : PE X a (tX X.K ma)) : PE X (.UnaryOp .Not a pos) (tX X.K (eNot ma)) := by
  refine peImp (pe_not ha) fun σ H Q h => ?_
  obtain ⟨I, ρ, st, r, st', S, e, k⟩ := h
  unfold eNot at e
  obtain ⟨⟨d, s1⟩, e1, e⟩ := Option.bind_eq_some_iff.mp e
  refine ⟨I, ρ, st, d, s1, S, e1, fun I1 H1 x g1 S1 r1 => ?_⟩
  dsimp only at e
  split at e
  · unfold Rep at r1
    cases e
    exact ⟨_, r1, k I1 H1 _ g1 S1 (by unfold Rep; rfl)⟩
  · cases e
theorem ex_if (hc : PT X c (tXb X.K bc)) (ha : PE X a (tX X.K ma)) (hb : PE X b (tX X.K mb)) : PE X (.IfExp c a b pos) (tX X.K (eIf bc ma mb)) := by
  refine peImp (pe_ifExp hc ha hb) fun σ H Q h => ?_
  obtain ⟨I, ρ, st, r, st', S, e, k⟩ := h
  unfold eIf at e
  obtain ⟨⟨d, s1⟩, e1, e⟩ := Option.bind_eq_some_iff.mp e
  refine ⟨I, ρ, st, d, s1, S, e1, fun I1 H1 g1 S1 => ?_⟩
  cases d with
  | true =>
    rw [if_pos rfl]
    exact ⟨I1, ρ, s1, r, st', S.grow g1 S1, e, fun I2 H2 y g2 S2 r2 => k I2 H2 y (g1.trans g2) S2 r2⟩
  | false =>
    rw [if_neg Bool.false_ne_true]
    exact ⟨I1, ρ, s1, r, st', S.grow g1 S1, e, fun I2 H2 y g2 S2 r2 => k I2 H2 y (g1.trans g2) S2 r2⟩
theorem tt_and1 (ha : PT X a (tXb X.K ba)) : PW X (.BoolOp .And [a] pos) (tXb X.K ba) := pw_and1 ha
theorem tt_or1 (ha : PT X a (tXb X.K ba)) : PW X (.BoolOp .Or [a] pos) (tXb X.K ba) := pw_or1 ha
theorem tt_and (ha : PT X a (tXb X.K ba)) (hb : PW X (.BoolOp .And (b :: rest) pos) (tXb X.K bb)) : PW X (.BoolOp .And (a :: b :: rest) pos) (tXb X.K (bAnd ba bb)) := by
  refine pwImp (pw_and ha hb) fun σ H Q h => ?_
  obtain ⟨I, ρ, st, r, st', S, e, k⟩ := h
  unfold bAnd at e
  obtain ⟨⟨d, s1⟩, e1, e⟩ := Option.bind_eq_some_iff.mp e
  refine ⟨I, ρ, st, d, s1, S, e1, fun I1 H1 g1 S1 => ?_⟩
  cases d with
  | true =>
    rw [if_pos rfl]
    exact ⟨I1, ρ, s1, r, st', S.grow g1 S1, e, fun I2 H2 g2 S2 => k I2 H2 (g1.trans g2) S2⟩
  | false =>
    rw [if_neg Bool.false_ne_true]
    cases e
    exact k I1 H1 g1 S1
theorem tt_or (ha : PT X a (tXb X.K ba)) (hb : PW X (.BoolOp .Or (b :: rest) pos) (tXb X.K bb)) : PW X (.BoolOp .Or (a :: b :: rest) pos) (tXb X.K (bOr ba bb)) := by
  refine pwImp (pw_or ha hb) fun σ H Q h => ?_
  obtain ⟨I, ρ, st, r, st', S, e, k⟩ := h
  unfold bOr at e
  obtain ⟨⟨d, s1⟩, e1, e⟩ := Option.bind_eq_some_iff.mp e
  refine ⟨I, ρ, st, d, s1, S, e1, fun I1 H1 g1 S1 => ?_⟩
  cases d with
  | false =>
    rw [if_neg Bool.false_ne_true]
    exact ⟨I1, ρ, s1, r, st', S.grow g1 S1, e, fun I2 H2 g2 S2 => k I2 H2 (g1.trans g2) S2⟩
  | true =>
    rw [if_pos rfl]
    cases e
    exact k I1 H1 g1 S1
theorem tt_not (ha : PT X a (tXb X.K ba)) : PT X (.UnaryOp .Not a pos) (tXb X.K (bNot ba)) := by
  refine ptImp (pt_not ha) fun σ H Q h => ?_
  obtain ⟨I, ρ, st, r, st', S, e, k⟩ := h
  unfold bNot at e
  obtain ⟨⟨d, s1⟩, e1, e⟩ := Option.bind_eq_some_iff.mp e
  cases e
  exact ⟨I, ρ, st, d, _, S, e1, fun I1 H1 g1 S1 => k I1 H1 g1 S1⟩
end

/-! ### argument lists, displays -/
def aNil : EM (List D) := fun _ st => some ([], st)
def aCons (a : EM D) (r : EM (List D)) : EM (List D) := fun ρ st => (a ρ st).bind fun p => (r ρ p.2).bind fun q => some (p.1 :: q.1, q.2)
def eTup (m : EM (List D)) : EM D := fun ρ st => (m ρ st).bind fun p => if p.1.length ≤ sizeLine then some (.tup p.1, p.2) else none
def cLst (m : EM (List D)) : EM (List D) := fun ρ st => (m ρ st).bind fun p => if p.1.length ≤ sizeLine then some (p.1, p.2) else none
/-- a new list, of these items: nothing else speaks of it -/
def tN (K : PySem.W.Frag) (m : EM (List D)) : TE := fun σ H Q => ∃ I ρ st l st', Sit K I H ρ σ st ∧ m ρ st = some (l, st') ∧
  ∀ I' H' a xs, Grow I H I' H' → StOk K I' H' st' → H a = none → a ∈ I'.ban → H' a = some (.lst xs) → Reps K I' H' l xs → Q (.ref a) H'
/-- a new list that nobody changes; one that has a number -/
def eFz (m : EM (List D)) : EM D := fun ρ st => (m ρ st).bind fun p => some (.lst p.1, p.2)
def eNw (m : EM (List D)) : EM D := fun ρ st => (m ρ st).bind fun p => some (.ref p.2.length, p.2 ++ [.lst p.1])
def eCall (g : List D → M D) (m : EM (List D)) : EM D := fun ρ st => (m ρ st).bind fun p => g p.1 p.2
section
variable {X : Cx} {e : Expr} {es : List Expr} {m : EM D} {ms : EM (List D)} {pos : Pos}
theorem fz_reads {σ : St} {H : Hp} {Q : VK} (h : tX X.K (eFz ms) σ H Q) : tN X.K ms σ H Q := by
  obtain ⟨I, ρ, st, r, st', S, e, k⟩ := h
  unfold eFz at e
  obtain ⟨⟨l, s1⟩, e1, e⟩ := Option.bind_eq_some_iff.mp e
  cases e
  refine ⟨I, ρ, st, l, _, S, e1, fun I' H' a xs g S' h0 hb h1 r => ?_⟩
  have hs := g.subBan
  refine k ⟨I'.ids, I.ban⟩ H' _ ⟨⟨[], by simp, by simp⟩, g.ext, g.keep, g.there⟩ (S'.free hs) ?_
  unfold Rep
  exact ⟨a, xs, rfl, h1, (S'.bn a hb).1, (S.st.nin h0).2, r.free hs⟩
theorem nw_reads {σ : St} {H : Hp} {Q : VK} (h : tX X.K (eNw ms) σ H Q) : tN X.K ms σ H Q := by
  obtain ⟨I, ρ, st, r, st', S, e, k⟩ := h
  unfold eNw at e
  obtain ⟨⟨l, s1⟩, e1, e⟩ := Option.bind_eq_some_iff.mp e
  cases e
  refine ⟨I, ρ, st, l, _, S, e1, fun I' H' a xs g S' h0 hb h1 r => ?_⟩
  have hs := g.subBan
  have g2 : Grow I H ⟨I'.ids ++ [a], I.ban⟩ H' := by
    obtain ⟨more, e, f⟩ := g.ext
    refine ⟨⟨[], by simp, by simp⟩, ⟨more ++ [a], by rw [e, List.append_assoc], fun b hb => ?_⟩, g.keep, g.there⟩
    rcases List.mem_append.mp hb with z | z
    · exact f b z
    · rw [List.mem_singleton.mp z]; exact h0
  have na := (S'.bn a hb).1
  refine k _ H' _ g2 ⟨?_, ?_, fun b hb' => ?_, fun b hb' => ⟨fun z => ?_, ?_⟩, fun n o b e1 e2 => ?_⟩ ?_
  · rw [List.length_append, List.length_append, S'.len]; rfl
  · exact List.nodup_append.mpr ⟨S'.nd, by simp, fun b hb' c hc => by rw [List.mem_singleton.mp hc]; exact fun z => na (z ▸ hb')⟩
  · rcases List.mem_append.mp hb' with z | z
    · exact S'.mu b z
    · rw [List.mem_singleton.mp z]; exact ⟨_, h1, trivial⟩
  · rcases List.mem_append.mp z with z | z
    · exact (S'.bn b (hs b hb')).1 z
    · exact (S.st.nin h0).2 (by rw [← List.mem_singleton.mp z]; exact hb')
  · exact (S'.bn b (hs b hb')).2
  · by_cases hn : n < s1.length
    · rw [List.getElem?_append_left hn] at e1
      rw [List.getElem?_append_left (by rw [S'.len]; exact hn)] at e2
      have q := S'.ob n o b e1 e2
      cases o with
      | lst l =>
        obtain ⟨zs, e3, rr⟩ := q
        exact ⟨zs, e3, rr.number hb hs⟩
    · have hn2 : n = s1.length := by
        have := (List.getElem?_eq_some_iff.mp e1).1
        rw [List.length_append] at this
        simp at this
        omega
      subst hn2
      have e3 : o = .lst l := by
        rw [List.getElem?_append_right (Nat.le_refl _)] at e1
        simpa using e1.symm
      have e4 : b = a := by
        rw [← S'.len, List.getElem?_append_right (Nat.le_refl _)] at e2
        simpa using e2.symm
      subst e3; subst e4
      exact ⟨xs, h1, r.number hb hs⟩
  · unfold Rep
    exact ⟨a, by rw [← S'.len, List.getElem?_append_right (Nat.le_refl _)]; simp, rfl⟩
theorem ex_fz (h : PE X e (tN X.K ms)) : PE X e (tX X.K (eFz ms)) := peImp h fun _ _ _ h => fz_reads h
theorem ex_nw (h : PE X e (tN X.K ms)) : PE X e (tX X.K (eNw ms)) := peImp h fun _ _ _ h => nw_reads h
theorem xa_nil : PA X [] (tXs X.K aNil) := paImp pa_nil fun σ H Q h => by
  obtain ⟨I, ρ, st, r, st', S, e, k⟩ := h
  cases e
  exact k I H [] (.refl I H) S.st Reps.nil
theorem xa_cons (ha : PE X e (tX X.K m)) (hr : PA X es (tXs X.K ms)) (hs : starEach (e :: es) X.env = (false, eval e X.env) :: starEach es X.env := by rfl) : PA X (e :: es) (tXs X.K (aCons m ms)) := by
  refine paImp (pa_cons ha hr hs) fun σ H Q h => ?_
  obtain ⟨I, ρ, st, r, st', S, e, k⟩ := h
  unfold aCons at e
  obtain ⟨⟨d, s1⟩, e1, e⟩ := Option.bind_eq_some_iff.mp e
  obtain ⟨⟨d2, s2⟩, e2, e⟩ := Option.bind_eq_some_iff.mp e
  cases e
  refine ⟨I, ρ, st, d, s1, S, e1, fun I1 H1 x g1 S1 r1 => ?_⟩
  exact ⟨I1, ρ, s1, d2, _, S.grow g1 S1, e2, fun I2 H2 y g2 S2 r2 => k I2 H2 _ (g1.trans g2) S2 (.cons (r1.up S1 g2) r2)⟩
theorem ex_tup {x1} (h : PA X es (tXs X.K ms)) : PE X (.Tuple es x1 pos) (tX X.K (eTup ms)) := by
  refine peImp (pe_tup h) fun σ H Q h => ?_
  obtain ⟨I, ρ, st, r, st', S, e, k⟩ := h
  unfold eTup at e
  obtain ⟨⟨d, s1⟩, e1, e⟩ := Option.bind_eq_some_iff.mp e
  dsimp only at e
  split at e
  · rename_i hz
    cases e
    refine ⟨I, ρ, st, d, _, S, e1, fun I1 H1 xs g1 S1 r1 => ⟨by rw [← r1.length]; exact hz, fun p hp => ?_⟩⟩
    exact k I1 _ _ (g1.trans (.new hp)) (S1.new hp) (.newTup S1 hp r1)
  · cases e
theorem xn_lst (h : PA X es (tXs X.K ms)) : PE X (.List es pos) (tN X.K (cLst ms)) := by
  refine peImp (pe_lst h) fun σ H Q h => ?_
  obtain ⟨I, ρ, st, r, st', S, e, k⟩ := h
  unfold cLst at e
  obtain ⟨⟨d, s1⟩, e1, e⟩ := Option.bind_eq_some_iff.mp e
  dsimp only at e
  split at e
  · rename_i hz
    cases e
    refine ⟨I, ρ, st, _, _, S, e1, fun I1 H1 xs g1 S1 r1 => ⟨by rw [← r1.length]; exact hz, fun p hp => ?_⟩⟩
    obtain ⟨g2, S2⟩ := S1.hide (xs := xs) hp
    exact k _ _ p xs (g1.trans g2) S2 (g1.none_of hp) List.mem_cons_self upd_same (r1.up S1 g2)
  · cases e
theorem call_reads {g : List D → M D} {σ : St} {H : Hp} {Q : VK} (h : tX X.K (eCall g ms) σ H Q) : tCB (rXs X.K g) (tXs X.K ms) σ H Q := by
  obtain ⟨I, ρ, st, r, st', S, e, k⟩ := h
  unfold eCall at e
  obtain ⟨⟨d, s1⟩, e1, e⟩ := Option.bind_eq_some_iff.mp e
  refine ⟨I, ρ, st, d, s1, S, e1, fun I1 H1 xs g1 S1 r1 => ?_⟩
  exact ⟨I1, s1, d, r, st', S1, r1, e, fun I2 H2 v g2 S2 r2 => k I2 H2 v (g1.trans g2) S2 r2⟩
theorem ex_callB {g : List D → M D} {id : String} {x : Str} {p : Pos} (hc : CallX X (.builtin id) g) (hg : Gl X x) (hm : X.mg x = none) (hv : bootBuiltins x = some (.builtin id)) (ha : PA X (e :: es) (tXs X.K ms)) (hn : x ≠ "__name__" := by decide) (hdb : (x == ("__debug__" : Str)) = false := by decide)
    (he : starEach (e :: es) X.env = (false, eval e X.env) :: starEach es X.env := by rfl) (hpl : (backTo pos (starEach es X.env)).any (·.1) = false := by rfl) : PE X (.Call (.Name x p) (e :: es) [] pos) (tX X.K (eCall g ms)) :=
  peImp (pe_callB hc hg hm hv ha hn hdb he hpl) fun _ _ _ h => call_reads h
theorem ex_callTy {g : List D → M D} {T : String} {x : Str} {p : Pos} (hc : CallX X (.type T) g) (hg : Gl X x) (hm : X.mg x = none) (hv : bootBuiltins x = some (.type T)) (ha : PA X (e :: es) (tXs X.K ms)) (hn : x ≠ "__name__" := by decide) (hdb : (x == ("__debug__" : Str)) = false := by decide)
    (he : starEach (e :: es) X.env = (false, eval e X.env) :: starEach es X.env := by rfl) (hpl : (backTo pos (starEach es X.env)).any (·.1) = false := by rfl) : PE X (.Call (.Name x p) (e :: es) [] pos) (tX X.K (eCall g ms)) :=
  peImp (pe_callTy hc hg hm hv ha hn hdb he hpl) fun _ _ _ h => call_reads h
/-- o[i], by a rule on values -/
theorem ex_ix {a b : Expr} {ma mb : EM D} {g : D → D → M D} (hr : IxR X (rX2 X.K g)) (ha : PE X a (tX X.K ma)) (hb : PE X b (tX X.K mb)) (hs : PlainIx b) : PE X (.Subscript a b pos) (tX X.K (eBin g ma mb)) :=
  peImp (pe_ix hr ha hb hs) fun _ _ _ h => op_reads h
end

/-! ### slices -/
def oNone : EM (Option Int) := fun _ st => some (none, st)
def oSome (m : EM D) : EM (Option Int) := fun ρ st => (m ρ st).bind fun p => match p.1 with
  | .int i => some (some i, p.2)
  | _ => none
def tXo (K : PySem.W.Frag) (m : EM (Option Int)) : TO := fun σ H Q => ∃ I ρ st b st', Sit K I H ρ σ st ∧ m ρ st = some (b, st') ∧
  ∀ I' H', Grow I H I' H' → StOk K I' H' st' → Q b H'
def eSl (g : D → Option Int → Option Int → M D) (a : EM D) (lo hi : EM (Option Int)) : EM D := fun ρ st => (a ρ st).bind fun p => (lo ρ p.2).bind fun q => (hi ρ q.2).bind fun r => g p.1 q.1 r.1 r.2
def rXsl (K : PySem.W.Frag) (g : D → Option Int → Option Int → M D) : V → Option Int → Option Int → Hp → VK → Prop := fun x lo hi H Q => ∃ I st d r st', StOk K I H st ∧ Rep K I H d x ∧ g d lo hi st = some (r, st') ∧
  ∀ I' H' v, Grow I H I' H' → StOk K I' H' st' → Rep K I' H' r v → Q v H'
section
variable {X : Cx} {e : Expr} {m : EM D} {pos : Pos}
theorem xo_none : PO X none (tXo X.K oNone) := ⟨fun pins s σ H Q I h => po_none.run pins s σ H Q I (by
  obtain ⟨Id, ρ, st, r, st', S, e, k⟩ := h
  cases e
  exact k Id H (.refl Id H) S.st)⟩
theorem xo_some (he : PE X e (tX X.K m)) : PO X (some e) (tXo X.K (oSome m)) := ⟨fun pins s σ H Q I h => (po_some he).run pins s σ H Q I (by
  obtain ⟨Id, ρ, st, r, st', S, e, k⟩ := h
  unfold oSome at e
  obtain ⟨⟨d, s1⟩, e1, e⟩ := Option.bind_eq_some_iff.mp e
  refine ⟨Id, ρ, st, d, s1, S, e1, fun I1 H1 x g1 S1 r1 => ?_⟩
  dsimp only at e
  split at e
  · cases e
    unfold Rep at r1
    exact ⟨_, r1, k I1 H1 g1 S1⟩
  · cases e)⟩
theorem ex_slice {g : D → Option Int → Option Int → M D} {lo hi : Option Expr} {ml mh : EM (Option Int)} {p2 : Pos} (hr : SlR X (rXsl X.K g)) (he : PE X e (tX X.K m)) (hl : PO X lo (tXo X.K ml)) (hu : PO X hi (tXo X.K mh)) : PE X (.Subscript e (.Slice lo hi none p2) pos) (tX X.K (eSl g m ml mh)) := by
  refine peImp (pe_slice hr he hl hu) fun σ H Q h => ?_
  obtain ⟨I, ρ, st, r, st', S, e, k⟩ := h
  unfold eSl at e
  obtain ⟨⟨d, s1⟩, e1, e⟩ := Option.bind_eq_some_iff.mp e
  obtain ⟨⟨l, s2⟩, e2, e⟩ := Option.bind_eq_some_iff.mp e
  obtain ⟨⟨u, s3⟩, e3, e⟩ := Option.bind_eq_some_iff.mp e
  refine ⟨I, ρ, st, d, s1, S, e1, fun I1 H1 x g1 S1 r1 => ?_⟩
  refine ⟨I1, ρ, s1, l, s2, S.grow g1 S1, e2, fun I2 H2 g2 S2 => ?_⟩
  refine ⟨I2, ρ, s2, u, s3, S.grow (g1.trans g2) S2, e3, fun I3 H3 g3 S3 => ?_⟩
  exact ⟨I3, s3, d, r, st', S3, (r1.up S1 g2).up S2 g3, e, fun I4 H4 v g4 S4 r4 => k I4 H4 v (((g1.trans g2).trans g3).trans g4) S4 r4⟩
end

/-! ### statements -/
inductive Fl where
  | nx (ρ : En) | rt (d : D) | bk (ρ : En) | ct (ρ : En)
def After (K : PySem.W.Frag) (I : Ids) (H : Hp) (Z : Ends) : Fl → Prop
  | .nx ρ => ∀ σ, EnvRep K I H ρ σ → Z.nx σ H
  | .bk ρ => ∀ σ, EnvRep K I H ρ σ → Z.bk σ H
  | .ct ρ => ∀ σ, EnvRep K I H ρ σ → Z.ct σ H
  | .rt d => ∀ v, Rep K I H d v → Z.rt v H
abbrev SM := En → M Fl
def tSx (K : PySem.W.Frag) (m : SM) : TS := fun Z σ H => ∃ I ρ st f st', Sit K I H ρ σ st ∧ m ρ st = some (f, st') ∧
  ∀ I' H', Grow I H I' H' → StOk K I' H' st' → After K I' H' Z f
def sNx : SM := fun ρ st => some (.nx ρ, st)
def sBk : SM := fun ρ st => some (.bk ρ, st)
def sCt : SM := fun ρ st => some (.ct ρ, st)
def sSq (a b : SM) : SM := fun ρ st => (a ρ st).bind fun p => match p.1 with
  | .nx ρ' => b ρ' p.2
  | f => some (f, p.2)
def sRt (m : EM D) : SM := fun ρ st => (m ρ st).bind fun p => some (.rt p.1, p.2)
def sRtN : SM := fun _ st => some (.rt .non, st)
def sEx (m : EM D) : SM := fun ρ st => (m ρ st).bind fun p => some (.nx ρ, p.2)
def sIf (c : EM Bool) (a b : SM) : SM := fun ρ st => (c ρ st).bind fun p => match p.1 with
  | true => a ρ p.2
  | false => b ρ p.2
def sNo : SM := fun _ _ => none
section
variable {X : Cx} {s : Stmt} {rest a b : List Stmt} {m m' : SM} {e c : Expr} {me : EM D} {mc : EM Bool} {pos : Pos}
theorem xs_nil : PSs X [] (tSx X.K sNx) := pssImp pss_nil fun Z σ H h => by
  obtain ⟨I, ρ, st, f, st', S, e, k⟩ := h
  cases e
  exact k I H (.refl I H) S.st σ S.env
theorem xs_pass : PS X (.Pass pos) (tSx X.K sNx) := psImp ps_pass fun Z σ H h => by
  obtain ⟨I, ρ, st, f, st', S, e, k⟩ := h
  cases e
  exact k I H (.refl I H) S.st σ S.env
theorem xs_break : PS X (.Break pos) (tSx X.K sBk) := psImp ps_break fun Z σ H h => by
  obtain ⟨I, ρ, st, f, st', S, e, k⟩ := h
  cases e
  exact k I H (.refl I H) S.st σ S.env
theorem xs_continue : PS X (.Continue pos) (tSx X.K sCt) := psImp ps_continue fun Z σ H h => by
  obtain ⟨I, ρ, st, f, st', S, e, k⟩ := h
  cases e
  exact k I H (.refl I H) S.st σ S.env
theorem xs_no : PS X s (tSx X.K sNo) := psImp ps_never fun Z σ H h => by
  obtain ⟨I, ρ, st, f, st', S, e, k⟩ := h
  cases e
theorem After.goes {K : PySem.W.Frag} {I I' : Ids} {H H' : Hp} {Z Z' : Ends} {f : Fl} (h : After K I H Z f) (hf : ∀ ρ, f ≠ .nx ρ) (h2 : Z'.rt = Z.rt) (h3 : Z'.bk = Z.bk) (h4 : Z'.ct = Z.ct) : After K I H Z' f := by
  cases f with
  | nx ρ => exact absurd rfl (hf ρ)
  | rt d => intro v r; rw [h2]; exact h v r
  | bk ρ => intro σ r; rw [h3]; exact h σ r
  | ct ρ => intro σ r; rw [h4]; exact h σ r
theorem xs_one (h : PS X s (tSx X.K m)) : PSs X [s] (tSx X.K m) := pss_one h
theorem xs_cons (h1 : PS X s (tSx X.K m)) (h2 : PSs X rest (tSx X.K m')) : PSs X (s :: rest) (tSx X.K (sSq m m')) := by
  refine pssImp (pss_cons h1 h2) fun Z σ H h => ?_
  obtain ⟨I, ρ, st, f, st', S, e, k⟩ := h
  unfold sSq at e
  obtain ⟨⟨f1, s1⟩, e1, e⟩ := Option.bind_eq_some_iff.mp e
  refine ⟨I, ρ, st, f1, s1, S, e1, fun I1 H1 g1 S1 => ?_⟩
  cases f1 with
  | nx ρ1 =>
    intro σ1 r1
    exact ⟨I1, ρ1, s1, f, st', ⟨S1, r1⟩, e, fun I2 H2 g2 S2 => k I2 H2 (g1.trans g2) S2⟩
  | rt d => cases e; exact k I1 H1 g1 S1
  | bk d => cases e; exact k I1 H1 g1 S1
  | ct d => cases e; exact k I1 H1 g1 S1
theorem xs_ret (he : PE X e (tX X.K me)) : PS X (.Return (some e) pos) (tSx X.K (sRt me)) := by
  refine psImp (ps_ret he) fun Z σ H h => ?_
  obtain ⟨I, ρ, st, f, st', S, e, k⟩ := h
  unfold sRt at e
  obtain ⟨⟨d, s1⟩, e1, e⟩ := Option.bind_eq_some_iff.mp e
  cases e
  exact ⟨I, ρ, st, d, _, S, e1, fun I1 H1 v g1 S1 r1 => k I1 H1 g1 S1 v r1⟩
theorem xs_retN : PS X (.Return none pos) (tSx X.K sRtN) := by
  refine psImp ps_retN fun Z σ H h => ?_
  obtain ⟨I, ρ, st, f, st', S, e, k⟩ := h
  cases e
  exact k I H (.refl I H) S.st _ (by unfold Rep; rfl)
theorem xs_expr (he : PE X e (tX X.K me)) (hs : swapsWith e none pos.line X.env = pure false := by rfl) : PS X (.Expr e pos) (tSx X.K (sEx me)) := by
  refine psImp (ps_expr he hs) fun Z σ H h => ?_
  obtain ⟨I, ρ, st, f, st', S, e, k⟩ := h
  unfold sEx at e
  obtain ⟨⟨d, s1⟩, e1, e⟩ := Option.bind_eq_some_iff.mp e
  cases e
  exact ⟨I, ρ, st, d, _, S, e1, fun I1 H1 v g1 S1 r1 => k I1 H1 g1 S1 σ (S.grow g1 S1).env⟩
theorem xs_if (hc : PT X c (tXb X.K mc)) (ha : PSs X a (tSx X.K m)) (hb : PSs X b (tSx X.K m')) : PS X (.If c a b pos) (tSx X.K (sIf mc m m')) := by
  refine psImp (ps_if hc ha hb) fun Z σ H h => ?_
  obtain ⟨I, ρ, st, f, st', S, e, k⟩ := h
  unfold sIf at e
  obtain ⟨⟨d, s1⟩, e1, e⟩ := Option.bind_eq_some_iff.mp e
  refine ⟨I, ρ, st, d, s1, S, e1, fun I1 H1 g1 S1 => ?_⟩
  cases d with
  | true =>
    rw [if_pos rfl]
    exact ⟨I1, ρ, s1, f, st', S.grow g1 S1, e, fun I2 H2 g2 S2 => k I2 H2 (g1.trans g2) S2⟩
  | false =>
    rw [if_neg Bool.false_ne_true]
    exact ⟨I1, ρ, s1, f, st', S.grow g1 S1, e, fun I2 H2 g2 S2 => k I2 H2 (g1.trans g2) S2⟩
end

/-! ### targets -/
abbrev BM := D → En → M En
def tG (K : PySem.W.Frag) (vs : List Nat) (g : BM) : TG := fun v σ H Q => ∃ I ρ st d ρ' st', Sit K I H ρ σ st ∧ Rep K I H d v ∧ g d ρ st = some (ρ', st') ∧
  ∀ I' H' σ', Grow I H I' H' → StOk K I' H' st' → EnvRep K I' H' ρ' σ' → (∀ us : List Nat, (∀ i ∈ vs, i ∈ us) → wipe σ' us = wipe σ us) → Q σ' H'
def tGs (K : PySem.W.Frag) (vs : List Nat) (g : List D → En → M En) : TGs := fun ws σ H Q => ∃ I ρ st d ρ' st', Sit K I H ρ σ st ∧ Reps K I H d ws ∧ g d ρ st = some (ρ', st') ∧
  ∀ I' H' σ', Grow I H I' H' → StOk K I' H' st' → EnvRep K I' H' ρ' σ' → (∀ us : List Nat, (∀ i ∈ vs, i ∈ us) → wipe σ' us = wipe σ us) → Q σ' H'
def bNm (i : Nat) : BM := fun d ρ st => some (ρ.set i (some d), st)
def bNil : List D → En → M En := fun ds ρ st => match ds with
  | [] => some (ρ, st)
  | _ => none
def bCons (g : BM) (h : List D → En → M En) : List D → En → M En := fun ds ρ st => match ds with
  | d :: r => (g d ρ st).bind fun p => h r p.1 p.2
  | [] => none
/-- a, b, .. = a tuple or a list -/
def bSeq (n : Nat) (h : List D → En → M En) : BM := fun d ρ st => match dr st d with
  | .tup l => if l.length = n then h l ρ st else none
  | .lst l => if l.length = n then h l ρ st else none
  | _ => none
theorem wipe_set {σ : St} {i : Nat} {y : Option V} : ∀ {us : List Nat}, i ∈ us → wipe (σ.set i y) us = wipe σ us
  | u :: us, h => by
    unfold wipe
    by_cases e : i ∈ us
    · rw [wipe_set e]
    · have e2 : i = u := by
        rcases List.mem_cons.mp h with z | z
        · exact z
        · exact absurd z e
      subst e2
      have key : ∀ (us : List Nat), (wipe (σ.set i y) us).set i none = (wipe σ us).set i none := by
        intro us
        induction us with
        | nil => exact List.set_set ..
        | cons v vs ih =>
          show ((wipe (σ.set i y) vs).set v none).set i none = ((wipe σ vs).set v none).set i none
          by_cases q : v = i
          · subst q; rw [List.set_set, List.set_set]; exact ih
          · rw [List.set_comm _ _ q, List.set_comm _ _ q, ih]
      exact key us
theorem PG.or {X : Cx} {tg : Expr} {t t' : TG} (h : PG X tg t) (h' : PG X tg t') : PG X tg (fun v σ H Q => t v σ H Q ∨ t' v σ H Q) :=
  ⟨fun pins s σ H v u Q I r hw => hw.elim (fun z => h.run pins s σ H v u Q I r z) fun z => h'.run pins s σ H v u Q I r z⟩
theorem pgImp {X : Cx} {e : Expr} {t t' : TG} (h : PG X e t) (k : ∀ v σ H Q, t' v σ H Q → t v σ H Q) : PG X e t' := ⟨fun pins s σ H v u Q I r hw => h.run pins s σ H v u Q I r (k v σ H Q hw)⟩
theorem pgsImp {X : Cx} {e : List Expr} {t t' : TGs} (h : PGs X e t) (k : ∀ v σ H Q, t' v σ H Q → t v σ H Q) : PGs X e t' := ⟨fun pins s σ H v u Q I r hw => h.run pins s σ H v u Q I r (k v σ H Q hw)⟩
section
variable {X : Cx} {e : Expr} {es : List Expr} {g : BM} {gs : List D → En → M En} {vs ws : List Nat} {pos : Pos}
theorem xg_name {i : Nat} (h : PG X e (gName i)) : PG X e (tG X.K [i] (bNm i)) := by
  refine pgImp h fun v σ H Q hw => ?_
  obtain ⟨I, ρ, st, d, ρ', st', S, r, e, k⟩ := hw
  cases e
  exact k I H _ (.refl I H) S.st (S.env.set r) fun us h => wipe_set (h i (by simp))
theorem xg_nil : PGs X [] (tGs X.K [] bNil) := by
  refine pgsImp pgs_nil fun v σ H Q hw => ?_
  obtain ⟨I, ρ, st, d, ρ', st', S, r, e, k⟩ := hw
  unfold bNil at e
  split at e
  · cases e
    unfold Reps at r
    exact ⟨r, k I H _ (.refl I H) S.st S.env fun us h => rfl⟩
  · cases e
theorem xg_cons (h1 : PG X e (tG X.K vs g)) (h2 : PGs X es (tGs X.K ws gs)) (hs : (assignEach (e :: es) X.env).map (·.2) = assign e X.env :: (assignEach es X.env).map (·.2) := by rfl) : PGs X (e :: es) (tGs X.K (vs ++ ws) (bCons g gs)) := by
  refine pgsImp (pgs_cons h1 h2 hs) fun v σ H Q hw => ?_
  obtain ⟨I, ρ, st, d, ρ', st', S, r, e, k⟩ := hw
  unfold bCons at e
  split at e
  · obtain ⟨⟨ρ1, s1⟩, e1, e⟩ := Option.bind_eq_some_iff.mp e
    unfold Reps at r
    obtain ⟨x, xr, rfl, r1, r2⟩ := r
    refine ⟨x, xr, rfl, I, ρ, st, _, ρ1, s1, S, r1, e1, fun I1 H1 σ1 g1 S1 v1 w1 => ?_⟩
    exact ⟨I1, ρ1, s1, _, ρ', st', ⟨S1, v1⟩, r2.up S.st g1, e, fun I2 H2 σ2 g2 S2 v2 w2 => k I2 H2 σ2 (g1.trans g2) S2 v2 fun us hu =>
      (w2 us fun i hi => hu i (List.mem_append_right _ hi)).trans (w1 us fun i hi => hu i (List.mem_append_left _ hi))⟩
  · cases e
theorem xg_seq {k n : Nat} (hc : X.calm = true) (h : PGs X es (tGs X.K vs gs)) (hn : (assignEach es X.env).length = n := by rfl) (hst : (assignEach es X.env).findIdx? (·.1) = none := by rfl) : PG X (.Tuple es k pos) (tG X.K vs (bSeq n gs)) := by
  refine pgImp (PG.or (pg_tup hc h hn hst) (pg_unl hc h hn hst)) fun v σ H Q hw => ?_
  obtain ⟨I, ρ, st, d, ρ', st', S, r, e, k⟩ := hw
  have r' := r.dr S.st
  unfold bSeq at e
  split at e
  · rename_i l hl
    rw [hl] at r'
    split at e
    · rename_i hz
      obtain ⟨a, xs, rfl, q, rs⟩ := r'.tup
      exact .inl ⟨a, xs, rfl, q, by rw [← rs.length]; exact hz, I, ρ, st, l, ρ', st', S, rs, e, k⟩
    · cases e
  · rename_i l hl
    rw [hl] at r'
    split at e
    · rename_i hz
      obtain ⟨a, xs, rfl, q, rs⟩ := r'.lst
      exact .inr ⟨a, xs, rfl, .of q, by rw [← rs.length]; exact hz, I, ρ, st, l, ρ', st', S, rs, e, k⟩
    · cases e
  · cases e
/-- target = e -/
def sAs (m : EM D) (g : BM) : SM := fun ρ st => (m ρ st).bind fun p => (g p.1 ρ p.2).bind fun q => some (.nx q.1, q.2)
theorem as_reads {m : EM D} {Z : Ends} {σ : St} {H : Hp} (h : tSx X.K (sAs m g) Z σ H) : tAsg (tX X.K m) (tG X.K vs g) Z σ H := by
  obtain ⟨I, ρ, st, f, st', S, e, k⟩ := h
  unfold sAs at e
  obtain ⟨⟨d, s1⟩, e1, e⟩ := Option.bind_eq_some_iff.mp e
  obtain ⟨⟨ρ1, s2⟩, e2, e⟩ := Option.bind_eq_some_iff.mp e
  cases e
  refine ⟨I, ρ, st, d, s1, S, e1, fun I1 H1 v g1 S1 r1 => ?_⟩
  exact ⟨I1, ρ, s1, d, ρ1, _, S.grow g1 S1, r1, e2, fun I2 H2 σ2 g2 S2 v2 w2 => k I2 H2 (g1.trans g2) S2 σ2 v2⟩
theorem xs_as {m : EM D} {tg : Expr} (he : PE X e (tX X.K m)) (hg : PG X tg (tG X.K vs g)) (hs : swapsWithSole [tg] e pos.line X.env = pure false := by rfl) (hw : swappedStores [tg] e X.env = pure none := by rfl)
    (h1 : (assignEach [tg] X.env).map (·.2) = [assign tg X.env] := by rfl) : PS X (.Assign [tg] e pos) (tSx X.K (sAs m g)) :=
  psImp (ps_asg he hg hs hw h1) fun _ _ _ h => as_reads h
theorem xs_set {i : Nat} {m : EM D} {tg : Expr} (h : PE X e (tX X.K m) → PS X (.Assign [tg] e pos) (tAsg (tX X.K m) (gName i))) (he : PE X e (tX X.K m)) : PS X (.Assign [tg] e pos) (tSx X.K (sAs m (bNm i))) := by
  refine psImp (h he) fun Z σ H hw => ?_
  obtain ⟨I, ρ, st, f, st', S, e, k⟩ := hw
  unfold sAs at e
  obtain ⟨⟨d, s1⟩, e1, e⟩ := Option.bind_eq_some_iff.mp e
  cases e
  exact ⟨I, ρ, st, d, s1, S, e1, fun I1 H1 v g1 S1 r1 => k I1 H1 g1 S1 _ ((S.grow g1 S1).env.set r1)⟩
end
end DL


set_option Elab.async false
set_option linter.all false
set_option maxRecDepth 100000
set_option maxHeartbeats 4000000
namespace DL
open PySem L2

/-! ### what a loop walks -/
abbrev Src := List (Nat × List D)
def chk (src : Src) (st : Sto) : Prop := ∀ p ∈ src, st[p.1]? = some (.lst p.2)
theorem chk_nil (st : Sto) : chk [] st := fun _ h => by cases h
open Classical in
noncomputable def chkB (src : Src) (st : Sto) : Bool := decide (chk src st)
theorem chkB_iff {src : Src} {st : Sto} : chkB src st = true ↔ chk src st := by simp [chkB]
theorem chkB_nil (st : Sto) : chkB [] st = true := chkB_iff.mpr (chk_nil st)
structure Feeds (K : PySem.W.Frag) (J : It) (I : Ids) (H : Hp) (src : Src) (ds : List D) : Prop where
  go : ∀ i I' H' st', Grow I H I' H' → StOk K I' H' st' → chk src st' → i < ds.length → J.go i H'
  stop : ∀ I' H' st', Grow I H I' H' → StOk K I' H' st' → chk src st' → J.stop ds.length H'
  yld : ∀ i d I' H' st' x H'', Grow I H I' H' → StOk K I' H' st' → chk src st' → ds[i]? = some d → J.yld i H' x H'' → Grow I' H' I' H'' ∧ StOk K I' H'' st' ∧ Rep K I' H'' d x
def tI (K : PySem.W.Frag) (m : EM (Src × List D)) : TI := fun σ H R => ∃ I ρ st r st', Sit K I H ρ σ st ∧ m ρ st = some (r, st') ∧
  ∀ I' H' J, Grow I H I' H' → StOk K I' H' st' → chk r.1 st' → Feeds K J I' H' r.1 r.2 → R J H'
theorem piImp {X : Cx} {tg e : Expr} {t t' : TI} (h : PI X tg e t) (k : ∀ σ H Q, t' σ H Q → t σ H Q) : PI X tg e t' := ⟨fun pins s σ H Q I hw => h.run pins s σ H Q I (k σ H Q hw)⟩

/-! ### for -/
noncomputable def forL (src : Src) (g : BM) (b : SM) : List D → SM
  | [] => fun ρ st => some (.nx ρ, st)
  | d :: ds => fun ρ st => (g d ρ st).bind fun p => (b p.1 p.2).bind fun r => match r.1 with
    | .nx ρ' => if chkB src r.2 = true then forL src g b ds ρ' r.2 else none
    | .ct ρ' => if chkB src r.2 = true then forL src g b ds ρ' r.2 else none
    | .bk ρ' => some (.nx ρ', r.2)
    | .rt v => some (.rt v, r.2)
noncomputable def sFor (it : EM (Src × List D)) (g : BM) (b : SM) : SM := fun ρ st => (it ρ st).bind fun p => forL p.1.1 g b p.1.2 ρ p.2
section
variable {X : Cx} {tg iter : Expr} {body : List Stmt} {mi : EM (Src × List D)} {g : BM} {vs : List Nat} {b : SM} {pos : Pos}
theorem xs_for (hp : PassesOwn (model X.prog X.w) X.A X.env X.xe) (hc : X.calm = true) (hi : PI X tg iter (tI X.K mi)) (hg : PG X tg (tG X.K vs g)) (hb : PSs X body (tSx X.K b))
    (hs : ∀ x, foldedSetIterable iter X.env x = pure x := by intro _; rfl) : PS X (.For tg iter body [] pos) (tSx X.K (sFor mi g b)) := by
  refine psImp (ps_for hp hc hi hg hb hs) fun Z σ H h => ?_
  obtain ⟨I, ρ, st, f, st', S, e, k⟩ := h
  unfold sFor at e
  obtain ⟨⟨⟨src, ds⟩, s1⟩, e1, e⟩ := Option.bind_eq_some_iff.mp e
  refine ⟨I, ρ, st, (src, ds), s1, S, e1, fun I1 H1 J g1 S1 c1 F => ?_⟩
  refine ⟨fun i m σ H => ∃ Ii ρi si, Sit X.K Ii H ρi σ si ∧ chk src si ∧ Grow I1 H1 Ii H ∧ i ≤ ds.length ∧ m = ds.length - i ∧ forL src g b (ds.drop i) ρi si = some (f, st'),
    ⟨ds.length, I1, ρ, s1, S.grow g1 S1, c1, .refl _ _, Nat.zero_le _, rfl, e⟩, ?_⟩
  rintro i m σ2 H2 ⟨I2, ρ2, s2, S2, c2, g2, hi, rfl, e2⟩
  by_cases hlt : i < ds.length
  · refine .inr ⟨F.go i I2 H2 s2 g2 S2.st c2 hlt, fun σ3 H3 => ∃ I3 ρ3 s3, Sit X.K I3 H3 ρ3 σ3 s3 ∧ chk src s3 ∧ Grow I1 H1 I3 H3 ∧ forL src g b (ds.drop (i + 1)) ρ3 s3 = some (f, st'), ?_, fun x H3 y => ?_⟩
    · rintro σ3 H3 ⟨I3, ρ3, s3, S3, c3, g3, e3⟩
      exact ⟨ds.length - (i + 1), by omega, I3, ρ3, s3, S3, c3, g3, hlt, rfl, e3⟩
    · have hd : ds[i]? = some ds[i] := List.getElem?_eq_getElem hlt
      obtain ⟨g3, S3, r3⟩ := F.yld i _ I2 H2 s2 x H3 g2 S2.st c2 hd y
      rw [List.drop_eq_getElem_cons hlt] at e2
      unfold forL at e2
      obtain ⟨⟨ρ4, s4⟩, e4, e2⟩ := Option.bind_eq_some_iff.mp e2
      obtain ⟨⟨f5, s5⟩, e5, e2⟩ := Option.bind_eq_some_iff.mp e2
      refine ⟨I2, ρ2, s2, ds[i], ρ4, s4, S2.grow g3 S3, r3, e4, fun I4 H4 σ4 g4 S4 v4 _ => ?_⟩
      refine ⟨I4, ρ4, s4, f5, s5, ⟨S4, v4⟩, e5, fun I5 H5 g5 S5 => ?_⟩
      have g15 := ((g2.trans g3).trans g4).trans g5
      cases f5 with
      | nx ρ5 =>
        intro σ5 v5
        dsimp only at e2
        split at e2
        · rename_i hc5
          exact ⟨I5, ρ5, s5, ⟨S5, v5⟩, chkB_iff.mp hc5, g15, e2⟩
        · cases e2
      | ct ρ5 =>
        intro σ5 v5
        dsimp only at e2
        split at e2
        · rename_i hc5
          exact ⟨I5, ρ5, s5, ⟨S5, v5⟩, chkB_iff.mp hc5, g15, e2⟩
        · cases e2
      | bk ρ5 =>
        intro σ5 v5
        cases e2
        exact k I5 H5 (g1.trans g15) S5 σ5 v5
      | rt d =>
        intro v r
        cases e2
        exact k I5 H5 (g1.trans g15) S5 v r
  · have e3 : i = ds.length := by omega
    subst e3
    refine .inl ⟨F.stop I2 H2 s2 g2 S2.st c2, ?_⟩
    rw [List.drop_length] at e2
    cases e2
    exact k I2 H2 (g1.trans g2) S2.st σ2 S2.env
end

/-! ### while: by a number of turns that is enough -/
def whL (c : EM Bool) (b : SM) : Nat → SM
  | 0 => fun _ _ => none
  | n + 1 => fun ρ st => (c ρ st).bind fun p => match p.1 with
    | false => some (.nx ρ, p.2)
    | true => (b ρ p.2).bind fun r => match r.1 with
      | .nx ρ' => whL c b n ρ' r.2
      | .ct ρ' => whL c b n ρ' r.2
      | .bk ρ' => some (.nx ρ', r.2)
      | .rt v => some (.rt v, r.2)
open Classical in
noncomputable def sWh (c : EM Bool) (b : SM) : SM := fun ρ st => if h : ∃ n r, whL c b n ρ st = some r then some (Classical.choose (Classical.choose_spec h)) else none
section
variable {X : Cx} {c : Expr} {body : List Stmt} {mc : EM Bool} {b : SM} {pos : Pos}
theorem whL_mono {n : Nat} : ∀ {ρ st r}, whL mc b n ρ st = some r → whL mc b (n + 1) ρ st = some r := by
  induction n with
  | zero => intro ρ st r h; cases h
  | succ n ih =>
    intro ρ st r h
    unfold whL at h ⊢
    obtain ⟨⟨c1, s1⟩, e1, e⟩ := Option.bind_eq_some_iff.mp h
    rw [e1]
    cases c1 with
    | false => exact e
    | true =>
      obtain ⟨⟨f2, s2⟩, e2, e⟩ := Option.bind_eq_some_iff.mp e
      show (b ρ s1).bind _ = _
      rw [e2]
      cases f2 with
      | nx ρ' => exact ih e
      | ct ρ' => exact ih e
      | bk ρ' => exact e
      | rt v => exact e
theorem whL_le {n m : Nat} (h : n ≤ m) {ρ st r} (e : whL mc b n ρ st = some r) : whL mc b m ρ st = some r := by
  induction h with
  | refl => exact e
  | step _ ih => exact whL_mono ih
theorem sWh_eq {n : Nat} {ρ st r} (e : whL mc b n ρ st = some r) : sWh mc b ρ st = some r := by
  unfold sWh
  have h : ∃ n r, whL mc b n ρ st = some r := ⟨n, r, e⟩
  rw [dif_pos h]
  have q := Classical.choose_spec (Classical.choose_spec h)
  have a := whL_le (Nat.le_max_left n (Classical.choose h)) e
  have z := whL_le (Nat.le_max_right n (Classical.choose h)) q
  rw [a] at z
  exact z.symm
theorem sWh_of {ρ st r} (e : sWh mc b ρ st = some r) : ∃ n, whL mc b n ρ st = some r := by
  unfold sWh at e
  split at e
  · rename_i h
    cases e
    exact ⟨_, Classical.choose_spec (Classical.choose_spec h)⟩
  · cases e
theorem xs_while (hp : PassesOwn (model X.prog X.w) X.A X.env X.xe) (hc : PT X c (tXb X.K mc)) (hb : PSs X body (tSx X.K b)) : PS X (.While c body [] pos) (tSx X.K (sWh mc b)) := by
  refine psImp (ps_while hp hc hb) fun Z σ H h => ?_
  obtain ⟨I, ρ, st, f, st', S, e, k⟩ := h
  obtain ⟨n0, e⟩ := sWh_of e
  refine ⟨fun n σ H => ∃ Ii ρi si, Sit X.K Ii H ρi σ si ∧ whL mc b n ρi si = some (f, st') ∧ ∀ I' H', Grow Ii H I' H' → StOk X.K I' H' st' → After X.K I' H' Z f, ⟨n0, I, ρ, st, S, e, k⟩, ?_⟩
  rintro n σ2 H2 ⟨I2, ρ2, s2, S2, e2, k2⟩
  cases n with
  | zero => cases e2
  | succ n =>
    unfold whL at e2
    obtain ⟨⟨c3, s3⟩, e3, e2⟩ := Option.bind_eq_some_iff.mp e2
    refine ⟨I2, ρ2, s2, c3, s3, S2, e3, fun I3 H3 g3 S3 => ?_⟩
    cases c3 with
    | false =>
      rw [if_neg Bool.false_ne_true]
      cases e2
      exact k2 I3 H3 g3 S3 σ2 (S2.grow g3 S3).env
    | true =>
      rw [if_pos rfl]
      obtain ⟨⟨f4, s4⟩, e4, e2⟩ := Option.bind_eq_some_iff.mp e2
      refine ⟨fun σ H => ∃ Ii ρi si, Sit X.K Ii H ρi σ si ∧ whL mc b n ρi si = some (f, st') ∧ ∀ I' H', Grow Ii H I' H' → StOk X.K I' H' st' → After X.K I' H' Z f, fun σ' H' h' => ⟨n, Nat.lt_succ_self n, h'⟩, ?_⟩
      refine ⟨I3, ρ2, s3, f4, s4, S2.grow g3 S3, e4, fun I5 H5 g5 S5 => ?_⟩
      cases f4 with
      | nx ρ5 => intro σ5 v5; exact ⟨I5, ρ5, s4, ⟨S5, v5⟩, e2, fun I6 H6 g6 S6 => k2 I6 H6 ((g3.trans g5).trans g6) S6⟩
      | ct ρ5 => intro σ5 v5; exact ⟨I5, ρ5, s4, ⟨S5, v5⟩, e2, fun I6 H6 g6 S6 => k2 I6 H6 ((g3.trans g5).trans g6) S6⟩
      | bk ρ5 => intro σ5 v5; cases e2; exact k2 I5 H5 (g3.trans g5) S5 σ5 v5
      | rt d => intro v r; cases e2; exact k2 I5 H5 (g3.trans g5) S5 v r
end

/-! ### comprehensions -/
noncomputable def lcL (src : Src) (g : BM) (t : EM Bool) (el : EM D) (ρ : En) : List D → M (List D)
  | [] => fun st => some ([], st)
  | d :: ds => fun st => (g d ρ st).bind fun p => (t p.1 p.2).bind fun q => match q.1 with
    | true => (el p.1 q.2).bind fun r => if chkB src r.2 = true then (lcL src g t el ρ ds r.2).bind fun z => some (r.1 :: z.1, z.2) else none
    | false => if chkB src q.2 = true then lcL src g t el ρ ds q.2 else none
noncomputable def cLc (it : EM (Src × List D)) (vs : List Nat) (g : BM) (t : EM Bool) (el : EM D) : EM (List D) := fun ρ st => (it ρ st).bind fun p => if p.1.2.length ≤ sizeLine then lcL p.1.1 g t el (wipeD ρ vs) p.1.2 p.2 else none
def bTrue : EM Bool := fun _ st => some (true, st)
section
variable {K : PySem.W.Frag} {I : Ids} {H : Hp} {st : Sto}
mutual
theorem Rep.banned {p : Addr} {xs ys : List V} (hp : p ∈ I.ban) (h0 : H p = some (.lst xs)) : ∀ (d : D) (v : V), Rep K I H d v → Rep K I (upd H p (.lst ys)) d v
  | .non, _, h => h
  | .bl _, _, h => h
  | .int _, _, h => h
  | .str _, _, h => h
  | .tup l, v, h => by
    unfold Rep at h ⊢
    obtain ⟨a, zs, e, q, r⟩ := h
    refine ⟨a, zs, e, ?_, Reps.banned hp h0 l zs r⟩
    rcases q with (q | ⟨o, q⟩) | q
    · exact .inl (.inl (by rw [upd_ne (ne_of q h0 (by intro z; cases z))]; exact q))
    · exact .inl (.inr ⟨o, by rw [upd_ne (ne_of q h0 (by intro z; cases z))]; exact q⟩)
    · exact .inr q
  | .lst l, v, h => by
    unfold Rep at h ⊢
    obtain ⟨a, zs, e, q, n1, n2, r⟩ := h
    exact ⟨a, zs, e, by rw [upd_ne (fun z => n2 (by rw [z]; exact hp))]; exact q, n1, n2, Reps.banned hp h0 l zs r⟩
  | .scr l, v, h => by
    unfold Rep at h ⊢
    obtain ⟨a, zs, e, q, r⟩ := h
    refine ⟨a, zs, e, ?_, Reps.banned hp h0 l zs r⟩
    rcases q with ⟨o, q⟩ | q
    · exact .inl ⟨o, by rw [upd_ne (ne_of q h0 (by intro z; cases z))]; exact q⟩
    · exact .inr q
  | .ref n, v, h => h
theorem Reps.banned {p : Addr} {xs ys : List V} (hp : p ∈ I.ban) (h0 : H p = some (.lst xs)) : ∀ (ds : List D) (vs : List V), Reps K I H ds vs → Reps K I (upd H p (.lst ys)) ds vs
  | [], _, h => h
  | d :: ds, vs, h => by
    unfold Reps at h ⊢
    obtain ⟨x, r, e, q, t⟩ := h
    exact ⟨x, r, e, Rep.banned hp h0 d x q, Reps.banned hp h0 ds r t⟩
end
theorem StOk.banned {p : Addr} {xs ys : List V} (s : StOk K I H st) (hp : p ∈ I.ban) (h0 : H p = some (.lst xs)) : StOk K I (upd H p (.lst ys)) st := by
  have np := (s.bn p hp).1
  have ne : ∀ a ∈ I.ids, a ≠ p := fun a ha e => np (e ▸ ha)
  refine ⟨s.len, s.nd, fun a ha => by rw [upd_ne (ne a ha)]; exact s.mu a ha, fun a ha => ⟨(s.bn a ha).1, ?_⟩, fun n o a h1 h2 => ?_⟩
  · by_cases e : a = p
    · subst e; rw [upd_same]; simp
    · rw [upd_ne e]; exact (s.bn a ha).2
  · have q := s.ob n o a h1 h2
    cases o with
    | lst l =>
      obtain ⟨zs, e1, r⟩ := q
      exact ⟨zs, by rw [upd_ne (ne a (List.mem_of_getElem? h2))]; exact e1, r.banned hp h0⟩
end
section
variable {X : Cx} {tg iter elt : Expr} {ifs : List Expr} {mi : EM (Src × List D)} {g : BM} {vs : List Nat} {t : EM Bool} {el : EM D} {pos : Pos} {scope : Scope} {own : List (Str × Nat)}
theorem xt_nil : PTs X [] (tXb X.K bTrue) := ⟨fun pins s σ H Q I h => pts_nil.run pins s σ H Q I (by
  obtain ⟨Id, ρ, st, r, st', S, e, k⟩ := h
  cases e
  exact k Id H (.refl Id H) S.st)⟩
theorem xt_one {c : Expr} (h : PT X c (tXb X.K t)) : PTs X [c] (tXb X.K t) := pts_one h
theorem lc_reads (hvs : ∀ i ∈ vs, i ∈ own.map (·.2)) {σ : St} {H : Hp} {Q : VK} (h : tN X.K (cLc mi (own.map (·.2)) g t el) σ H Q) : tLc (tI X.K mi) (tG X.K vs g) (tXb X.K t) (tX X.K el) (own.map (·.2)) σ H Q := by
  obtain ⟨I, ρ, st, res, st2, S, e0, k⟩ := h
  unfold cLc at e0
  obtain ⟨⟨⟨src, ds⟩, s1⟩, e1, e0⟩ := Option.bind_eq_some_iff.mp e0
  dsimp only at e0
  split at e0
  case isFalse => cases e0
  rename_i hz
  refine ⟨I, ρ, st, (src, ds), s1, S, e1, fun I1 H1 J g1 S1 c1 F => ?_⟩
  intro p hp
  have hpb : p ∉ I1.ban := (S1.nin hp).2
  refine ⟨fun i m H => ∃ Ii si acc accD rest, StOk X.K Ii H si ∧ EnvRep X.K Ii H (wipeD ρ (own.map (·.2))) (wipe σ (own.map (·.2))) ∧ chk src si ∧ Grow I1 H1 Ii H ∧ p ∈ Ii.ban ∧ H p = some (.lst acc) ∧ Reps X.K Ii H accD acc ∧
      acc.length ≤ i ∧ i ≤ ds.length ∧ m = ds.length - i ∧ lcL src g t el (wipeD ρ (own.map (·.2))) (ds.drop i) si = some (rest, st2) ∧ res = accD ++ rest, ?_, ?_⟩
  · obtain ⟨gg, S2⟩ := S1.hide (xs := []) hp
    exact ⟨ds.length, ⟨I1.ids, p :: I1.ban⟩, s1, [], [], res, S2, ((S.grow g1 S1).env.grow S1 gg).wipe _, c1, gg, List.mem_cons_self, upd_same, Reps.nil, Nat.le_refl _, Nat.zero_le _, rfl, e0, by simp⟩
  rintro i m H2 ⟨I2, s2, acc, accD, rest, S2, V2, c2, g2, pb2, hp2, ra2, ha2, hi, rfl, e2, er⟩
  by_cases hlt : i < ds.length
  · refine .inr ⟨F.go i I2 H2 s2 g2 S2 c2 hlt, fun H3 => ∃ I3 s3 acc3 accD3 rest3, StOk X.K I3 H3 s3 ∧ EnvRep X.K I3 H3 (wipeD ρ (own.map (·.2))) (wipe σ (own.map (·.2))) ∧ chk src s3 ∧ Grow I1 H1 I3 H3 ∧ p ∈ I3.ban ∧ H3 p = some (.lst acc3) ∧ Reps X.K I3 H3 accD3 acc3 ∧
      acc3.length ≤ i + 1 ∧ lcL src g t el (wipeD ρ (own.map (·.2))) (ds.drop (i + 1)) s3 = some (rest3, st2) ∧ res = accD3 ++ rest3, ?_, fun x H3 y => ?_⟩
    · rintro H3 ⟨I3, s3, acc3, accD3, rest3, S3, V3, c3, g3, pb3, hp3, ra3, ha3, e3, er3⟩
      exact ⟨ds.length - (i + 1), by omega, I3, s3, acc3, accD3, rest3, S3, V3, c3, g3, pb3, hp3, ra3, ha3, hlt, rfl, e3, er3⟩
    · have hd : ds[i]? = some ds[i] := List.getElem?_eq_getElem hlt
      obtain ⟨g3, S3, r3⟩ := F.yld i _ I2 H2 s2 x H3 g2 S2 c2 hd y
      rw [List.drop_eq_getElem_cons hlt] at e2
      unfold lcL at e2
      obtain ⟨⟨ρ4, s4⟩, e4, e2⟩ := Option.bind_eq_some_iff.mp e2
      obtain ⟨⟨b5, s5⟩, e5, e2⟩ := Option.bind_eq_some_iff.mp e2
      have V3 := V2.grow S2 g3
      refine ⟨I2, wipeD ρ (own.map (·.2)), s2, ds[i], ρ4, s4, ⟨S3, V3⟩, r3, e4, fun I4 H4 σ4 g4 S4 v4 w4 => ⟨?_, ?_⟩⟩
      · rw [w4 _ hvs]
        have ww : ∀ (us ws : List Nat), (∀ i ∈ ws, i ∈ us) → wipe (wipe σ ws) us = wipe σ us := by
          intro us ws
          induction ws with
          | nil => intro _; rfl
          | cons w ws ih =>
            intro hw
            show wipe ((wipe σ ws).set w none) us = _
            rw [wipe_set (hw w List.mem_cons_self), ih fun i hi => hw i (List.mem_cons_of_mem _ hi)]
        exact ww _ _ fun i hi => hi
      · refine ⟨I4, ρ4, s4, b5, s5, ⟨S4, v4⟩, e5, fun I5 H5 g5 S5 => ?_⟩
        have np : ∀ {I' : Ids} {H' : Hp} {s' : Sto}, StOk X.K I' H' s' → p ∈ I'.ban → p ∉ I'.ids := fun s' hb => (s'.bn p hb).1
        have pb3 : p ∈ I2.ban := pb2
        have hp3 : H3 p = some (.lst acc) := g3.keep p _ hp2 (np S2 pb2)
        have up : ∀ {I I' : Ids} {H H' : Hp}, Grow I H I' H' → p ∈ I.ban → p ∈ I'.ban := fun g hb => by
          obtain ⟨b, e, _⟩ := g.ban
          rw [e]; exact List.mem_append_right _ hb
        have pb4 := up g4 pb3
        have hp4 : H4 p = some (.lst acc) := g4.keep p _ hp3 (np S3 pb3)
        have pb5 := up g5 pb4
        have hp5 : H5 p = some (.lst acc) := g5.keep p _ hp4 (np S4 pb4)
        cases b5 with
        | false =>
          refine iteF ?_
          dsimp only at e2
          split at e2
          case isFalse => cases e2
          rename_i hc5
          exact ⟨I5, s5, acc, accD, rest, S5, ((V3.grow S3 g4).grow S4 g5), chkB_iff.mp hc5, ((g2.trans g3).trans g4).trans g5, pb5, hp5, ((ra2.up S2 g3).up S3 g4).up S4 g5, by omega, e2, er⟩
        | true =>
          refine iteT ?_
          dsimp only at e2
          obtain ⟨⟨d6, s6⟩, e6, e2⟩ := Option.bind_eq_some_iff.mp e2
          refine ⟨I5, ρ4, s5, d6, s6, ⟨S5, v4.grow S4 g5⟩, e6, fun I6 H6 z g6 S6 r6 => ?_⟩
          dsimp only at e2
          split at e2
          case isFalse => cases e2
          rename_i hc6
          obtain ⟨⟨rest7, s7⟩, e7, e2⟩ := Option.bind_eq_some_iff.mp e2
          cases e2
          have pb6 := up g6 pb5
          have hp6 : H6 p = some (.lst acc) := g6.keep p _ hp5 (np S5 pb5)
          have V6 := ((V3.grow S3 g4).grow S4 g5).grow S5 g6
          have ra6 := (((ra2.up S2 g3).up S3 g4).up S4 g5).up S5 g6
          have g16 := (((g2.trans g3).trans g4).trans g5).trans g6
          refine ⟨acc, hp6, by omega, I6, s6, acc ++ [z], accD ++ [d6], rest7, S6.banned pb6 hp6, ⟨V6.len, fun j c hj => ?_⟩, chkB_iff.mp hc6, ?_, pb6, upd_same, ?_, by rw [List.length_append, List.length_singleton]; omega, e7, by rw [er, List.append_assoc]; rfl⟩
          · obtain ⟨w, h1, h2⟩ := V6.val j c hj
            exact ⟨w, h1, Rep.banned pb6 hp6 c w h2⟩
          · refine ⟨g16.ban, g16.ext, fun a o h n => ?_, fun a h => ?_⟩
            · rw [upd_ne (ne_of_none h hp)]; exact g16.keep a o h n
            · by_cases q : a = p
              · subst q; rw [upd_same]; simp
              · rw [upd_ne q]; exact g16.there a h
          · exact (Reps.append ra6 (.cons r6 .nil)).banned pb6 hp6
  · have e3 : i = ds.length := by omega
    subst e3
    refine .inl ⟨F.stop I2 H2 s2 g2 S2 c2, ?_⟩
    rw [List.drop_length] at e2
    cases e2
    rw [List.append_nil] at er
    subst er
    exact k I2 H2 p acc (g1.trans g2) S2 (g1.none_of hp) pb2 hp2 ra2
theorem xn_lc (hc : X.calm = true) (hN : X.N.Nodup) (hi : PI X tg iter (tI X.K mi)) (ok : BlkOk X.N X.env.scope scope own)
    (hg : ∀ (s : Shared) (H : Hp) (C : Addr) (cl : List (Str × Addr)) (fp : List Addr), PG (X.blk s H scope (compEnvC scope cl C X.env) fp) tg (tG X.K vs g)) (ht : ∀ (s : Shared) (H : Hp) (C : Addr) (cl : List (Str × Addr)) (fp : List Addr), PTs (X.blk s H scope (compEnvC scope cl C X.env) fp) ifs (tXb X.K t))
    (he : ∀ (s : Shared) (H : Hp) (C : Addr) (cl : List (Str × Addr)) (fp : List Addr), PE (X.blk s H scope (compEnvC scope cl C X.env) fp) elt (tX X.K el)) (hvs : ∀ i ∈ vs, i ∈ own.map (·.2)) (hs : ∀ x, foldedSetIterable iter X.env x = pure x := by intro _; rfl) :
    PE X (.ListComp elt [⟨tg, iter, ifs, 0⟩] scope pos) (tN X.K (cLc mi (own.map (·.2)) g t el)) :=
  peImp (pe_lc hc hN hi ok hg ht he hs) fun _ _ _ h => lc_reads hvs h
/-- name = [..]: mk is eFz or eNw -/
theorem xs_setLc {i : Nat} {y : Str} {py spos : Pos} {mk : EM (List D) → EM D} (hmk : ∀ {m : EM (List D)} {σ : St} {H : Hp} {Q : VK}, tX X.K (mk m) σ H Q → tN X.K m σ H Q) (hc : X.calm = true) (hN : X.N.Nodup) (hy : X.N[i]? = some y) (hyl : X.env.scope.names.lookup y = some .local)
    (hsw : swapsWith (.ListComp elt [⟨tg, iter, ifs, 0⟩] scope pos) (some (.Name y py)) spos.line X.env = pure true) (hi : PI X tg iter (tI X.K mi)) (ok : BlkOk X.N X.env.scope scope own)
    (hg : ∀ (s : Shared) (H : Hp) (C : Addr) (cl : List (Str × Addr)) (fp : List Addr), PG (X.blk s H scope (compEnvC scope cl C X.env) fp) tg (tG X.K vs g)) (ht : ∀ (s : Shared) (H : Hp) (C : Addr) (cl : List (Str × Addr)) (fp : List Addr), PTs (X.blk s H scope (compEnvC scope cl C X.env) fp) ifs (tXb X.K t))
    (he : ∀ (s : Shared) (H : Hp) (C : Addr) (cl : List (Str × Addr)) (fp : List Addr), PE (X.blk s H scope (compEnvC scope cl C X.env) fp) elt (tX X.K el)) (hvs : ∀ i ∈ vs, i ∈ own.map (·.2)) (hs : ∀ x, foldedSetIterable iter X.env x = pure x := by intro _; rfl) :
    PS X (.Assign [.Name y py] (.ListComp elt [⟨tg, iter, ifs, 0⟩] scope pos) spos) (tSx X.K (sAs (mk (cLc mi (own.map (·.2)) g t el)) (bNm i))) := by
  refine psImp (ps_setLc hc hN hy hyl hsw hi ok hg ht he hs) fun Z σ H hw => ?_
  obtain ⟨I, ρ, st, f, st', S, e, k⟩ := hw
  unfold sAs at e
  obtain ⟨⟨d, s1⟩, e1, e⟩ := Option.bind_eq_some_iff.mp e
  cases e
  refine lc_reads hvs (hmk ⟨I, ρ, st, d, s1, S, e1, fun I1 H1 v g1 S1 r1 => k I1 H1 g1 S1 _ ((S.grow g1 S1).env.set r1)⟩)
end
end DL


set_option Elab.async false
set_option linter.all false
set_option maxRecDepth 100000
set_option maxHeartbeats 4000000
namespace DL
open PySem PySem.Spec PyProof.Rows L2

/-! ### functions -/
/-- the def at f hands back what m tells -/
structure FnG (P : Program) (w : World) (K : PySem.W.Frag) (mg : Str → Option Value) (base : Heap) (k : Nat) (f : Addr) (fd : FuncData) (ps : List Str) (m : List D → M D) : Prop where
  len : ∀ ds st r, m ds st = some r → ds.length = ps.length
  run : ∀ (A : Around) (outer : List Env) (s : Shared) (H : Hp) (args : Args) (us : List Value) (vs : List V) (Q : VK) (I : Ids) (ds : List D) (st : Sto) (d : D) (st' : Sto),
    Room k A → A.guards = some [] → Env0 P w K mg base A outer s H → BindsTo s fd args (ps.zip us) → Vals vs us → StOk K I H st → Reps K I H ds vs → m ds st = some (d, st') →
    (∀ I' H' v, Grow I H I' H' → StOk K I' H' st' → Rep K I' H' d v → Q v H') →
    codeAny (model P w) A (.call (.ref f) args) (CR CX0 outer P w H s Q E0) s
theorem FnG.mono {P : Program} {w : World} {K : PySem.W.Frag} {mg : Str → Option Value} {base : Heap} {j k : Nat} {f : Addr} {fd : FuncData} {ps : List Str} {m : List D → M D} (F : FnG P w K mg base j f fd ps m) (h : j ≤ k) : FnG P w K mg base k f fd ps m :=
  ⟨F.len, fun A outer s H args us vs Q I ds st d st' hr => F.run A outer s H args us vs Q I ds st d st' (hr.mono h)⟩
/-- another reckoning that tells the same where it tells anything -/
theorem FnG.imp {P : Program} {w : World} {K : PySem.W.Frag} {mg : Str → Option Value} {base : Heap} {k : Nat} {f : Addr} {fd : FuncData} {ps : List Str} {m m' : List D → M D} (F : FnG P w K mg base k f fd ps m) (h : ∀ ds st r, m' ds st = some r → m ds st = some r) : FnG P w K mg base k f fd ps m' :=
  ⟨fun ds st r e => F.len ds st r (h _ _ _ e), fun A outer s H args us vs Q I ds st d st' hr hG he hb hv hS hR e => F.run A outer s H args us vs Q I ds st d st' hr hG he hb hv hS hR (h _ _ _ e)⟩
def fnM (n N : Nat) (body : SM) : List D → M D := fun ds st => if ds.length = n then (body (ds.map some ++ List.replicate (N - ds.length) none) st).bind fun p => match p.1 with
  | .rt d => some (d, p.2)
  | .nx _ => some (.non, p.2)
  | _ => none
  else none
theorem env_start {K : PySem.W.Frag} {I : Ids} {H : Hp} {ds : List D} {vs : List V} {N : List Str} (r : Reps K I H ds vs) : EnvRep K I H (ds.map some ++ List.replicate (N.length - ds.length) none) (L2.start N vs) := by
  have hl := r.length
  refine ⟨by simp only [L2.start, List.length_append, List.length_map, List.length_replicate, hl], fun i d h => ?_⟩
  by_cases hi : i < ds.length
  · rw [List.getElem?_append_left (by simpa using hi), List.getElem?_map] at h
    obtain ⟨c, h1, h2⟩ := Option.map_eq_some_iff.mp h
    cases h2
    obtain ⟨v, e, q⟩ := r.get h1
    refine ⟨v, ?_, q⟩
    unfold L2.start
    rw [List.getElem?_append_left (by rw [List.length_map, ← hl]; exact hi), List.getElem?_map, e]
    rfl
  · rw [List.getElem?_append_right (by simpa using hi)] at h
    rw [List.getElem?_replicate] at h
    split at h <;> cases h
theorem fn_body {P : Program} {w : World} {K : PySem.W.Frag} {mg : Str → Option Value} {base : Heap} {x qual : Str} {sd : Stmt} {f : Addr} {fd : FuncData} {N ps : List Str} {k : Nat} {m : SM} (F : Fun K x qual sd f fd) (S : FnScope N ps (defScope sd))
    (hb : ∀ (cdv : Value) (A : Around) (outer : List Env) (s : Shared) (H : Hp), Room k (A.deeper (envOfC qual (defScope sd) s.heap.objs.size f cdv)) → (A.deeper (envOfC qual (defScope sd) s.heap.objs.size f cdv)).guards = some [] →
      PSs (cxOf CX0 P w K mg base N qual (defScope sd) f cdv A outer s H E0).nox (defBody sd) (tSx K m)) : FnG P w K mg base (k + 1) f fd ps (fnM ps.length N.length m) := by
  obtain ⟨oc, od, kV, doc, pm, an, cdv, ct, osl, rfl, lk, hcd⟩ := F.ex
  refine ⟨fun ds st r h => ?_, fun A outer s H args us vs Q I ds st d st' hr hG e0 hbd r hS hR hm hQ => ?_⟩
  · unfold fnM at h
    split at h
    · assumption
    · cases h
  unfold fnM at hm
  split at hm
  case isFalse => cases hm
  rename_i hlen
  have hl : vs.length = ps.length := hR.length.symm.trans hlen
  have KX : K.In s.heap := e0.mod.kin.keeps fun b o e => (e0.bs b o e).1
  have lim : s.heap.NoLimit := e0.mod.nolimit.keeps fun b o e => (e0.bs b o e).1
  have hkind : ∀ y ∈ ps.zip us, (defScope sd).names.lookup y.1 = some .local ∨ ((defScope sd).names.lookup y.1 = some .cell ∧ ((cellsFrom (s.heap.objs.size + 1) (defScope sd).names []).lookup y.1).isSome = true) := fun ⟨n, v⟩ hy => by
    rcases S.par n (List.of_mem_zip hy).1 with q | q
    · exact .inl q
    · exact .inr ⟨q, PySem.W.cellsFrom_some _ _ _ (.inl q)⟩
  refine codeAny_call_function hr.depth (KX _ _ lk) rfl S.co S.gen rfl (PySem.W.codeRec_of KX hcd) (hbd _ _ _ _ ?_)
  refine wpAny_newFunctionEnv_cells S.kind hkind fun env he s1 xx => ?_
  subst he
  refine ⟨lim.keeps xx.toInCall.keep, codeAny_func ?_⟩
  have hp := hb cdv A outer s H (hr.deeper _) hG
  have I0 : Inv (cxOf CX0 P w K mg base N qual (defScope sd) f cdv A outer s H E0) [] (L2.start N vs) H s1 := inv_start S hr.hd e0 hl r xx
  obtain ⟨⟨fl, st2⟩, hm1, hm2⟩ := Option.bind_eq_some_iff.mp hm
  have hq : tSx K m { nx := fun _ H' => Q .non H', rt := Q } (L2.start N vs) H := by
    refine ⟨I, _, st, fl, st2, ⟨hS, env_start hR⟩, hm1, fun I' H' g S' => ?_⟩
    cases fl with
    | rt d' =>
      cases hm2
      exact fun v rv => hQ I' H' v g S' rv
    | nx ρ' =>
      cases hm2
      exact fun σ' _ => hQ I' H' _ g S' (by unfold Rep; rfl)
    | bk ρ' => cases hm2
    | ct ρ' => cases hm2
  refine wpAny_mono (hp.nox.run [] s1 (L2.start N vs) H _ I0 hq) (fun fl s' hs => ?_) fun e s' hs => hs
  have fin : ∀ {σ' : L2.St} {H' : Hp} {v : V} {u : Value}, Inv (cxOf CX0 P w K mg base N qual (defScope sd) f cdv A outer s H E0) [] σ' H' s' → RelV v u → Q v H' → CE outer P w H s Q u s' :=
    fun {σ' H' v u} J rv q => ⟨v, H', J.os, J.bare, J.base, J.hok, rv, q⟩
  cases fl with
  | ret u =>
    obtain ⟨v, σ', H', J, rv, q⟩ := hs
    exact fin J rv q
  | next =>
    obtain ⟨σ', H', J, q⟩ := hs
    exact fin (v := V.non) (u := Value.none) J rfl q
  | brk =>
    obtain ⟨_, _, _, q⟩ := hs
    exact False.elim q
  | cont =>
    obtain ⟨_, _, _, q⟩ := hs
    exact False.elim q
/-- what a caller knows of a def of the module -/
structure Def (K : PySem.W.Frag) (mg : Str → Option Value) (x : Str) (sd : Stmt) (ps : List Str) (f : Addr) (fd : FuncData) : Prop where
  F : Fun K x x sd f fd
  g : mg x = some (.ref f)
  b : Binds K fd ps []
section
variable {X : Cx} {k : Nat} {f : Addr} {fd : FuncData} {ps : List Str} {m : List D → M D} {ms : EM (List D)} {x : Str} {sd : Stmt} {p pos : Pos} {e : Expr} {es : List Expr}
theorem ex_callF (T : Def X.K X.mg x sd ps f fd) (F : FnG X.prog X.w X.K X.mg X.base k f fd ps m) (hr : Room k X.A) (hG : X.A.guards = some []) (hg : Gl X x)
    (ha : PA X (e :: es) (tXs X.K ms)) (hdb : (x == ("__debug__" : Str)) = false := by decide) (he : starEach (e :: es) X.env = (false, eval e X.env) :: starEach es X.env := by rfl) (hpl : (backTo pos (starEach es X.env)).any (·.1) = false := by rfl) :
    PE X (.Call (.Name x p) (e :: es) [] pos) (tX X.K (eCall m ms)) := by
  refine ⟨fun pins s σ H Q Iv h => ?_⟩
  obtain ⟨I, ρ, st, r, st', S, e0, k0⟩ := h
  unfold eCall at e0
  obtain ⟨⟨ds, s1⟩, e1, e2⟩ := Option.bind_eq_some_iff.mp e0
  refine wpAny_Call_Name_kw (ld_glob Iv hg T.g ?_ hdb)
  refine PySem.W.callWith_K (h₀ := X.base) Iv.ok.mod.kin T.F.kp (thn (ha.run pos pins s σ H (fun vs H1 => ∃ I1, Grow I H I1 H1 ∧ StOk X.K I1 H1 s1 ∧ Reps X.K I1 H1 ds vs) Iv ⟨I, ρ, st, ds, s1, S, e1, fun I' H' v g S' r' => ⟨I', g, S', r'⟩⟩) fun us s2 ⟨vs, H1, I1, r, q⟩ => ⟨I1.kIn, ?_⟩) he hpl
  obtain ⟨J1, g1, S1, r1⟩ := q
  have hl : us.length = ps.length := by rw [← r.length, ← r1.length]; exact F.len _ _ _ e2
  have hb := T.b s2 us I1.kIn (by rw [List.append_nil]; exact hl)
  rw [List.append_nil] at hb
  refine wpAny_call (codeAny_mono (F.run X.A X.stack s2 H1 ⟨us, []⟩ us vs Q J1 ds s1 _ st' hr hG I1.env0 hb r S1 r1 e2 fun I' H' v g S' r' => k0 I' H' v (g1.trans g) S' r') fun rr s' hq => ?_)
  cases rr with
  | error e => exact hq.elim
  | ok fl =>
    cases fl with
    | ret u => exact I1.after hq
    | next => exact False.elim hq
    | brk => exact False.elim hq
    | cont => exact False.elim hq
end

/-! ### numbers given up behind a call -/
mutual
def closedD (n : Nat) : D → Bool
  | .tup l => closedDs n l
  | .lst l => closedDs n l
  | .scr l => closedDs n l
  | .ref k => decide (k < n)
  | _ => true
def closedDs (n : Nat) : List D → Bool
  | [] => true
  | d :: ds => closedD n d && closedDs n ds
end
def closedO (n : Nat) : Ob → Bool
  | .lst l => closedDs n l
section
variable {K : PySem.W.Frag} {I : Ids} {H : Hp} {n : Nat}
mutual
theorem Rep.cut : ∀ (d : D) (v : V), closedD n d = true → Rep K I H d v → Rep K ⟨I.ids.take n, I.ban⟩ H d v
  | .non, _, _, h => h
  | .bl _, _, _, h => h
  | .int _, _, _, h => h
  | .str _, _, _, h => h
  | .tup l, v, c, h => by
    unfold Rep at h ⊢
    obtain ⟨a, zs, e, q, r⟩ := h
    exact ⟨a, zs, e, q, Reps.cut l zs c r⟩
  | .lst l, v, c, h => by
    unfold Rep at h ⊢
    obtain ⟨a, zs, e, q, n1, n2, r⟩ := h
    exact ⟨a, zs, e, q, fun z => n1 (List.mem_of_mem_take z), n2, Reps.cut l zs c r⟩
  | .scr l, v, c, h => by
    unfold Rep at h ⊢
    obtain ⟨a, zs, e, q, r⟩ := h
    exact ⟨a, zs, e, q, Reps.cut l zs c r⟩
  | .ref k, v, c, h => by
    unfold Rep at h ⊢
    obtain ⟨a, q, e⟩ := h
    have hk : k < n := of_decide_eq_true c
    exact ⟨a, by rw [List.getElem?_take_of_lt hk]; exact q, e⟩
theorem Reps.cut : ∀ (ds : List D) (vs : List V), closedDs n ds = true → Reps K I H ds vs → Reps K ⟨I.ids.take n, I.ban⟩ H ds vs
  | [], _, _, h => h
  | d :: ds, vs, c, h => by
    unfold Reps at h ⊢
    obtain ⟨x, r, e, q, t⟩ := h
    have c' := Bool.and_eq_true_iff.mp (show (closedD n d && closedDs n ds) = true from c)
    exact ⟨x, r, e, Rep.cut d x c'.1 q, Reps.cut ds r c'.2 t⟩
end
theorem StOk.cut {st : Sto} (s : StOk K I H st) (c : (st.take n).all (closedO n) = true) : StOk K ⟨I.ids.take n, I.ban⟩ H (st.take n) := by
  refine ⟨by rw [List.length_take, List.length_take, s.len], s.nd.sublist (List.take_sublist _ _), fun a ha => s.mu a (List.mem_of_mem_take ha), fun a ha => ⟨fun z => (s.bn a ha).1 (List.mem_of_mem_take z), (s.bn a ha).2⟩, fun j o a h1 h2 => ?_⟩
  have hj : j < n := by
    by_cases q : j < n
    · exact q
    · rw [List.getElem?_eq_none (by rw [List.length_take]; omega)] at h1; cases h1
  have hc := List.all_eq_true.mp c o (List.mem_of_getElem? h1)
  rw [List.getElem?_take_of_lt hj] at h1 h2
  have q := s.ob j o a h1 h2
  cases o with
  | lst l =>
    obtain ⟨xs, e, r⟩ := q
    exact ⟨xs, e, Reps.cut l xs hc r⟩
end
/-- behind the call only the numbers that stood ahead of it are kept -/
def cutM (m : List D → M D) : List D → M D := fun ds st => (m ds st).bind fun p => if closedD st.length p.1 && (p.2.take st.length).all (closedO st.length) then some (p.1, p.2.take st.length) else none
theorem fn_cut {P : Program} {w : World} {K : PySem.W.Frag} {mg : Str → Option Value} {base : Heap} {k : Nat} {f : Addr} {fd : FuncData} {ps : List Str} {m : List D → M D} (F : FnG P w K mg base k f fd ps m) : FnG P w K mg base k f fd ps (cutM m) := by
  refine ⟨fun ds st r h => ?_, fun A outer s H args us vs Q I ds st d st' hr hG he hb hv hS hR e hQ => ?_⟩
  · unfold cutM at h
    obtain ⟨p, h1, _⟩ := Option.bind_eq_some_iff.mp h
    exact F.len _ _ _ h1
  · unfold cutM at e
    obtain ⟨⟨d1, st1⟩, h1, e⟩ := Option.bind_eq_some_iff.mp e
    dsimp only at e
    split at e
    case isFalse => cases e
    rename_i hc
    have hc := Bool.and_eq_true_iff.mp hc
    cases e
    refine F.run A outer s H args us vs Q I ds st _ _ hr hG he hb hv hS hR h1 fun I' H' v g S' r => ?_
    have c := S'.cut hc.2
    have er : I'.ids.take st.length = I.ids := by
      obtain ⟨more, e, _⟩ := g.ext
      rw [e, ← hS.len, List.take_left]
    refine hQ ⟨I'.ids.take st.length, I'.ban⟩ H' v ⟨g.ban, ⟨[], by rw [List.append_nil]; exact er, by simp⟩, g.keep, g.there⟩ c (r.cut _ _ hc.1)

/-! ### the law's end -/
theorem reps_ints {K : PySem.W.Frag} {I : Ids} {H : Hp} : ∀ ns : List Int, Reps K I H (ns.map D.int) (ns.map V.int)
  | [] => Reps.nil
  | _ :: ns => Reps.cons (by unfold Rep; rfl) (reps_ints ns)
section
variable {P : Program} {w : World} {K : PySem.W.Frag} {mg mb : Str → Option Value} {k : Nat} {fa a : Addr} {fd : FuncData} {x : Str} {m : List D → M D} {s₁ : Shared} {vs : List Value} {ns : List Int}
/-- at a heap H in which nothing but the script is told of -/
theorem law_at (nsg : s₁.heap.Ns mainGlobals mg) (nsb : s₁.heap.Ns builtinsNs mb) (boot : ∀ x : Str, x ≠ "__name__" → mb x = bootBuiltins x) (lim : s₁.heap.NoLimit) (gen : s₁.gens = #[]) (KX : K.In s₁.heap) (room : Room k callerA)
    (F : ∀ base : Heap, K.In base → base.Ns mainGlobals mg → FnG P w K mg base k fa fd [x] m) (bind : ∀ (s : Shared) (u : Value), BindsTo s fd ⟨[u], []⟩ [(x, u)]) (st : Sto) (eq : m [.scr (ns.map D.int)] [] = some (.bl true, st))
    (H : Hp) (only : ∀ b u, H b = some u → b = a ∧ ∃ o xs, u = .frz o (.lst xs)) (there : s₁.heap.get? a = some { cls := .type "list", data := .seq vs.toArray }) (sq : SqF K H a (ns.map V.int)) (ok : HOk P w H s₁.heap) (apart : H a ≠ none → K.lookup a = none) :
    codeAny (model P w) callerA (.call (.ref fa) ⟨[.ref a], []⟩) (fun r s' => r = .ok (.ret (.bool true)) ∧ OldK s₁.heap s'.heap ∧ s'.os = s₁.os ∧ AllBare s'.gens) s₁ := by
  have free : ∀ {b : Addr} {o : Obj} {es : Array DictEntry} {ep : Nat}, s₁.heap.get? b = some o → o.data = .dict es ep → H b = none := by
    intro b o es ep e d
    cases q : H b with
    | none => rfl
    | some u =>
      obtain ⟨rfl, _⟩ := only b u q
      rw [there] at e
      cases e
      have d' : Data.seq vs.toArray _ = Data.dict es ep := d
      cases d'
  have base : ∀ {b : Addr} {m : Str → Option Value}, s₁.heap.Ns b m → (hidT s₁.heap H).Ns b m := by
    rintro b m ⟨o, es, ep, e, d, r⟩
    exact ⟨o, es, ep, hidT_get e (free e d), d, r⟩
  have KB : K.In (hidT s₁.heap H) := by
    intro b o e
    refine hidT_get (KX b o e) ?_
    cases q : H b with
    | none => rfl
    | some u =>
      obtain ⟨rfl, _⟩ := only b u q
      rw [apart (by rw [q]; simp)] at e
      cases e
  obtain ⟨mc, l1, l2⟩ := lim
  have e0 : Env0 P w K mg (hidT s₁.heap H) callerA [] s₁ H :=
    { frames := rfl, mod := ⟨KB, base nsg, ⟨mb, base nsb, boot⟩, ⟨mc, base l1, l2⟩⟩, bs := fun b o e => of_hidT e, bsz := by rw [hidT_size]; exact Nat.le_refl _, funs := trivial,
      frf := fun b hb => by simp [frs] at hb, hok := ok, bare := .of_eq gen }
  have S0 : StOk K ⟨[], []⟩ H [] := ⟨rfl, List.nodup_nil, fun _ h => by simp at h, fun _ h => by simp at h, fun _ _ _ h _ => by simp at h⟩
  refine codeAny_mono ((F _ KB (base nsg)).run callerA [] s₁ H ⟨[.ref a], []⟩ [.ref a] [.ref a] (fun v _ => v = .bl true) ⟨[], []⟩ [.scr (ns.map D.int)] [] (.bl true) st room rfl e0 (bind s₁ (.ref a)) (.cons rfl .nil) S0
    (.cons (by unfold Rep; exact ⟨a, _, rfl, sq, reps_ints ns⟩) .nil) eq fun I' H' v g S' r => by unfold Rep at r; exact r) ?_
  intro r s' h
  match r, h with
  | .error e, h => exact h.elim
  | .ok .next, h => exact False.elim h
  | .ok .brk, h => exact False.elim h
  | .ok .cont, h => exact False.elim h
  | .ok (.ret u), ⟨v, H', os, bare, un, ok', ru, q⟩ =>
    have q' : v = .bl true := q
    subst q'
    obtain rfl : u = Value.bool true := ru
    refine ⟨rfl, OldK.of_keep fun b o e => ?_, os, bare⟩
    cases q : H b with
    | none => exact un.keep b o e q (by simp [frs]) (by simp)
    | some u =>
      obtain ⟨_, ob, xs, rfl⟩ := only b u q
      have f1 := (ok b _ q).1
      rw [e] at f1
      cases f1
      exact (ok' b _ (un.frzs b o _ q)).1
theorem law_ok (KX : K.In s₁.heap) (nsg : s₁.heap.Ns mainGlobals mg) (nsb : s₁.heap.Ns builtinsNs mb) (boot : ∀ x : Str, x ≠ "__name__" → mb x = bootBuiltins x) (lim : s₁.heap.NoLimit) (gen : s₁.gens = #[])
    (there : s₁.heap.get? a = some { cls := .type "list", data := .seq vs.toArray }) (isi : IntsAre vs ns) (len : ns.length ≤ sizeLine) (room : Room k callerA)
    (F : ∀ base : Heap, K.In base → base.Ns mainGlobals mg → FnG P w K mg base k fa fd [x] m) (bind : ∀ (s : Shared) (u : Value), BindsTo s fd ⟨[u], []⟩ [(x, u)])
    (hm : ∃ st, m [.scr (ns.map D.int)] [] = some (.bl true, st)) :
    codeAny (model P w) callerA (.call (.ref fa) ⟨[.ref a], []⟩) (fun r s' => r = .ok (.ret (.bool true)) ∧ OldK s₁.heap s'.heap ∧ s'.os = s₁.os ∧ AllBare s'.gens) s₁ := by
  obtain ⟨st, eq⟩ := hm
  have rv : Vals (ns.map V.int) vs := vals_ints isi
  have lv : vs.length = ns.length := isi.length
  by_cases hk : K.lookup a = none
  · refine law_at nsg nsb boot lim gen KX room F bind st eq (fun b => if b = a then some (.frz { cls := .type "list", data := .seq vs.toArray } (.lst (ns.map V.int))) else none) (fun b u z => ?_) there (.inl ⟨_, if_pos rfl⟩) (fun b u z => ?_) fun _ => hk
    all_goals (try dsimp only at z)
    all_goals (split at z <;> cases z)
    · rename_i hb; exact ⟨hb, _, _, rfl⟩
    · rename_i hb
      subst hb
      exact ⟨there, by rw [List.length_map]; exact len, vs, _, rv, there⟩
  · obtain ⟨o, hk⟩ := Option.ne_none_iff_exists'.mp hk
    have e := KX a o hk
    rw [there] at e
    cases e
    exact law_at nsg nsb boot lim gen KX room F bind st eq (fun _ => none) (fun b u z => by cases z) there (.inr ⟨_, vs.toArray, _, hk, rfl, rfl, rfl, by rw [List.size_toArray, lv]; exact len, by simpa using rv⟩) (fun b u z => by cases z) fun z => absurd rfl z
/-- the goal that k_head leaves -/
theorem walk_law {l : PySem.W.OpenLaw} {n : Nat} {q : Program} {loose : List Str} {XP : (Str → Option Value) → Heap → Prop} {YP : World → Heap → Prop} {d : DefRec} {KK : Params → PySem.W.Frag}
    (most : l.most = some n) (small : n ≤ sizeLine) (nodef : d.params.defaults = []) (room : Room k callerA) (hY : ∀ (w : World) (h : Heap), YP w h → (KK w.params).In h)
    (F : ∀ (w : World) (mg : Str → Option Value) (fa : Addr) (h : Heap), (KK w.params).In h → h.Ns mainGlobals mg → mg d.name = some (.ref fa) →
      ∃ fd : FuncData, (∀ (s : Shared) (u : Value), BindsTo s fd ⟨[u], []⟩ [(x, u)]) ∧ ∀ base : Heap, (KK w.params).In base → base.Ns mainGlobals mg → FnG l.prog w (KK w.params) mg base k fa fd [x] m)
    (hm : ∀ ns : List Int, ns.length ≤ n → ∃ st, m [.scr (ns.map D.int)] [] = some (.bl true, st)) :
    PySem.W.WalkO q loose XP YP l.row.toRowW d [] (fun f vs => PySem.call f vs) := by
  refine Att.attach_call most nodef fun w s₀ s₁ mg mb fa o pm cd doc a vs ns G Y ho hd hcd hmg hobj hints hlen hg => ?_
  have KX := hY w _ Y
  obtain ⟨fd, hb, hF⟩ := F w mg fa _ KX G.T.g hmg
  exact law_ok KX G.T.g G.T.b G.T.builtins G.T.nolimit hg hobj hints (Nat.le_trans hlen small) room hF hb (hm ns hlen)
end
end DL


set_option Elab.async false
set_option linter.all false
set_option maxRecDepth 100000
set_option maxHeartbeats 4000000
namespace DL
open PySem PySem.Spec PyProof.Rows L2

/-! ### arithmetic -/
def small (i : Int) : Bool := decide (-(2 ^ 64) < i ∧ i < 2 ^ 64)
def mulOk (i j : Int) : Bool := small i || small j || decide (i.natAbs.log2 + j.natAbs.log2 < 1000000)
def addM (d e : D) : M D := fun st => match dr st d, dr st e with
  | .int i, .int j => some (.int (i + j), st)
  | .str x, .str y => if x.length + y.length ≤ sizeLine then some (.str (x ++ y), st) else none
  | .lst l, .lst k => if l.length + k.length ≤ sizeLine then some (.lst (l ++ k), st) else none
  | .tup l, .tup k => if l.length + k.length ≤ sizeLine then some (.tup (l ++ k), st) else none
  | _, _ => none
def subM (d e : D) : M D := fun st => match d, e with
  | .int i, .int j => some (.int (i - j), st)
  | _, _ => none
def mulM (d e : D) : M D := fun st => match d, e with
  | .int i, .int j => if mulOk i j = true then some (.int (i * j), st) else none
  | .lst l, .int k => if -(2 ^ 63) ≤ k ∧ k < 2 ^ 63 ∧ l.length * k.toNat ≤ sizeLine then some (.lst (List.replicate k.toNat l).flatten, st) else none
  | .tup l, .int k => if l ≠ [] ∧ 2 ≤ k ∧ k ≤ 1000 ∧ l.length ≤ 1000 then some (.tup (List.replicate k.toNat l).flatten, st) else none
  | .str x, .int k => if 0 ≤ k ∧ k ≤ 1000 ∧ x.length ≤ 1000 then some (.str ⟨(List.replicate k.toNat x.cps).foldl (· ++ ·) #[]⟩, st) else none
  | _, _ => none
def divM (d e : D) : M D := fun st => match d, e with
  | .int i, .int j => if 0 < j ∧ j.natAbs.log2 < 9000 then some (.int (i / j), st) else none
  | _, _ => none
def modM (d e : D) : M D := fun st => match d, e with
  | .int i, .int j => if 0 < j then some (.int (i % j), st) else none
  | _, _ => none
def powM (d e : D) : M D := fun st => match d, e with
  | .int i, .int j => if 0 ≤ j ∧ j ≤ 1000000 ∧ i.natAbs < 2 ^ 64 then some (.int (i ^ j.toNat), st) else none
  | _, _ => none
def negM (d : D) : M D := fun st => match d with
  | .int i => some (.int (-i), st)
  | _ => none
section
variable {X : Cx}
theorem reps_rep {K : PySem.W.Frag} {I : Ids} {H : Hp} {l : List D} {xs : List V} (r : Reps K I H l xs) : ∀ n : Nat, Reps K I H (List.replicate n l).flatten (List.replicate n xs).flatten
  | 0 => by simpa using Reps.nil
  | n + 1 => by
    rw [List.replicate_succ, List.replicate_succ, List.flatten_cons, List.flatten_cons]
    exact r.append (reps_rep r n)
theorem ox_add : OpX X (binaryOp .Add) addM := by
  intro pins s σ H x y v u Q Iv rx ry h
  obtain ⟨I, st, d, e, r, st', S, rd, re, eq, k⟩ := h
  have rd := rd.dr S
  have re := re.dr S
  unfold addM at eq
  split at eq
  · rename_i i j h1 h2
    rw [h1] at rd; rw [h2] at re
    cases eq
    exact op_add pins s σ H x y v u Q Iv rx ry ⟨i, j, rd.int, re.int, k I H _ (.refl I H) S (by unfold Rep; rfl)⟩
  · rename_i i j h1 h2
    rw [h1] at rd; rw [h2] at re
    split at eq
    · rename_i hz
      cases eq
      exact op_add_str pins s σ H x y v u Q Iv rx ry ⟨i, j, rd.str, re.str, hz, k I H _ (.refl I H) S (by unfold Rep; rfl)⟩
    · cases eq
  · rename_i i j h1 h2
    rw [h1] at rd; rw [h2] at re
    split at eq
    · rename_i hz
      cases eq
      obtain ⟨a, xs, rfl, qa, ra⟩ := rd.lst
      obtain ⟨b, ys, rfl, qb, rb⟩ := re.lst
      exact op_cat pins s σ H _ _ v u Q Iv rx ry ⟨a, b, xs, ys, rfl, rfl, qa, qb, by rw [← ra.length, ← rb.length]; exact hz, fun p hp => k I _ _ (.new hp) (S.new hp) (.newLst S hp (ra.append rb))⟩
    · cases eq
  · rename_i i j h1 h2
    rw [h1] at rd; rw [h2] at re
    split at eq
    · rename_i hz
      cases eq
      obtain ⟨a, xs, rfl, qa, ra⟩ := rd.tup
      obtain ⟨b, ys, rfl, qb, rb⟩ := re.tup
      refine op_catA pins s σ H _ _ v u Q Iv rx ry ⟨a, b, xs, ys, rfl, rfl, qa, qb, by rw [← ra.length, ← rb.length]; exact hz, ?_⟩
      have whole : ∀ (c : Addr) (zs : List V), SqT X.K H c zs → Reps X.K I H (i ++ j) zs → Q (.ref c) H := fun c zs q r => k I H _ (.refl I H) S (by unfold Rep; exact ⟨c, zs, rfl, q, r⟩)
      have rr := ra.append rb
      refine ⟨fun z => whole b ys qb (by rw [z] at rr; exact rr), fun _ z => whole a xs qa (by rw [z, List.append_nil] at rr; exact rr), fun _ _ p hp => k I _ _ (.new hp) (S.new hp) (.newTup S hp rr)⟩
    · cases eq
  · cases eq
theorem ox_sub : OpX X (binaryOp .Sub) subM := by
  intro pins s σ H x y v u Q Iv rx ry h
  obtain ⟨I, st, d, e, r, st', S, rd, re, eq, k⟩ := h
  unfold subM at eq
  split at eq
  · cases eq
    unfold Rep at rd re
    exact op_sub pins s σ H x y v u Q Iv rx ry ⟨_, _, rd, re, k I H _ (.refl I H) S (by unfold Rep; rfl)⟩
  · cases eq
theorem ox_mod : OpX X (binaryOp .Mod) modM := by
  intro pins s σ H x y v u Q Iv rx ry h
  obtain ⟨I, st, d, e, r, st', S, rd, re, eq, k⟩ := h
  unfold modM at eq
  split at eq
  · split at eq
    · rename_i hz
      cases eq
      unfold Rep at rd re
      exact op_mod pins s σ H x y v u Q Iv rx ry ⟨_, _, rd, re, hz, k I H _ (.refl I H) S (by unfold Rep; rfl)⟩
    · cases eq
  · cases eq
theorem ox_div : OpX X (binaryOp .FloorDiv) divM := by
  intro pins s σ H x y v u Q Iv rx ry h
  obtain ⟨I, st, d, e, r, st', S, rd, re, eq, k⟩ := h
  unfold divM at eq
  split at eq
  · split at eq
    · rename_i hz
      cases eq
      unfold Rep at rd re
      exact op_fdivW pins s σ H x y v u Q Iv rx ry ⟨_, _, rd, re, hz, k I H _ (.refl I H) S (by unfold Rep; rfl)⟩
    · cases eq
  · cases eq
theorem ox_pow : OpX X (binaryOp .Pow) powM := by
  intro pins s σ H x y v u Q Iv rx ry h
  obtain ⟨I, st, d, e, r, st', S, rd, re, eq, k⟩ := h
  unfold powM at eq
  split at eq
  · split at eq
    · rename_i hz
      cases eq
      unfold Rep at rd re
      exact op_pow pins s σ H x y v u Q Iv rx ry ⟨_, _, rd, re, hz, k I H _ (.refl I H) S (by unfold Rep; rfl)⟩
    · cases eq
  · cases eq
theorem op_rep_str : OpR X (binaryOp .Mult) (fun x y H Q => ∃ z k, x = .str z ∧ y = .int k ∧ 0 ≤ k ∧ k ≤ 1000 ∧ z.length ≤ 1000 ∧ Q (.str ⟨(List.replicate k.toNat z.cps).foldl (· ++ ·) #[]⟩) H) := by
  intro pins s σ H x y v u Q Iv rx ry h
  obtain ⟨z, k, rfl, rfl, h0, h1, hz, q⟩ := h
  obtain ⟨t, rfl⟩ := rx
  obtain ⟨t', rfl⟩ := ry
  have fin : ∀ (tk : Nat) (y : Str), y = ⟨(List.replicate k.toNat z.cps).foldl (· ++ ·) #[]⟩ → ∀ t, EP X pins σ Q (.str y t) { s with toks := tk } := fun tk y e t => ⟨.str y, H, Iv.tok tk, ⟨t, rfl⟩, by rw [e]; exact q⟩
  have long : PySem.Builtin.Str.tooLong (z.length * k.toNat) = false := by
    have a : z.length * k.toNat ≤ 1000 * 1000 := Nat.mul_le_mul hz (by omega)
    unfold PySem.Builtin.Str.tooLong
    have b : (1000 * 1000 : Nat) ≤ sizeLine := by decide
    exact decide_eq_false (by omega)
  refine PySem.P.mul_str (by rw [decide_eq_false (by omega), decide_eq_false (by omega)]; rfl) (fun h1 _ => ?_) (fun _ _ => long) ?_
  · have a : (1000 : Int) ≤ (2 ^ 63 - 1) / k := (Int.le_ediv_iff_mul_le (by omega)).mpr (by omega)
    omega
  · split
    · have e : k.toNat = 0 := by omega
      refine ⟨by decide, fin _ _ (by rw [e]; rfl) _⟩
    · split
      · rename_i h1 h2
        rw [Bool.or_eq_true] at h2
        refine fin s.toks z ?_ t
        rcases h2 with h2 | h2
        · have e : k.toNat = 1 := by
            have := eq_of_beq h2
            omega
          rw [e]
          show z = ⟨#[] ++ z.cps⟩
          rw [Array.empty_append]
        · have e : z.cps = #[] := Array.eq_empty_of_size_eq_zero (eq_of_beq h2)
          have key : ∀ n : Nat, (List.replicate n (#[] : Array Nat)).foldl (· ++ ·) #[] = #[] := fun n => by
            induction n with
            | zero => rfl
            | succ n ih => rw [List.replicate_succ, List.foldl_cons, Array.empty_append]; exact ih
          obtain ⟨c⟩ := z
          have e' : c = #[] := e
          subst e'
          rw [key]
      · exact ⟨PySem.fits_reps long, fin _ _ rfl _⟩
theorem ox_mul : OpX X (binaryOp .Mult) mulM := by
  intro pins s σ H x y v u Q Iv rx ry h
  obtain ⟨I, st, d, e, r, st', S, rd, re, eq, k⟩ := h
  unfold mulM at eq
  split at eq
  · split at eq
    · rename_i hz
      cases eq
      unfold Rep at rd re
      unfold mulOk small at hz
      rw [Bool.or_eq_true, Bool.or_eq_true] at hz
      rcases hz with (hz | hz) | hz
      · exact op_mul pins s σ H x y v u Q Iv rx ry ⟨_, _, rd, re, .inl (of_decide_eq_true hz), k I H _ (.refl I H) S (by unfold Rep; rfl)⟩
      · exact op_mul pins s σ H x y v u Q Iv rx ry ⟨_, _, rd, re, .inr (of_decide_eq_true hz), k I H _ (.refl I H) S (by unfold Rep; rfl)⟩
      · exact op_mulW pins s σ H x y v u Q Iv rx ry ⟨_, _, rd, re, (show CMulW _ _ from of_decide_eq_true (p := _ < 1000000) hz), k I H _ (.refl I H) S (by unfold Rep; rfl)⟩
    · cases eq
  · split at eq
    · rename_i hz
      cases eq
      obtain ⟨a, xs, rfl, qa, ra⟩ := (Rep.w rd).lst
      unfold Rep at re
      exact op_rep pins s σ H _ _ v u Q Iv rx ry ⟨a, _, xs, rfl, re, qa, hz.1, hz.2.1, by rw [← ra.length]; exact hz.2.2, fun p hp => k I _ _ (.new hp) (S.new hp) (.newLst S hp (reps_rep ra _))⟩
    · cases eq
  · split at eq
    · rename_i hz
      cases eq
      obtain ⟨a, xs, rfl, qa, ra⟩ := (Rep.w rd).tup
      unfold Rep at re
      exact op_repT pins s σ H _ _ v u Q Iv rx ry ⟨a, _, xs, rfl, re, qa, fun e => hz.1 (List.eq_nil_of_length_eq_zero (by rw [ra.length, e]; rfl)), hz.2.1, hz.2.2.1, by rw [← ra.length]; exact hz.2.2.2, fun p hp => k I _ _ (.new hp) (S.new hp) (.newTup S hp (reps_rep ra _))⟩
    · cases eq
  · split at eq
    · rename_i hz
      cases eq
      unfold Rep at rd re
      exact op_rep_str pins s σ H _ _ v u Q Iv rx ry ⟨_, _, rd, re, hz.1, hz.2.1, hz.2.2, k I H _ (.refl I H) S (by unfold Rep; rfl)⟩
    · cases eq
  · cases eq
theorem ox_neg : UnX X (unaryOp .USub) negM := by
  intro pins s σ H x v Q Iv rx h
  obtain ⟨I, st, d, r, st', S, rd, eq, k⟩ := h
  unfold negM at eq
  split at eq
  · cases eq
    unfold Rep at rd
    exact un_neg pins s σ H x v Q Iv rx ⟨_, rd, k I H _ (.refl I H) S (by unfold Rep; rfl)⟩
  · cases eq
end
end DL


set_option Elab.async false
set_option linter.all false
set_option maxRecDepth 100000
set_option maxHeartbeats 4000000
namespace DL
open PySem PySem.Spec PyProof.Rows L2

/-! ### == at any depth -/
mutual
def plainD : D → Bool
  | .ref _ => false
  | .tup l => plainDs l
  | .lst l => plainDs l
  | .scr l => plainDs l
  | _ => true
def plainDs : List D → Bool
  | [] => true
  | d :: ds => plainD d && plainDs ds
end
mutual
def toP : D → PyData
  | .non => .none
  | .bl b => .bool b
  | .int i => .int i
  | .str x => .str x
  | .tup l => .tuple (toPs l)
  | .lst l => .list (toPs l)
  | .scr l => .list (toPs l)
  | .ref _ => .none
def toPs : List D → List PyData
  | [] => []
  | d :: ds => toP d :: toPs ds
end
section
variable {K : PySem.W.Frag} {I : Ids} {H : Hp}
mutual
theorem Rep.dp : ∀ (d : D) (v : V), plainD d = true → Rep K I H d v → Dp K H v (toP d)
  | .non, v, _, h => by unfold Rep at h; subst h; exact .non
  | .bl b, v, _, h => by unfold Rep at h; subst h; exact .bl b
  | .int i, v, _, h => by unfold Rep at h; subst h; exact .int i
  | .str x, v, _, h => by unfold Rep at h; subst h; exact .str x
  | .tup l, v, p, h => by
    unfold Rep at h
    obtain ⟨a, xs, rfl, q, r⟩ := h
    unfold toP
    exact .tup q (Reps.dp l xs p r)
  | .lst l, v, p, h => by
    unfold Rep at h
    obtain ⟨a, xs, rfl, q, _, _, r⟩ := h
    unfold toP
    exact .lst (.of q) (Reps.dp l xs p r)
  | .scr l, v, p, h => by
    unfold Rep at h
    obtain ⟨a, xs, rfl, q, r⟩ := h
    unfold toP
    exact .lst q.sq (Reps.dp l xs p r)
  | .ref n, v, p, h => by cases p
theorem Reps.dp : ∀ (ds : List D) (vs : List V), plainDs ds = true → Reps K I H ds vs → DpAll K H vs (toPs ds)
  | [], _, _, h => by unfold Reps at h; subst h; exact .nil
  | d :: ds, vs, p, h => by
    unfold Reps at h
    obtain ⟨x, r, rfl, q, t⟩ := h
    have p' := Bool.and_eq_true_iff.mp (show (plainD d && plainDs ds) = true from p)
    exact .cons (Rep.dp d x p'.1 q) (Reps.dp ds r p'.2 t)
end
theorem RepW.dp {d : D} {v : V} (p : plainD d = true) (h : RepW K I H d v) : Dp K H v (toP d) := by
  cases d with
  | lst l =>
    obtain ⟨a, xs, rfl, q, r⟩ := h.lst
    unfold toP
    exact .lst (.of q) (Reps.dp l xs p r)
  | _ => exact Rep.dp (I := I) _ v p h
end
def eqOf (d e : D) : Option Bool := if plainD d = true ∧ plainD e = true ∧ SeqAt.shaped (toP d) = true ∧ SeqAt.shaped (toP e) = true then some (PyData.eqv (toP d) (toP e)) else none
def eqv2 : D → D → Option Bool
  | .int i, .int j => some (decide (i = j))
  | .str x, .str y => some (decide (x = y))
  | .bl b, .bl c => some (decide (b = c))
  | .non, .non => some true
  | d, e => eqOf d e
def eqM (d e : D) : M D := fun st => (eqv2 (dr st d) (dr st e)).map fun b => (.bl b, st)
def neM (d e : D) : M D := fun st => (eqv2 (dr st d) (dr st e)).map fun b => (.bl (!b), st)
section
variable {X : Cx}
theorem eqv2_dp {K : PySem.W.Frag} {I : Ids} {H : Hp} {d e : D} {x y : V} {b : Bool} (h : eqv2 d e = some b) (rd : RepW K I H d x) (re : RepW K I H e y) :
    ∃ d' e', Dp K H x d' ∧ Dp K H y e' ∧ ((scal x y = true ∧ b = decide (x = y)) ∨ (SeqAt.shaped d' = true ∧ SeqAt.shaped e' = true ∧ b = PyData.eqv d' e')) := by
  unfold eqv2 at h
  split at h
  · cases h
    rw [rd.int, re.int]
    exact ⟨_, _, .int _, .int _, .inl ⟨rfl, by rw [dec_int, Bool.beq_eq_decide_eq]⟩⟩
  · cases h
    rw [rd.str, re.str]
    exact ⟨_, _, .str _, .str _, .inl ⟨rfl, by rw [dec_str, Bool.beq_eq_decide_eq]⟩⟩
  · cases h
    rw [rd.bl, re.bl]
    exact ⟨_, _, .bl _, .bl _, .inl ⟨rfl, by rw [dec_bl, Bool.beq_eq_decide_eq]⟩⟩
  · cases h
    rw [rd.non, re.non]
    exact ⟨_, _, .non, .non, .inl ⟨rfl, by rw [decide_eq_true rfl]⟩⟩
  · unfold eqOf at h
    split at h
    · rename_i c
      cases h
      exact ⟨_, _, rd.dp c.1, re.dp c.2.1, .inr ⟨c.2.2.1, c.2.2.2, rfl⟩⟩
    · cases h
theorem ox_eq (hu : X.A.units + 64 < cLine) : OpX X (compareOp .Eq) eqM := by
  intro pins s σ H x y v u Q Iv rx ry h
  obtain ⟨I, st, d, e, r, st', S, rd, re, eq, k⟩ := h
  unfold eqM at eq
  obtain ⟨b, hb, eq⟩ := Option.map_eq_some_iff.mp eq
  cases eq
  obtain ⟨d', e', q1, q2, q3⟩ := eqv2_dp hb (rd.dr S) (re.dr S)
  have q := k I H (.bl b) (.refl I H) S (by unfold Rep; rfl)
  rcases q3 with ⟨q3, rfl⟩ | ⟨q3, q4, rfl⟩
  · exact op_eq pins s σ H x y v u Q Iv rx ry ⟨q3, q⟩
  · exact op_eqD hu pins s σ H x y v u Q Iv rx ry ⟨d', e', q1, q2, q3, q4, q⟩
theorem ox_ne (hu : X.A.units + 64 < cLine) : OpX X (compareOp .NotEq) neM := by
  intro pins s σ H x y v u Q Iv rx ry h
  obtain ⟨I, st, d, e, r, st', S, rd, re, eq, k⟩ := h
  unfold neM at eq
  obtain ⟨b, hb, eq⟩ := Option.map_eq_some_iff.mp eq
  cases eq
  obtain ⟨d', e', q1, q2, q3⟩ := eqv2_dp hb (rd.dr S) (re.dr S)
  have q := k I H (.bl (!b)) (.refl I H) S (by unfold Rep; rfl)
  rcases q3 with ⟨q3, rfl⟩ | ⟨q3, q4, rfl⟩
  · exact op_ne pins s σ H x y v u Q Iv rx ry ⟨q3, q⟩
  · exact op_neD hu pins s σ H x y v u Q Iv rx ry ⟨d', e', q1, q2, q3, q4, q⟩
end

/-! ### order of ints and texts -/
def ordM (p : Int → Int → Bool) (q : List Nat → List Nat → Bool) (d e : D) : M D := fun st => match d, e with
  | .int i, .int j => some (.bl (p i j), st)
  | .str x, .str y => some (.bl (q x.cps.toList y.cps.toList), st)
  | _, _ => none
abbrev ltM := ordM (fun i j => decide (i < j)) (fun x y => decide (x < y))
abbrev leM := ordM (fun i j => decide (i ≤ j)) (fun x y => !decide (y < x))
abbrev gtM := ordM (fun i j => decide (j < i)) (fun x y => decide (y < x))
abbrev geM := ordM (fun i j => decide (j ≤ i)) (fun x y => !decide (x < y))
section
variable {X : Cx}
theorem ox_ord {op : CmpOp} {p : Int → Int → Bool} {q : List Nat → List Nat → Bool} (h1 : OpR X (compareOp op) (rI0 fun i j => .bl (p i j))) (h2 : OpR X (compareOp op) (fun x y H Q => ∃ i j, x = .str i ∧ y = .str j ∧ Q (.bl (q i.cps.toList j.cps.toList)) H)) : OpX X (compareOp op) (ordM p q) := by
  intro pins s σ H x y v u Q Iv rx ry h
  obtain ⟨I, st, d, e, r, st', S, rd, re, eq, k⟩ := h
  unfold ordM at eq
  split at eq
  · cases eq
    unfold Rep at rd re
    exact h1 pins s σ H x y v u Q Iv rx ry ⟨_, _, rd, re, k I H _ (.refl I H) S (by unfold Rep; rfl)⟩
  · cases eq
    unfold Rep at rd re
    exact h2 pins s σ H x y v u Q Iv rx ry ⟨_, _, rd, re, k I H _ (.refl I H) S (by unfold Rep; rfl)⟩
  · cases eq
theorem ox_lt : OpX X (compareOp .Lt) ltM := ox_ord op_lt op_lt_str
theorem ox_le : OpX X (compareOp .LtE) leM := ox_ord op_le op_le_str
theorem ox_gt : OpX X (compareOp .Gt) gtM := ox_ord op_gt op_gt_str
theorem ox_ge : OpX X (compareOp .GtE) geM := ox_ord op_ge op_ge_str
/-! ### is None -/
def isNon : D → Bool
  | .non => true
  | _ => false
def isM (d e : D) : M D := fun st => match e with
  | .non => some (.bl (isNon d), st)
  | _ => none
def isNotM (d e : D) : M D := fun st => match e with
  | .non => some (.bl (!isNon d), st)
  | _ => none
theorem Rep.isNon {K : PySem.W.Frag} {I : Ids} {H : Hp} {d : D} {v : V} (r : Rep K I H d v) : decide (v = .non) = isNon d := by
  cases d with
  | non => unfold Rep at r; subst r; rfl
  | bl b => unfold Rep at r; subst r; rfl
  | int b => unfold Rep at r; subst r; rfl
  | str b => unfold Rep at r; subst r; rfl
  | tup b => unfold Rep at r; obtain ⟨a, xs, rfl, _⟩ := r; rfl
  | lst b => unfold Rep at r; obtain ⟨a, xs, rfl, _⟩ := r; rfl
  | scr b => unfold Rep at r; obtain ⟨a, xs, rfl, _⟩ := r; rfl
  | ref b => unfold Rep at r; obtain ⟨a, _, rfl⟩ := r; rfl
theorem ox_is : OpX X (compareOp .Is) isM := by
  intro pins s σ H x y v u Q Iv rx ry h
  obtain ⟨I, st, d, e, r, st', S, rd, re, eq, k⟩ := h
  unfold isM at eq
  split at eq
  · cases eq
    have e2 := rd.isNon
    unfold Rep at re
    exact op_isN pins s σ H x y v u Q Iv rx ry ⟨re, by rw [e2]; exact k I H _ (.refl I H) S (by unfold Rep; rfl)⟩
  · cases eq
theorem ox_isnot : OpX X (compareOp .IsNot) isNotM := by
  intro pins s σ H x y v u Q Iv rx ry h
  obtain ⟨I, st, d, e, r, st', S, rd, re, eq, k⟩ := h
  unfold isNotM at eq
  split at eq
  · cases eq
    have e2 := rd.isNon
    unfold Rep at re
    exact op_notN pins s σ H x y v u Q Iv rx ry ⟨re, by rw [e2]; exact k I H _ (.refl I H) S (by unfold Rep; rfl)⟩
  · cases eq
end

/-! ### in, over flat things -/
def flatD : D → Bool
  | .int _ => true
  | .str _ => true
  | .bl _ => true
  | .non => true
  | _ => false
def vOf : D → V
  | .int i => .int i
  | .str x => .str x
  | .bl b => .bl b
  | _ => .non
theorem Rep.flat {K : PySem.W.Frag} {I : Ids} {H : Hp} {d : D} {v : V} (f : flatD d = true) (r : Rep K I H d v) : v = vOf d := by
  cases d with
  | non => exact r
  | bl b => exact r
  | int b => exact r
  | str b => exact r
  | tup b => cases f
  | lst b => cases f
  | scr b => cases f
  | ref b => cases f
theorem Reps.flat {K : PySem.W.Frag} {I : Ids} {H : Hp} : ∀ {ds : List D} {vs : List V}, ds.all flatD = true → Reps K I H ds vs → vs = ds.map vOf
  | [], _, _, r => by unfold Reps at r; exact r
  | d :: ds, vs, f, r => by
    unfold Reps at r
    obtain ⟨x, xr, rfl, q, t⟩ := r
    rw [List.all_cons, Bool.and_eq_true] at f
    rw [q.flat f.1, Reps.flat f.2 t]
    rfl
theorem flatV_vOf {d : D} (f : flatD d = true) : flatV (vOf d) = true := by
  cases d <;> first | rfl | cases f
def eqF : D → D → Bool
  | .int i, .int j => decide (i = j)
  | .str x, .str y => decide (x = y)
  | d, e => eqV (vOf d) (vOf e)
theorem eqF_vOf {d e : D} (f : flatD d = true) (g : flatD e = true) : eqV (vOf d) (vOf e) = eqF d e := by
  unfold eqF
  split
  · unfold vOf eqV; first | rfl | simp [Bool.beq_eq_decide_eq]
  · unfold vOf eqV; first | rfl | simp [Bool.beq_eq_decide_eq]
  · rfl
def inM (neg : Bool) (d e : D) : M D := fun st => match dr st e with
  | .tup l => if flatD d = true ∧ l.all flatD = true then some (.bl (neg ^^ l.any fun y => eqF y d), st) else none
  | .lst l => if flatD d = true ∧ l.all flatD = true then some (.bl (neg ^^ l.any fun y => eqF y d), st) else none
  | .scr l => if flatD d = true ∧ l.all flatD = true then some (.bl (neg ^^ l.any fun y => eqF y d), st) else none
  | _ => none
theorem any_vOf {d : D} (f : flatD d = true) : ∀ {l : List D}, l.all flatD = true → inV (vOf d) (l.map vOf) = l.any fun y => eqF y d
  | [], _ => rfl
  | e :: l, g => by
    rw [List.all_cons, Bool.and_eq_true] at g
    have ih := any_vOf f g.2
    unfold inV at ih ⊢
    rw [List.map_cons, List.any_cons, List.any_cons, ih, eqF_vOf g.1 f]
section
variable {X : Cx}
theorem ox_inG (neg : Bool) {op : CmpOp} (ho : OpR X (compareOp op) (rIn X.K neg)) : OpX X (compareOp op) (inM neg) := by
  intro pins s σ H x y v u Q Iv rx ry h
  obtain ⟨I, st, d, e, r, st', S, rd, re, eq, k⟩ := h
  have fin : ∀ (l : List D) (a : Addr) (xs : List V), flatD d = true → l.all flatD = true → y = .ref a → (SqL X.K H a xs ∨ SqT X.K H a xs) → Reps X.K I H l xs → Q (.bl (neg ^^ l.any fun y => eqF y d)) H → rIn X.K neg x y H Q := by
    intro l a xs f g e0 hs rs q
    have e1 := rd.flat f
    have e2 := Reps.flat g rs
    subst e1 e2
    refine ⟨a, _, e0, hs, flatV_vOf f, ?_, ?_⟩
    · rw [List.all_map]
      exact List.all_eq_true.mpr fun z hz => flatV_vOf (List.all_eq_true.mp g z hz)
    · rw [any_vOf f g]
      cases neg with
      | true => rw [Bool.true_xor] at q; exact q
      | false => rw [Bool.false_xor] at q; exact q
  have re := re.dr S
  unfold inM at eq
  split at eq
  · rename_i l hl
    rw [hl] at re
    split at eq
    · rename_i c
      cases eq
      obtain ⟨a, xs, e0, qa, ra⟩ := re.tup
      exact ho pins s σ H x y v u Q Iv rx ry (fin l a xs c.1 c.2 e0 (.inr qa) ra (k I H _ (.refl I H) S (by unfold Rep; rfl)))
    · cases eq
  · rename_i l hl
    rw [hl] at re
    split at eq
    · rename_i c
      cases eq
      obtain ⟨a, xs, e0, qa, ra⟩ := re.lst
      exact ho pins s σ H x y v u Q Iv rx ry (fin l a xs c.1 c.2 e0 (.inl (.of qa)) ra (k I H _ (.refl I H) S (by unfold Rep; rfl)))
    · cases eq
  · rename_i l hl
    rw [hl] at re
    split at eq
    · rename_i c
      cases eq
      obtain ⟨a, xs, e0, qa, ra⟩ := re.scr
      exact ho pins s σ H x y v u Q Iv rx ry (fin l a xs c.1 c.2 e0 (.inl qa.sq) ra (k I H _ (.refl I H) S (by unfold Rep; rfl)))
    · cases eq
  · cases eq
theorem ox_in : OpX X (compareOp .In) (inM false) := ox_inG false op_in_seq
theorem ox_notin : OpX X (compareOp .NotIn) (inM true) := ox_inG true op_notIn_seq
end

/-! ### items and slices -/
def ixM (d e : D) : M D := fun st => match dr st d, e with
  | .tup l, .int i => (atI l i).map fun x => (x, st)
  | .lst l, .int i => (atI l i).map fun x => (x, st)
  | .scr l, .int i => (atI l i).map fun x => (x, st)
  | .str z, .int i => if z.length ≤ sizeLine then (atI z.cps.toList i).map fun c => (.str ⟨#[c]⟩, st) else none
  | _, _ => none
theorem Reps.atI {K : PySem.W.Frag} {I : Ids} {H : Hp} {ds : List D} {vs : List V} {i : Int} {d : D} (r : Reps K I H ds vs) (h : L2.atI ds i = some d) : ∃ v, L2.atI vs i = some v ∧ Rep K I H d v := by
  unfold L2.atI at h ⊢
  obtain ⟨j, h1, h2⟩ := Option.bind_eq_some_iff.mp h
  obtain ⟨v, h3, h4⟩ := r.get h2
  exact ⟨v, by rw [← r.length, h1]; exact h3, h4⟩
section
variable {X : Cx}
theorem ox_ix : IxR X (rX2 X.K ixM) := by
  intro value slice pins s σ H x y v u Q Iv rx ry h hs
  obtain ⟨I, st, d, e, r, st', S, rd, re, eq, k⟩ := h
  have rd := rd.dr S
  unfold ixM at eq
  split at eq
  · rename_i l i hl
    rw [hl] at rd
    obtain ⟨z, hz, eq⟩ := Option.map_eq_some_iff.mp eq
    cases eq
    obtain ⟨a, xs, e0, qa, ra⟩ := rd.tup
    obtain ⟨w', h1, h2⟩ := ra.atI hz
    unfold Rep at re
    exact ix_seq value slice pins s σ H x y v u Q Iv rx ry (.inr (.inl ⟨a, xs, i, w', e0, re, qa, h1, k I H _ (.refl I H) S h2⟩)) hs
  · rename_i l i hl
    rw [hl] at rd
    obtain ⟨z, hz, eq⟩ := Option.map_eq_some_iff.mp eq
    cases eq
    obtain ⟨a, xs, e0, qa, ra⟩ := rd.lst
    obtain ⟨w', h1, h2⟩ := ra.atI hz
    unfold Rep at re
    exact ix_seq value slice pins s σ H x y v u Q Iv rx ry (.inl ⟨a, xs, i, w', e0, re, .of qa, h1, k I H _ (.refl I H) S h2⟩) hs
  · rename_i l i hl
    rw [hl] at rd
    obtain ⟨z, hz, eq⟩ := Option.map_eq_some_iff.mp eq
    cases eq
    obtain ⟨a, xs, e0, qa, ra⟩ := rd.scr
    obtain ⟨w', h1, h2⟩ := ra.atI hz
    unfold Rep at re
    exact ix_seq value slice pins s σ H x y v u Q Iv rx ry (.inl ⟨a, xs, i, w', e0, re, qa.sq, h1, k I H _ (.refl I H) S h2⟩) hs
  · rename_i z i hl
    rw [hl] at rd
    split at eq
    · rename_i hz
      obtain ⟨c, hc, eq⟩ := Option.map_eq_some_iff.mp eq
      cases eq
      unfold Rep at re
      exact ix_seq value slice pins s σ H x y v u Q Iv rx ry (.inr (.inr ⟨z, i, c, rd.str, re, hz, hc, k I H _ (.refl I H) S (by unfold Rep; rfl)⟩)) hs
    · cases eq
  · cases eq
end
/-- o[i] = v: a list with a number -/
def bSub (o i : EM D) : BM := fun d ρ st => (o ρ st).bind fun p => (i ρ p.2).bind fun q => match p.1, q.1 with
  | .ref n, .int k => match q.2[n]? with
    | some (.lst l) => (ixN l.length k).bind fun j => some (ρ, q.2.set n (.lst (l.set j d)))
    | none => none
  | _, _ => none
section
variable {K : PySem.W.Frag} {I : Ids} {H : Hp} {st : Sto}
theorem Grow.put {a : Addr} {o : HO} (ha : a ∈ I.ids) (h0 : H a ≠ none) : Grow I H I (upd H a o) :=
  ⟨⟨[], by simp, by simp⟩, ⟨[], by simp, by simp⟩, fun b u e n => by rw [upd_ne (fun z => n (by rw [z]; exact ha))]; exact e, fun b h => by
    by_cases q : b = a
    · subst q; rw [upd_same]; simp
    · rw [upd_ne q]; exact h⟩
theorem StOk.put {n : Nat} {a : Addr} {l : List D} {xs : List V} (S : StOk K I H st) (hn : I.ids[n]? = some a) (r : Reps K I H l xs) : Grow I H I (upd H a (.lst xs)) ∧ StOk K I (upd H a (.lst xs)) (st.set n (.lst l)) := by
  have ha := List.mem_of_getElem? hn
  obtain ⟨o0, h0, _⟩ := S.mu a ha
  have g : Grow I H I (upd H a (.lst xs)) := .put ha (by rw [h0]; simp)
  refine ⟨g, by rw [List.length_set]; exact S.len, S.nd, fun b hb => ?_, fun b hb => ⟨(S.bn b hb).1, g.there b (S.bn b hb).2⟩, fun j o b h1 h2 => ?_⟩
  · by_cases q : b = a
    · subst q; exact ⟨_, upd_same, trivial⟩
    · rw [upd_ne q]; exact S.mu b hb
  · by_cases q : n = j
    · subst q
      rw [hn] at h2; cases h2
      have e : o = .lst l := by
        rw [List.getElem?_set_self (by have := (List.getElem?_eq_some_iff.mp h1).1; rw [List.length_set] at this; exact this)] at h1
        cases h1; rfl
      subst e
      exact ⟨xs, upd_same, r.up S g⟩
    · rw [List.getElem?_set_ne q] at h1
      have nb : b ≠ a := fun z => by
        subst z
        exact q ((List.getElem_inj S.nd).mp ((List.getElem?_eq_some_iff.mp hn).2.trans (List.getElem?_eq_some_iff.mp h2).2.symm))
      have z := S.ob j o b h1 h2
      cases o with
      | lst l' =>
        obtain ⟨zs, e1, rr⟩ := z
        exact ⟨zs, by rw [upd_ne nb]; exact e1, rr.up S g⟩
end
section
variable {X : Cx} {o i : Expr} {mo mi : EM D} {pos : Pos}
theorem xg_sub (ho : PE X o (tX X.K mo)) (hi : PE X i (tX X.K mi))
    (ha : ∀ v, assign (.Subscript o i pos) X.env v = (do
      let ov ← holding [v] (eval o X.env)
      let iv ← holding [v, ov] (eval i X.env)
      standAt pos
      holding [v, ov, iv] (setItem ov iv v)
      release [v, ov, iv] []) := by intro _; rfl) : PG X (.Subscript o i pos) (tG X.K [] (bSub mo mi)) := by
  refine pgImp (pg_sub ho hi set_list ha) fun v σ H Q hw => ?_
  obtain ⟨I, ρ, st, d, ρ', st', S, r, e, k⟩ := hw
  unfold bSub at e
  obtain ⟨⟨d1, s1⟩, e1, e⟩ := Option.bind_eq_some_iff.mp e
  obtain ⟨⟨d2, s2⟩, e2, e⟩ := Option.bind_eq_some_iff.mp e
  refine ⟨I, ρ, st, d1, s1, S, e1, fun I1 H1 x g1 S1 r1 => ?_⟩
  refine ⟨I1, ρ, s1, d2, s2, S.grow g1 S1, e2, fun I2 H2 y g2 S2 r2 => ?_⟩
  dsimp only at e
  split at e
  · split at e
    · rename_i n kk _ _ l hl
      obtain ⟨j, hj, e⟩ := Option.bind_eq_some_iff.mp e
      cases e
      have r1' := r1.up S1 g2
      unfold Rep at r1' r2
      obtain ⟨a, hn, rfl⟩ := r1'
      obtain ⟨xs, hx, rs⟩ := S2.ob n _ a hl hn
      have rv := (r.up S.st (g1.trans g2))
      obtain ⟨g3, S3⟩ := S2.put hn (rs.set j rv)
      exact ⟨a, xs, kk, j, rfl, r2, hx, by rw [← rs.length]; exact hj, k I2 _ σ ((g1.trans g2).trans g3) S3 ((S.grow (g1.trans g2) S2).grow g3 S3).env fun _ _ => rfl⟩
    · cases e
  · cases e
end
end DL


set_option Elab.async false
set_option linter.all false
set_option maxRecDepth 100000
set_option maxHeartbeats 4000000
namespace DL
open PySem PySem.Spec PyProof.Rows L2

/-! ### slices -/
def cutL (l : List D) (lo hi : Option Int) : List D := (l.drop (HT.sIx l.length 0 lo)).take (HT.sIx l.length l.length hi - HT.sIx l.length 0 lo)
def slM (d : D) (lo hi : Option Int) : M D := fun st => match dr st d with
  | .lst l => some (.lst (cutL l lo hi), st)
  | .scr l => some (.lst (cutL l lo hi), st)
  | .tup l => some (.tup (cutL l lo hi), st)
  | .str z => if z.length ≤ sizeLine then some (.str (cutS z lo hi), st) else none
  | _ => none
theorem Reps.cutL {K : PySem.W.Frag} {I : Ids} {H : Hp} {ds : List D} {vs : List V} (r : Reps K I H ds vs) (lo hi : Option Int) : Reps K I H (DL.cutL ds lo hi) (cutV vs lo hi) := by
  unfold DL.cutL cutV
  rw [r.length]
  exact (r.drop _).take _
theorem SlR.or' {X : Cx} {r r' : V → Option Int → Option Int → Hp → VK → Prop} (h : SlR X r) (h' : SlR X r') : SlR X (fun x lo hi H Q => r x lo hi H Q ∨ r' x lo hi H Q) := h.or h'
theorem slImp {X : Cx} {r r' : V → Option Int → Option Int → Hp → VK → Prop} (h : SlR X r) (k : ∀ x lo hi H Q, r' x lo hi H Q → r x lo hi H Q) : SlR X r' := by
  intro pins s σ H x v vl vu lo hi sl Q I rx hs pl pu hw
  exact h pins s σ H x v vl vu lo hi sl Q I rx hs pl pu (k _ _ _ _ _ hw)
section
variable {X : Cx}
theorem ox_sl : SlR X (rXsl X.K slM) := by
  refine slImp (sl_list.or (sl_tupA.or sl_str)) fun x lo hi H Q h => ?_
  obtain ⟨I, st, d, r, st', S, rd, eq, k⟩ := h
  have rd := rd.dr S
  unfold slM at eq
  split at eq
  · rename_i l hl
    rw [hl] at rd
    cases eq
    obtain ⟨a, xs, e0, qa, ra⟩ := rd.lst
    exact .inl ⟨a, xs, e0, .of qa, fun p hp => k I _ _ (.new hp) (S.new hp) (.newLst S hp (ra.cutL lo hi))⟩
  · rename_i l hl
    rw [hl] at rd
    cases eq
    obtain ⟨a, xs, e0, qa, ra⟩ := rd.scr
    exact .inl ⟨a, xs, e0, qa.sq, fun p hp => k I _ _ (.new hp) (S.new hp) (.newLst S hp (ra.cutL lo hi))⟩
  · rename_i l hl
    rw [hl] at rd
    cases eq
    obtain ⟨a, xs, e0, qa, ra⟩ := rd.tup
    refine .inr (.inl ⟨a, xs, e0, qa, fun ⟨z1, z2⟩ => ?_, fun _ p hp => k I _ _ (.new hp) (S.new hp) (.newTup S hp (ra.cutL lo hi))⟩)
    refine k I H _ (.refl I H) S ?_
    unfold Rep
    refine ⟨a, xs, rfl, qa, ?_⟩
    have e : cutL l lo hi = l := by
      unfold cutL
      rw [ra.length, z1, z2, List.drop_zero, Nat.sub_zero, ← ra.length, List.take_length]
    rw [e]; exact ra
  · rename_i z hl
    rw [hl] at rd
    split at eq
    · rename_i hz
      cases eq
      exact .inr (.inr ⟨z, rd.str, hz, k I H _ (.refl I H) S (by unfold Rep; rfl)⟩)
    · cases eq
  · cases eq
end

/-! ### calls -/
def seqD (st : Sto) (d : D) : Option (List D) := match dr st d with
  | .tup l => some l
  | .lst l => some l
  | .scr l => some l
  | _ => none
theorem seqD_rep {K : PySem.W.Frag} {I : Ids} {H : Hp} {st : Sto} {d : D} {v : V} {l : List D} (S : StOk K I H st) (r : Rep K I H d v) (h : seqD st d = some l) : ∃ a xs, v = .ref a ∧ (SqL K H a xs ∨ SqT K H a xs) ∧ Reps K I H l xs := by
  have rd := r.dr S
  unfold seqD at h
  split at h
  · rename_i l' hl; rw [hl] at rd; cases h
    obtain ⟨a, xs, e0, qa, ra⟩ := rd.tup
    exact ⟨a, xs, e0, .inr qa, ra⟩
  · rename_i l' hl; rw [hl] at rd; cases h
    obtain ⟨a, xs, e0, qa, ra⟩ := rd.lst
    exact ⟨a, xs, e0, .inl (.of qa), ra⟩
  · rename_i l' hl; rw [hl] at rd; cases h
    obtain ⟨a, xs, e0, qa, ra⟩ := rd.scr
    exact ⟨a, xs, e0, .inl qa.sq, ra⟩
  · cases h
def fn1 (g : D → M D) : List D → M D := fun ds st => match ds with
  | [d] => g d st
  | _ => none
def fn2 (g : D → D → M D) : List D → M D := fun ds st => match ds with
  | [d, e] => g d e st
  | _ => none
theorem Reps.one {K : PySem.W.Frag} {I : Ids} {H : Hp} {d : D} {vs : List V} (r : Reps K I H [d] vs) : ∃ v, vs = [v] ∧ Rep K I H d v := by
  unfold Reps at r
  obtain ⟨x, t, rfl, q, r2⟩ := r
  unfold Reps at r2
  subst r2
  exact ⟨x, rfl, q⟩
theorem Reps.two {K : PySem.W.Frag} {I : Ids} {H : Hp} {d e : D} {vs : List V} (r : Reps K I H [d, e] vs) : ∃ v w, vs = [v, w] ∧ Rep K I H d v ∧ Rep K I H e w := by
  unfold Reps at r
  obtain ⟨x, t, rfl, q, r2⟩ := r
  obtain ⟨y, rfl, q2⟩ := r2.one
  exact ⟨x, y, rfl, q, q2⟩
def lenM (d : D) : M D := fun st => match seqD st d with
  | some l => some (.int l.length, st)
  | none => match d with
    | .str z => if z.length ≤ sizeLine then some (.int z.length, st) else none
    | _ => none
def listM (d : D) : M D := fun st => (seqD st d).map fun l => (.lst l, st)
def tupM (d : D) : M D := fun st => (seqD st d).map fun l => (.tup l, st)
def intM (d : D) : M D := fun st => match d with
  | .int i => some (.int i, st)
  | .bl b => some (.int (if b then 1 else 0), st)
  | _ => none
def absM (d : D) : M D := fun st => match d with
  | .int i => some (.int (if i < 0 then -i else i), st)
  | _ => none
def strM (d : D) : M D := fun st => match d with
  | .int i => if i.natAbs.log2 < 1920 then some (.str (toString i), st) else none
  | _ => none
def max2M (d e : D) : M D := fun st => match d, e with
  | .int i, .int j => some (.int (if j > i then j else i), st)
  | _, _ => none
def min2M (d e : D) : M D := fun st => match d, e with
  | .int i, .int j => some (.int (if j < i then j else i), st)
  | _, _ => none
def intsD : List D → Option (List Int)
  | [] => some []
  | .int i :: l => (intsD l).map (i :: ·)
  | _ => none
def blsD : List D → Option (List Bool)
  | [] => some []
  | .bl i :: l => (blsD l).map (i :: ·)
  | _ => none
def strsD : List D → Option (List Str)
  | [] => some []
  | .str i :: l => (strsD l).map (i :: ·)
  | _ => none
theorem intsD_rep {K : PySem.W.Frag} {I : Ids} {H : Hp} : ∀ {l : List D} {ns : List Int} {xs : List V}, intsD l = some ns → Reps K I H l xs → xs = ns.map V.int
  | [], _, _, h, r => by cases h; unfold Reps at r; exact r
  | d :: l, ns, xs, h, r => by
    unfold intsD at h
    split at h
    · cases ‹_ :: _ = []›
    · rename_i i l' e
      cases e
      obtain ⟨ms, hm, rfl⟩ := Option.map_eq_some_iff.mp h
      unfold Reps at r
      obtain ⟨x, t, rfl, q, r2⟩ := r
      unfold Rep at q
      rw [q, intsD_rep hm r2]; rfl
    · cases h
theorem blsD_rep {K : PySem.W.Frag} {I : Ids} {H : Hp} : ∀ {l : List D} {ns : List Bool} {xs : List V}, blsD l = some ns → Reps K I H l xs → xs = ns.map V.bl
  | [], _, _, h, r => by cases h; unfold Reps at r; exact r
  | d :: l, ns, xs, h, r => by
    unfold blsD at h
    split at h
    · cases ‹_ :: _ = []›
    · rename_i i l' e
      cases e
      obtain ⟨ms, hm, rfl⟩ := Option.map_eq_some_iff.mp h
      unfold Reps at r
      obtain ⟨x, t, rfl, q, r2⟩ := r
      unfold Rep at q
      rw [q, blsD_rep hm r2]; rfl
    · cases h
theorem strsD_rep {K : PySem.W.Frag} {I : Ids} {H : Hp} : ∀ {l : List D} {ns : List Str} {xs : List V}, strsD l = some ns → Reps K I H l xs → xs = ns.map V.str
  | [], _, _, h, r => by cases h; unfold Reps at r; exact r
  | d :: l, ns, xs, h, r => by
    unfold strsD at h
    split at h
    · cases ‹_ :: _ = []›
    · rename_i i l' e
      cases e
      obtain ⟨ms, hm, rfl⟩ := Option.map_eq_some_iff.mp h
      unfold Reps at r
      obtain ⟨x, t, rfl, q, r2⟩ := r
      unfold Rep at q
      rw [q, strsD_rep hm r2]; rfl
    · cases h
theorem reps_bls {K : PySem.W.Frag} {I : Ids} {H : Hp} : ∀ ns : List Bool, Reps K I H (ns.map D.bl) (ns.map V.bl)
  | [] => Reps.nil
  | _ :: ns => Reps.cons (by unfold Rep; rfl) (reps_bls ns)
theorem reps_strs {K : PySem.W.Frag} {I : Ids} {H : Hp} : ∀ ns : List Str, Reps K I H (ns.map D.str) (ns.map V.str)
  | [] => Reps.nil
  | _ :: ns => Reps.cons (by unfold Rep; rfl) (reps_strs ns)
theorem intsD_map : ∀ ns : List Int, intsD (ns.map D.int) = some ns
  | [] => rfl
  | n :: ns => by show (intsD (ns.map D.int)).map (n :: ·) = _; rw [intsD_map ns]; rfl
theorem blsD_map : ∀ ns : List Bool, blsD (ns.map D.bl) = some ns
  | [] => rfl
  | n :: ns => by show (blsD (ns.map D.bl)).map (n :: ·) = _; rw [blsD_map ns]; rfl
theorem strsD_map : ∀ ns : List Str, strsD (ns.map D.str) = some ns
  | [] => rfl
  | n :: ns => by show (strsD (ns.map D.str)).map (n :: ·) = _; rw [strsD_map ns]; rfl
def lstD (st : Sto) (d : D) : Option (List D) := match dr st d with
  | .lst l => some l
  | .scr l => some l
  | _ => none
theorem lstD_rep {K : PySem.W.Frag} {I : Ids} {H : Hp} {st : Sto} {d : D} {v : V} {l : List D} (S : StOk K I H st) (r : Rep K I H d v) (h : lstD st d = some l) : ∃ a xs, v = .ref a ∧ SqL K H a xs ∧ Reps K I H l xs := by
  have rd := r.dr S
  unfold lstD at h
  split at h
  · rename_i l' hl; rw [hl] at rd; cases h
    obtain ⟨a, xs, e0, qa, ra⟩ := rd.lst
    exact ⟨a, xs, e0, .of qa, ra⟩
  · rename_i l' hl; rw [hl] at rd; cases h
    obtain ⟨a, xs, e0, qa, ra⟩ := rd.scr
    exact ⟨a, xs, e0, qa.sq, ra⟩
  · cases h
def sumM (d : D) : M D := fun st => ((lstD st d).bind intsD).map fun ns => (.int ns.sum, st)
def allM (d : D) : M D := fun st => ((lstD st d).bind blsD).map fun ns => (.bl (ns.all id), st)
def anyM (d : D) : M D := fun st => ((lstD st d).bind blsD).map fun ns => (.bl (ns.any id), st)
def leastI : List Int → Option Int
  | [] => none
  | n :: ns => some (ns.foldl min n)
def greatestI : List Int → Option Int
  | [] => none
  | n :: ns => some (ns.foldl max n)
def minM (d : D) : M D := fun st => ((seqD st d).bind intsD).bind fun ns => (leastI ns).map fun m => (.int m, st)
def maxM (d : D) : M D := fun st => ((seqD st d).bind intsD).bind fun ns => (greatestI ns).map fun m => (.int m, st)
section
variable {X : Cx}
theorem cx_len : CallX X (.builtin "len") (fn1 lenM) := by
  refine callImp (call_len_seq.or call_len_str) fun xs H Q h => ?_
  obtain ⟨I, st, ds, r, st', S, rs, eq, k⟩ := h
  unfold fn1 at eq
  split at eq
  · obtain ⟨v, rfl, rd⟩ := rs.one
    unfold lenM at eq
    split at eq
    · rename_i l hl
      cases eq
      obtain ⟨a, ys, rfl, q, ra⟩ := seqD_rep S rd hl
      exact .inl ⟨a, ys, rfl, q, by rw [← ra.length]; exact k I H _ (.refl I H) S (by unfold Rep; rfl)⟩
    · split at eq
      · split at eq
        · rename_i hz
          cases eq
          unfold Rep at rd
          exact .inr ⟨_, by rw [rd], hz, k I H _ (.refl I H) S (by unfold Rep; rfl)⟩
        · cases eq
      · cases eq
  · cases eq
theorem cx_list : CallX X (.type "list") (fn1 listM) := by
  refine callImp call_list_of fun xs H Q h => ?_
  obtain ⟨I, st, ds, r, st', S, rs, eq, k⟩ := h
  unfold fn1 at eq
  split at eq
  · obtain ⟨v, rfl, rd⟩ := rs.one
    unfold listM at eq
    obtain ⟨l, hl, eq⟩ := Option.map_eq_some_iff.mp eq
    cases eq
    obtain ⟨a, ys, rfl, q, ra⟩ := seqD_rep S rd hl
    exact ⟨a, ys, rfl, q, fun p hp => k I _ _ (.new hp) (S.new hp) (.newLst S hp ra)⟩
  · cases eq
theorem cx_tuple : CallX X (.type "tuple") (fn1 tupM) := by
  refine callImp call_tuple_of fun xs H Q h => ?_
  obtain ⟨I, st, ds, r, st', S, rs, eq, k⟩ := h
  unfold fn1 at eq
  split at eq
  · obtain ⟨v, rfl, rd⟩ := rs.one
    unfold tupM at eq
    obtain ⟨l, hl, eq⟩ := Option.map_eq_some_iff.mp eq
    cases eq
    obtain ⟨a, ys, rfl, q, ra⟩ := seqD_rep S rd hl
    rcases q with q | q
    · exact ⟨a, ys, rfl, .inl ⟨q, fun p hp => k I _ _ (.new hp) (S.new hp) (.newTup S hp ra)⟩⟩
    · exact ⟨a, ys, rfl, .inr ⟨q, k I H _ (.refl I H) S (by unfold Rep; exact ⟨a, ys, rfl, q, ra⟩)⟩⟩
  · cases eq
theorem cx_int : CallX X (.type "int") (fn1 intM) := by
  refine callImp call_int1 fun xs H Q h => ?_
  obtain ⟨I, st, ds, r, st', S, rs, eq, k⟩ := h
  unfold fn1 at eq
  split at eq
  · obtain ⟨v, rfl, rd⟩ := rs.one
    unfold intM at eq
    split at eq
    · cases eq
      unfold Rep at rd
      exact .inl ⟨_, by rw [rd], k I H _ (.refl I H) S (by unfold Rep; rfl)⟩
    · cases eq
      unfold Rep at rd
      exact .inr ⟨_, by rw [rd], k I H _ (.refl I H) S (by unfold Rep; rfl)⟩
    · cases eq
  · cases eq
theorem cx_abs : CallX X (.builtin "abs") (fn1 absM) := by
  refine callImp call_abs fun xs H Q h => ?_
  obtain ⟨I, st, ds, r, st', S, rs, eq, k⟩ := h
  unfold fn1 at eq
  split at eq
  · obtain ⟨v, rfl, rd⟩ := rs.one
    unfold absM at eq
    split at eq
    · cases eq
      unfold Rep at rd
      exact ⟨_, by rw [rd], k I H _ (.refl I H) S (by unfold Rep; rfl)⟩
    · cases eq
  · cases eq
theorem cx_str : CallX X (.type "str") (fn1 strM) := by
  refine callImp call_str_int fun xs H Q h => ?_
  obtain ⟨I, st, ds, r, st', S, rs, eq, k⟩ := h
  unfold fn1 at eq
  split at eq
  · obtain ⟨v, rfl, rd⟩ := rs.one
    unfold strM at eq
    split at eq
    · split at eq
      · rename_i hz
        cases eq
        unfold Rep at rd
        exact ⟨_, by rw [rd], hz, k I H _ (.refl I H) S (by unfold Rep; rfl)⟩
      · cases eq
    · cases eq
  · cases eq
theorem cx_max2 (hc : X.calm = true) : CallX X (.builtin "max") (fn2 max2M) := by
  refine callImp (call_max2 hc) fun xs H Q h => ?_
  obtain ⟨I, st, ds, r, st', S, rs, eq, k⟩ := h
  unfold fn2 at eq
  split at eq
  · obtain ⟨v, w', rfl, rd, re⟩ := rs.two
    unfold max2M at eq
    split at eq
    · cases eq
      unfold Rep at rd re
      exact ⟨_, _, by rw [rd, re], k I H _ (.refl I H) S (by unfold Rep; rfl)⟩
    · cases eq
  · cases eq
theorem cx_min2 (hc : X.calm = true) : CallX X (.builtin "min") (fn2 min2M) := by
  refine callImp (call_min2 hc) fun xs H Q h => ?_
  obtain ⟨I, st, ds, r, st', S, rs, eq, k⟩ := h
  unfold fn2 at eq
  split at eq
  · obtain ⟨v, w', rfl, rd, re⟩ := rs.two
    unfold min2M at eq
    split at eq
    · cases eq
      unfold Rep at rd re
      exact ⟨_, _, by rw [rd, re], k I H _ (.refl I H) S (by unfold Rep; rfl)⟩
    · cases eq
  · cases eq
theorem cx_sum (hc : X.calm = true) : CallX X (.builtin "sum") (fn1 sumM) := by
  refine callImp (cr_sum hc) fun xs H Q h => ?_
  obtain ⟨I, st, ds, r, st', S, rs, eq, k⟩ := h
  unfold fn1 at eq
  split at eq
  · obtain ⟨v, rfl, rd⟩ := rs.one
    unfold sumM at eq
    obtain ⟨ns, hn, eq⟩ := Option.map_eq_some_iff.mp eq
    cases eq
    obtain ⟨l, hl, hn⟩ := Option.bind_eq_some_iff.mp hn
    obtain ⟨a, ys, rfl, q, ra⟩ := lstD_rep S rd hl
    rw [intsD_rep hn ra] at q
    exact ⟨a, ns, rfl, q, k I H _ (.refl I H) S (by unfold Rep; rfl)⟩
  · cases eq
theorem cx_all (hc : X.calm = true) : CallX X (.builtin "all") (fn1 allM) := by
  refine callImp (cr_all hc) fun xs H Q h => ?_
  obtain ⟨I, st, ds, r, st', S, rs, eq, k⟩ := h
  unfold fn1 at eq
  split at eq
  · obtain ⟨v, rfl, rd⟩ := rs.one
    unfold allM at eq
    obtain ⟨ns, hn, eq⟩ := Option.map_eq_some_iff.mp eq
    cases eq
    obtain ⟨l, hl, hn⟩ := Option.bind_eq_some_iff.mp hn
    obtain ⟨a, ys, rfl, q, ra⟩ := lstD_rep S rd hl
    rw [blsD_rep hn ra] at q
    exact ⟨a, ns, rfl, q, k I H _ (.refl I H) S (by unfold Rep; rfl)⟩
  · cases eq
theorem cx_any (hc : X.calm = true) : CallX X (.builtin "any") (fn1 anyM) := by
  refine callImp (cr_any hc) fun xs H Q h => ?_
  obtain ⟨I, st, ds, r, st', S, rs, eq, k⟩ := h
  unfold fn1 at eq
  split at eq
  · obtain ⟨v, rfl, rd⟩ := rs.one
    unfold anyM at eq
    obtain ⟨ns, hn, eq⟩ := Option.map_eq_some_iff.mp eq
    cases eq
    obtain ⟨l, hl, hn⟩ := Option.bind_eq_some_iff.mp hn
    obtain ⟨a, ys, rfl, q, ra⟩ := lstD_rep S rd hl
    rw [blsD_rep hn ra] at q
    exact ⟨a, ns, rfl, q, k I H _ (.refl I H) S (by unfold Rep; rfl)⟩
  · cases eq
/-- min, max of a tuple or list of ints -/
theorem reads_int {h : Heap} {v : Value} {m : Int} {bs : List Addr} (r : Reads h v (.int m) bs) : ∃ t, v = .int m t := by
  cases r with
  | int _ t => exact ⟨t, rfl⟩
theorem reads_ints {h : Heap} : ∀ {vs : List Value} {ns : List Int}, Vals (ns.map V.int) vs → ∃ bs, ReadsAll h vs (ns.map .int) bs
  | [], [], _ => ⟨_, .nil⟩
  | _, n :: ns, .cons r t => by
    obtain ⟨tk, rfl⟩ := r
    obtain ⟨bs, q⟩ := reads_ints t
    exact ⟨_, .cons (.int n tk) q⟩
theorem alike_ints (ns : List Int) : PySem.W.AlikeAll (ns.map PyData.int) := by
  refine ⟨fun x hx y hy => ?_, fun x hx z => ?_⟩
  · obtain ⟨a, _, rfl⟩ := List.mem_map.mp hx
    obtain ⟨b, _, rfl⟩ := List.mem_map.mp hy
    rfl
  · obtain ⟨a, _, rfl⟩ := List.mem_map.mp hx
    cases z
theorem depth_ints : ∀ ns : List Int, PyData.depthAll (ns.map PyData.int) = 0
  | [] => by simp [PyData.depthAll]
  | n :: ns => by
    rw [List.map_cons]
    unfold PyData.depthAll PyData.depth
    rw [depth_ints ns]; rfl
theorem cx_minmax (hc : X.calm = true) (hu : X.A.units + 64 < cLine) {id : String} {pick : List Int → Option Int}
    (hl : ∀ (pins : List (Addr × Obj)) (s : Shared) (σ : L2.St) (H : Hp) (Q : VK) (a : Addr) (n : Int) (ns : List Int) (m : Int) (its : Array Value), Inv X pins σ H s → s.heap.IsList a its → Vals ((n :: ns).map V.int) its.toList → pick (n :: ns) = some m → Q (.int m) H → wpAny (model X.prog X.w) X.A (call (.builtin id) [.ref a]) (EP X pins σ Q) X.xe s)
    (ht : ∀ (pins : List (Addr × Obj)) (s : Shared) (σ : L2.St) (H : Hp) (Q : VK) (a : Addr) (n : Int) (ns : List Int) (m : Int) (its : Array Value), Inv X pins σ H s → s.heap.IsTuple a its → Vals ((n :: ns).map V.int) its.toList → pick (n :: ns) = some m → Q (.int m) H → wpAny (model X.prog X.w) X.A (call (.builtin id) [.ref a]) (EP X pins σ Q) X.xe s)
    (h0 : pick [] = none) : CallX X (.builtin id) (fn1 fun d st => ((seqD st d).bind intsD).bind fun ns => (pick ns).map fun m => (.int m, st)) := by
  intro pins s σ H xs us Q Iv rv h
  obtain ⟨I, st, ds, r, st', S, rs, eq, k⟩ := h
  unfold fn1 at eq
  split at eq
  · obtain ⟨v, rfl, rd⟩ := rs.one
    obtain ⟨ns, hn, eq⟩ := Option.bind_eq_some_iff.mp eq
    obtain ⟨m, hm, eq⟩ := Option.map_eq_some_iff.mp eq
    cases eq
    obtain ⟨l, hl', hn⟩ := Option.bind_eq_some_iff.mp hn
    obtain ⟨a, ys, rfl, q, ra⟩ := seqD_rep S rd hl'
    rw [intsD_rep hn ra] at q
    rw [Vals.ref1 rv]
    cases ns with
    | nil => rw [h0] at hm; cases hm
    | cons n ns =>
      have qq := k I H (.int m) (.refl I H) S (by unfold Rep; rfl)
      rcases q with q | q
      · obtain ⟨its, r1, pl, hz⟩ := Iv.list q
        exact hl pins s σ H Q a n ns m its.toArray Iv pl.isList (by simpa using r1) hm qq
      · obtain ⟨its, r1, pl, hz⟩ := Iv.tuple q
        exact ht pins s σ H Q a n ns m its.toArray Iv pl (by simpa using r1) hm qq
  · cases eq
theorem cx_min (hc : X.calm = true) (hu : X.A.units + 64 < cLine) : CallX X (.builtin "min") (fn1 minM) := by
  refine cx_minmax hc hu (pick := leastI) (fun pins s σ H Q a n ns m its Iv hl rv hm q => ?_) (fun pins s σ H Q a n ns m its Iv hl rv hm q => ?_) rfl
  all_goals
    obtain ⟨bs, rr⟩ := reads_ints (h := s.heap) rv
    have e : ns.foldl min n = m := Option.some.inj hm
    have hd : X.A.units + 1 + PyData.depthAll ((n :: ns).map PyData.int) < cLine := by rw [depth_ints]; omega
  · refine PySem.W.min_list_data (Iv.ok.hd hc) hl rr (alike_ints (n :: ns)) hd fun i v h' tk bs' hv r hk => ?_
    rw [PySem.W.minD_ints, e] at r
    obtain ⟨t, rfl⟩ := reads_int r
    exact ⟨.int m, H, Iv.kept hk, ⟨t, rfl⟩, q⟩
  · refine PySem.W.min_tuple_data (Iv.ok.hd hc) hl rr (alike_ints (n :: ns)) hd fun i v h' tk bs' hv r hk => ?_
    rw [PySem.W.minD_ints, e] at r
    obtain ⟨t, rfl⟩ := reads_int r
    exact ⟨.int m, H, Iv.kept hk, ⟨t, rfl⟩, q⟩
theorem cx_max (hc : X.calm = true) (hu : X.A.units + 64 < cLine) : CallX X (.builtin "max") (fn1 maxM) := by
  refine cx_minmax hc hu (pick := greatestI) (fun pins s σ H Q a n ns m its Iv hl rv hm q => ?_) (fun pins s σ H Q a n ns m its Iv hl rv hm q => ?_) rfl
  all_goals
    obtain ⟨bs, rr⟩ := reads_ints (h := s.heap) rv
    have e : ns.foldl max n = m := Option.some.inj hm
    have hd : X.A.units + 1 + PyData.depthAll ((n :: ns).map PyData.int) < cLine := by rw [depth_ints]; omega
  · refine PySem.W.max_list_data (Iv.ok.hd hc) hl rr (alike_ints (n :: ns)) hd fun i v h' tk bs' hv r hk => ?_
    rw [PySem.W.maxD_ints, e] at r
    obtain ⟨t, rfl⟩ := reads_int r
    exact ⟨.int m, H, Iv.kept hk, ⟨t, rfl⟩, q⟩
  · refine PySem.W.max_tuple_data (Iv.ok.hd hc) hl rr (alike_ints (n :: ns)) hd fun i v h' tk bs' hv r hk => ?_
    rw [PySem.W.maxD_ints, e] at r
    obtain ⟨t, rfl⟩ := reads_int r
    exact ⟨.int m, H, Iv.kept hk, ⟨t, rfl⟩, q⟩
end
end DL


set_option Elab.async false
set_option linter.all false
set_option maxRecDepth 100000
set_option maxHeartbeats 4000000
namespace DL
open PySem PySem.Spec PyProof.Rows L2

/-! ### what is walked -/
def srcD (st : Sto) : D → Option (Src × List D)
  | .tup l => some ([], l)
  | .lst l => some ([], l)
  | .scr l => some ([], l)
  | .ref n => match st[n]? with
    | some (.lst l) => some ([(n, l)], l)
    | none => none
  | _ => none
def isTup : D → Bool
  | .tup _ => true
  | _ => false
section
variable {K : PySem.W.Frag} {I : Ids} {H : Hp} {st : Sto} {d : D} {v : V} {src : Src} {l : List D}
theorem src_tup (S : StOk K I H st) (r : Rep K I H d v) (h : srcD st d = some (src, l)) (t : isTup d = true) : ∃ a, v = .ref a ∧ ∀ I' H' st', Grow I H I' H' → StOk K I' H' st' → ∃ xs, SqT K H' a xs ∧ Reps K I' H' l xs := by
  cases d with
  | tup l' =>
    cases h
    unfold Rep at r
    obtain ⟨a, xs, rfl, q, rs⟩ := r
    exact ⟨a, rfl, fun I' H' st' g S' => ⟨xs, SqT.grow S g q, rs.up S g⟩⟩
  | _ => cases t
theorem src_lst (S : StOk K I H st) (r : Rep K I H d v) (h : srcD st d = some (src, l)) (t : isTup d = false) : ∃ a, v = .ref a ∧ ∀ I' H' st', Grow I H I' H' → StOk K I' H' st' → chk src st' → ∃ xs, SqL K H' a xs ∧ Reps K I' H' l xs := by
  cases d with
  | tup l' => cases t
  | lst l' =>
    cases h
    unfold Rep at r
    obtain ⟨a, xs, rfl, q, n1, n2, rs⟩ := r
    exact ⟨a, rfl, fun I' H' st' g S' _ => ⟨xs, .of (g.keep a _ q n1), rs.up S g⟩⟩
  | scr l' =>
    cases h
    unfold Rep at r
    obtain ⟨a, xs, rfl, q, rs⟩ := r
    refine ⟨a, rfl, fun I' H' st' g S' _ => ⟨xs, ?_, rs.up S g⟩⟩
    rcases q with ⟨o, q⟩ | q
    · exact .inl (.inr ⟨o, g.keep a _ q (S.ntup q fun z => z)⟩)
    · exact .inr q
  | ref n =>
    unfold srcD at h
    dsimp only at h
    split at h
    · rename_i l' hl
      cases h
      unfold Rep at r
      obtain ⟨a, hn, rfl⟩ := r
      refine ⟨a, rfl, fun I' H' st' g S' c => ?_⟩
      obtain ⟨xs, e, rs⟩ := S'.ob n _ a (c (n, l) (by simp)) (g.get hn)
      exact ⟨xs, .of e, rs⟩
    · cases h
  | _ => cases h
theorem src_chk (h : srcD st d = some (src, l)) : chk src st := by
  cases d with
  | ref n =>
    unfold srcD at h
    dsimp only at h
    split at h
    · rename_i l' hl
      cases h
      intro p hp
      rw [List.mem_singleton.mp hp]
      exact hl
    · cases h
  | tup _ => cases h; exact chk_nil _
  | lst _ => cases h; exact chk_nil _
  | scr _ => cases h; exact chk_nil _
  | _ => cases h
theorem feeds_lst {a : Addr} (h : ∀ I' H' st', Grow I H I' H' → StOk K I' H' st' → chk src st' → ∃ xs, SqL K H' a xs ∧ Reps K I' H' l xs) : Feeds K (Itl K a) I H src l := by
  refine ⟨fun i I' H' st' g S c hi => ?_, fun I' H' st' g S c => ?_, fun i d I' H' st' x H'' g S c hd y => ?_⟩
  · obtain ⟨xs, q, r⟩ := h I' H' st' g S c
    obtain ⟨v, e, _⟩ := r.get (List.getElem?_eq_getElem hi)
    exact ⟨xs, v, q, e⟩
  · obtain ⟨xs, q, r⟩ := h I' H' st' g S c
    exact ⟨xs, q, by rw [r.length]; exact Nat.le_refl _⟩
  · obtain ⟨xs, q, r⟩ := h I' H' st' g S c
    obtain ⟨v, e, rv⟩ := r.get hd
    obtain ⟨rfl, y⟩ := y
    have ex := y xs q
    rw [e] at ex; cases ex
    exact ⟨.refl _ _, S, rv⟩
theorem feeds_tup {a : Addr} (h : ∀ I' H' st', Grow I H I' H' → StOk K I' H' st' → ∃ xs, SqT K H' a xs ∧ Reps K I' H' l xs) : Feeds K (Itt K a) I H src l := by
  refine ⟨fun i I' H' st' g S c hi => ?_, fun I' H' st' g S c => ?_, fun i d I' H' st' x H'' g S c hd y => ?_⟩
  · obtain ⟨xs, q, r⟩ := h I' H' st' g S
    obtain ⟨v, e, _⟩ := r.get (List.getElem?_eq_getElem hi)
    exact ⟨xs, v, q, e⟩
  · obtain ⟨xs, q, r⟩ := h I' H' st' g S
    exact ⟨xs, q, by rw [r.length]; exact Nat.le_refl _⟩
  · obtain ⟨xs, q, r⟩ := h I' H' st' g S
    obtain ⟨v, e, rv⟩ := r.get hd
    obtain ⟨rfl, y⟩ := y
    have ex := y xs q
    rw [e] at ex; cases ex
    exact ⟨.refl _ _, S, rv⟩
def rngL (lo : Int) (n : Nat) : List D := (List.range n).map fun i => .int (lo + (i : Nat))
theorem rngL_get {lo : Int} {n i : Nat} {d : D} (h : (rngL lo n)[i]? = some d) : i < n ∧ d = .int (lo + (i : Nat)) := by
  unfold rngL at h
  rw [List.getElem?_map] at h
  obtain ⟨j, h1, h2⟩ := Option.map_eq_some_iff.mp h
  obtain ⟨h3, h4⟩ := List.getElem?_eq_some_iff.mp h1
  rw [List.length_range] at h3
  rw [List.getElem_range] at h4
  subst h4
  exact ⟨h3, h2.symm⟩
theorem rngL_len {lo : Int} {n : Nat} : (rngL lo n).length = n := by unfold rngL; rw [List.length_map, List.length_range]
theorem feeds_rng {lo : Int} {n : Nat} : Feeds K (Itr lo n) I H [] (rngL lo n) := by
  refine ⟨fun i I' H' st' g S c hi => ?_, fun I' H' st' g S c => ?_, fun i d I' H' st' x H'' g S c hd y => ?_⟩
  · rw [rngL_len] at hi; exact hi
  · rw [rngL_len]; exact Nat.le_refl _
  · obtain ⟨rfl, rfl⟩ := y
    obtain ⟨_, rfl⟩ := rngL_get hd
    exact ⟨.refl _ _, S, by unfold Rep; rfl⟩
def rngC (lo c : Int) (n : Nat) : List D := (List.range n).map fun i => .int (lo + (i : Nat) * c)
theorem rngC_get {lo c : Int} {n i : Nat} {d : D} (h : (rngC lo c n)[i]? = some d) : i < n ∧ d = .int (lo + (i : Nat) * c) := by
  unfold rngC at h
  rw [List.getElem?_map] at h
  obtain ⟨j, h1, h2⟩ := Option.map_eq_some_iff.mp h
  obtain ⟨h3, h4⟩ := List.getElem?_eq_some_iff.mp h1
  rw [List.length_range] at h3
  rw [List.getElem_range] at h4
  subst h4
  exact ⟨h3, h2.symm⟩
theorem rngC_len {lo c : Int} {n : Nat} : (rngC lo c n).length = n := by unfold rngC; rw [List.length_map, List.length_range]
theorem feeds_rngC {lo c : Int} {n : Nat} : Feeds K (Itc lo c n) I H [] (rngC lo c n) := by
  refine ⟨fun i I' H' st' g S ch hi => ?_, fun I' H' st' g S ch => ?_, fun i d I' H' st' x H'' g S ch hd y => ?_⟩
  · rw [rngC_len] at hi; exact hi
  · rw [rngC_len]; exact Nat.le_refl _
  · obtain ⟨rfl, rfl⟩ := y
    obtain ⟨_, rfl⟩ := rngC_get hd
    exact ⟨.refl _ _, S, by unfold Rep; rfl⟩
def signs (z : Str) : List D := z.cps.toList.map fun c => .str ⟨#[c]⟩
theorem feeds_str {z : Str} : Feeds K (Its z) I H [] (signs z) := by
  have hl : (signs z).length = z.cps.size := by unfold signs; rw [List.length_map, Array.length_toList]
  refine ⟨fun i I' H' st' g S ch hi => ?_, fun I' H' st' g S ch => ?_, fun i d I' H' st' x H'' g S ch hd y => ?_⟩
  · rw [hl] at hi; exact hi
  · rw [hl]; exact Nat.le_refl _
  · obtain ⟨rfl, c, hc, rfl⟩ := y
    unfold signs at hd
    rw [List.getElem?_map, Array.getElem?_toList, hc] at hd
    cases hd
    exact ⟨.refl _ _, S, by unfold Rep; rfl⟩
end
/-- pairs of two sources' items -/
def pairsL : List D → List D → List D
  | a :: as, b :: bs => .tup [a, b] :: pairsL as bs
  | _, _ => []
theorem pairsL_get : ∀ {as bs : List D} {i : Nat} {d : D}, (pairsL as bs)[i]? = some d → ∃ a b, as[i]? = some a ∧ bs[i]? = some b ∧ d = .tup [a, b]
  | a :: as, b :: bs, 0, d, h => by
    simp [pairsL] at h
    exact ⟨a, b, rfl, rfl, h.symm⟩
  | a :: as, b :: bs, i + 1, d, h => by
    have h' : (pairsL as bs)[i]? = some d := by simpa [pairsL] using h
    obtain ⟨x, y, h1, h2, h3⟩ := pairsL_get h'
    exact ⟨x, y, by simpa using h1, by simpa using h2, h3⟩
  | [], bs, i, d, h => by simp [pairsL] at h
  | a :: as, [], i, d, h => by simp [pairsL] at h
theorem pairsL_len : ∀ (as bs : List D), (pairsL as bs).length = min as.length bs.length
  | a :: as, b :: bs => by
    show (pairsL as bs).length + 1 = _
    rw [pairsL_len as bs, List.length_cons, List.length_cons]; omega
  | [], bs => by simp [pairsL]
  | a :: as, [] => by simp [pairsL]
def numsL (n : Nat) : List D → List D
  | [] => []
  | a :: as => .tup [.int (n : Nat), a] :: numsL (n + 1) as
theorem numsL_get : ∀ {as : List D} {n i : Nat} {d : D}, (numsL n as)[i]? = some d → ∃ a, as[i]? = some a ∧ d = .tup [.int ((n + i : Nat) : Int), a]
  | a :: as, n, 0, d, h => by
    simp [numsL] at h
    exact ⟨a, rfl, h.symm⟩
  | a :: as, n, i + 1, d, h => by
    have h' : (numsL (n + 1) as)[i]? = some d := by simpa [numsL] using h
    obtain ⟨x, h1, h2⟩ := numsL_get h'
    exact ⟨x, by simpa using h1, by rw [h2, show n + 1 + i = n + (i + 1) by omega]⟩
  | [], n, i, d, h => by simp [numsL] at h
theorem numsL_len : ∀ (as : List D) (n : Nat), (numsL n as).length = as.length
  | [], _ => rfl
  | a :: as, n => by show (numsL (n + 1) as).length + 1 = _; rw [numsL_len as (n + 1)]; rfl
section
variable {K : PySem.W.Frag} {I : Ids} {H : Hp} {src : Src} {l k : List D}
theorem pair_new {I' : Ids} {H' : Hp} {st' : Sto} {T : Addr} {x y : V} {d e : D} (S : StOk K I' H' st') (hT : H' T = none) (r1 : Rep K I' H' d x) (r2 : Rep K I' H' e y) :
    Grow I' H' I' (upd H' T (.tup [x, y])) ∧ StOk K I' (upd H' T (.tup [x, y])) st' ∧ Rep K I' (upd H' T (.tup [x, y])) (.tup [d, e]) (.ref T) :=
  ⟨.new hT, S.new hT, .newTup S hT (.cons r1 (.cons r2 .nil))⟩
theorem chk_app {s1 s2 : Src} {st : Sto} (h : chk (s1 ++ s2) st) : chk s1 st ∧ chk s2 st := ⟨fun p hp => h p (List.mem_append_left _ hp), fun p hp => h p (List.mem_append_right _ hp)⟩
theorem feeds_zipL {a b : Addr} {s1 s2 : Src} (h : ∀ I' H' st', Grow I H I' H' → StOk K I' H' st' → chk s1 st' → ∃ xs, SqL K H' a xs ∧ Reps K I' H' l xs)
    (h' : ∀ I' H' st', Grow I H I' H' → StOk K I' H' st' → chk s2 st' → ∃ xs, SqL K H' b xs ∧ Reps K I' H' k xs) : Feeds K (Itz K a b) I H (s1 ++ s2) (pairsL l k) := by
  refine ⟨fun i I' H' st' g S c hi => ?_, fun I' H' st' g S c => ?_, fun i d I' H' st' x H'' g S c hd y => ?_⟩
  all_goals
    obtain ⟨xs, q, r⟩ := h I' H' st' g S (chk_app c).1
    obtain ⟨ys, q2, r2⟩ := h' I' H' st' g S (chk_app c).2
  · obtain ⟨d, e, h1, h2, _⟩ := pairsL_get (List.getElem?_eq_getElem hi)
    obtain ⟨v, e1, _⟩ := r.get h1
    obtain ⟨v2, e2, _⟩ := r2.get h2
    exact ⟨xs, ys, v, v2, q, q2, e1, e2⟩
  · refine ⟨xs, ys, q, q2, ?_⟩
    rw [pairsL_len, ← r.length, ← r2.length]; omega
  · obtain ⟨T, v, v2, rfl, hT, rfl, y1, y2⟩ := y
    obtain ⟨e, e', h1, h2, rfl⟩ := pairsL_get hd
    obtain ⟨w1, e1, rv1⟩ := r.get h1
    obtain ⟨w2, e2, rv2⟩ := r2.get h2
    have z1 := y1 xs q
    have z2 := y2 ys q2
    rw [e1] at z1; cases z1
    rw [e2] at z2; cases z2
    exact pair_new S hT rv1 rv2
theorem feeds_zipT {a b : Addr} {s1 s2 : Src} (h : ∀ I' H' st', Grow I H I' H' → StOk K I' H' st' → ∃ xs, SqT K H' a xs ∧ Reps K I' H' l xs)
    (h' : ∀ I' H' st', Grow I H I' H' → StOk K I' H' st' → ∃ xs, SqT K H' b xs ∧ Reps K I' H' k xs) : Feeds K (RZ.ItzT K a b) I H (s1 ++ s2) (pairsL l k) := by
  refine ⟨fun i I' H' st' g S c hi => ?_, fun I' H' st' g S c => ?_, fun i d I' H' st' x H'' g S c hd y => ?_⟩
  all_goals
    obtain ⟨xs, q, r⟩ := h I' H' st' g S
    obtain ⟨ys, q2, r2⟩ := h' I' H' st' g S
  · obtain ⟨d, e, h1, h2, _⟩ := pairsL_get (List.getElem?_eq_getElem hi)
    obtain ⟨v, e1, _⟩ := r.get h1
    obtain ⟨v2, e2, _⟩ := r2.get h2
    exact ⟨xs, ys, v, v2, q, q2, e1, e2⟩
  · refine ⟨xs, ys, q, q2, ?_⟩
    rw [pairsL_len, ← r.length, ← r2.length]; omega
  · obtain ⟨T, v, v2, rfl, hT, rfl, y1, y2⟩ := y
    obtain ⟨e, e', h1, h2, rfl⟩ := pairsL_get hd
    obtain ⟨w1, e1, rv1⟩ := r.get h1
    obtain ⟨w2, e2, rv2⟩ := r2.get h2
    have z1 := y1 xs q
    have z2 := y2 ys q2
    rw [e1] at z1; cases z1
    rw [e2] at z2; cases z2
    exact pair_new S hT rv1 rv2
theorem feeds_enum {a : Addr} (h : ∀ I' H' st', Grow I H I' H' → StOk K I' H' st' → chk src st' → ∃ xs, SqL K H' a xs ∧ Reps K I' H' l xs) : Feeds K (Ite K a) I H src (numsL 0 l) := by
  refine ⟨fun i I' H' st' g S c hi => ?_, fun I' H' st' g S c => ?_, fun i d I' H' st' x H'' g S c hd y => ?_⟩
  all_goals obtain ⟨xs, q, r⟩ := h I' H' st' g S c
  · rw [numsL_len] at hi
    obtain ⟨v, e1, _⟩ := r.get (List.getElem?_eq_getElem hi)
    exact ⟨xs, v, q, e1⟩
  · exact ⟨xs, q, by rw [numsL_len, r.length]; exact Nat.le_refl _⟩
  · obtain ⟨T, v, rfl, hT, rfl, y1⟩ := y
    obtain ⟨e, h1, rfl⟩ := numsL_get hd
    obtain ⟨w1, e1, rv1⟩ := r.get h1
    have z1 := y1 xs q
    rw [e1] at z1; cases z1
    rw [Nat.zero_add]
    exact pair_new S hT (by unfold Rep; rfl) rv1
end

/-! ### iterables -/
def iSeq (m : EM D) : EM (Src × List D) := fun ρ st => (m ρ st).bind fun p => match p.1 with
  | .str z => some (([], signs z), p.2)
  | d => (srcD p.2 d).map fun r => (r, p.2)
def iRg1 (m : EM (List D)) : EM (Src × List D) := fun ρ st => (m ρ st).bind fun p => match p.1 with
  | [.int j] => if -(2 ^ 62) ≤ j ∧ j < 2 ^ 62 then some (([], rngL 0 j.toNat), p.2) else none
  | _ => none
def iRg2 (m : EM (List D)) : EM (Src × List D) := fun ρ st => (m ρ st).bind fun p => match p.1 with
  | [.int i, .int j] => if -(2 ^ 62) ≤ i ∧ i < 2 ^ 62 ∧ -(2 ^ 62) ≤ j ∧ j < 2 ^ 62 then some (([], rngL i (j - i).toNat), p.2) else none
  | _ => none
/-- range(i, j, -1) -/
def iRgD (m : EM (List D)) : EM (Src × List D) := fun ρ st => (m ρ st).bind fun p => match p.1 with
  | [.int i, .int j, .int c] => if c = -1 ∧ -(2 ^ 62) ≤ i ∧ i < 2 ^ 62 ∧ -(2 ^ 62) ≤ j ∧ j < 2 ^ 62 then some (([], rngC i (-1) (i - j).toNat), p.2) else none
  | _ => none
def iZp (m : EM (List D)) : EM (Src × List D) := fun ρ st => (m ρ st).bind fun p => match p.1 with
  | [d, e] => if isTup d = isTup e then (srcD p.2 d).bind fun a => (srcD p.2 e).map fun b => ((a.1 ++ b.1, pairsL a.2 b.2), p.2) else none
  | _ => none
def iEn (m : EM (List D)) : EM (Src × List D) := fun ρ st => (m ρ st).bind fun p => match p.1 with
  | [d] => if isTup d = false then (srcD p.2 d).map fun a => ((a.1, numsL 0 a.2), p.2) else none
  | _ => none
section
variable {X : Cx} {tg e : Expr} {m : EM D} {ms : EM (List D)} {p pos tpos : Pos}
theorem piOr {wi wi' : TI} (h : PI X tg e wi) (h' : PI X tg e wi') : PI X tg e (fun σ H R => wi σ H R ∨ wi' σ H R) :=
  ⟨fun pins s σ H R I hw => hw.elim (fun z => h.run pins s σ H R I z) fun z => h'.run pins s σ H R I z⟩
theorem xi_seq (he : PE X e (tX X.K m)) : PI X tg e (tI X.K (iSeq m)) := by
  refine piImp (piOr (pi_list he) (piOr (pi_tup he) (pi_str he))) fun σ H Q h => ?_
  obtain ⟨I, ρ, st, r, st', S, eq, k⟩ := h
  unfold iSeq at eq
  obtain ⟨⟨d, s1⟩, e1, eq⟩ := Option.bind_eq_some_iff.mp eq
  dsimp only at eq
  split at eq
  · cases eq
    refine .inr (.inr ⟨I, ρ, st, _, _, S, e1, fun I1 H1 v g1 S1 r1 => ?_⟩)
    unfold Rep at r1
    exact ⟨_, r1, k I1 H1 _ g1 S1 (chk_nil _) feeds_str⟩
  · obtain ⟨⟨src, l⟩, hs, eq⟩ := Option.map_eq_some_iff.mp eq
    cases eq
    by_cases t : isTup d = true
    · refine .inr (.inl ⟨I, ρ, st, _, _, S, e1, fun I1 H1 v g1 S1 r1 => ?_⟩)
      obtain ⟨a, rfl, hh⟩ := src_tup S1 r1 hs t
      obtain ⟨xs, q, _⟩ := hh I1 H1 _ (.refl _ _) S1
      exact ⟨a, rfl, ⟨xs, q⟩, k I1 H1 _ g1 S1 (src_chk hs) (feeds_tup hh)⟩
    · refine .inl ⟨I, ρ, st, _, _, S, e1, fun I1 H1 v g1 S1 r1 => ?_⟩
      obtain ⟨a, rfl, hh⟩ := src_lst S1 r1 hs (by simpa using t)
      obtain ⟨xs, q, _⟩ := hh I1 H1 _ (.refl _ _) S1 (src_chk hs)
      exact ⟨a, rfl, ⟨xs, q⟩, k I1 H1 _ g1 S1 (src_chk hs) (feeds_lst hh)⟩
theorem xi_rg1 {a : Expr} (hg : Gl X "range") (hm : X.mg "range" = none) (ha : PA X [a] (tXs X.K ms)) (hs : starEach [a] X.env = [(false, eval a X.env)] := by rfl) : PI X tg (.Call (.Name "range" p) [a] [] pos) (tI X.K (iRg1 ms)) := by
  refine piImp (pi_range1 hg hm ha hs) fun σ H Q h => ?_
  obtain ⟨I, ρ, st, r, st', S, eq, k⟩ := h
  unfold iRg1 at eq
  obtain ⟨⟨d, s1⟩, e1, eq⟩ := Option.bind_eq_some_iff.mp eq
  refine ⟨I, ρ, st, d, s1, S, e1, fun I1 H1 v g1 S1 r1 => ?_⟩
  dsimp only at eq
  split at eq
  · split at eq
    · rename_i c
      cases eq
      obtain ⟨w', rfl, q⟩ := r1.one
      unfold Rep at q
      subst q
      exact ⟨_, rfl, c.1, c.2, k I1 H1 _ g1 S1 (chk_nil _) feeds_rng⟩
    · cases eq
  · cases eq
theorem xi_rg2 {a b : Expr} (hg : Gl X "range") (hm : X.mg "range" = none) (ha : PA X [a, b] (tXs X.K ms)) (hs : starEach [a, b] X.env = (false, eval a X.env) :: [(false, eval b X.env)] := by rfl) (hs2 : starEach [b] X.env = [(false, eval b X.env)] := by rfl) : PI X tg (.Call (.Name "range" p) [a, b] [] pos) (tI X.K (iRg2 ms)) := by
  refine piImp (pi_range2 hg hm ha hs hs2) fun σ H Q h => ?_
  obtain ⟨I, ρ, st, r, st', S, eq, k⟩ := h
  unfold iRg2 at eq
  obtain ⟨⟨d, s1⟩, e1, eq⟩ := Option.bind_eq_some_iff.mp eq
  refine ⟨I, ρ, st, d, s1, S, e1, fun I1 H1 v g1 S1 r1 => ?_⟩
  dsimp only at eq
  split at eq
  · split at eq
    · rename_i c
      cases eq
      obtain ⟨w', w2, rfl, q, q2⟩ := r1.two
      unfold Rep at q q2
      subst q q2
      exact ⟨_, _, rfl, c, k I1 H1 _ g1 S1 (chk_nil _) feeds_rng⟩
    · cases eq
  · cases eq
theorem xi_rgD {a b c : Expr} (hg : Gl X "range") (hm : X.mg "range" = none) (ha : PA X [a, b, c] (tXs X.K ms))
    (hs : starEach [a, b, c] X.env = (false, eval a X.env) :: starEach [b, c] X.env := by rfl) (hpl : (backTo pos (starEach [b, c] X.env)).any (·.1) = false := by rfl) : PI X tg (.Call (.Name "range" p) [a, b, c] [] pos) (tI X.K (iRgD ms)) := by
  refine piImp (pi_range3 hg hm ha hs hpl) fun σ H Q h => ?_
  obtain ⟨I, ρ, st, r, st', S, eq, k⟩ := h
  unfold iRgD at eq
  obtain ⟨⟨d, s1⟩, e1, eq⟩ := Option.bind_eq_some_iff.mp eq
  refine ⟨I, ρ, st, d, s1, S, e1, fun I1 H1 v g1 S1 r1 => ?_⟩
  dsimp only at eq
  split at eq
  · split at eq
    · rename_i c
      cases eq
      unfold Reps at r1
      obtain ⟨w', t, rfl, q, r2⟩ := r1
      obtain ⟨w2, w3, rfl, q2, q3⟩ := r2.two
      unfold Rep at q q2 q3
      obtain ⟨c0, c1, c2, c3, c4⟩ := c
      subst c0
      subst q q2 q3
      exact ⟨_, _, _, _, rfl, RgC.neg c1 c2 c3 c4, k I1 H1 _ g1 S1 (chk_nil _) feeds_rngC⟩
    · cases eq
  · cases eq
theorem xi_zip {a b : Expr} {elts : List Expr} {kk : Nat} (hg : Gl X "zip") (hm : X.mg "zip" = none) (ha : PA X [a, b] (tXs X.K ms))
    (hs : starEach [a, b] X.env = (false, eval a X.env) :: starEach [b] X.env := by rfl) (hpl : (backTo pos (starEach [b] X.env)).any (·.1) = false := by rfl) : PI X (.Tuple elts kk tpos) (.Call (.Name "zip" p) [a, b] [] pos) (tI X.K (iZp ms)) := by
  refine piImp (RZ.pi_zipA hg hm ha hs hpl) fun σ H Q h => ?_
  obtain ⟨I, ρ, st, r, st', S, eq, k⟩ := h
  unfold iZp at eq
  obtain ⟨⟨d, s1⟩, e1, eq⟩ := Option.bind_eq_some_iff.mp eq
  refine ⟨I, ρ, st, d, s1, S, e1, fun I1 H1 v g1 S1 r1 => ?_⟩
  dsimp only at eq
  split at eq
  · split at eq
    · rename_i d e c
      obtain ⟨⟨sa, la⟩, ha', eq⟩ := Option.bind_eq_some_iff.mp eq
      obtain ⟨⟨sb, lb⟩, hb', eq⟩ := Option.map_eq_some_iff.mp eq
      cases eq
      obtain ⟨w1, w2, rfl, q1, q2⟩ := r1.two
      have cc : chk (sa ++ sb) _ := fun p hp => (List.mem_append.mp hp).elim (src_chk ha' p) (src_chk hb' p)
      by_cases t : isTup d = true
      · obtain ⟨a, rfl, hh⟩ := src_tup S1 q1 ha' t
        obtain ⟨b, rfl, hh2⟩ := src_tup S1 q2 hb' (by rw [← c]; exact t)
        obtain ⟨xs, qx, _⟩ := hh I1 H1 _ (.refl _ _) S1
        obtain ⟨ys, qy, _⟩ := hh2 I1 H1 _ (.refl _ _) S1
        exact ⟨a, b, xs, ys, rfl, .inr ⟨qx, qy, k I1 H1 _ g1 S1 cc (feeds_zipT hh hh2)⟩⟩
      · have t' : isTup d = false := by simpa using t
        obtain ⟨a, rfl, hh⟩ := src_lst S1 q1 ha' t'
        obtain ⟨b, rfl, hh2⟩ := src_lst S1 q2 hb' (by rw [← c]; exact t')
        obtain ⟨xs, qx, _⟩ := hh I1 H1 _ (.refl _ _) S1 (src_chk ha')
        obtain ⟨ys, qy, _⟩ := hh2 I1 H1 _ (.refl _ _) S1 (src_chk hb')
        exact ⟨a, b, xs, ys, rfl, .inl ⟨qx, qy, k I1 H1 _ g1 S1 cc (feeds_zipL hh hh2)⟩⟩
    · cases eq
  · cases eq
theorem xi_enum {a : Expr} {elts : List Expr} {kk : Nat} (hg : Gl X "enumerate") (hm : X.mg "enumerate" = none) (ha : PA X [a] (tXs X.K ms)) (hs : starEach [a] X.env = [(false, eval a X.env)] := by rfl) : PI X (.Tuple elts kk tpos) (.Call (.Name "enumerate" p) [a] [] pos) (tI X.K (iEn ms)) := by
  refine piImp (pi_enum hg hm ha hs) fun σ H Q h => ?_
  obtain ⟨I, ρ, st, r, st', S, eq, k⟩ := h
  unfold iEn at eq
  obtain ⟨⟨d, s1⟩, e1, eq⟩ := Option.bind_eq_some_iff.mp eq
  refine ⟨I, ρ, st, d, s1, S, e1, fun I1 H1 v g1 S1 r1 => ?_⟩
  dsimp only at eq
  split at eq
  · split at eq
    · rename_i d c
      obtain ⟨⟨sa, la⟩, ha', eq⟩ := Option.map_eq_some_iff.mp eq
      cases eq
      obtain ⟨w1, rfl, q1⟩ := r1.one
      obtain ⟨a, rfl, hh⟩ := src_lst S1 q1 ha' c
      obtain ⟨xs, qx, _⟩ := hh I1 H1 _ (.refl _ _) S1 (src_chk ha')
      exact ⟨a, xs, rfl, qx, k I1 H1 _ g1 S1 (src_chk ha') (feeds_enum hh)⟩
    · cases eq
  · cases eq
end
end DL


set_option Elab.async false
set_option linter.all false
set_option maxRecDepth 100000
set_option maxHeartbeats 4000000
namespace DL
open PySem PySem.Spec PyProof.Rows L2
open PySem.W (EachIs AllAlike Sortable dataLe)

/-! ### sorted -/
structure SortOk (l : List D) : Prop where
  plain : plainDs l = true
  alike : AllAlike (l.map toP)
  able : Sortable (l.map toP)
  deep : ∀ d ∈ l, (toP d).depth ≤ 32
  size : l.length ≤ sizeLine
open Classical in
noncomputable def sortedM (d : D) : M D := fun st => (seqD st d).bind fun l => if SortOk l then some (.lst (l.mergeSort (dataLe false toP)), st) else none
section
variable {prog : Program} {w : World} {A : Around} {E : Value → Shared → Prop} {s : Shared}
/-- a tuple's items, gathered -/
theorem gather_tuple {t : Addr} {vs : List Value} {Q : List Value → Shared → Prop} (ht : s.heap.IsTuple t vs.toArray) (hsz : vs.length ≤ sizeLine)
    (h : Q vs { s with heap := (s.heap.push (seqObj "list" #[] 0)).update s.heap.objs.size (Obj.mapSeq (· ++ vs.toArray)) }) : wpAny (model prog w) A (collect (.ref t)) Q E s := by
  obtain ⟨ob, hob, hcl, n, hdt⟩ := id ht
  have hob' : (s.heap.push (seqObj "list" #[] 0)).get? t = some ob := Heap.get?_push_of_some _ hob
  have new : (s.heap.push (seqObj "list" #[] 0)).get? s.heap.objs.size = some (seqObj "list" #[] 0) := Heap.get?_push_size _ rfl
  unfold collect
  refine wpAny_bind (wpAny_runValue (codeAny_builtin entry_proto_collect' ?_))
  show wpAny _ _ (newList [] >>= fun z => again (.builtin "list.__iadd__" ⟨[z, .ref t], []⟩)) _ _ s
  refine wpAny_bind (wpAny_newList (wpAny_pure ⟨Code.quiet_builtin _ (by decide +kernel), codeAny_builtin entry_list_iadd' ?_⟩))
  show wpAny _ _ (Builtin.List.listExtendWith (.ref s.heap.objs.size) (.ref t) (.ref s.heap.objs.size)) _ _ _
  unfold Builtin.List.listExtendWith
  refine wpAny_bind (wpAny_typeOf (T := "tuple") ⟨ob, hob', hcl⟩ ?_)
  rw [if_pos (by rw [show (Value.type "tuple" == Value.type "tuple") = true by decide, Bool.or_true])]
  refine wpAny_bind (listItems_at hob' hdt (wpAny_bind (listItems_at (xs := #[]) (n := 0) new rfl ?_)))
  rw [if_neg (by simp)]
  have fits : ((#[] : Array Value) ++ vs.toArray).size ≤ sizeLine + 1 := by simp; omega
  refine wpAny_bind (listUpdate_at (xs := #[]) (n := 0) new rfl ?_ (Nat.zero_le _) fits)
  refine wpAny_pure ?_
  refine wpAny_bind (wpAny_load (get?_update_seq new _) ?_)
  show wpAny _ _ (pure ((#[] : Array Value) ++ vs.toArray).toList) Q E _
  have e : ((#[] : Array Value) ++ vs.toArray).toList = vs := by simp
  rw [e]
  exact wpAny_pure h
/-- sorted(t), t a tuple -/
theorem sorted_tuple {t : Addr} {vs : List Value} {Q : Value → Shared → Prop} (ht : s.heap.IsTuple t vs.toArray) (hL : vs.length ≤ sizeLine)
    (body : ∀ E' : Value → Shared → Prop, wpAny (model prog w) A.in1.in1 (Builtin.«list.sort» ⟨[.ref (s.heap.objs.size + 1)], []⟩) (fun f s' => f = .done (.ret .none) ∧ Q (.ref (s.heap.objs.size + 1)) s') E' { s with heap := PySem.W.copyHeap s.heap vs }) :
    wpAny (model prog w) A (call (.builtin "sorted") [.ref t]) Q E s := by
  refine Calls.call_function_entry kind_sorted plain_sorted entry_sorted (args_sorted1 _) ?_
  unfold Builtin.«sorted»
  refine wpAny_bind (m := checkCount "sorted" 1 1 _) (wpAny_pure (wpAny_bind (gather_tuple ht hL (wpAny_bind (wpAny_newList ?_ hL)))))
  have size2 : ((s.heap.push (seqObj "list" #[] 0)).update s.heap.objs.size (Obj.mapSeq (· ++ vs.toArray))).objs.size = s.heap.objs.size + 1 := by
    rw [Heap.size_update, size_push']
  show wpAny _ _ _ _ _ { s with heap := PySem.W.copyHeap s.heap vs }
  rw [size2]
  refine wpAny_bind (wpAny_holding (wpAny_call_entry slot_list_sort ⟨_, PySem.W.copyHeap_at s.heap vs, rfl⟩ entry_list_sort ?body (args_list_sort _)))
  case body =>
    refine wpAny_mono (body _) (fun f s' hf => ?_) fun _ _ e => e
    exact ⟨_, hf.1, wpAny_pure ⟨_, rfl, hf.2⟩⟩
end
section
variable {X : Cx}
theorem each_of {K : PySem.W.Frag} {I : Ids} {H : Hp} : ∀ {l : List D} {xs : List V} {us : List Value}, Reps K I H l xs → Vals xs us → EachIs (fun u d => ∃ v, RelV v u ∧ Rep K I H d v) us l
  | [], _, _, r, q => by unfold Reps at r; subst r; cases q; exact .nil
  | d :: l, _, _, r, q => by
    unfold Reps at r
    obtain ⟨x, t, rfl, r1, r2⟩ := r
    cases q with
    | cons q1 q2 => exact .cons ⟨x, q1, r1⟩ (each_of r2 q2)
theorem each_back {K : PySem.W.Frag} {I : Ids} {H : Hp} : ∀ {l : List D} {us : List Value}, EachIs (fun u d => ∃ v, RelV v u ∧ Rep K I H d v) us l → ∃ xs, Reps K I H l xs ∧ Vals xs us
  | [], _, .nil => ⟨[], Reps.nil, .nil⟩
  | d :: l, _, .cons ⟨v, q, r⟩ t => by
    obtain ⟨xs, r2, q2⟩ := each_back t
    exact ⟨v :: xs, Reps.cons r r2, .cons q q2⟩
theorem each_reads {pins : List (Addr × Obj)} {σ : L2.St} {H : Hp} {s : Shared} (Iv : Inv X pins σ H s) : ∀ {l : List D} {xs : List V} {us : List Value}, DpAll X.K H xs (toPs l) → Vals xs us → EachIs (fun u d => ∃ as, Reads s.heap u (toP d) as) us l
  | [], xs, _, r, q => by
    have r' : DpAll X.K H xs [] := by simpa [toPs] using r
    cases r'; cases q; exact .nil
  | d :: l, xs, _, r, q => by
    have r' : DpAll X.K H xs (toP d :: toPs l) := by simpa [toPs] using r
    cases r' with
    | cons r1 r2 =>
      cases q with
      | cons q1 q2 => exact .cons (Dp.reads Iv _ _ _ r1 q1) (each_reads Iv r2 q2)
theorem cx_sorted (hu : X.A.units + 64 < cLine) : CallX X (.builtin "sorted") (fn1 sortedM) := by
  intro pins s σ H xs us Q Iv rv h
  obtain ⟨I, st, ds, r, st', S, rs, eq, k⟩ := h
  unfold fn1 at eq
  split at eq
  · obtain ⟨v, rfl, rd⟩ := rs.one
    unfold sortedM at eq
    obtain ⟨l, hl, eq⟩ := Option.bind_eq_some_iff.mp eq
    split at eq
    · rename_i ok
      cases eq
      obtain ⟨a, ys, rfl, q, ra⟩ := seqD_rep S rd hl
      rw [Vals.ref1 rv]
      have hD := Reps.dp l ys ok.plain ra
      have deep : ∀ b, b ∈ l → X.A.units + 2 + (toP b).depth < cLine := fun b hb => by have := ok.deep b hb; omega
      have fin : ∀ (its : List Value), its.length = l.length → ∀ out : List Value, out.length = l.length → EachIs (fun u d => ∃ v, RelV v u ∧ Rep X.K I H d v) out (l.mergeSort (dataLe false toP)) → EP X pins σ Q (.ref (s.heap.objs.size + 1)) { s with heap := sortedAll s.heap its out.toArray } := by
        intro its hi out ho e
        obtain ⟨zs, r2, q2⟩ := each_back e
        obtain ⟨ep, he⟩ := sortedAll_at s.heap its out.toArray
        have hz : zs.length ≤ sizeLine := by rw [q2.length, ho]; exact ok.size
        have hn : H (s.heap.objs.size + 1) = none := Iv.hok.fresh (Nat.le_succ _)
        exact ⟨.ref _, upd H (s.heap.objs.size + 1) (.lst zs), Iv.laid (t' := s.toks) (fun _ _ => sortedAll_old) (Nat.le_succ _) ⟨hz, out, ep, q2, he⟩, rfl, k I _ _ (.new hn) (S.new hn) (.newLst S hn r2)⟩
      rcases q with q | q
      · obtain ⟨its, r1, pl, hz⟩ := Iv.list q
        have hlen : its.length = l.length := by rw [← r1.length, ra.length]
        exact PySem.W.sorted_data pl.isList (each_of ra r1) (each_reads Iv hD r1) ok.alike ok.able ok.size deep fun out ho e => fin its hlen out ho e
      · obtain ⟨its, r1, pl, hz⟩ := Iv.tuple q
        have hlen : its.length = l.length := by rw [← r1.length, ra.length]
        have hL : its.length ≤ sizeLine := by rw [hlen]; exact ok.size
        have er := each_reads Iv hD r1
        have er' : EachIs (fun v b => ∃ as, Reads (PySem.W.sortingHeap (PySem.W.copyHeap s.heap its) (s.heap.objs.size + 1) its) v (toP b) as) its l := er.mono fun _ _ ⟨as, r⟩ => ⟨as, PyProof.Rows.Reads.keeps (fun _ _ => PySem.W.sorting_copy_old) r⟩
        have S2 := PySem.W.SortsAt.data (prog := X.prog) (w := X.w) (A := X.A.in1.in1) (s := { s with heap := PySem.W.sortingHeap (PySem.W.copyHeap s.heap its) (s.heap.objs.size + 1) its }) (PySem.W.each_map (R := fun v d => ∃ as, Reads (PySem.W.sortingHeap (PySem.W.copyHeap s.heap its) (s.heap.objs.size + 1) its) v d as) toP er') ok.alike ok.able (PySem.W.bound_map deep)
        refine sorted_tuple (show s.heap.IsTuple a its.toArray from pl) hL fun E' => PySem.W.list_sort_vals (s := { s with heap := PySem.W.copyHeap s.heap its }) (PySem.W.copyHeap_at s.heap its) S2 hL ⟨rfl, ?_⟩
        exact fin its hlen _ (by rw [PySem.W.sortVals_length false rfl]; exact hlen) (PySem.W.sortVals_data false (each_of ra r1) er' ok.alike)
    · cases eq
  · cases eq
end

/-! ### isinstance of a built-in type -/
def tyD (st : Sto) : D → Option String
  | .non => some "NoneType"
  | .bl _ => some "bool"
  | .int _ => some "int"
  | .str _ => some "str"
  | .tup _ => some "tuple"
  | .lst _ => some "list"
  | .scr _ => some "list"
  | .ref n => match st[n]? with
    | some (.lst _) => some "list"
    | none => none
def isaB (t T : String) : Bool := t == T || (t == "bool" && T == "int")
def eIsa (T : String) (m : EM D) : EM D := fun ρ st => (m ρ st).bind fun p => (tyD p.2 p.1).map fun t => (.bl (isaB t T), p.2)
section
variable {X : Cx} {e : Expr} {m : EM D} {p p2 pos : Pos} {T : String} {x : Str}
theorem tyD_ok {K : PySem.W.Frag} {I : Ids} {H : Hp} {st : Sto} {d : D} {v : V} {t : String} (S : StOk K I H st) (r : Rep K I H d v) (h : tyD st d = some t) : TyX K H v (.type t) := by
  cases d with
  | non => cases h; unfold Rep at r; subst r; exact .base .non
  | bl b => cases h; unfold Rep at r; subst r; exact .base (.bl b)
  | int b => cases h; unfold Rep at r; subst r; exact .base (.int b)
  | str b => cases h; unfold Rep at r; subst r; exact .base (.str b)
  | tup l =>
    cases h; unfold Rep at r
    obtain ⟨a, xs, rfl, (q | ⟨o, q⟩) | ⟨o, its, n, q, c, _⟩, _⟩ := r
    · exact .base (.tup q)
    · exact .fTuple q
    · exact .kTuple q c
  | lst l =>
    cases h; unfold Rep at r
    obtain ⟨a, xs, rfl, q, _⟩ := r
    exact .base (.lst q)
  | scr l =>
    cases h; unfold Rep at r
    obtain ⟨a, xs, rfl, ⟨o, q⟩ | ⟨o, its, n, q, c, _⟩, _⟩ := r
    · exact .base (.frz q)
    · exact .kList q c
  | ref n =>
    unfold tyD at h
    dsimp only at h
    split at h
    · rename_i l hl
      cases h
      unfold Rep at r
      obtain ⟨a, hn, rfl⟩ := r
      obtain ⟨xs, q, _⟩ := S.ob n _ a hl hn
      exact .base (.lst q)
    · cases h
def kitTab (T : String) : Bool := ["NoneType", "bool", "int", "str", "tuple", "list"].all fun t => decide (kitB t T = some (isaB t T))
theorem tyD_mem {st : Sto} {d : D} {t : String} (h : tyD st d = some t) : t ∈ ["NoneType", "bool", "int", "str", "tuple", "list"] := by
  unfold tyD at h
  split at h
  all_goals first | (cases h; simp) | (split at h <;> cases h; simp)
theorem ex_isa (hT : kitTab T = true) (hi : Gl X "isinstance") (hmi : X.mg "isinstance" = none) (hx : Gl X x) (hmx : X.mg x = none) (hv : bootBuiltins x = some (.type T)) (he : PE X e (tX X.K m)) (hn : x ≠ "__name__" := by decide) (hd : (x == ("__debug__" : Str)) = false := by decide)
    (hs : starEach [e, .Name x p2] X.env = (false, eval e X.env) :: starEach [.Name x p2] X.env := by rfl) (hs2 : starEach [.Name x p2] X.env = (false, eval (.Name x p2) X.env) :: starEach [] X.env := by rfl) (hpl : (backTo pos (starEach [.Name x p2] X.env)).any (·.1) = false := by rfl) :
    PE X (.Call (.Name "isinstance" p) [e, .Name x p2] [] pos) (tX X.K (eIsa T m)) := by
  refine peImp (pe_callB call_isi hi hmi (by decide +kernel) (pa_cons he (pa_cons (pe_bltn (v := .ty T) hx hmx hv rfl hn hd) pa_nil hs2) hs) (he := hs) (hpl := hpl)) fun σ H Q h => ?_
  obtain ⟨I, ρ, st, r, st', S, eq, k⟩ := h
  unfold eIsa at eq
  obtain ⟨⟨d, s1⟩, e1, eq⟩ := Option.bind_eq_some_iff.mp eq
  obtain ⟨t, ht, eq⟩ := Option.map_eq_some_iff.mp eq
  cases eq
  refine ⟨I, ρ, st, d, _, S, e1, fun I1 H1 v g1 S1 r1 => ?_⟩
  have hk := List.all_eq_true.mp hT t (tyD_mem ht)
  exact ⟨v, .ty T, .type t, .type T, isaB t T, rfl, .ty T, tyD_ok S1 r1 ht, kit_ty (of_decide_eq_true hk), k I1 H1 _ g1 S1 (by unfold Rep; rfl)⟩
end

/-! ### sep.join(texts) -/
def eJoin (a : EM D) (m : EM D) : EM D := fun ρ st => (a ρ st).bind fun p => (m ρ p.2).bind fun q => match p.1 with
  | .str z => ((seqD q.2 q.1).bind strsD).bind fun ys => if (ys.map (·.length)).sum + ys.length * z.length ≤ 16777216 then some (.str (Txt.join z ys), q.2) else none
  | _ => none
section
variable {X : Cx} {o e : Expr} {mo m : EM D} {apos pos : Pos}
theorem ex_join (ho : PE X o (tX X.K mo)) (he : PE X e (tX X.K m)) (hs : starEach [e] X.env = [(false, eval e X.env)] := by rfl) (hbase : attributeBase o "join" X.env (eval o X.env) = eval o X.env := by rfl) (hline : (apos.endLine == pos.line) = true := by rfl) :
    PE X (.Call (.Attribute o "join" apos) [e] [] pos) (tX X.K (eJoin mo m)) := by
  refine peImp (pe_join ho he hs hbase hline) fun σ H Q h => ?_
  obtain ⟨I, ρ, st, r, st', S, eq, k⟩ := h
  unfold eJoin at eq
  obtain ⟨⟨d, s1⟩, e1, eq⟩ := Option.bind_eq_some_iff.mp eq
  obtain ⟨⟨d2, s2⟩, e2, eq⟩ := Option.bind_eq_some_iff.mp eq
  dsimp only at eq
  split at eq
  · obtain ⟨ys, hy, eq⟩ := Option.bind_eq_some_iff.mp eq
    split at eq
    · rename_i hz
      cases eq
      obtain ⟨l, hl, hy⟩ := Option.bind_eq_some_iff.mp hy
      refine ⟨I, ρ, st, _, s1, S, e1, fun I1 H1 v g1 S1 r1 => ?_⟩
      unfold Rep at r1
      subst r1
      refine ⟨⟨_, rfl⟩, I1, ρ, s1, _, _, S.grow g1 S1, e2, fun I2 H2 v2 g2 S2 r2 => ?_⟩
      obtain ⟨a, xs, rfl, q, ra⟩ := seqD_rep S2 r2 hl
      rw [strsD_rep hy ra] at q
      exact ⟨_, a, ys, rfl, rfl, q, hz, k I2 H2 _ (g1.trans g2) S2 (by unfold Rep; rfl)⟩
    · cases eq
  · cases eq
end
end DL


set_option Elab.async false
set_option linter.all false
set_option maxRecDepth 100000
set_option maxHeartbeats 4000000
namespace DL
open PySem PySem.Spec PyProof.Rows L2

section
variable {X : Cx} {a b c e : Expr} {ma mb mc : EM D} {g g' : D → D → M D} {pos : Pos}
theorem chain_reads {σ : L2.St} {H : Hp} {Q : VK} (h : tX X.K (eChain g g' ma mb mc) σ H Q) : tChain (rX2 X.K g) (rX2 X.K g') (tX X.K ma) (tX X.K mb) (tX X.K mc) σ H Q := by
  obtain ⟨I, ρ, st, r, st', S, e, k⟩ := h
  unfold eChain at e
  obtain ⟨⟨d, s1⟩, e1, e⟩ := Option.bind_eq_some_iff.mp e
  obtain ⟨⟨d2, s2⟩, e2, e⟩ := Option.bind_eq_some_iff.mp e
  obtain ⟨⟨d3, s3⟩, e3, e⟩ := Option.bind_eq_some_iff.mp e
  refine ⟨I, ρ, st, d, s1, S, e1, fun I1 H1 x g1 S1 r1 => ?_⟩
  refine ⟨I1, ρ, s1, d2, s2, S.grow g1 S1, e2, fun I2 H2 y g2 S2 r2 => ?_⟩
  refine ⟨I2, s2, d, d2, d3, s3, S2, r1.up S1 g2, r2, e3, fun I3 H3 v g3 S3 r3 => ?_⟩
  dsimp only at e
  have g123 := (g1.trans g2).trans g3
  split at e
  · unfold Rep at r3
    refine ⟨true, r3, ?_⟩
    rw [if_pos rfl]
    obtain ⟨⟨d4, s4⟩, e4, e⟩ := Option.bind_eq_some_iff.mp e
    refine ⟨I3, ρ, s3, d4, s4, S.grow g123 S3, e4, fun I4 H4 z g4 S4 r4 => ?_⟩
    exact ⟨I4, s4, d2, d4, r, st', S4, (r2.up S2 g3).up S3 g4, r4, e, fun I5 H5 w g5 S5 r5 => k I5 H5 w ((g123.trans g4).trans g5) S5 r5⟩
  · unfold Rep at r3
    refine ⟨false, r3, ?_⟩
    rw [if_neg Bool.false_ne_true]
    cases e
    exact k I3 H3 _ g123 S3 (by unfold Rep; rfl)
  · cases e
theorem tt_chain {op op' : CmpOp} (ho : OpX X (compareOp op) g) (ho' : OpX X (compareOp op') g') (ha : PE X a (tX X.K ma)) (hb : PE X b (tX X.K mb)) (hc : PE X c (tX X.K mc))
    (hm : lastMarks [op, op'] [b, c] = false := by with_unfolding_all rfl) : PT X (.Compare a [op, op'] [b, c] pos) (tXb X.K (eB (eChain g g' ma mb mc))) :=
  ptImp (pt_chain ho ho' ha hb hc (hm := hm)) fun σ H Q h => by
    obtain ⟨I, ρ, st, r, st', S, e, k⟩ := tB_reads h
    exact chain_reads ⟨I, ρ, st, r, st', S, e, k⟩
/-- a, b = x, y -/
def sPar (i j : Nat) (m : EM (List D)) : SM := fun ρ st => (m ρ st).bind fun p => match p.1 with
  | [d, e] => some (.nx ((ρ.set i (some d)).set j (some e)), p.2)
  | _ => none
theorem xs_par {s : Stmt} {i j : Nat} {m : EM (List D)} (h : PS X s (tPar i j (tXs X.K m))) : PS X s (tSx X.K (sPar i j m)) := by
  refine psImp h fun Z σ H h => ?_
  obtain ⟨I, ρ, st, f, st', S, e, k⟩ := h
  unfold sPar at e
  obtain ⟨⟨d, s1⟩, e1, e⟩ := Option.bind_eq_some_iff.mp e
  dsimp only at e
  split at e
  · cases e
    refine ⟨I, ρ, st, _, _, S, e1, fun I1 H1 vs g1 S1 r1 => ?_⟩
    obtain ⟨v, w', rfl, q1, q2⟩ := r1.two
    exact ⟨v, w', rfl, k I1 H1 g1 S1 _ (((S.grow g1 S1).env.set q1).set q2)⟩
  · cases e
/-- list(range(n)) -/
def cLrg (m : EM D) : EM (List D) := fun ρ st => (m ρ st).bind fun p => match p.1 with
  | .int j => if 0 ≤ j ∧ j ≤ 16777216 then some (rngL 0 j.toNat, p.2) else none
  | _ => none
theorem reps_rng {K : PySem.W.Frag} {I : Ids} {H : Hp} {lo : Int} : ∀ n : List Nat, Reps K I H (n.map fun i => D.int (lo + (i : Nat))) (n.map fun i => V.int (lo + (i : Nat)))
  | [] => Reps.nil
  | _ :: n => Reps.cons (by unfold Rep; rfl) (reps_rng n)
theorem xn_listRg {p p2 pos2 : Pos} (hc : X.calm = true) (hg : Gl X "list") (hm : X.mg "list" = none) (hg2 : Gl X "range") (hm2 : X.mg "range" = none) (ha : PE X a (tX X.K ma)) (na : starEach [a] X.env = (false, eval a X.env) :: starEach [] X.env := by rfl)
    (nb : starEach [.Call (.Name "range" p2) [a] [] pos2] X.env = (false, eval (.Call (.Name "range" p2) [a] [] pos2) X.env) :: starEach [] X.env := by rfl) : PE X (.Call (.Name "list" p) [.Call (.Name "range" p2) [a] [] pos2] [] pos) (tN X.K (cLrg ma)) := by
  refine peImp (pe_listRg hc hg hm (prg_1 hg2 hm2 ha na) nb) fun σ H Q h => ?_
  obtain ⟨I, ρ, st, r, st', S, eq, k⟩ := h
  unfold cLrg at eq
  obtain ⟨⟨d, s1⟩, e1, eq⟩ := Option.bind_eq_some_iff.mp eq
  dsimp only at eq
  split at eq
  · split at eq
    · rename_i c
      cases eq
      refine ⟨I, ρ, st, _, _, S, e1, fun I1 H1 v g1 S1 r1 => ?_⟩
      unfold Rep at r1
      refine ⟨_, r1, .of_le (by omega) c.2 (by omega) c.1, fun q hq => ?_⟩
      obtain ⟨g2, S2⟩ := S1.hide (xs := rgV 0 _) hq
      refine k _ _ q _ (g1.trans g2) S2 (g1.none_of hq) List.mem_cons_self upd_same ?_
      unfold rngL rgV
      rw [Int.sub_zero]
      exact reps_rng _
    · cases eq
  · cases eq
/-- a test by a value's truth -/
def truD (st : Sto) (d : D) : Option Bool := match dr st d with
  | .bl b => some b
  | .non => some false
  | .int i => some (i != 0)
  | .tup l => some (!l.isEmpty)
  | .lst l => some (!l.isEmpty)
  | _ => none
def eTr (m : EM D) : EM Bool := fun ρ st => (m ρ st).bind fun p => (truD p.2 p.1).map fun b => (b, p.2)
end

/-! ### built-ins by their names -/
theorem b_len : bootBuiltins "len" = some (.builtin "len") := by decide +kernel
theorem b_min : bootBuiltins "min" = some (.builtin "min") := by decide +kernel
theorem b_max : bootBuiltins "max" = some (.builtin "max") := by decide +kernel
theorem b_sum : bootBuiltins "sum" = some (.builtin "sum") := by decide +kernel
theorem b_all : bootBuiltins "all" = some (.builtin "all") := by decide +kernel
theorem b_any : bootBuiltins "any" = some (.builtin "any") := by decide +kernel
theorem b_abs : bootBuiltins "abs" = some (.builtin "abs") := by decide +kernel
theorem b_sorted : bootBuiltins "sorted" = some (.builtin "sorted") := by decide +kernel
theorem b_int : bootBuiltins "int" = some (.type "int") := by decide +kernel
theorem b_str : bootBuiltins "str" = some (.type "str") := by decide +kernel
theorem b_bool : bootBuiltins "bool" = some (.type "bool") := by decide +kernel
theorem b_list : bootBuiltins "list" = some (.type "list") := by decide +kernel
theorem b_tuple : bootBuiltins "tuple" = some (.type "tuple") := by decide +kernel
theorem k_int : kitTab "int" = true := by decide +kernel
theorem k_str : kitTab "str" = true := by decide +kernel
theorem k_bool : kitTab "bool" = true := by decide +kernel
theorem k_list : kitTab "list" = true := by decide +kernel
theorem k_tuple : kitTab "tuple" = true := by decide +kernel
end DL
namespace DL
open PySem PySem.Spec PyProof.Rows L2
/-- a def of the text, as the top has left it -/
theorem def_mk {K : PySem.W.Frag} {h : Heap} {mg : Str → Option Value} {x : Str} {sd : Stmt} {ps : List Str} {f : Addr} {oc kV dc pm cd ct : Value} {od an : Option Addr} {sl : Array (Option Value)} (X : K.In h) (G : h.Ns mainGlobals mg)
    (a : PySem.W.nsIn K mainGlobals x = some (some (.ref f))) (l : K.lookup f = some ⟨oc, od, .func (PySem.W.fnOf x x (defArgs sd) (defBody sd) (defScope sd) .none kV dc pm an cd ct), sl⟩) (c : PySem.W.codeIn K cd x = true) (k : PySem.W.keepIn K (.ref f) = true)
    (hb : ∀ (kV doc pm : Value) (an : Option Addr) (cdv ct : Value) (us : List Value), us.length = ps.length → bindArgs (PySem.W.fnOf x x (defArgs sd) (defBody sd) (defScope sd) .none kV doc pm an cdv ct) ⟨us, []⟩ = pure (ps.zip us)) :
    ∃ f fd, Def K mg x sd ps f fd :=
  have F := fun_mk (st := sd) l c k
  ⟨f, _, F, PySem.W.mg_of X G a, F.binds hb⟩
theorem fact_none {K : PySem.W.Frag} {h : Heap} {mg : Str → Option Value} {x : Str} (X : K.In h) (G : h.Ns mainGlobals mg) (a : PySem.W.nsIn K mainGlobals x = some none) : mg x = none := PySem.W.mg_none_of X G a
theorem fact_int {K : PySem.W.Frag} {h : Heap} {mg : Str → Option Value} {x : Str} {i : Int} {t : Tok} (X : K.In h) (G : h.Ns mainGlobals mg) (a : PySem.W.nsIn K mainGlobals x = some (some (.int i t))) : ∃ t, mg x = some (.int i t) := ⟨t, PySem.W.mg_of X G a⟩
theorem fact_str {K : PySem.W.Frag} {h : Heap} {mg : Str → Option Value} {x : Str} {i : Str} {t : Tok} (X : K.In h) (G : h.Ns mainGlobals mg) (a : PySem.W.nsIn K mainGlobals x = some (some (.str i t))) : ∃ t, mg x = some (.str i t) := ⟨t, PySem.W.mg_of X G a⟩
/-- the law's own head: its one parameter -/
theorem head_of {P : Program} {w : World} {K : PySem.W.Frag} {mg : Str → Option Value} {x p : Str} {sd : Stmt} {fa : Addr} {k : Nat} {m : List D → M D} (D1 : ∃ f fd, Def K mg x sd [p] f fd) (hfa : mg x = some (.ref fa))
    (hbd : ∀ (kV doc pm : Value) (an : Option Addr) (cdv ct : Value) (s : Shared) (u : Value), BindsTo s (PySem.W.fnOf x x (defArgs sd) (defBody sd) (defScope sd) .none kV doc pm an cdv ct) ⟨[u], []⟩ [(p, u)])
    (ok : ∀ (base : Heap) {f : Addr} {fd : FuncData}, Def K mg x sd [p] f fd → FnG P w K mg base k f fd [p] m) :
    ∃ fd : FuncData, (∀ (s : Shared) (u : Value), BindsTo s fd ⟨[u], []⟩ [(p, u)]) ∧ ∀ base : Heap, K.In base → base.Ns mainGlobals mg → FnG P w K mg base k fa fd [p] m := by
  obtain ⟨f, fd, T⟩ := D1
  have e := hfa.symm.trans T.g
  cases e
  obtain ⟨oc, od, kV, doc, pm, an, cdv, ct, osl, rfl, _, _⟩ := T.F.ex
  exact ⟨_, fun s u => hbd kV doc pm an cdv ct s u, fun base _ _ => ok base T⟩
end DL


set_option Elab.async false
set_option linter.all false
set_option maxRecDepth 100000
set_option maxHeartbeats 4000000
namespace DL
open PySem PySem.Spec PyProof.Rows L2

/-! ### t[::-1] of a tuple -/
section
variable {prog : Program} {w : World} {A : Around} {E : Value → Shared → Prop} {s : Shared}
theorem applied_rev {sl : Addr} {t : Tok} {n : Nat} {Q : Int × Int × Nat → Shared → Prop} (hs : s.heap.IsSliceOf sl .none .none (.int (-1) t))
    (h : Q ((n : Int) - 1, -1, n) s) : wpAny (model prog w) A (Builtin.Slice.sliceApplied (.ref sl) (pure (n : Int))) Q E s := by
  obtain ⟨os, hos, hcs, hds⟩ := id hs
  unfold Builtin.Slice.sliceApplied Builtin.Slice.sliceFields
  refine wpAny_bind (wpAny_bind (wpAny_field hos hds (x := .none) rfl (wpAny_bind (wpAny_field hos hds (x := .none) rfl (wpAny_bind (wpAny_field hos hds (x := .int (-1) t) rfl (wpAny_pure ?_)))))))
  refine wpAny_bind (slicePart_int ?_)
  show wpAny _ _ (if ((-1 : Int) == 0) = true then _ else _) _ _ s
  rw [if_neg (by decide)]
  refine wpAny_bind (slicePart_none (wpAny_bind (slicePart_none (wpAny_bind (wpAny_pure ?_)))))
  have e : Builtin.Slice.slicePlaces ((n : Int) - 1) (-1) (-1) = n := by
    unfold Builtin.Slice.slicePlaces
    rw [if_neg (by decide), show (-(-1) : Int) = 1 by decide, Int.ediv_one]
    split <;> omega
  show wpAny _ _ (pure ((n : Int) - 1, (-1 : Int), Builtin.Slice.slicePlaces ((n : Int) - 1) (-1) (-1))) _ _ s
  rw [e]
  exact wpAny_pure h
theorem pick_rev (xs : Array Value) : ((List.range xs.size).filterMap fun (m : Nat) => xs[((xs.size : Int) - 1 + (m : Int) * -1).toNat]?).toArray = xs.toList.reverse.toArray := by
  have e : (fun (m : Nat) => xs[((xs.size : Int) - 1 + (m : Int) * -1).toNat]?) = (fun i => xs[i]?) ∘ fun m => xs.size - 1 - m := by
    funext m
    show xs[_]? = xs[_]?
    have e1 : ((xs.size : Int) - 1 + (m : Int) * -1).toNat = xs.size - 1 - m := by omega
    rw [e1]
  rw [e, ← List.filterMap_map, PySem.W.krv_range, List.filterMap_reverse, PySem.W.krv_all]
theorem item_rev {t sl : Addr} {items : Array Value} {u : Tok} {Q : Value → Shared → Prop} (ht : IsTup s.heap t items) (hs : s.heap.IsSliceOf sl .none .none (.int (-1) u))
    (h : Q (.ref s.heap.objs.size) { s with heap := s.heap.push { cls := .type "tuple", data := .seq items.toList.reverse.toArray } })
    (hsz : items.size ≤ sizeLine) : wpAny (model prog w) A (getItem (.ref t) (.ref sl)) Q E s := by
  have htake : sizeOk (.seq items.toList.reverse.toArray) := by
    show items.toList.reverse.toArray.size ≤ sizeLine
    rw [List.size_toArray, List.length_reverse, Array.length_toList]
    exact hsz
  obtain ⟨os, hos, hcs, hds⟩ := id hs
  have hTs : s.TypeIs (.ref sl) "slice" := ⟨os, hos, hcs⟩
  unfold getItem
  try with_reducible refine wpAny_holding ?_
  first | refine wpAny_bind (wpAny_pure ?_) | skip
  refine wpAny_bind (wpAny_sequenceKey ht.typeIs (by decide) ?_)
  refine wpAny_bind (wpAny_callSpecial?_slot (name := Str.ofString "__getitem__") ht.typeIs slot_tuple_getitem
    (wpAny_call_entry slot_tuple_getitem ht.typeIs entry_tuple_getitem ?_ (args_tuple_getitem _ _)))
  show wpAny _ _ (Builtin.Tuple.tupleItemsOf (.ref t) >>= _) _ _ s
  refine wpAny_bind (tupleItemsOf_ ht ?_)
  refine wpAny_bind (wpAny_typeOf hTs ?_)
  rw [if_pos (by decide)]
  refine wpAny_bind (applied_rev hs ?_)
  have no : ¬ ((((items.size : Int) - 1) == 0 && (-1 : Int) == 1 && items.size == items.size) = true) := by
    rw [show ((-1 : Int) == 1) = false by decide, Bool.and_false, Bool.false_and]
    exact Bool.false_ne_true
  show wpAny _ _ (if (((items.size : Int) - 1) == 0 && (-1 : Int) == 1 && items.size == items.size) = true then _ else _) _ _ s
  rw [if_neg no, pick_rev]
  first
    | exact wpAny_bind (m := Builtin.Tuple.tupleExact _) (wpAny_newObj_type (wpAny_pure ⟨_, rfl, wpAny_pure h⟩) htake)
    | exact wpAny_bind (m := Builtin.Tuple.tupleExact _) (wpAny_newObj_type (wpAny_bind (wpAny_pure (wpAny_pure ⟨_, rfl, wpAny_pure h⟩))) htake)
    | exact wpAny_bind (wpAny_bind (m := Builtin.Tuple.tupleExact _) (wpAny_newObj_type (wpAny_pure (wpAny_pure ⟨_, rfl, wpAny_pure h⟩)) htake))
    | exact wpAny_bind (wpAny_bind (m := Builtin.Tuple.tupleExact _) (wpAny_newObj_type (wpAny_pure ⟨_, rfl, wpAny_pure h⟩) htake))
end
def revM (d e : D) : M D := fun st => match d, e with
  | .tup l, .int i => if i = -1 then some (.tup l.reverse, st) else none
  | _, _ => none
theorem Reps.reverse {K : PySem.W.Frag} {I : Ids} {H : Hp} : ∀ {ds : List D} {vs : List V}, Reps K I H ds vs → Reps K I H ds.reverse vs.reverse
  | [], _, h => by unfold Reps at h; subst h; exact Reps.nil
  | d :: ds, _, h => by
    unfold Reps at h
    obtain ⟨x, r, rfl, q, t⟩ := h
    rw [List.reverse_cons, List.reverse_cons]
    exact (Reps.reverse t).append (Reps.cons q Reps.nil)
section
variable {X : Cx} {e c : Expr} {m mc : EM D} {p2 pos : Pos}
theorem ex_rev (he : PE X e (tX X.K m)) (hc : PE X c (tX X.K mc)) : PE X (.Subscript e (.Slice none none (some c) p2) pos) (tX X.K (eBin revM m mc)) := by
  refine ⟨fun pins s σ H Q Iv h => ?_⟩
  refine Subscript_ (thn (he.run pins s σ H _ Iv (op_reads h)) fun v s1 ⟨x, H1, I1, r1, q1⟩ => ?_)
  refine wpAny_Slice ?_
  rw [evalPart_none]
  refine wpAny_pure (wpAny_pure ?_)
  rw [evalPart_some]
  refine thn (hc.run pins s1 σ H1 _ I1 q1) fun cv s2 ⟨y, H2, I2, r2, q2⟩ => ?_
  obtain ⟨I, st, d, d2, r, st', S, rd, re, eq, k⟩ := q2
  unfold revM at eq
  split at eq
  · rename_i l i
    split at eq
    · rename_i hi
      subst hi
      cases eq
      unfold Rep at rd re
      obtain ⟨a, xs, rfl, hx, ra⟩ := rd
      subst re
      obtain ⟨u, rfl⟩ := r2
      cases r1
      have I4 : Inv X pins σ H2 { s2 with heap := s2.heap.push { cls := .type "slice", data := .fields #[.none, .none, .int (-1) u] } } := I2.kept (t' := s2.toks) fun b ob q => Heap.get?_push_of_some _ q
      have hs := Heap.IsSliceOf.new s2.heap .none .none (.int (-1) u)
      obtain ⟨its, rv, ht, hz⟩ := I4.tuple hx
      show wpAny (model X.prog X.w) X.A (subscriptTail e (.Slice none none (some c) p2) (.ref a) (.ref s2.heap.objs.size)) (EP X pins σ Q) X.xe { s2 with heap := s2.heap.push { cls := .type "slice", data := .fields #[.none, .none, .int (-1) u] } }
      refine tail_any (ops := [.ref a, .ref s2.heap.objs.size]) ht.typeIs slot_tuple_getitem.lookup ?_ (by with_unfolding_all rfl)
      refine item_rev ht hs ?_ (by rw [List.size_toArray, ← rv.length]; exact hz)
      refine ⟨.ref _, _, I4.laid (t' := s2.toks) (o := .tup xs.reverse) (fun b ob q => Heap.get?_push_of_some _ q) (Nat.le_refl _) ?_, rfl, ?_⟩
      · exact ⟨by rw [List.length_reverse]; exact hz, _, rv.reverse, IsTup.new _ _⟩
      · have hp := I4.hok.fresh (Nat.le_refl _)
        exact k I _ _ (.new hp) (S.new hp) (.newTup S hp ra.reverse)
    · cases eq
  · cases eq
end
end DL


set_option Elab.async false
set_option linter.all false
set_option maxRecDepth 100000
set_option maxHeartbeats 4000000
namespace DL
open PySem PySem.Spec PyProof.Rows L2

/-! ### methods of lists and tuples, with one argument -/
def tyL (K : PySem.W.Frag) (x : V) (H : Hp) : Prop := ∃ a xs, x = .ref a ∧ SqL K H a xs
def rM1 (K : PySem.W.Frag) (g : D → D → M D) : V → List V → Hp → VK → Prop := fun x xs H Q => ∃ y, xs = [y] ∧ rX2 K g x y H Q
section
variable {X : Cx}
theorem ty_lst : TyOk X "list" (tyL X.K) := by
  intro pins σ H s x v Iv r ty
  obtain ⟨a, xs, rfl, hq⟩ := ty
  cases r
  obtain ⟨its, _, pl, _⟩ := Iv.list hq
  refine ⟨pl.isList.typeIs, fun b e => ?_⟩
  cases e
  obtain ⟨o, n, e, c, hd, _⟩ := pl
  exact ⟨o, e, hd⟩
variable {o e : Expr} {name : Str} {apos cpos : Pos} {T id : String} {ty : V → Hp → Prop} {g : D → D → M D} {mo m : EM D}
/-- o.name(e), by the mirror of the method; what o is tells its type -/
theorem ex_meth1 (ht : TyOk X T ty) (pa : PlainAttrs T) (slot : Slot T name id) (hty : typeOf (.builtin id) = pure (.type "method_descriptor")) (hm : MtR X id (rM1 X.K g))
    (hd : ∀ (I1 I2 : Ids) (H1 : Hp) (s1 s2 st' : Sto) (d e r : D) (x : V), StOk X.K I1 H1 s1 → Rep X.K I1 H1 d x → g d e s2 = some (r, st') → ty x H1)
    (ho : PE X o (tX X.K mo)) (he : PE X e (tX X.K m))
    (hbase : attributeBase o name X.env (eval o X.env) = eval o X.env := by rfl)
    (hfew : ((backTo cpos (starEach (e :: []) X.env)).all (fun x => !x.1) && (backToKw cpos (keywordEach [] X.env)).all (fun x => x.1.isSome)
      && decide ((e :: []).length + ([] : List Keyword).length + (if ([] : List Keyword).isEmpty then 0 else 1) < 30)) = true := by rfl)
    (hline : (apos.endLine == cpos.line) = true := by rfl) (hs : starEach (e :: []) X.env = (false, eval e X.env) :: starEach [] X.env := by rfl) (hplain : (backTo cpos (starEach [] X.env)).any (·.1) = false := by rfl) :
    PE X (.Call (.Attribute o name apos) [e] [] cpos) (tX X.K (eBin g mo m)) := by
  refine peImp (pe_mG ht pa slot hty hm ho (xa_cons he xa_nil hs) hbase hfew hline hs hplain) fun σ H Q h => ?_
  obtain ⟨I, ρ, st, r, st', S, eq, k⟩ := h
  unfold eBin at eq
  obtain ⟨⟨d, s1⟩, e1, eq⟩ := Option.bind_eq_some_iff.mp eq
  obtain ⟨⟨d2, s2⟩, e2, eq⟩ := Option.bind_eq_some_iff.mp eq
  refine ⟨I, ρ, st, d, s1, S, e1, fun I1 H1 x g1 S1 r1 => ?_⟩
  refine ⟨hd I1 I1 H1 s1 s2 st' d d2 r x S1 r1 eq, I1, ρ, s1, [d2], s2, S.grow g1 S1, ?_, fun I2 H2 xs g2 S2 r2 => ?_⟩
  · unfold aCons aNil
    rw [e2]
    rfl
  · unfold Reps at r2
    obtain ⟨y, r', rfl, ry, rn⟩ := r2
    unfold Reps at rn
    subst rn
    exact ⟨y, rfl, I2, s2, d, d2, r, st', S2, r1.up S1 g2, ry, eq, fun I3 H3 v g3 S3 r3 => k I3 H3 v ((g1.trans g2).trans g3) S3 r3⟩
/-- xs.append(e) of a list with a number -/
def appM (d e : D) : M D := fun st => match d with
  | .ref n => match st[n]? with
    | some (.lst l) => if l.length < sizeLine then some (.non, st.set n (.lst (l ++ [e]))) else none
    | none => none
  | _ => none
/-- xs.pop(0) of a list with a number -/
def popM (d e : D) : M D := fun st => match d, e with
  | .ref n, .int i => match st[n]? with
    | some (.lst (y :: l)) => if i = 0 then some (y, st.set n (.lst l)) else none
    | _ => none
  | _, _ => none
theorem ref_lst {K : PySem.W.Frag} {I : Ids} {H : Hp} {st : Sto} {n : Nat} {x : V} (S : StOk K I H st) (r : Rep K I H (.ref n) x) : tyL K x H := by
  unfold Rep at r
  obtain ⟨a, hn, rfl⟩ := r
  have hl := (List.getElem?_eq_some_iff.mp hn).1
  rw [S.len] at hl
  cases ho : st[n]? with
  | none => exact absurd (List.getElem?_eq_none_iff.mp ho) (by omega)
  | some ob =>
    cases ob with
    | lst l =>
      obtain ⟨xs, hx, _⟩ := S.ob n _ a ho hn
      exact ⟨a, xs, rfl, .of hx⟩
theorem ex_append (ho : PE X o (tX X.K mo)) (he : PE X e (tX X.K m))
    (hbase : attributeBase o "append" X.env (eval o X.env) = eval o X.env := by rfl)
    (hfew : ((backTo cpos (starEach (e :: []) X.env)).all (fun x => !x.1) && (backToKw cpos (keywordEach [] X.env)).all (fun x => x.1.isSome)
      && decide ((e :: []).length + ([] : List Keyword).length + (if ([] : List Keyword).isEmpty then 0 else 1) < 30)) = true := by rfl)
    (hline : (apos.endLine == cpos.line) = true := by rfl) (hs : starEach (e :: []) X.env = (false, eval e X.env) :: starEach [] X.env := by rfl) (hplain : (backTo cpos (starEach [] X.env)).any (·.1) = false := by rfl) :
    PE X (.Call (.Attribute o "append" apos) [e] [] cpos) (tX X.K (eBin appM mo m)) := by
  refine ex_meth1 ty_lst PySem.F.plainAttrs_list PySem.F.slot_list_append PySem.F.type_list_append ?_ ?_ ho he hbase hfew hline hs hplain
  · intro pins s σ H x xs v us Q Iv rx rv h
    refine mt_append pins s σ H x xs v us Q Iv rx rv ?_
    obtain ⟨y, rfl, I, st, d, d2, r, st', S, rd, re, eq, k⟩ := h
    unfold appM at eq
    split at eq
    · rename_i n
      split at eq
      · rename_i l hl
        split at eq
        · rename_i hz
          cases eq
          unfold Rep at rd
          obtain ⟨a, hn, rfl⟩ := rd
          obtain ⟨zs, hx, rs⟩ := S.ob n _ a hl hn
          obtain ⟨g3, S3⟩ := S.put hn (rs.append (Reps.cons re Reps.nil))
          exact ⟨a, zs, y, rfl, rfl, hx, by rw [← rs.length]; exact hz, k I _ _ g3 S3 (by unfold Rep; rfl)⟩
        · cases eq
      · cases eq
    · cases eq
  · intro I1 I2 H1 s1 s2 st' d e r x S r1 eq
    unfold appM at eq
    split at eq
    · exact ref_lst S r1
    · cases eq
theorem ex_popAt (ho : PE X o (tX X.K mo)) (he : PE X e (tX X.K m))
    (hbase : attributeBase o "pop" X.env (eval o X.env) = eval o X.env := by rfl)
    (hfew : ((backTo cpos (starEach (e :: []) X.env)).all (fun x => !x.1) && (backToKw cpos (keywordEach [] X.env)).all (fun x => x.1.isSome)
      && decide ((e :: []).length + ([] : List Keyword).length + (if ([] : List Keyword).isEmpty then 0 else 1) < 30)) = true := by rfl)
    (hline : (apos.endLine == cpos.line) = true := by rfl) (hs : starEach (e :: []) X.env = (false, eval e X.env) :: starEach [] X.env := by rfl) (hplain : (backTo cpos (starEach [] X.env)).any (·.1) = false := by rfl) :
    PE X (.Call (.Attribute o "pop" apos) [e] [] cpos) (tX X.K (eBin popM mo m)) := by
  refine ex_meth1 ty_lst PySem.F.plainAttrs_list PySem.F.slot_list_pop PySem.F.type_list_pop ?_ ?_ ho he hbase hfew hline hs hplain
  · intro pins s σ H x xs v us Q Iv rx rv h
    refine mt_popAt pins s σ H x xs v us Q Iv rx rv ?_
    obtain ⟨y, rfl, I, st, d, d2, r, st', S, rd, re, eq, k⟩ := h
    unfold popM at eq
    split at eq
    · rename_i n i
      split at eq
      · rename_i z l hl
        split at eq
        · rename_i hi
          subst hi
          cases eq
          unfold Rep at rd re
          subst re
          obtain ⟨a, hn, rfl⟩ := rd
          obtain ⟨zs, hx, rs⟩ := S.ob n _ a hl hn
          unfold Reps at rs
          obtain ⟨w, ws, rfl, rw1, rw2⟩ := rs
          obtain ⟨g3, S3⟩ := S.put hn rw2
          refine ⟨a, w :: ws, 0, 0, w, rfl, rfl, hx, by decide, by decide, ?_, rfl, k I _ _ g3 S3 (rw1.up S g3)⟩
          unfold seqIndex?
          simp
        · cases eq
      · cases eq
    · cases eq
  · intro I1 I2 H1 s1 s2 st' d e r x S r1 eq
    unfold popM at eq
    split at eq
    · exact ref_lst S r1
    · cases eq
end
end DL


set_option Elab.async false
set_option linter.all false
set_option maxRecDepth 100000
set_option maxHeartbeats 4000000
namespace DL
open PySem PySem.Spec PyProof.Rows L2

/-! ### repr -/
structure ReprOk (d : D) : Prop where
  plain : plainD d = true
  shows : (toP d).showable = true
  nodict : (toP d).hasDict = false
  deep : (toP d).depth ≤ 32
  size : (toP d).shown.length ≤ sizeLine
open Classical in
noncomputable def reprM (d : D) : M D := fun st => match dr st d with
  | .bl b => some (.str (if b then "True" else "False"), st)
  | .non => some (.str "None", st)
  | .tup l => if ReprOk (.tup l) then some (.str (toP (.tup l)).shown, st) else none
  | .lst l => if ReprOk (.lst l) then some (.str (toP (.lst l)).shown, st) else none
  | _ => none
section
variable {X : Cx}
theorem cx_repr (hu : X.A.units + 64 < cLine) (hG : X.A.guards = some []) : CallX X (.builtin "repr") (fn1 reprM) := by
  intro pins s σ H xs us Q Iv rv h
  obtain ⟨I, st, ds, r, st', S, rs, eq, k⟩ := h
  unfold fn1 at eq
  split at eq
  · obtain ⟨v, rfl, rd⟩ := rs.one
    have rw' := rd.dr S
    unfold reprM at eq
    obtain ⟨u, rfl, ru⟩ := rv.one
    split at eq
    · rename_i b hb
      rw [hb] at rw'
      cases eq
      have e := rw'.bl
      subst e
      cases ru
      exact PySem.P.repr_of_bool ⟨.str (if b then "True" else "False"), H, Iv.tok _, ⟨_, by cases b <;> rfl⟩, k I H _ (.refl I H) S (by unfold Rep; rfl)⟩
    · rename_i hb
      rw [hb] at rw'
      cases eq
      have e : v = .non := by unfold RepW Rep at rw'; exact rw'
      subst e
      cases ru
      exact PySem.P.repr_of_none ⟨.str "None", H, Iv.tok _, ⟨_, rfl⟩, k I H _ (.refl I H) S (by unfold Rep; rfl)⟩
    · rename_i l hl
      rw [hl] at rw'
      split at eq
      · rename_i ok
        cases eq
        have D0 := rw'.dp ok.plain
        obtain ⟨a, ys, e0, qa, ra⟩ := rw'.tup
        subst e0
        cases ru
        obtain ⟨as, R⟩ := Dp.reads Iv _ _ _ D0 (show RelV (.ref a) (.ref a) from rfl)
        exact repr_of_reads' R ok.shows (by rw [ok.nodict]; exact fun h => by cases h) hG (by have := ok.deep; omega) (fun _ _ e => e) (fun h' u tk hk => ⟨.str _, H, Iv.kept (t' := tk) hk, ⟨_, rfl⟩, k I H _ (.refl I H) S (by unfold Rep; rfl)⟩) ok.size
      · cases eq
    · rename_i l hl
      rw [hl] at rw'
      split at eq
      · rename_i ok
        cases eq
        have D0 := rw'.dp ok.plain
        obtain ⟨a, ys, e0, qa, ra⟩ := rw'.lst
        subst e0
        cases ru
        obtain ⟨as, R⟩ := Dp.reads Iv _ _ _ D0 (show RelV (.ref a) (.ref a) from rfl)
        exact repr_of_reads' R ok.shows (by rw [ok.nodict]; exact fun h => by cases h) hG (by have := ok.deep; omega) (fun _ _ e => e) (fun h' u tk hk => ⟨.str _, H, Iv.kept (t' := tk) hk, ⟨_, rfl⟩, k I H _ (.refl I H) S (by unfold Rep; rfl)⟩) ok.size
      · cases eq
    · cases eq
  · cases eq
end

theorem b_repr : bootBuiltins "repr" = some (.builtin "repr") := by rfl
/-! ### list(x), a list made -/
def cLof (m : EM D) : EM (List D) := fun ρ st => (m ρ st).bind fun p => (seqD p.2 p.1).map fun l => (l, p.2)
section
variable {X : Cx} {e : Expr} {m : EM D} {p pos : Pos}
theorem xn_list (hg : Gl X "list") (hm : X.mg "list" = none) (he : PE X e (tX X.K m)) (hs : starEach [e] X.env = (false, eval e X.env) :: starEach [] X.env := by rfl) (hpl : (backTo pos (starEach [] X.env)).any (·.1) = false := by rfl) :
    PE X (.Call (.Name "list" p) [e] [] pos) (tN X.K (cLof m)) := by
  refine peImp (pe_callTy call_list_of hg hm rfl (xa_cons he xa_nil hs) (by decide) (by decide) hs hpl) fun σ H Q h => ?_
  obtain ⟨I, ρ, st, l, st', S, eq, k⟩ := h
  unfold cLof at eq
  obtain ⟨⟨d, s1⟩, e1, eq⟩ := Option.bind_eq_some_iff.mp eq
  obtain ⟨l', hl, eq⟩ := Option.map_eq_some_iff.mp eq
  cases eq
  refine ⟨I, ρ, st, [d], s1, S, ?_, fun I1 H1 xs g1 S1 r1 => ?_⟩
  · unfold aCons aNil
    rw [e1]
    rfl
  · obtain ⟨v, rfl, rd⟩ := r1.one
    obtain ⟨a, ys, rfl, q, ra⟩ := seqD_rep S1 rd hl
    refine ⟨a, ys, rfl, q, fun p hp => ?_⟩
    obtain ⟨g2, S2⟩ := S1.hide (xs := ys) hp
    exact k _ _ p _ (g1.trans g2) S2 (g1.none_of hp) List.mem_cons_self upd_same (ra.up S1 g2)
end
end DL


set_option Elab.async false
set_option linter.all false
set_option maxRecDepth 100000
set_option maxHeartbeats 4000000
/-! What a mirror comes to, from its end: Ok x Q. -/
namespace DL
open PySem PySem.Spec L2

def Ok {α : Type} (x : Option (α × Sto)) (Q : α → Sto → Prop) : Prop := ∃ a s, x = some (a, s) ∧ Q a s
theorem Ok.mono {α : Type} {x : Option (α × Sto)} {Q Q' : α → Sto → Prop} (h : Ok x Q) (k : ∀ a s, Q a s → Q' a s) : Ok x Q' := by
  obtain ⟨a, s, e, q⟩ := h
  exact ⟨a, s, e, k a s q⟩
theorem Ok.of_eq {α : Type} {x : Option (α × Sto)} {Q : α → Sto → Prop} {a : α} {s : Sto} (h : x = some (a, s)) (q : Q a s) : Ok x Q := ⟨a, s, h, q⟩
section
variable {α β : Type} {Q : α → Sto → Prop} {R : β → Sto → Prop} {QD : D → Sto → Prop} {QB : Bool → Sto → Prop} {QL : List D → Sto → Prop} {QF : Fl → Sto → Prop} {QE : En → Sto → Prop} {d e : D} {ρ : En} {st : Sto} {a b c : EM D} {i j : Int}
theorem ok_some {x : α} : Ok (some (x, st)) Q ↔ Q x st := ⟨fun ⟨_, _, h, q⟩ => (by cases h; exact q), fun q => ⟨x, st, rfl, q⟩⟩
theorem ok_none : Ok (none : Option (α × Sto)) Q ↔ False := ⟨fun ⟨_, _, h, _⟩ => (by cases h), False.elim⟩
theorem ok_bind {x : Option (β × Sto)} {f : β × Sto → Option (α × Sto)} : Ok (x.bind f) Q ↔ Ok x fun y s => Ok (f (y, s)) Q := by
  constructor
  · rintro ⟨z, s, h, q⟩
    obtain ⟨⟨y, s1⟩, h1, h2⟩ := Option.bind_eq_some_iff.mp h
    exact ⟨y, s1, h1, z, s, h2, q⟩
  · rintro ⟨y, s1, h1, z, s, h2, q⟩
    exact ⟨z, s, by rw [h1]; exact h2, q⟩
theorem ok_map {x : Option β} {f : β → α × Sto} : Ok (x.map f) Q ↔ ∃ y, x = some y ∧ Q (f y).1 (f y).2 := by
  constructor
  · rintro ⟨z, s, h, q⟩
    obtain ⟨y, h1, h2⟩ := Option.map_eq_some_iff.mp h
    exact ⟨y, h1, by rw [h2]; exact q⟩
  · rintro ⟨y, h1, q⟩
    exact ⟨(f y).1, (f y).2, by rw [h1]; rfl, q⟩
theorem ok_ite {p : Prop} [Decidable p] {x : Option (α × Sto)} : Ok (if p then x else none) Q ↔ p ∧ Ok x Q := by
  by_cases h : p
  · rw [if_pos h]; exact ⟨fun q => ⟨h, q⟩, fun q => q.2⟩
  · rw [if_neg h, ok_none]; exact ⟨False.elim, fun q => h q.1⟩
theorem ok_iff {p : Prop} [Decidable p] {x y : Option (α × Sto)} : Ok (if p then x else y) Q ↔ if p then Ok x Q else Ok y Q := by
  by_cases h : p
  · rw [if_pos h, if_pos h]
  · rw [if_neg h, if_neg h]
theorem ok_eC : Ok (eC d ρ st) QD ↔ QD d st := ok_some
theorem ok_eVar0 : Ok (eVar 0 (some d :: ρ) st) QD ↔ QD d st := ok_some
theorem ok_eVarS {n : Nat} {x : Option D} : Ok (eVar (n + 1) (x :: ρ) st) QD ↔ Ok (eVar n ρ st) QD := Iff.rfl
theorem ok_eBin {g : D → D → M D} : Ok (eBin g a b ρ st) QD ↔ Ok (a ρ st) fun x s => Ok (b ρ s) fun y s' => Ok (g x y s') QD := by
  unfold eBin; rw [ok_bind]; simp only [ok_bind]
theorem ok_eUn {g : D → M D} : Ok (eUn g a ρ st) QD ↔ Ok (a ρ st) fun x s => Ok (g x s) QD := ok_bind
/-- a truth that is a bool -/
def boolK (Q : Bool → Sto → Prop) : D → Sto → Prop := fun x s => ∃ c, x = .bl c ∧ Q c s
theorem boolK_bl {c : Bool} : boolK QB (.bl c) st ↔ QB c st := ⟨fun ⟨_, h, q⟩ => (by cases h; exact q), fun q => ⟨c, rfl, q⟩⟩
theorem ok_eB : Ok (eB a ρ st) QB ↔ Ok (a ρ st) (boolK QB) := by
  unfold eB
  rw [ok_bind]
  constructor
  · rintro ⟨x, s, h, y, s2, h2, q⟩
    refine ⟨x, s, h, ?_⟩
    dsimp only at h2
    split at h2
    · cases h2; exact ⟨_, rfl, q⟩
    · cases h2
  · rintro ⟨x, s, h, c, rfl, q⟩
    exact ⟨_, s, h, c, s, rfl, q⟩
theorem ok_eAnd : Ok (eAnd a b ρ st) QD ↔ Ok (a ρ st) (boolK fun c s => if c = true then Ok (b ρ s) QD else QD (.bl false) s) := by
  unfold eAnd
  rw [ok_bind]
  constructor
  · rintro ⟨x, s, h, y, s2, h2, q⟩
    refine ⟨x, s, h, ?_⟩
    dsimp only at h2
    split at h2
    · exact ⟨_, rfl, y, s2, h2, q⟩
    · cases h2; exact ⟨_, rfl, q⟩
    · cases h2
  · rintro ⟨x, s, h, c, rfl, q⟩
    refine ⟨_, s, h, ?_⟩
    cases c with
    | true => exact q
    | false => exact ok_some.mpr q
theorem ok_eOr : Ok (eOr a b ρ st) QD ↔ Ok (a ρ st) (boolK fun c s => if c = true then QD (.bl true) s else Ok (b ρ s) QD) := by
  unfold eOr
  rw [ok_bind]
  constructor
  · rintro ⟨x, s, h, y, s2, h2, q⟩
    refine ⟨x, s, h, ?_⟩
    dsimp only at h2
    split at h2
    · cases h2; exact ⟨_, rfl, q⟩
    · exact ⟨_, rfl, y, s2, h2, q⟩
    · cases h2
  · rintro ⟨x, s, h, c, rfl, q⟩
    refine ⟨_, s, h, ?_⟩
    cases c with
    | true => exact ok_some.mpr q
    | false => exact q
theorem ok_eNot : Ok (eNot a ρ st) QD ↔ Ok (a ρ st) (boolK fun c s => QD (.bl (!c)) s) := by
  unfold eNot
  rw [ok_bind]
  constructor
  · rintro ⟨x, s, h, y, s2, h2, q⟩
    refine ⟨x, s, h, ?_⟩
    dsimp only at h2
    split at h2
    · cases h2; exact ⟨_, rfl, q⟩
    · cases h2
  · rintro ⟨x, s, h, c, rfl, q⟩
    exact ⟨_, s, h, ok_some.mpr q⟩
variable {t u : EM Bool}
theorem ok_bAnd : Ok (bAnd t u ρ st) QB ↔ Ok (t ρ st) fun c s => if c = true then Ok (u ρ s) QB else QB false s := by
  unfold bAnd
  rw [ok_bind]
  constructor
  · rintro ⟨c, s, h, q⟩
    refine ⟨c, s, h, ?_⟩
    cases c with
    | true => exact q
    | false => exact ok_some.mp q
  · rintro ⟨c, s, h, q⟩
    refine ⟨c, s, h, ?_⟩
    cases c with
    | true => exact q
    | false => exact ok_some.mpr q
theorem ok_bOr : Ok (bOr t u ρ st) QB ↔ Ok (t ρ st) fun c s => if c = true then QB true s else Ok (u ρ s) QB := by
  unfold bOr
  rw [ok_bind]
  constructor
  · rintro ⟨c, s, h, q⟩
    refine ⟨c, s, h, ?_⟩
    cases c with
    | true => exact ok_some.mp q
    | false => exact q
  · rintro ⟨c, s, h, q⟩
    refine ⟨c, s, h, ?_⟩
    cases c with
    | true => exact ok_some.mpr q
    | false => exact q
theorem ok_bNot : Ok (bNot t ρ st) QB ↔ Ok (t ρ st) fun c s => QB (!c) s := by
  unfold bNot; rw [ok_bind]; simp only [ok_some]
theorem ok_eIf : Ok (eIf t a b ρ st) QD ↔ Ok (t ρ st) fun c s => if c = true then Ok (a ρ s) QD else Ok (b ρ s) QD := by
  unfold eIf
  rw [ok_bind]
  constructor
  · rintro ⟨c, s, h, q⟩
    refine ⟨c, s, h, ?_⟩
    cases c <;> exact q
  · rintro ⟨c, s, h, q⟩
    refine ⟨c, s, h, ?_⟩
    cases c <;> exact q
variable {m : EM (List D)}
theorem ok_aNil : Ok (aNil ρ st) QL ↔ QL [] st := ok_some
theorem ok_aCons : Ok (aCons a m ρ st) QL ↔ Ok (a ρ st) fun x s => Ok (m ρ s) fun l s' => QL (x :: l) s' := by
  unfold aCons; rw [ok_bind]; simp only [ok_bind, ok_some]
theorem ok_eTup : Ok (eTup m ρ st) QD ↔ Ok (m ρ st) fun l s => l.length ≤ sizeLine ∧ QD (.tup l) s := by
  unfold eTup; rw [ok_bind]; simp only [ok_ite, ok_some]
theorem ok_cLst : Ok (cLst m ρ st) QL ↔ Ok (m ρ st) fun l s => l.length ≤ sizeLine ∧ QL l s := by
  unfold cLst; rw [ok_bind]; simp only [ok_ite, ok_some]
theorem ok_eFz : Ok (eFz m ρ st) QD ↔ Ok (m ρ st) fun l s => QD (.lst l) s := by
  unfold eFz; rw [ok_bind]; simp only [ok_some]
theorem ok_eNw : Ok (eNw m ρ st) QD ↔ Ok (m ρ st) fun l s => QD (.ref s.length) (s ++ [.lst l]) := by
  unfold eNw; rw [ok_bind]; simp only [ok_some]
theorem ok_eCall {g : List D → M D} : Ok (eCall g m ρ st) QD ↔ Ok (m ρ st) fun l s => Ok (g l s) QD := ok_bind
variable {o p : EM (Option Int)} {QO : Option Int → Sto → Prop}
theorem ok_oNone : Ok (oNone ρ st) QO ↔ QO none st := ok_some
def intK (Q : Int → Sto → Prop) : D → Sto → Prop := fun x s => ∃ c, x = .int c ∧ Q c s
theorem intK_int {c : Int} {Q : Int → Sto → Prop} : intK Q (.int c) st ↔ Q c st := ⟨fun ⟨_, h, q⟩ => (by cases h; exact q), fun q => ⟨c, rfl, q⟩⟩
theorem ok_oSome : Ok (oSome a ρ st) QO ↔ Ok (a ρ st) (intK fun k s => QO (some k) s) := by
  unfold oSome
  rw [ok_bind]
  constructor
  · rintro ⟨x, s, h, y, s2, h2, q⟩
    refine ⟨x, s, h, ?_⟩
    dsimp only at h2
    split at h2
    · cases h2; exact ⟨_, rfl, q⟩
    · cases h2
  · rintro ⟨x, s, h, c, rfl, q⟩
    exact ⟨_, s, h, ok_some.mpr q⟩
theorem ok_eSl {g : D → Option Int → Option Int → M D} : Ok (eSl g a o p ρ st) QD ↔ Ok (a ρ st) fun x s => Ok (o ρ s) fun l s1 => Ok (p ρ s1) fun u s2 => Ok (g x l u s2) QD := by
  unfold eSl; rw [ok_bind]; simp only [ok_bind]
/-! operations on what is known -/
theorem ok_add : Ok (addM (.int i) (.int j) st) QD ↔ QD (.int (i + j)) st := ok_some
theorem ok_sub : Ok (subM (.int i) (.int j) st) QD ↔ QD (.int (i - j)) st := ok_some
theorem ok_mul : Ok (mulM (.int i) (.int j) st) QD ↔ mulOk i j = true ∧ QD (.int (i * j)) st := by
  unfold mulM; dsimp only; rw [ok_ite, ok_some]
theorem ok_mod : Ok (modM (.int i) (.int j) st) QD ↔ 0 < j ∧ QD (.int (i % j)) st := by
  unfold modM; dsimp only; rw [ok_ite, ok_some]
theorem ok_div : Ok (divM (.int i) (.int j) st) QD ↔ (0 < j ∧ j.natAbs.log2 < 9000) ∧ QD (.int (i / j)) st := by
  unfold divM; dsimp only; rw [ok_ite, ok_some]
theorem ok_pow : Ok (powM (.int i) (.int j) st) QD ↔ (0 ≤ j ∧ j ≤ 1000000 ∧ i.natAbs < 2 ^ 64) ∧ QD (.int (i ^ j.toNat)) st := by
  unfold powM; dsimp only; rw [ok_ite, ok_some]
theorem ok_neg : Ok (negM (.int i) st) QD ↔ QD (.int (-i)) st := ok_some
theorem ok_eq {x : Bool} (h : eqv2 (dr st d) (dr st e) = some x) : Ok (eqM d e st) QD ↔ QD (.bl x) st := by
  unfold eqM; rw [h]; exact ok_some
theorem ok_eq_int : Ok (eqM (.int i) (.int j) st) QD ↔ QD (.bl (decide (i = j))) st := ok_some
theorem ok_ne_int : Ok (neM (.int i) (.int j) st) QD ↔ QD (.bl (!decide (i = j))) st := ok_some
theorem ok_eq_str {x y : Str} : Ok (eqM (.str x) (.str y) st) QD ↔ QD (.bl (decide (x = y))) st := ok_some
theorem ok_ne_str {x y : Str} : Ok (neM (.str x) (.str y) st) QD ↔ QD (.bl (!decide (x = y))) st := ok_some
theorem ok_eq_bl {x y : Bool} : Ok (eqM (.bl x) (.bl y) st) QD ↔ QD (.bl (decide (x = y))) st := ok_some
theorem ok_ne_bl {x y : Bool} : Ok (neM (.bl x) (.bl y) st) QD ↔ QD (.bl (!decide (x = y))) st := ok_some
theorem ok_ord {p : Int → Int → Bool} {q : List Nat → List Nat → Bool} : Ok (ordM p q (.int i) (.int j) st) QD ↔ QD (.bl (p i j)) st := ok_some
theorem ok_is : Ok (isM d .non st) QD ↔ QD (.bl (isNon d)) st := ok_some
theorem ok_isNot : Ok (isNotM d .non st) QD ↔ QD (.bl (!isNon d)) st := ok_some
def atK (o : Option D) (Q : D → Prop) : Prop := ∃ x, o = some x ∧ Q x
theorem atK_some {x : D} {Q : D → Prop} : atK (some x) Q ↔ Q x := ⟨fun ⟨_, h, q⟩ => (by cases h; exact q), fun q => ⟨x, rfl, q⟩⟩
theorem ok_ix_tup {l : List D} : Ok (ixM (.tup l) (.int i) st) QD ↔ atK (atI l i) fun x => QD x st := by
  unfold ixM; dsimp only [dr]; rw [ok_map]; exact Iff.rfl
theorem ok_ix_lst {l : List D} : Ok (ixM (.lst l) (.int i) st) QD ↔ atK (atI l i) fun x => QD x st := by
  unfold ixM; dsimp only [dr]; rw [ok_map]; exact Iff.rfl
theorem ok_ix_ref0 {l : List D} {r : Sto} : Ok (ixM (.ref 0) (.int i) (.lst l :: r)) QD ↔ atK (atI l i) fun x => QD x (.lst l :: r) := ok_map
theorem ok_ix_ref1 {l : List D} {o : Ob} {r : Sto} : Ok (ixM (.ref 1) (.int i) (o :: .lst l :: r)) QD ↔ atK (atI l i) fun x => QD x (o :: .lst l :: r) := ok_map
theorem ok_ix_str {z : Str} : Ok (ixM (.str z) (.int i) st) QD ↔ z.length ≤ sizeLine ∧ ∃ c, atI z.cps.toList i = some c ∧ QD (.str ⟨#[c]⟩) st := by
  unfold ixM; dsimp only [dr]; rw [ok_ite, ok_map]
theorem ok_len_tup {l : List D} : Ok (fn1 lenM [.tup l] st) QD ↔ QD (.int l.length) st := ok_some
theorem ok_len_lst {l : List D} : Ok (fn1 lenM [.lst l] st) QD ↔ QD (.int l.length) st := ok_some
theorem ok_len_scr {l : List D} : Ok (fn1 lenM [.scr l] st) QD ↔ QD (.int l.length) st := ok_some
theorem ok_len_str {z : Str} : Ok (fn1 lenM [.str z] st) QD ↔ z.length ≤ sizeLine ∧ QD (.int z.length) st := by
  unfold fn1 lenM; dsimp only [seqD, dr]; rw [ok_ite, ok_some]
theorem ok_list_tup {l : List D} : Ok (fn1 listM [.tup l] st) QD ↔ QD (.lst l) st := ok_some
theorem ok_list_lst {l : List D} : Ok (fn1 listM [.lst l] st) QD ↔ QD (.lst l) st := ok_some
theorem ok_tuple_lst {l : List D} : Ok (fn1 tupM [.lst l] st) QD ↔ QD (.tup l) st := ok_some
theorem ok_tuple_tup {l : List D} : Ok (fn1 tupM [.tup l] st) QD ↔ QD (.tup l) st := ok_some
theorem ok_int_int : Ok (fn1 intM [.int i] st) QD ↔ QD (.int i) st := ok_some
theorem ok_int_bl {x : Bool} : Ok (fn1 intM [.bl x] st) QD ↔ QD (.int (if x then 1 else 0)) st := ok_some
theorem ok_min2 : Ok (fn2 min2M [.int i, .int j] st) QD ↔ QD (.int (if j < i then j else i)) st := ok_some
theorem ok_max2 : Ok (fn2 max2M [.int i, .int j] st) QD ↔ QD (.int (if j > i then j else i)) st := ok_some
theorem ok_isa {T : String} : Ok (eIsa T a ρ st) QD ↔ Ok (a ρ st) fun x s => ∃ t, tyD s x = some t ∧ QD (.bl (isaB t T)) s := by
  unfold eIsa; rw [ok_bind]; simp only [ok_map]
/-! statements -/
variable {s r : SM}
def seqK (b : SM) (Q : Fl → Sto → Prop) : Fl → Sto → Prop
  | .nx ρ, s => Ok (b ρ s) Q
  | f, s => Q f s
theorem seqK_nx : seqK r QF (.nx ρ) st ↔ Ok (r ρ st) QF := Iff.rfl
theorem seqK_rt : seqK r QF (.rt d) st ↔ QF (.rt d) st := Iff.rfl
theorem seqK_bk : seqK r QF (.bk ρ) st ↔ QF (.bk ρ) st := Iff.rfl
theorem seqK_ct : seqK r QF (.ct ρ) st ↔ QF (.ct ρ) st := Iff.rfl
theorem ok_sSq : Ok (sSq s r ρ st) QF ↔ Ok (s ρ st) (seqK r QF) := by
  unfold sSq
  rw [ok_bind]
  constructor
  · rintro ⟨f, s1, h, q⟩
    refine ⟨f, s1, h, ?_⟩
    cases f with
    | nx ρ' => exact q
    | rt d => exact (ok_some (Q := QF)).mp q
    | bk d => exact (ok_some (Q := QF)).mp q
    | ct d => exact (ok_some (Q := QF)).mp q
  · rintro ⟨f, s1, h, q⟩
    refine ⟨f, s1, h, ?_⟩
    cases f with
    | nx ρ' => exact q
    | rt d => exact ok_some.mpr q
    | bk d => exact ok_some.mpr q
    | ct d => exact ok_some.mpr q
theorem ok_sNx : Ok (sNx ρ st) QF ↔ QF (.nx ρ) st := ok_some
theorem ok_sBk : Ok (sBk ρ st) QF ↔ QF (.bk ρ) st := ok_some
theorem ok_sCt : Ok (sCt ρ st) QF ↔ QF (.ct ρ) st := ok_some
theorem ok_sRt : Ok (sRt a ρ st) QF ↔ Ok (a ρ st) fun x s => QF (.rt x) s := by unfold sRt; rw [ok_bind]; simp only [ok_some]
theorem ok_sRtN : Ok (sRtN ρ st) QF ↔ QF (.rt .non) st := ok_some
theorem ok_sEx : Ok (sEx a ρ st) QF ↔ Ok (a ρ st) fun _ s => QF (.nx ρ) s := by unfold sEx; rw [ok_bind]; simp only [ok_some]
theorem ok_sIf : Ok (sIf t s r ρ st) QF ↔ Ok (t ρ st) fun c s1 => if c = true then Ok (s ρ s1) QF else Ok (r ρ s1) QF := by
  unfold sIf
  rw [ok_bind]
  constructor
  · rintro ⟨c, s, h, q⟩
    refine ⟨c, s, h, ?_⟩
    cases c <;> exact q
  · rintro ⟨c, s, h, q⟩
    refine ⟨c, s, h, ?_⟩
    cases c <;> exact q
theorem ok_sAs {g : BM} : Ok (sAs a g ρ st) QF ↔ Ok (a ρ st) fun x s => Ok (g x ρ s) fun ρ' s' => QF (.nx ρ') s' := by
  unfold sAs; rw [ok_bind]; simp only [ok_bind, ok_some]
theorem ok_sPar {k n : Nat} : Ok (sPar k n m ρ st) QF ↔ Ok (m ρ st) fun l s => ∃ x y, l = [x, y] ∧ QF (.nx ((ρ.set k (some x)).set n (some y))) s := by
  unfold sPar
  rw [ok_bind]
  constructor
  · rintro ⟨l, s, h, y, s2, h2, q⟩
    refine ⟨l, s, h, ?_⟩
    dsimp only at h2
    split at h2
    · cases h2; exact ⟨_, _, rfl, q⟩
    · cases h2
  · rintro ⟨l, s, h, x, y, rfl, q⟩
    exact ⟨_, s, h, ok_some.mpr q⟩
theorem ok_bNm {n : Nat} : Ok (bNm n d ρ st) QE ↔ QE (ρ.set n (some d)) st := ok_some
theorem ok_bNil : Ok (bNil [] ρ st) QE ↔ QE ρ st := ok_some
theorem ok_bCons {g : BM} {h : List D → En → M En} {l : List D} : Ok (bCons g h (d :: l) ρ st) QE ↔ Ok (g d ρ st) fun ρ' s => Ok (h l ρ' s) QE := ok_bind
theorem ok_bSeq_tup {n : Nat} {h : List D → En → M En} {l : List D} : Ok (bSeq n h (.tup l) ρ st) QE ↔ l.length = n ∧ Ok (h l ρ st) QE := by
  unfold bSeq; dsimp only [dr]; rw [ok_ite]
theorem ok_bSeq_ref1 {n : Nat} {h : List D → En → M En} {l : List D} {x : Ob} {r : Sto} : Ok (bSeq n h (.ref 1) ρ (x :: .lst l :: r)) QE ↔ l.length = n ∧ Ok (h l ρ (x :: .lst l :: r)) QE := by
  show Ok (if l.length = n then h l ρ (x :: .lst l :: r) else none) QE ↔ _
  rw [ok_ite]
def subK (d : D) (ρ : En) (Q : En → Sto → Prop) (o k : D) (s' : Sto) : Prop := ∃ n z l w, o = .ref n ∧ k = .int z ∧ s'[n]? = some (.lst l) ∧ ixN l.length z = some w ∧ Q ρ (s'.set n (.lst (l.set w d)))
theorem subK_ref0 {l : List D} {r : Sto} : subK d ρ QE (.ref 0) (.int i) (.lst l :: r) ↔ ∃ w, ixN l.length i = some w ∧ QE ρ (.lst (l.set w d) :: r) := by
  constructor
  · rintro ⟨n, z, l', w, h1, h2, h3, h4, q⟩
    cases h1; cases h2; cases h3
    exact ⟨w, h4, q⟩
  · rintro ⟨w, h4, q⟩
    exact ⟨0, i, l, w, rfl, rfl, rfl, h4, q⟩
theorem subK_ref1 {l : List D} {r : Sto} {o : Ob} : subK d ρ QE (.ref 1) (.int i) (o :: .lst l :: r) ↔ ∃ w, ixN l.length i = some w ∧ QE ρ (o :: .lst (l.set w d) :: r) := by
  constructor
  · rintro ⟨n, z, l', w, h1, h2, h3, h4, q⟩
    cases h1; cases h2; cases h3
    exact ⟨w, h4, q⟩
  · rintro ⟨w, h4, q⟩
    exact ⟨1, i, l, w, rfl, rfl, rfl, h4, q⟩
theorem ok_bSub {x y : EM D} : Ok (bSub x y d ρ st) QE ↔ Ok (x ρ st) fun o s => Ok (y ρ s) fun k s' => subK d ρ QE o k s' := by
  unfold bSub subK
  rw [ok_bind]
  simp only [ok_bind]
  constructor
  · rintro ⟨o, s, h, k, s', h', q⟩
    refine ⟨o, s, h, k, s', h', ?_⟩
    obtain ⟨ρ', s2, e, q⟩ := q
    split at e
    · split at e
      · rename_i n z _ l hl
        obtain ⟨w, hw, e⟩ := Option.bind_eq_some_iff.mp e
        cases e
        exact ⟨n, z, l, w, rfl, rfl, hl, hw, q⟩
      · cases e
    · cases e
  · rintro ⟨o, s, h, k, s', h', n, z, l, w, rfl, rfl, hl, hw, q⟩
    refine ⟨_, s, h, _, s', h', ρ, _, ?_, q⟩
    show (match s'[n]? with | some (.lst l) => (ixN l.length z).bind fun j => some (ρ, s'.set n (.lst (l.set j d))) | none => none) = _
    rw [hl]
    show (ixN l.length z).bind _ = _
    rw [hw]
    rfl
def fnK (Q : D → Sto → Prop) : Fl → Sto → Prop
  | .rt d, s => Q d s
  | .nx _, s => Q .non s
  | _, _ => False
theorem fnK_rt : fnK QD (.rt d) st ↔ QD d st := Iff.rfl
theorem fnK_nx : fnK QD (.nx ρ) st ↔ QD .non st := Iff.rfl
theorem ok_fnM {n N : Nat} {l : List D} : Ok (fnM n N s l st) QD ↔ l.length = n ∧ Ok (s (l.map some ++ List.replicate (N - l.length) none) st) (fnK QD) := by
  unfold fnM
  rw [ok_ite, ok_bind]
  refine and_congr_right fun _ => ?_
  constructor
  · rintro ⟨f, s1, h, q⟩
    refine ⟨f, s1, h, ?_⟩
    cases f with
    | nx ρ' => exact (ok_some (Q := QD)).mp q
    | rt d => exact (ok_some (Q := QD)).mp q
    | bk d => exact ((ok_none (Q := QD)).mp q).elim
    | ct d => exact ((ok_none (Q := QD)).mp q).elim
  · rintro ⟨f, s1, h, q⟩
    refine ⟨f, s1, h, ?_⟩
    cases f with
    | nx ρ' => exact ok_some.mpr q
    | rt d => exact ok_some.mpr q
    | bk d => exact q.elim
    | ct d => exact q.elim
theorem set0 {α : Type} {x y : α} {l : List α} : (x :: l).set 0 y = y :: l := rfl
theorem setS {α : Type} {x y : α} {l : List α} {n : Nat} : (x :: l).set (n + 1) y = x :: l.set n y := rfl
theorem atI0 {α : Type} {x : α} {l : List α} : atI (x :: l) 0 = some x := by
  have := atI_nat (xs := x :: l) (j := 0) (v := x) rfl
  simpa using this
theorem atI_of {α : Type} {l : List α} {n : Nat} {v : α} {i : Int} (h : l[n]? = some v) (e : i = (n : Int)) : atI l i = some v := by rw [e]; exact atI_nat h
theorem atI1 {α : Type} {x y : α} {l : List α} : atI (x :: y :: l) 1 = some y := atI_of (n := 1) rfl rfl
theorem atI2 {α : Type} {x y z : α} {l : List α} : atI (x :: y :: z :: l) 2 = some z := atI_of (n := 2) rfl rfl
theorem atI3 {α : Type} {x y z w : α} {l : List α} : atI (x :: y :: z :: w :: l) 3 = some w := atI_of (n := 3) rfl rfl
theorem atI4 {α : Type} {x y z w v : α} {l : List α} : atI (x :: y :: z :: w :: v :: l) 4 = some v := atI_of (n := 4) rfl rfl
theorem atI_in {α : Type} {l : List α} {i : Int} (h0 : 0 ≤ i) (h1 : i < l.length) : ∃ x, atI l i = some x ∧ x ∈ l := by
  have hn : i.toNat < l.length := by omega
  exact ⟨l[i.toNat], atI_of (n := i.toNat) (List.getElem?_eq_getElem hn) (by omega), List.getElem_mem hn⟩
theorem atI_map {α β : Type} {l : List α} {f : α → β} {i : Int} : atI (l.map f) i = (atI l i).map f := by
  unfold atI
  rw [List.length_map]
  cases ixN l.length i with
  | none => rfl
  | some j => simp
theorem ixN_in {n : Nat} {i : Int} (h0 : 0 ≤ i) (h1 : i < n) : ixN n i = some i.toNat := by
  unfold ixN
  rw [if_pos h0, if_pos h1]
theorem atK_map {α : Type} {o : Option α} {f : α → D} {Q : D → Prop} : atK (o.map f) Q ↔ ∃ x, o = some x ∧ Q (f x) := by
  unfold atK
  constructor
  · rintro ⟨y, h, q⟩
    obtain ⟨x, h1, rfl⟩ := Option.map_eq_some_iff.mp h
    exact ⟨x, h1, q⟩
  · rintro ⟨x, h, q⟩
    exact ⟨f x, by rw [h]; rfl, q⟩
theorem small_of (h : -(2 ^ 64) < i ∧ i < 2 ^ 64) : small i = true := decide_eq_true h
theorem mulOk_l (h : -(2 ^ 64) < i ∧ i < 2 ^ 64) : mulOk i j = true := by unfold mulOk; rw [small_of h]; rfl
theorem mulOk_r (h : -(2 ^ 64) < j ∧ j < 2 ^ 64) : mulOk i j = true := by unfold mulOk; rw [small_of h, Bool.or_true]; rfl
/-! comprehensions and loops -/
theorem ok_cLc {it : EM (Src × List D)} {vs : List Nat} {g : BM} {el : EM D} : Ok (cLc it vs g t el ρ st) QL ↔ Ok (it ρ st) fun r s => r.2.length ≤ sizeLine ∧ Ok (lcL r.1 g t el (wipeD ρ vs) r.2 s) QL := by
  unfold cLc; rw [ok_bind]; simp only [ok_ite]
theorem ok_sFor {it : EM (Src × List D)} {g : BM} : Ok (sFor it g s ρ st) QF ↔ Ok (it ρ st) fun r s1 => Ok (forL r.1 g s r.2 ρ s1) QF := by
  unfold sFor; rw [ok_bind]
variable {QS : Src × List D → Sto → Prop}
theorem ok_iSeq_tup {l : List D} (h : Ok (a ρ st) fun x s => x = .tup l ∧ QS ([], l) s) : Ok (iSeq a ρ st) QS := by
  obtain ⟨x, s, e, rfl, q⟩ := h
  refine ⟨_, s, ?_, q⟩
  unfold iSeq; rw [e]; rfl
theorem ok_iSeq : Ok (iSeq a ρ st) QS ↔ Ok (a ρ st) fun x s => (∃ z, x = .str z ∧ QS ([], signs z) s) ∨ ((∀ z, x ≠ .str z) ∧ ∃ r, srcD s x = some r ∧ QS r s) := by
  unfold iSeq
  rw [ok_bind]
  constructor
  · rintro ⟨x, s, h, y, s2, e, q⟩
    refine ⟨x, s, h, ?_⟩
    dsimp only at e
    split at e
    · cases e; exact .inl ⟨_, rfl, q⟩
    · rename_i hx
      obtain ⟨r, h1, h2⟩ := Option.map_eq_some_iff.mp e
      cases h2
      exact .inr ⟨fun z hz => hx z hz, y, h1, q⟩
  · rintro ⟨x, s, h, ⟨z, rfl, q⟩ | ⟨hx, r, h1, q⟩⟩
    · exact ⟨_, s, h, ok_some.mpr q⟩
    · refine ⟨x, s, h, r, s, ?_, q⟩
      dsimp only
      split
      · rename_i z; exact absurd rfl (hx z)
      · rw [h1]; rfl
theorem iSeqK_tup {l : List D} : ((∃ z, D.tup l = .str z ∧ QS ([], signs z) st) ∨ ((∀ z, D.tup l ≠ .str z) ∧ ∃ r, srcD st (.tup l) = some r ∧ QS r st)) ↔ QS ([], l) st :=
  ⟨fun h => by
    rcases h with ⟨z, e, _⟩ | ⟨_, r, e, q⟩
    · cases e
    · cases e; exact q, fun q => .inr ⟨fun z e => (by cases e), _, rfl, q⟩⟩
theorem iSeqK_lst {l : List D} : ((∃ z, D.lst l = .str z ∧ QS ([], signs z) st) ∨ ((∀ z, D.lst l ≠ .str z) ∧ ∃ r, srcD st (.lst l) = some r ∧ QS r st)) ↔ QS ([], l) st :=
  ⟨fun h => by
    rcases h with ⟨z, e, _⟩ | ⟨_, r, e, q⟩
    · cases e
    · cases e; exact q, fun q => .inr ⟨fun z e => (by cases e), _, rfl, q⟩⟩
theorem ok_iRg1 : Ok (iRg1 m ρ st) QS ↔ Ok (m ρ st) fun l s => ∃ k, l = [.int k] ∧ (-(2 ^ 62) ≤ k ∧ k < 2 ^ 62) ∧ QS ([], rngL 0 k.toNat) s := by
  unfold iRg1
  rw [ok_bind]
  constructor
  · rintro ⟨x, s, h, y, s2, e, q⟩
    refine ⟨x, s, h, ?_⟩
    dsimp only at e
    split at e
    · split at e
      · rename_i c; cases e; exact ⟨_, rfl, c, q⟩
      · cases e
    · cases e
  · rintro ⟨x, s, h, k, rfl, c, q⟩
    exact ⟨_, s, h, (ok_ite (p := -(2 ^ 62) ≤ k ∧ k < 2 ^ 62)).mpr ⟨c, ok_some.mpr q⟩⟩
theorem ok_iRg2 : Ok (iRg2 m ρ st) QS ↔ Ok (m ρ st) fun l s => ∃ k n, l = [.int k, .int n] ∧ (-(2 ^ 62) ≤ k ∧ k < 2 ^ 62 ∧ -(2 ^ 62) ≤ n ∧ n < 2 ^ 62) ∧ QS ([], rngL k (n - k).toNat) s := by
  unfold iRg2
  rw [ok_bind]
  constructor
  · rintro ⟨x, s, h, y, s2, e, q⟩
    refine ⟨x, s, h, ?_⟩
    dsimp only at e
    split at e
    · split at e
      · rename_i c; cases e; exact ⟨_, _, rfl, c, q⟩
      · cases e
    · cases e
  · rintro ⟨x, s, h, k, n, rfl, c, q⟩
    exact ⟨_, s, h, (ok_ite (p := -(2 ^ 62) ≤ k ∧ k < 2 ^ 62 ∧ -(2 ^ 62) ≤ n ∧ n < 2 ^ 62)).mpr ⟨c, ok_some.mpr q⟩⟩
/-- a comprehension that keeps all: J by the turn; each item as R says -/
theorem ok_lc_all {g : BM} {el : EM D} {ds : List D} (J : Nat → Sto → Prop) (R : Nat → D → Prop)
    (turn : ∀ (k : Nat) (d : D) (s : Sto), ds[k]? = some d → J k s → Ok (g d ρ s) fun ρ' s1 => Ok (t ρ' s1) fun c s2 => c = true ∧ Ok (el ρ' s2) fun x s3 => R k x ∧ J (k + 1) s3)
    (h0 : J 0 st) (hq : ∀ l s, J ds.length s → l.length = ds.length → (∀ k x, l[k]? = some x → R k x) → QL l s) : Ok (lcL [] g t el ρ ds st) QL := by
  have key : ∀ (es : List D) (n : Nat) (s : Sto), ds.drop n = es → n ≤ ds.length → J n s → Ok (lcL [] g t el ρ es s) fun l s' => J ds.length s' ∧ l.length + n = ds.length ∧ ∀ k x, l[k]? = some x → R (n + k) x := by
    intro es
    induction es with
    | nil =>
      intro n s he hl hj
      have hn : ds.length ≤ n := List.drop_eq_nil_iff.mp he
      have e : n = ds.length := by omega
      subst e
      exact ⟨[], s, rfl, hj, by simp, fun k x h => by simp at h⟩
    | cons e es ih =>
      intro n s he hl hj
      have hn : n < ds.length := by
        have := congrArg List.length he
        rw [List.length_drop, List.length_cons] at this
        omega
      have hd : ds[n]? = some e := by
        have h1 := List.getElem?_drop (xs := ds) (i := n) (j := 0)
        rw [he] at h1
        simpa using h1.symm
      have he2 : ds.drop (n + 1) = es := by
        have h1 := List.drop_eq_getElem_cons hn
        rw [he] at h1
        exact (List.cons.inj h1).2.symm
      unfold lcL
      rw [ok_bind]
      refine (turn n e s hd hj).mono fun ρ' s1 h1 => ?_
      rw [ok_bind]
      refine h1.mono fun c s2 ⟨hc, h2⟩ => ?_
      subst hc
      show Ok ((el ρ' s2).bind _) _
      rw [ok_bind]
      refine h2.mono fun x s3 ⟨hx, h3⟩ => ?_
      dsimp only
      rw [chkB_nil, if_pos rfl, ok_bind]
      refine (ih (n + 1) s3 he2 hn h3).mono fun l s4 ⟨j4, l4, r4⟩ => ?_
      refine ok_some.mpr ⟨j4, by show l.length + 1 + n = ds.length; omega, fun k y hk => ?_⟩
      cases k with
      | zero => simp at hk; subst hk; exact hx
      | succ k =>
        have := r4 k y (by simpa using hk)
        rw [show n + (k + 1) = n + 1 + k by omega]
        exact this
  refine (key ds 0 st rfl (Nat.zero_le _) h0).mono fun l s ⟨a1, a2, a3⟩ => hq l s a1 (by omega) fun k x hk => ?_
  have := a3 k x hk
  rwa [Nat.zero_add] at this
/-- a loop that goes through to its end: J by the turn -/
theorem ok_for_all {g : BM} {ds : List D} (J : Nat → En → Sto → Prop)
    (turn : ∀ (k : Nat) (d : D) (ρ : En) (s1 : Sto), ds[k]? = some d → J k ρ s1 → Ok (g d ρ s1) fun ρ' s2 => Ok (s ρ' s2) fun f s3 => (∃ ρ3, f = .nx ρ3 ∧ J (k + 1) ρ3 s3) ∨ (∃ ρ3, f = .ct ρ3 ∧ J (k + 1) ρ3 s3))
    (h0 : J 0 ρ st) (hq : ∀ ρ' s', J ds.length ρ' s' → QF (.nx ρ') s') : Ok (forL [] g s ds ρ st) QF := by
  have key : ∀ (es : List D) (n : Nat) (ρ : En) (s1 : Sto), ds.drop n = es → n ≤ ds.length → J n ρ s1 → Ok (forL [] g s es ρ s1) QF := by
    intro es
    induction es with
    | nil =>
      intro n ρ s1 he hl hj
      have hn : ds.length ≤ n := List.drop_eq_nil_iff.mp he
      have e : n = ds.length := by omega
      subst e
      exact ⟨_, s1, rfl, hq ρ s1 hj⟩
    | cons e es ih =>
      intro n ρ s1 he hl hj
      have hn : n < ds.length := by
        have := congrArg List.length he
        rw [List.length_drop, List.length_cons] at this
        omega
      have hd : ds[n]? = some e := by
        have h1 := List.getElem?_drop (xs := ds) (i := n) (j := 0)
        rw [he] at h1
        simpa using h1.symm
      have he2 : ds.drop (n + 1) = es := by
        have h1 := List.drop_eq_getElem_cons hn
        rw [he] at h1
        exact (List.cons.inj h1).2.symm
      unfold forL
      rw [ok_bind]
      refine (turn n e ρ s1 hd hj).mono fun ρ' s2 h1 => ?_
      rw [ok_bind]
      refine h1.mono fun f s3 h2 => ?_
      rcases h2 with ⟨ρ3, rfl, h3⟩ | ⟨ρ3, rfl, h3⟩
      all_goals
        dsimp only
        rw [chkB_nil, if_pos rfl]
        exact ih (n + 1) ρ3 s3 he2 hn h3
  exact key ds 0 ρ st rfl (Nat.zero_le _) h0
end
end DL


set_option Elab.async false
set_option linter.all false
set_option maxRecDepth 100000
set_option maxHeartbeats 4000000
/-! more ends of mirrors -/
namespace DL
open PySem PySem.Spec L2
open PySem.W (AllAlike Sortable dataLe)
section
variable {α β : Type} {Q : α → Sto → Prop} {QD : D → Sto → Prop} {QL : List D → Sto → Prop} {QS : Src × List D → Sto → Prop} {d e : D} {ρ : En} {st : Sto} {a b c : EM D} {i j : Int} {m : EM (List D)}
/-- length of a text -/
theorem ok_add_str {x y : Str} : Ok (addM (.str x) (.str y) st) QD ↔ x.length + y.length ≤ sizeLine ∧ QD (.str (x ++ y)) st := by
  unfold addM; dsimp only [dr]; rw [ok_ite, ok_some]
theorem ok_add_lst {x y : List D} : Ok (addM (.lst x) (.lst y) st) QD ↔ x.length + y.length ≤ sizeLine ∧ QD (.lst (x ++ y)) st := by
  unfold addM; dsimp only [dr]; rw [ok_ite, ok_some]
theorem ok_add_tup {x y : List D} : Ok (addM (.tup x) (.tup y) st) QD ↔ x.length + y.length ≤ sizeLine ∧ QD (.tup (x ++ y)) st := by
  unfold addM; dsimp only [dr]; rw [ok_ite, ok_some]
theorem ok_mul_lst {x : List D} : Ok (mulM (.lst x) (.int j) st) QD ↔ (-(2 ^ 63) ≤ j ∧ j < 2 ^ 63 ∧ x.length * j.toNat ≤ sizeLine) ∧ QD (.lst (List.replicate j.toNat x).flatten) st := by
  unfold mulM; dsimp only; rw [ok_ite, ok_some]
theorem len_rep (n : Nat) (x a : Array Nat) : ((List.replicate n x).foldl (· ++ ·) a).size = a.size + n * x.size := by
  induction n generalizing a with
  | zero => simp
  | succ n ih => rw [List.replicate_succ, List.foldl_cons, ih, Array.size_append, Nat.succ_mul]; omega
theorem ok_mul_str {x : Str} (h : 0 ≤ j ∧ j ≤ 1000 ∧ x.length ≤ 1000) (q : ∀ z : Str, z.length = j.toNat * x.length → QD (.str z) st) : Ok (mulM (.str x) (.int j) st) QD := by
  unfold mulM; dsimp only
  rw [if_pos h]
  refine ok_some.mpr (q _ ?_)
  show ((List.replicate j.toNat x.cps).foldl (· ++ ·) #[]).size = _
  rw [len_rep]
  simp [Str.length]
theorem len_app (x y : Str) : (x ++ y).length = x.length + y.length := by
  show (x.cps ++ y.cps).size = _
  rw [Array.size_append]; rfl
theorem ok_sl_lst {l : List D} {lo hi : Option Int} : Ok (slM (.lst l) lo hi st) QD ↔ QD (.lst (cutL l lo hi)) st := ok_some
theorem ok_sl_tup {l : List D} {lo hi : Option Int} : Ok (slM (.tup l) lo hi st) QD ↔ QD (.tup (cutL l lo hi)) st := ok_some
theorem ok_sl_scr {l : List D} {lo hi : Option Int} : Ok (slM (.scr l) lo hi st) QD ↔ QD (.lst (cutL l lo hi)) st := ok_some
theorem ok_sl_str {z : Str} {lo hi : Option Int} : Ok (slM (.str z) lo hi st) QD ↔ z.length ≤ sizeLine ∧ QD (.str (cutS z lo hi)) st := by
  unfold slM; dsimp only [dr]; rw [ok_ite, ok_some]
theorem ok_in_tup {l : List D} {neg : Bool} (h : flatD d = true ∧ l.all flatD = true) : Ok (inM neg d (.tup l) st) QD ↔ QD (.bl (neg ^^ l.any fun y => eqF y d)) st := by
  unfold inM; dsimp only [dr]; rw [if_pos h, ok_some]
theorem ok_chain {g g' : D → D → M D} : Ok (eChain g g' a b c ρ st) QD ↔ Ok (a ρ st) fun x s => Ok (b ρ s) fun y s1 => Ok (g x y s1) (boolK fun t s2 => if t = true then Ok (c ρ s2) fun z s3 => Ok (g' y z s3) QD else QD (.bl false) s2) := by
  unfold eChain
  rw [ok_bind]
  simp only [ok_bind]
  constructor
  · rintro ⟨x, s, h, y, s1, h1, z, s2, h2, w, s3, h3, q⟩
    refine ⟨x, s, h, y, s1, h1, z, s2, h2, ?_⟩
    split at h3
    · exact ⟨true, rfl, ok_bind.mp ⟨w, s3, h3, q⟩⟩
    · cases h3; exact ⟨false, rfl, q⟩
    · cases h3
  · rintro ⟨x, s, h, y, s1, h1, z, s2, h2, t, rfl, q⟩
    refine ⟨x, s, h, y, s1, h1, _, s2, h2, ?_⟩
    cases t with
    | true => exact ok_bind.mpr q
    | false => exact ok_some.mpr q
theorem ok_cLrg : Ok (cLrg a ρ st) QL ↔ Ok (a ρ st) (intK fun n s => (0 ≤ n ∧ n ≤ 16777216) ∧ QL (rngL 0 n.toNat) s) := by
  unfold cLrg
  rw [ok_bind]
  constructor
  · rintro ⟨x, s, h, y, s2, e, q⟩
    refine ⟨x, s, h, ?_⟩
    dsimp only at e
    split at e
    · split at e
      · rename_i cc; cases e; exact ⟨_, rfl, cc, q⟩
      · cases e
    · cases e
  · rintro ⟨x, s, h, k, rfl, cc, q⟩
    exact ⟨_, s, h, ok_ite.mpr ⟨cc, ok_some.mpr q⟩⟩
theorem ok_join {z : Str} {m' : EM D} : Ok (eJoin (eC (.str z)) m' ρ st) QD ↔ Ok (m' ρ st) fun x s => ∃ l ys, seqD s x = some l ∧ strsD l = some ys ∧ (ys.map (·.length)).sum + ys.length * z.length ≤ 16777216 ∧ QD (.str (Txt.join z ys)) s := by
  unfold eJoin
  rw [ok_bind, ok_eC, ok_bind]
  constructor
  · rintro ⟨x, s, h, y, s2, e, q⟩
    refine ⟨x, s, h, ?_⟩
    dsimp only at e
    obtain ⟨ys, e1, e2⟩ := Option.bind_eq_some_iff.mp e
    obtain ⟨l, e3, e4⟩ := Option.bind_eq_some_iff.mp e1
    split at e2
    · rename_i hc; cases e2; exact ⟨l, ys, e3, e4, hc, q⟩
    · cases e2
  · rintro ⟨x, s, h, l, ys, e3, e4, hc, q⟩
    refine ⟨x, s, h, .str (Txt.join z ys), s, ?_, q⟩
    dsimp only
    rw [e3]
    show ((strsD l).bind _) = _
    rw [e4]
    show (if _ then _ else _) = _
    rw [if_pos hc]
theorem ok_iZp_tup {x y : List D} (h : Ok (m ρ st) fun l s => l = [.tup x, .tup y] ∧ QS ([], pairsL x y) s) : Ok (iZp m ρ st) QS := by
  obtain ⟨l, s, e, rfl, q⟩ := h
  refine ⟨_, s, ?_, q⟩
  unfold iZp
  rw [e]
  rfl
theorem ok_all_lst {l : List D} {bs : List Bool} (h : blsD l = some bs) : Ok (fn1 allM [.lst l] st) QD ↔ QD (.bl (bs.all id)) st := by
  unfold fn1 allM lstD
  dsimp only [dr, Option.bind]
  rw [h]
  exact ok_some
theorem ok_min_tup {l : List Int} {x : Int} (h : leastI l = some x) : Ok (fn1 minM [.tup (l.map .int)] st) QD ↔ QD (.int x) st := by
  have e : fn1 minM [.tup (l.map .int)] st = some (.int x, st) := by
    unfold fn1 minM seqD
    dsimp only [dr, Option.bind]
    rw [intsD_map]
    dsimp only
    rw [h]
    rfl
  rw [e, ok_some]
theorem ok_max_tup {l : List Int} {x : Int} (h : greatestI l = some x) : Ok (fn1 maxM [.tup (l.map .int)] st) QD ↔ QD (.int x) st := by
  have e : fn1 maxM [.tup (l.map .int)] st = some (.int x, st) := by
    unfold fn1 maxM seqD
    dsimp only [dr, Option.bind]
    rw [intsD_map]
    dsimp only
    rw [h]
    rfl
  rw [e, ok_some]
theorem plain_flat : ∀ {l : List D}, l.all flatD = true → plainDs l = true
  | [], _ => rfl
  | d :: l, h => by
    rw [List.all_cons, Bool.and_eq_true] at h
    show (plainD d && plainDs l) = true
    rw [plain_flat h.2, Bool.and_true]
    cases d <;> first | rfl | cases h.1
theorem sort_ints (l : List Int) (h : l.length ≤ sizeLine) : SortOk (l.map D.int) := by
  refine ⟨plain_flat (by simp [flatD]), ?_, .inr ?_, ?_, by simpa using h⟩
  · intro d hd d' hd'
    simp only [List.map_map, List.mem_map, Function.comp] at hd hd'
    obtain ⟨x, _, rfl⟩ := hd
    obtain ⟨y, _, rfl⟩ := hd'
    unfold toP
    rfl
  · intro d hd
    simp only [List.map_map, List.mem_map, Function.comp] at hd
    obtain ⟨x, _, rfl⟩ := hd
    unfold toP
    exact ⟨by simp, by simp⟩
  · intro d hd
    obtain ⟨x, _, rfl⟩ := List.mem_map.mp hd
    unfold toP
    simp [PyData.depth]
theorem sort_strs (l : List Str) (h : l.length ≤ sizeLine) : SortOk (l.map D.str) := by
  refine ⟨plain_flat (by simp [flatD]), ?_, .inr ?_, ?_, by simpa using h⟩
  · intro d hd d' hd'
    simp only [List.map_map, List.mem_map, Function.comp] at hd hd'
    obtain ⟨x, _, rfl⟩ := hd
    obtain ⟨y, _, rfl⟩ := hd'
    unfold toP
    rfl
  · intro d hd
    simp only [List.map_map, List.mem_map, Function.comp] at hd
    obtain ⟨x, _, rfl⟩ := hd
    unfold toP
    exact ⟨by simp, by simp⟩
  · intro d hd
    obtain ⟨x, _, rfl⟩ := List.mem_map.mp hd
    unfold toP
    simp [PyData.depth]
theorem ok_sorted {x : D} {l : List D} (h : seqD st x = some l) (s : SortOk l) : Ok (fn1 sortedM [x] st) QD ↔ QD (.lst (l.mergeSort (dataLe false toP))) st := by
  unfold fn1 sortedM
  dsimp only
  rw [h]
  dsimp only [Option.bind]
  rw [if_pos s, ok_some]
theorem map_mergeSort' {f : Int → D} {le : D → D → Bool} (l : List Int) : (l.map f).mergeSort le = (l.mergeSort fun a b => le (f a) (f b)).map f := by
  exact (List.map_mergeSort (f := f) (fun a _ b _ => rfl)).symm
/-- the whole numbers of l, upwards -/
def upI (l : List Int) : List Int := l.mergeSort fun a b => decide (a ≤ b)
theorem ok_sorted_ints {l : List Int} (h : l.length ≤ sizeLine) : Ok (fn1 sortedM [.tup (l.map .int)] st) QD ↔ QD (.lst ((upI l).map .int)) st := by
  rw [ok_sorted rfl (sort_ints l h), map_mergeSort']
  have e : (fun a b => dataLe false toP (D.int a) (D.int b)) = fun a b => decide (a ≤ b) := by
    have := PySem.W.dataLe_int (fun i : Int => i)
    funext a b
    have h2 := congrFun (congrFun this a) b
    rw [← h2]
    rfl
  rw [e]
  rfl
theorem foldl_min (l : List Int) (n : Int) : (l.foldl min n ≤ n ∧ ∀ x ∈ l, l.foldl min n ≤ x) ∧ (l.foldl min n = n ∨ l.foldl min n ∈ l) := by
  induction l generalizing n with
  | nil => simp
  | cons y l ih =>
    rw [List.foldl_cons]
    obtain ⟨⟨h1, h2⟩, h3⟩ := ih (min n y)
    refine ⟨⟨by omega, ?_⟩, ?_⟩
    · intro x hx
      rcases List.mem_cons.mp hx with rfl | hx
      · omega
      · exact h2 x hx
    · rcases h3 with h3 | h3
      · rw [h3]
        rcases Int.le_total n y with h | h
        · left; omega
        · right; rw [Int.min_eq_right h]; exact List.mem_cons_self ..
      · exact .inr (List.mem_cons_of_mem _ h3)
theorem foldl_max (l : List Int) (n : Int) : (n ≤ l.foldl max n ∧ ∀ x ∈ l, x ≤ l.foldl max n) ∧ (l.foldl max n = n ∨ l.foldl max n ∈ l) := by
  induction l generalizing n with
  | nil => simp
  | cons y l ih =>
    rw [List.foldl_cons]
    obtain ⟨⟨h1, h2⟩, h3⟩ := ih (max n y)
    refine ⟨⟨by omega, ?_⟩, ?_⟩
    · intro x hx
      rcases List.mem_cons.mp hx with rfl | hx
      · omega
      · exact h2 x hx
    · rcases h3 with h3 | h3
      · rw [h3]
        rcases Int.le_total n y with h | h
        · right; rw [Int.max_eq_right h]; exact List.mem_cons_self ..
        · left; omega
      · exact .inr (List.mem_cons_of_mem _ h3)
theorem up_perm (l : List Int) : (upI l).Perm l := List.mergeSort_perm _ _
theorem up_sorted (l : List Int) : (upI l).Pairwise (fun a b => a ≤ b) := by
  have h : (upI l).Pairwise (fun a b => decide (a ≤ b) = true) := List.pairwise_mergeSort (le := fun a b : Int => decide (a ≤ b)) (fun a b c h1 h2 => by simp at *; omega) (fun a b => by simp; omega) l
  exact h.imp fun h => by simpa using h
theorem up_len (l : List Int) : (upI l).length = l.length := (up_perm l).length_eq
/-- the first of the sorted is the least -/
theorem up_first {l : List Int} (h : l ≠ []) : ∃ x, leastI l = some x ∧ atI (upI l) 0 = some x := by
  cases l with
  | nil => exact absurd rfl h
  | cons n l =>
    refine ⟨_, rfl, ?_⟩
    obtain ⟨⟨h1, h2⟩, h3⟩ := foldl_min l n
    have hp := up_perm (n :: l)
    have hs := up_sorted (n :: l)
    cases e : upI (n :: l) with
    | nil => rw [e] at hp; exact absurd hp.symm.eq_nil (by simp)
    | cons y r =>
      rw [atI0]
      rw [e] at hp hs
      have hy : y ∈ n :: l := hp.mem_iff.mp (List.mem_cons_self ..)
      have hm : l.foldl min n ∈ y :: r := hp.mem_iff.mpr (by rcases h3 with h3 | h3; rw [h3]; exact List.mem_cons_self ..; exact List.mem_cons_of_mem _ h3)
      have l1 : l.foldl min n ≤ y := by rcases List.mem_cons.mp hy with rfl | hy; exact h1; exact h2 y hy
      have l2 : y ≤ l.foldl min n := by
        rcases List.mem_cons.mp hm with hm | hm
        · omega
        · exact (List.pairwise_cons.mp hs).1 _ hm
      rw [show y = l.foldl min n by omega]
theorem atI_last {α : Type} {l : List α} {v : α} (h : l.getLast? = some v) : atI l (-1) = some v := by
  have hne : l ≠ [] := by rintro rfl; cases h
  have hl : 0 < l.length := List.length_pos_iff.mpr hne
  unfold atI ixN
  rw [if_neg (by decide), if_pos (by omega)]
  show l[_]? = _
  rw [← h, List.getLast?_eq_getElem?]
  congr 1
  omega
theorem up_last {l : List Int} (h : l ≠ []) : ∃ x, greatestI l = some x ∧ atI (upI l) (-1) = some x := by
  cases l with
  | nil => exact absurd rfl h
  | cons n l =>
    refine ⟨_, rfl, ?_⟩
    obtain ⟨⟨h1, h2⟩, h3⟩ := foldl_max l n
    have hp := up_perm (n :: l)
    have hs := up_sorted (n :: l)
    have hne : upI (n :: l) ≠ [] := fun e => by rw [e] at hp; exact absurd hp.symm.eq_nil (by simp)
    refine atI_last ?_
    rw [List.getLast?_eq_some_getLast hne]
    have hy : (upI (n :: l)).getLast hne ∈ n :: l := hp.mem_iff.mp (List.getLast_mem hne)
    have hm : l.foldl max n ∈ upI (n :: l) := hp.mem_iff.mpr (by rcases h3 with h3 | h3; rw [h3]; exact List.mem_cons_self ..; exact List.mem_cons_of_mem _ h3)
    have l1 : (upI (n :: l)).getLast hne ≤ l.foldl max n := by rcases List.mem_cons.mp hy with hy | hy; rw [hy]; exact h1; exact h2 _ hy
    have l2 : l.foldl max n ≤ (upI (n :: l)).getLast hne := by
      have := List.dropLast_concat_getLast hne
      rw [← this] at hm hs
      rcases List.mem_append.mp hm with hm | hm
      · exact (List.pairwise_append.mp hs).2.2 _ hm _ (List.mem_singleton.mpr rfl)
      · have := List.mem_singleton.mp hm; omega
    rw [show (upI (n :: l)).getLast hne = l.foldl max n by omega]
/-- a comprehension with a test: J by the turn; each kept item as R says -/
theorem ok_lc_any {t : EM Bool} {g : BM} {el : EM D} {ds : List D} (J : Nat → Sto → Prop) (R : D → Prop)
    (turn : ∀ (k : Nat) (d : D) (s : Sto), ds[k]? = some d → J k s → Ok (g d ρ s) fun ρ' s1 => Ok (t ρ' s1) fun c s2 => if c = true then Ok (el ρ' s2) (fun x s3 => R x ∧ J (k + 1) s3) else J (k + 1) s2)
    (h0 : J 0 st) (hq : ∀ l s, J ds.length s → l.length ≤ ds.length → (∀ x ∈ l, R x) → QL l s) : Ok (lcL [] g t el ρ ds st) QL := by
  have key : ∀ (es : List D) (n : Nat) (s : Sto), ds.drop n = es → n ≤ ds.length → J n s → Ok (lcL [] g t el ρ es s) fun l s' => J ds.length s' ∧ l.length + n ≤ ds.length ∧ ∀ x ∈ l, R x := by
    intro es
    induction es with
    | nil =>
      intro n s he hl hj
      have hn : ds.length ≤ n := List.drop_eq_nil_iff.mp he
      have e : n = ds.length := by omega
      subst e
      exact ⟨[], s, rfl, hj, by simp, fun x h => by simp at h⟩
    | cons e es ih =>
      intro n s he hl hj
      have hn : n < ds.length := by
        have := congrArg List.length he
        rw [List.length_drop, List.length_cons] at this
        omega
      have hd : ds[n]? = some e := by
        have h1 := List.getElem?_drop (xs := ds) (i := n) (j := 0)
        rw [he] at h1
        simpa using h1.symm
      have he2 : ds.drop (n + 1) = es := by
        have h1 := List.drop_eq_getElem_cons hn
        rw [he] at h1
        exact (List.cons.inj h1).2.symm
      unfold lcL
      rw [ok_bind]
      refine (turn n e s hd hj).mono fun ρ' s1 h1 => ?_
      rw [ok_bind]
      refine h1.mono fun c s2 h2 => ?_
      cases c with
      | true =>
        show Ok ((el ρ' s2).bind _) _
        rw [ok_bind]
        refine Ok.mono h2 fun x s3 ⟨hx, h3⟩ => ?_
        dsimp only
        rw [chkB_nil, if_pos rfl, ok_bind]
        refine (ih (n + 1) s3 he2 hn h3).mono fun l s4 ⟨j4, l4, r4⟩ => ?_
        refine ok_some.mpr ⟨j4, by show l.length + 1 + n ≤ ds.length; omega, fun y hy => ?_⟩
        rcases List.mem_cons.mp hy with rfl | hy
        · exact hx
        · exact r4 y hy
      | false =>
        have h3 : J (n + 1) s2 := h2
        show Ok (if chkB [] s2 = true then lcL [] g t el ρ es s2 else none) _
        rw [chkB_nil, if_pos rfl]
        refine (ih (n + 1) s2 he2 hn h3).mono fun l s4 ⟨j4, l4, r4⟩ => ⟨j4, by omega, r4⟩
  refine (key ds 0 st rfl (Nat.zero_le _) h0).mono fun l s ⟨a1, a2, a3⟩ => hq l s a1 (by omega) a3
theorem ints_of {P : Int → Prop} : ∀ {l : List D}, (∀ x ∈ l, ∃ r, x = .int r ∧ P r) → ∃ rs : List Int, l = rs.map .int ∧ ∀ r ∈ rs, P r
  | [], _ => ⟨[], rfl, fun _ h => by cases h⟩
  | d :: l, h => by
    obtain ⟨r, rfl, hr⟩ := h _ (List.mem_cons_self ..)
    obtain ⟨rs, rfl, hs⟩ := ints_of fun x hx => h x (List.mem_cons_of_mem _ hx)
    exact ⟨r :: rs, rfl, fun x hx => by rcases List.mem_cons.mp hx with rfl | hx; exact hr; exact hs x hx⟩
theorem strs_of {P : Str → Prop} : ∀ {l : List D}, (∀ x ∈ l, ∃ r, x = .str r ∧ P r) → ∃ rs : List Str, l = rs.map .str ∧ ∀ r ∈ rs, P r
  | [], _ => ⟨[], rfl, fun _ h => by cases h⟩
  | d :: l, h => by
    obtain ⟨r, rfl, hr⟩ := h _ (List.mem_cons_self ..)
    obtain ⟨rs, rfl, hs⟩ := strs_of fun x hx => h x (List.mem_cons_of_mem _ hx)
    exact ⟨r :: rs, rfl, fun x hx => by rcases List.mem_cons.mp hx with rfl | hx; exact hr; exact hs x hx⟩
def srcK (QS : Src × List D → Sto → Prop) (x : D) (s : Sto) : Prop := (∃ z, x = .str z ∧ QS ([], signs z) s) ∨ ((∀ z, x ≠ .str z) ∧ ∃ r, srcD s x = some r ∧ QS r s)
theorem ok_iSq : Ok (iSeq a ρ st) QS ↔ Ok (a ρ st) (srcK QS) := ok_iSeq
theorem srcK_tup {l : List D} : srcK QS (.tup l) st ↔ QS ([], l) st := iSeqK_tup
theorem srcK_lst {l : List D} : srcK QS (.lst l) st ↔ QS ([], l) st := iSeqK_lst
theorem ok_bTrue {QB : Bool → Sto → Prop} : Ok (bTrue ρ st) QB ↔ QB true st := ok_some
/-- what holds place by place holds of all -/
theorem all_of_get {R : D → Prop} {l : List D} (h : ∀ (k : Nat) (x : D), l[k]? = some x → R x) : ∀ x ∈ l, R x := fun x hx => by
  obtain ⟨k, hk⟩ := List.getElem?_of_mem hx
  exact h k x hk
theorem cutL_all {l : List D} {n : Int} (h : l.length ≤ n) : cutL l none (some n) = l := by
  unfold cutL HT.sIx
  have h1 : ¬ n < 0 := by omega
  simp only [h1, if_false]
  have h2 : min n.toNat l.length = l.length := by omega
  rw [h2]
  simp
theorem lc_rg_all {n : Nat} {lo : Int} {t : EM Bool} {g : BM} {el : EM D} (J : Nat → Sto → Prop) (R : D → Prop)
    (turn : ∀ (k : Nat) (s : Sto), k < n → J k s → Ok (g (.int (lo + (k : Nat))) ρ s) fun ρ' s1 => Ok (t ρ' s1) fun c s2 => c = true ∧ Ok (el ρ' s2) fun x s3 => R x ∧ J (k + 1) s3)
    (h0 : J 0 st) (hq : ∀ l s, J n s → l.length = n → (∀ x ∈ l, R x) → QL l s) : Ok (lcL [] g t el ρ (rngL lo n) st) QL := by
  refine ok_lc_all J (fun _ x => R x) (fun k d s hd hj => ?_) h0 (fun l s hj hl hr => ?_)
  · obtain ⟨hk, rfl⟩ := rngL_get hd
    exact turn k s hk hj
  · rw [rngL_len] at hj hl
    exact hq l s hj hl (all_of_get hr)
theorem lc_rg_any {n : Nat} {lo : Int} {t : EM Bool} {g : BM} {el : EM D} (J : Nat → Sto → Prop) (R : D → Prop)
    (turn : ∀ (k : Nat) (s : Sto), k < n → J k s → Ok (g (.int (lo + (k : Nat))) ρ s) fun ρ' s1 => Ok (t ρ' s1) fun c s2 => if c = true then Ok (el ρ' s2) (fun x s3 => R x ∧ J (k + 1) s3) else J (k + 1) s2)
    (h0 : J 0 st) (hq : ∀ l s, J n s → l.length ≤ n → (∀ x ∈ l, R x) → QL l s) : Ok (lcL [] g t el ρ (rngL lo n) st) QL := by
  refine ok_lc_any J R (fun k d s hd hj => ?_) h0 (fun l s hj hl hr => ?_)
  · obtain ⟨hk, rfl⟩ := rngL_get hd
    exact turn k s hk hj
  · rw [rngL_len] at hj hl
    exact hq l s hj hl hr
end
end DL


set_option Elab.async false
set_option linter.all false
set_option maxRecDepth 100000
set_option maxHeartbeats 4000000
/-! more ends of mirrors: filters, turned tuples, counting -/
namespace DL
open PySem PySem.Spec L2
section
variable {α β : Type} {Q : α → Sto → Prop} {QD : D → Sto → Prop} {QL : List D → Sto → Prop} {d e : D} {ρ : En} {st : Sto} {a b c : EM D} {i j : Int} {m : EM (List D)}
theorem ok_rev {l : List D} : Ok (revM (.tup l) (.int (-1)) st) QD ↔ QD (.tup l.reverse) st := ok_some
/-- a comprehension that keeps the items themselves, where its test says so -/
theorem lc_sub {t : EM Bool} {g : BM} {el : EM D} {ds : List D} (J : Nat → Sto → Prop)
    (turn : ∀ (k : Nat) (d : D) (s : Sto), ds[k]? = some d → J k s → Ok (g d ρ s) fun ρ' s1 => Ok (t ρ' s1) fun c s2 => if c = true then Ok (el ρ' s2) (fun x s3 => x = d ∧ J (k + 1) s3) else J (k + 1) s2)
    (h0 : J 0 st) (hq : ∀ l s, J ds.length s → l.Sublist ds → QL l s) : Ok (lcL [] g t el ρ ds st) QL := by
  have key : ∀ (es : List D) (n : Nat) (s : Sto), ds.drop n = es → n ≤ ds.length → J n s → Ok (lcL [] g t el ρ es s) fun l s' => J ds.length s' ∧ l.Sublist es := by
    intro es
    induction es with
    | nil =>
      intro n s he hl hj
      have hn : ds.length ≤ n := List.drop_eq_nil_iff.mp he
      have e : n = ds.length := by omega
      subst e
      exact ⟨[], s, rfl, hj, List.Sublist.refl _⟩
    | cons e es ih =>
      intro n s he hl hj
      have hn : n < ds.length := by
        have := congrArg List.length he
        rw [List.length_drop, List.length_cons] at this
        omega
      have hd : ds[n]? = some e := by
        have h1 := List.getElem?_drop (xs := ds) (i := n) (j := 0)
        rw [he] at h1
        simpa using h1.symm
      have he2 : ds.drop (n + 1) = es := by
        have h1 := List.drop_eq_getElem_cons hn
        rw [he] at h1
        exact (List.cons.inj h1).2.symm
      unfold lcL
      rw [ok_bind]
      refine (turn n e s hd hj).mono fun ρ' s1 h1 => ?_
      rw [ok_bind]
      refine h1.mono fun c s2 h2 => ?_
      cases c with
      | true =>
        show Ok ((el ρ' s2).bind _) _
        rw [ok_bind]
        refine Ok.mono h2 fun x s3 ⟨hx, h3⟩ => ?_
        subst hx
        dsimp only
        rw [chkB_nil, if_pos rfl, ok_bind]
        refine (ih (n + 1) s3 he2 hn h3).mono fun l s4 ⟨j4, r4⟩ => ?_
        exact ok_some.mpr ⟨j4, r4.cons_cons _⟩
      | false =>
        have h3 : J (n + 1) s2 := h2
        show Ok (if chkB [] s2 = true then lcL [] g t el ρ es s2 else none) _
        rw [chkB_nil, if_pos rfl]
        exact (ih (n + 1) s2 he2 hn h3).mono fun l s4 ⟨j4, r4⟩ => ⟨j4, r4.cons _⟩
  exact (key ds 0 st rfl (Nat.zero_le _) h0).mono fun l s ⟨a1, a2⟩ => hq l s a1 a2
theorem lc_rg_sub {n : Nat} {lo : Int} {t : EM Bool} {g : BM} {el : EM D} (J : Nat → Sto → Prop)
    (turn : ∀ (k : Nat) (s : Sto), k < n → J k s → Ok (g (.int (lo + (k : Nat))) ρ s) fun ρ' s1 => Ok (t ρ' s1) fun c s2 => if c = true then Ok (el ρ' s2) (fun x s3 => x = .int (lo + (k : Nat)) ∧ J (k + 1) s3) else J (k + 1) s2)
    (h0 : J 0 st) (hq : ∀ l s, J n s → l.Sublist (rngL lo n) → QL l s) : Ok (lcL [] g t el ρ (rngL lo n) st) QL := by
  refine lc_sub J (fun k d s hd hj => ?_) h0 (fun l s hj hl => ?_)
  · obtain ⟨hk, rfl⟩ := rngL_get hd
    exact turn k s hk hj
  · rw [rngL_len] at hj
    exact hq l s hj hl
theorem sub_rng {n : Nat} {l : List D} (h : l.Sublist (rngL 0 n)) : ∃ hs : List Int, l = hs.map .int ∧ hs.Nodup ∧ ∀ x ∈ hs, 0 ≤ x ∧ x < (n : Int) := by
  unfold rngL at h
  obtain ⟨l', h1, rfl⟩ := List.sublist_map_iff.mp h
  refine ⟨l'.map fun i => (0 : Int) + (i : Nat), by rw [List.map_map]; rfl, ?_, fun x hx => ?_⟩
  · have nd : l'.Nodup := List.nodup_range.sublist h1
    show List.Pairwise _ _
    rw [List.pairwise_map]
    exact nd.imp fun {a b} hab => by omega
  · obtain ⟨i, hi, rfl⟩ := List.mem_map.mp hx
    have := List.mem_range.mp (h1.mem hi)
    omega
/-- a comprehension that changes nothing: the items that its test keeps -/
theorem lc_filter {t : EM Bool} {g : BM} {el : EM D} (p : D → Bool) {ds : List D}
    (h : ∀ d ∈ ds, Ok (g d ρ st) fun ρ' s1 => s1 = st ∧ Ok (t ρ' st) fun c s2 => c = p d ∧ s2 = st ∧ Ok (el ρ' st) fun x s3 => x = d ∧ s3 = st) :
    lcL [] g t el ρ ds st = some (ds.filter p, st) := by
  induction ds with
  | nil => rfl
  | cons d ds ih =>
    have ih := ih fun x hx => h x (List.mem_cons_of_mem _ hx)
    obtain ⟨ρ', s1, e1, q1, c, s2, e2, q2, q3, x, s3, e3, q4, q5⟩ := h d (List.mem_cons_self ..)
    rw [q1] at e1
    rw [q2, q3] at e2
    rw [q4, q5] at e3
    unfold lcL
    rw [e1]
    show ((t ρ' _).bind _) = _
    rw [e2]
    cases hp : p d with
    | true =>
      show ((el ρ' _).bind _) = _
      rw [e3]
      show (if chkB [] _ = true then _ else none) = _
      rw [chkB_nil, if_pos rfl, ih, List.filter_cons_of_pos hp]
      rfl
    | false =>
      show (if chkB [] _ = true then _ else none) = _
      rw [chkB_nil, if_pos rfl, ih, List.filter_cons_of_neg (by rw [hp]; exact Bool.false_ne_true)]
theorem lc_rg_filter {n : Nat} {lo : Int} {t : EM Bool} {g : BM} {el : EM D} (p : Nat → Bool)
    (turn : ∀ k : Nat, k < n → Ok (g (.int (lo + (k : Nat))) ρ st) fun ρ' s1 => s1 = st ∧ Ok (t ρ' st) fun c s2 => c = p k ∧ s2 = st ∧ Ok (el ρ' st) fun x s3 => x = .int (lo + (k : Nat)) ∧ s3 = st)
    (hq : QL (((List.range n).filter p).map fun i => .int (lo + (i : Nat))) st) : Ok (lcL [] g t el ρ (rngL lo n) st) QL := by
  refine ⟨_, st, lc_filter (fun d => match d with | .int i => p (i - lo).toNat | _ => false) fun d hd => ?_, ?_⟩
  · unfold rngL at hd
    obtain ⟨k, hk, rfl⟩ := List.mem_map.mp hd
    have := turn k (List.mem_range.mp hk)
    dsimp only
    rw [show (lo + (k : Int) - lo).toNat = k by omega]
    exact this
  · unfold rngL
    rw [List.filter_map]
    have e : ((fun d : D => match d with | .int i => p (i - lo).toNat | _ => false) ∘ fun i : Nat => D.int (lo + (i : Int))) = p := by
      funext k
      show p (lo + (k : Int) - lo).toNat = p k
      rw [show (lo + (k : Int) - lo).toNat = k by omega]
    rw [e]
    exact hq
theorem least_iff {l : List Int} {x : Int} : leastI l = some x ↔ x ∈ l ∧ ∀ y ∈ l, x ≤ y := by
  cases l with
  | nil => simp [leastI]
  | cons n l =>
    obtain ⟨⟨h1, h2⟩, h3⟩ := foldl_min l n
    have hm : l.foldl min n ∈ n :: l := by rcases h3 with h3 | h3; rw [h3]; exact List.mem_cons_self ..; exact List.mem_cons_of_mem _ h3
    have hle : ∀ y ∈ n :: l, l.foldl min n ≤ y := fun y hy => by rcases List.mem_cons.mp hy with rfl | hy; exact h1; exact h2 y hy
    constructor
    · intro h
      have e : l.foldl min n = x := Option.some.inj h
      rw [← e]; exact ⟨hm, hle⟩
    · rintro ⟨a, b⟩
      show some (l.foldl min n) = some x
      have := b _ hm
      have := hle x a
      congr 1
      omega
theorem greatest_iff {l : List Int} {x : Int} : greatestI l = some x ↔ x ∈ l ∧ ∀ y ∈ l, y ≤ x := by
  cases l with
  | nil => simp [greatestI]
  | cons n l =>
    obtain ⟨⟨h1, h2⟩, h3⟩ := foldl_max l n
    have hm : l.foldl max n ∈ n :: l := by rcases h3 with h3 | h3; rw [h3]; exact List.mem_cons_self ..; exact List.mem_cons_of_mem _ h3
    have hle : ∀ y ∈ n :: l, y ≤ l.foldl max n := fun y hy => by rcases List.mem_cons.mp hy with rfl | hy; exact h1; exact h2 y hy
    constructor
    · intro h
      have e : l.foldl max n = x := Option.some.inj h
      rw [← e]; exact ⟨hm, hle⟩
    · rintro ⟨a, b⟩
      show some (l.foldl max n) = some x
      have := b _ hm
      have := hle x a
      congr 1
      omega
theorem six_of {n : Int} (h0 : 0 < n) (h1 : n ≤ 6) : n = 1 ∨ n = 2 ∨ n = 3 ∨ n = 4 ∨ n = 5 ∨ n = 6 := by omega
/-- of a round of moments, as many are at the hours as there are hours -/
theorem round_count {size : Int} (h0 : 0 < size) (h1 : size ≤ 6) (m : Int) {hours : List Int} (nd : hours.Nodup) (hb : ∀ h ∈ hours, 0 ≤ h ∧ h < size) :
    ((List.range size.toNat).filter fun j => decide ((m + (j : Nat)) % size ∈ hours)).length = hours.length := by
  have p : (((List.range size.toNat).filter fun j => decide ((m + (j : Nat)) % size ∈ hours)).map fun j : Nat => (m + (j : Int)) % size).Perm hours := by
    refine (List.perm_ext_iff_of_nodup ?_ nd).mpr fun h => ?_
    · show List.Pairwise _ _
      rw [List.pairwise_map]
      have n2 : ((List.range size.toNat).filter fun j => decide ((m + (j : Nat)) % size ∈ hours)).Nodup := List.nodup_range.sublist List.filter_sublist
      refine List.Pairwise.imp_of_mem (fun {a b} ha hb' hab => ?_) n2
      have ha := List.mem_range.mp (List.mem_filter.mp ha).1
      have hb' := List.mem_range.mp (List.mem_filter.mp hb').1
      rcases six_of h0 h1 with rfl | rfl | rfl | rfl | rfl | rfl <;> omega
    · rw [List.mem_map]
      constructor
      · rintro ⟨j, hj, rfl⟩
        exact of_decide_eq_true (List.mem_filter.mp hj).2
      · intro hh
        have b := hb h hh
        have e : (m + ((((h - m) % size).toNat : Nat) : Int)) % size = h := by
          rcases six_of h0 h1 with rfl | rfl | rfl | rfl | rfl | rfl <;> omega
        refine ⟨((h - m) % size).toNat, List.mem_filter.mpr ⟨List.mem_range.mpr ?_, ?_⟩, e⟩
        · rcases six_of h0 h1 with rfl | rfl | rfl | rfl | rfl | rfl <;> omega
        · rw [e]; exact decide_eq_true hh
  have := p.length_eq
  rwa [List.length_map] at this
theorem any_int {l : List Int} {x : Int} : ((l.map D.int).any fun y => eqF y (.int x)) = decide (x ∈ l) := by
  induction l with
  | nil => rfl
  | cons n l ih =>
    rw [List.map_cons, List.any_cons, ih]
    show (decide (n = x) || decide (x ∈ l)) = decide (x ∈ n :: l)
    by_cases h : n = x
    · subst h; simp
    · have h' : ¬ x = n := fun e => h e.symm
      simp [h, h']
/-- a comprehension that changes nothing and keeps all -/
theorem lc_map {t : EM Bool} {g : BM} {el : EM D} (f : D → D) {ds : List D}
    (h : ∀ d ∈ ds, Ok (g d ρ st) fun ρ' s1 => s1 = st ∧ Ok (t ρ' st) fun c s2 => c = true ∧ s2 = st ∧ Ok (el ρ' st) fun x s3 => x = f d ∧ s3 = st) :
    lcL [] g t el ρ ds st = some (ds.map f, st) := by
  induction ds with
  | nil => rfl
  | cons d ds ih =>
    have ih := ih fun x hx => h x (List.mem_cons_of_mem _ hx)
    obtain ⟨ρ', s1, e1, q1, c, s2, e2, q2, q3, x, s3, e3, q4, q5⟩ := h d (List.mem_cons_self ..)
    rw [q1] at e1
    rw [q2, q3] at e2
    rw [q4, q5] at e3
    unfold lcL
    rw [e1]
    show ((t ρ' _).bind _) = _
    rw [e2]
    show ((el ρ' _).bind _) = _
    rw [e3]
    show (if chkB [] _ = true then _ else none) = _
    rw [chkB_nil, if_pos rfl, ih]
    rfl
theorem lc_map_ints {t : EM Bool} {g : BM} {el : EM D} (f : Int → Int) {l : List Int}
    (h : ∀ i : Int, Ok (g (.int i) ρ st) fun ρ' s1 => s1 = st ∧ Ok (t ρ' st) fun c s2 => c = true ∧ s2 = st ∧ Ok (el ρ' st) fun x s3 => x = .int (f i) ∧ s3 = st)
    (hq : QL ((l.map f).map .int) st) : Ok (lcL [] g t el ρ (l.map .int) st) QL := by
  refine ⟨_, st, lc_map (fun d => match d with | .int i => .int (f i) | d => d) fun d hd => ?_, ?_⟩
  · obtain ⟨i, _, rfl⟩ := List.mem_map.mp hd
    exact h i
  · rw [List.map_map] at hq ⊢
    exact hq
end
end DL


set_option Elab.async false
set_option linter.all false
set_option maxRecDepth 100000
set_option maxHeartbeats 4000000
/-! what repr can show: data of bounded size -/
namespace DL
open PySem PySem.Spec L2
/-- d's items weigh n at most, lie k deep at most, and its leaves are short -/
structure Wt (B n k : Nat) (d : D) : Prop where
  plain : plainD d = true
  shows : (toP d).showable = true
  nodict : (toP d).hasDict = false
  deep : (toP d).depth ≤ k
  short : (toP d).leavesShort B = true
  wt : (toP d).weight ≤ n
  lay : (toP d).canLay0 = true
structure Wts (B n k : Nat) (l : List D) : Prop where
  plain : plainDs l = true
  shows : PyData.showableAll (toPs l) = true
  nodict : PyData.hasDictAll (toPs l) = false
  deep : PyData.depthAll (toPs l) ≤ k
  short : PyData.leavesShortAll B (toPs l) = true
  wt : PyData.weightAll (toPs l) ≤ n
  lay : PyData.canLayAll0 (toPs l) = true
section
variable {B n k m j : Nat} {d : D} {l : List D}
theorem Wt.mono (h : Wt B n k d) (a : n ≤ m) (b : k ≤ j) : Wt B m j d := ⟨h.plain, h.shows, h.nodict, Nat.le_trans h.deep b, h.short, Nat.le_trans h.wt a, h.lay⟩
theorem Wts.nil : Wts B 0 k [] := ⟨rfl, rfl, rfl, Nat.zero_le _, rfl, Nat.le_refl _, rfl⟩
theorem Wts.cons (h : Wt B n k d) (t : Wts B m k l) : Wts B (n + 1 + m) k (d :: l) := by
  refine ⟨?_, ?_, ?_, ?_, ?_, ?_, ?_⟩
  · show (plainD d && plainDs l) = true; rw [h.plain, t.plain]; rfl
  · show ((toP d).showable && PyData.showableAll (toPs l)) = true; rw [h.shows, t.shows]; rfl
  · show ((toP d).hasDict || PyData.hasDictAll (toPs l)) = false; rw [h.nodict, t.nodict]; rfl
  · show max (toP d).depth (PyData.depthAll (toPs l)) ≤ k; exact Nat.max_le.mpr ⟨h.deep, t.deep⟩
  · show ((toP d).leavesShort B && PyData.leavesShortAll B (toPs l)) = true; rw [h.short, t.short]; rfl
  · show (toP d).weight + 1 + PyData.weightAll (toPs l) ≤ _; have := h.wt; have := t.wt; omega
  · show ((toP d).canLay0 && PyData.canLayAll0 (toPs l)) = true; rw [h.lay, t.lay]; rfl
theorem Wts.of : ∀ {l : List D}, (∀ x ∈ l, Wt B n k x) → Wts B (l.length * (n + 1)) k l
  | [], _ => by simpa using Wts.nil
  | d :: l, h => by
    have t := Wts.cons (h d (List.mem_cons_self ..)) (Wts.of (l := l) fun x hx => h x (List.mem_cons_of_mem _ hx))
    rw [List.length_cons, Nat.succ_mul, Nat.add_comm (l.length * (n + 1))]
    exact t
theorem Wts.mono (h : Wts B n k l) (a : n ≤ m) (b : k ≤ j) : Wts B m j l := ⟨h.plain, h.shows, h.nodict, Nat.le_trans h.deep b, h.short, Nat.le_trans h.wt a, h.lay⟩
theorem Wts.tup (h : Wts B n k l) : Wt B n (k + 1) (.tup l) := ⟨h.plain, h.shows, h.nodict, Nat.succ_le_succ h.deep, h.short, h.wt, h.lay⟩
theorem Wts.lst (h : Wts B n k l) : Wt B n (k + 1) (.lst l) := ⟨h.plain, h.shows, h.nodict, Nat.succ_le_succ h.deep, h.short, h.wt, h.lay⟩
theorem Wt.int {i : Int} (h : i.natAbs < 10 ^ 16) : Wt 17 60 k (.int i) := by
  have hl : i.natAbs.log2 < 1920 := by
    rcases Nat.eq_zero_or_pos i.natAbs with h0 | h0
    · rw [h0]; decide
    · have := (Nat.log2_lt (by omega)).mpr (show i.natAbs < 2 ^ 60 by omega); omega
  refine ⟨rfl, ?_, rfl, Nat.zero_le _, ?_, ?_, ?_⟩
  · exact decide_eq_true hl
  · refine decide_eq_true ?_
    have e := int_text_length_le10 (k := 16) (by decide) h
    show (Str.ofString (toString i)).length ≤ 17
    rw [ofString_length]; exact e
  · show (if i == 0 then 0 else i.natAbs.log2 + 1) ≤ 60
    split
    · omega
    · rename_i h0
      have : i ≠ 0 := by simpa using h0
      have := (Nat.log2_lt (by omega)).mpr (show i.natAbs < 2 ^ 59 by omega)
      omega
  · first | rfl | simp [toP, PyData.canLay0]
theorem Wt.bl {b : Bool} : Wt 17 0 k (.bl b) := ⟨rfl, rfl, rfl, Nat.zero_le _, rfl, Nat.le_refl _, rfl⟩
theorem Wt.non : Wt 17 0 k .non := ⟨rfl, rfl, rfl, Nat.zero_le _, rfl, Nat.le_refl _, rfl⟩
def Plain (z : Str) : Prop := ∀ c ∈ z.cps.toList, c < 128
theorem Wt.str {z : Str} (h : Plain z) (hl : z.length ≤ n) : Wt 17 n k (.str z) := by
  refine ⟨rfl, rfl, rfl, Nat.zero_le _, ?_, hl, ?_⟩
  · show (z.cps.toList.all fun c => decide (c < 16 ^ 8)) = true
    rw [List.all_eq_true]
    intro c hc
    have := h c hc
    exact decide_eq_true (by omega)
  · show (z.cps.all fun c => decide (c < 0x110000)) = true
    rw [← Array.all_toList, List.all_eq_true]
    intro c hc
    have := h c hc
    exact decide_eq_true (by omega)
theorem Wt.repr (h : Wt 17 n k d) (hn : n ≤ 800000) (hk : k ≤ 32) : ReprOk d := by
  refine ⟨h.plain, h.shows, h.nodict, Nat.le_trans h.deep hk, ?_⟩
  have := PyData.shown_le 17 (by decide) (toP d) h.short
  have hw := h.wt
  have e : sizeLine = 16777216 := by decide
  rw [e]
  have h2 : (17 + 2) * (toP d).weight ≤ 19 * 800000 := Nat.mul_le_mul (by omega) (by omega)
  omega
variable {st : Sto} {QD : D → Sto → Prop}
theorem ok_repr_tup (h : ReprOk (.tup l)) : Ok (fn1 reprM [.tup l] st) QD ↔ QD (.str (toP (.tup l)).shown) st := by
  unfold fn1 reprM
  dsimp only [dr]
  rw [if_pos h, ok_some]
theorem ok_repr_lst (h : ReprOk (.lst l)) : Ok (fn1 reprM [.lst l] st) QD ↔ QD (.str (toP (.lst l)).shown) st := by
  unfold fn1 reprM
  dsimp only [dr]
  rw [if_pos h, ok_some]
end
end DL


set_option Elab.async false
set_option linter.all false
set_option maxRecDepth 100000
set_option maxHeartbeats 4000000
/-! more ends: pop, append, while, lists against none -/
namespace DL
open PySem PySem.Spec L2
section
variable {QD : D → Sto → Prop} {QF : Fl → Sto → Prop} {QL : List D → Sto → Prop} {d e : D} {ρ : En} {st : Sto} {a b c : EM D} {i j : Int}
theorem plain_ints (l : List Int) : plainDs (l.map D.int) = true := plain_flat (by simp [flatD])
theorem toPs_map {α : Type} (f : α → D) : ∀ l : List α, toPs (l.map f) = l.map fun x => toP (f x)
  | [] => rfl
  | x :: l => by show toP (f x) :: toPs (l.map f) = _; rw [toPs_map f l]; rfl
theorem lay_ints : ∀ l : List Int, PyData.canLayAll0 (toPs (l.map D.int)) = true
  | [] => rfl
  | x :: l => by show (true && PyData.canLayAll0 (toPs (l.map D.int))) = true; rw [lay_ints l]; rfl
theorem deep_ints : ∀ l : List Int, PyData.depthAll (toPs (l.map D.int)) = 0
  | [] => rfl
  | x :: l => by show max 0 (PyData.depthAll (toPs (l.map D.int))) = 0; rw [deep_ints l]; rfl
theorem eqv_ints_nil (l : List Int) : eqv2 (.lst (l.map D.int)) (.lst []) = some l.isEmpty := by
  show eqOf _ _ = _
  unfold eqOf
  have s1 : SeqAt.shaped (toP (.lst (l.map D.int))) = true := by
    show (PyData.canLayAll0 (toPs (l.map D.int)) && decide (PyData.depthAll (toPs (l.map D.int)) + 1 ≤ 64)) = true
    rw [lay_ints, deep_ints]; rfl
  rw [if_pos ⟨plain_ints l, rfl, s1, by decide +kernel⟩]
  cases l with
  | nil => decide +kernel
  | cons x l => rfl
theorem ok_ne_nil {l : List Int} {r : Sto} : Ok (neM (.ref 0) (.lst []) (.lst (l.map .int) :: r)) QD ↔ QD (.bl (!l.isEmpty)) (.lst (l.map .int) :: r) := by
  have e : neM (.ref 0) (.lst []) (.lst (l.map .int) :: r) = some (.bl (!l.isEmpty), .lst (l.map .int) :: r) := by
    show (eqv2 (.lst (l.map .int)) (.lst [])).map _ = _
    rw [eqv_ints_nil]
    rfl
  rw [e, ok_some]
theorem ok_ne_nil0 {r : Sto} : Ok (neM (.ref 0) (.lst []) (.lst [] :: r)) QD ↔ QD (.bl false) (.lst [] :: r) := ok_ne_nil (l := [])
theorem ok_ne_cons {x : Int} {l : List Int} {r : Sto} : Ok (neM (.ref 0) (.lst []) (.lst (.int x :: l.map .int) :: r)) QD ↔ QD (.bl true) (.lst (.int x :: l.map .int) :: r) := ok_ne_nil (l := x :: l)
theorem ok_pop0 {x : D} {l : List D} {r : Sto} : Ok (popM (.ref 0) (.int 0) (.lst (x :: l) :: r)) QD ↔ QD x (.lst l :: r) := ok_some
theorem ok_abs : Ok (fn1 absM [.int i] st) QD ↔ QD (.int (if i < 0 then -i else i)) st := ok_some
theorem ok_sWh {t : EM Bool} {s : SM} {n : Nat} (h : Ok (whL t s n ρ st) QF) : Ok (sWh t s ρ st) QF := by
  obtain ⟨f, s', e, q⟩ := h
  exact ⟨f, s', sWh_eq e, q⟩
theorem ok_whS {t : EM Bool} {s : SM} {n : Nat} : Ok (whL t s (n + 1) ρ st) QF ↔ Ok (t ρ st) fun c s1 => if c = true then Ok (s ρ s1) fun f s2 => match f with
    | .nx ρ' => Ok (whL t s n ρ' s2) QF
    | .ct ρ' => Ok (whL t s n ρ' s2) QF
    | .bk ρ' => QF (.nx ρ') s2
    | .rt v => QF (.rt v) s2
    else QF (.nx ρ) s1 := by
  show Ok ((t ρ st).bind _) QF ↔ _
  rw [ok_bind]
  have key : ∀ (c : Bool) (s1 : Sto), Ok (match c with
    | false => some (Fl.nx ρ, s1)
    | true => (s ρ s1).bind fun r => match r.1 with
      | .nx ρ' => whL t s n ρ' r.2
      | .ct ρ' => whL t s n ρ' r.2
      | .bk ρ' => some (.nx ρ', r.2)
      | .rt v => some (.rt v, r.2)) QF ↔ if c = true then Ok (s ρ s1) fun f s2 => match f with
    | .nx ρ' => Ok (whL t s n ρ' s2) QF
    | .ct ρ' => Ok (whL t s n ρ' s2) QF
    | .bk ρ' => QF (.nx ρ') s2
    | .rt v => QF (.rt v) s2
    else QF (.nx ρ) s1 := by
    intro c s1
    cases c with
    | false => exact ok_some
    | true =>
      show Ok ((s ρ s1).bind _) QF ↔ Ok (s ρ s1) _
      rw [ok_bind]
      constructor
      · rintro ⟨f, s2, h, q⟩
        refine ⟨f, s2, h, ?_⟩
        cases f with
        | nx ρ' => exact q
        | ct ρ' => exact q
        | bk ρ' => exact (ok_some (Q := QF)).mp q
        | rt ρ' => exact (ok_some (Q := QF)).mp q
      · rintro ⟨f, s2, h, q⟩
        refine ⟨f, s2, h, ?_⟩
        cases f with
        | nx ρ' => exact q
        | ct ρ' => exact q
        | bk ρ' => exact ok_some.mpr q
        | rt ρ' => exact ok_some.mpr q
  constructor
  · rintro ⟨c, s1, h, q⟩
    exact ⟨c, s1, h, (key c s1).mp q⟩
  · rintro ⟨c, s1, h, q⟩
    exact ⟨c, s1, h, (key c s1).mpr q⟩
/-- what a def hands back whose new numbers are given up -/
theorem ok_cutM {m : List D → M D} {l : List D} (h : Ok (m l st) fun d s => closedD st.length d = true ∧ (s.take st.length).all (closedO st.length) = true ∧ QD d (s.take st.length)) : Ok (cutM m l st) QD := by
  obtain ⟨d, s, e, h1, h2, q⟩ := h
  unfold cutM
  rw [e]
  show Ok (if (closedD st.length d && (s.take st.length).all (closedO st.length)) = true then _ else none) QD
  rw [h1, h2, Bool.and_self, if_pos rfl, ok_some]
  exact q
end
end DL


set_option Elab.async false
set_option linter.all false
set_option maxRecDepth 100000
set_option maxHeartbeats 4000000
namespace K36
open PySem PySem.Spec L2 DL
/-! the names, the mirrors -/
noncomputable def b_left_out : SM :=
    (sRt (eBin addM (eSl slM (eVar 0) oNone (oSome (eVar 1))) (eSl slM (eVar 0) (oSome (eBin addM (eVar 1) (eC (.int 1)))) oNone)))
noncomputable def m_left_out : List D → M D := (fnM 2 2 b_left_out)
noncomputable def b_without : SM :=
    (sSq (sAs (eVar 0) (bSeq 4 (bCons (bNm 3) (bCons (bNm 4) (bCons (bNm 5) (bCons (bNm 6) bNil))))))
    (sSq (sIf (eB (eBin eqM (eVar 1) (eC (.str "source")))) (sRt (eTup (aCons (eVar 3) (aCons (eVar 4) (aCons (eCall m_left_out (aCons (eVar 5) (aCons (eVar 2) aNil))) (aCons (eVar 6) aNil)))))) sNx)
    (sRt (eTup (aCons (eVar 3) (aCons (eVar 4) (aCons (eVar 5) (aCons (eCall m_left_out (aCons (eVar 6) (aCons (eVar 2) aNil))) aNil))))))))
noncomputable def m_without : List D → M D := (fnM 3 7 b_without)
noncomputable def b_widened : SM :=
    (sSq (sAs (eVar 0) (bSeq 4 (bCons (bNm 4) (bCons (bNm 5) (bCons (bNm 6) (bCons (bNm 7) bNil))))))
    (sSq (sAs (eBin ixM (eVar 7) (eVar 1)) (bSeq 5 (bCons (bNm 8) (bCons (bNm 9) (bCons (bNm 10) (bCons (bNm 11) (bCons (bNm 12) bNil)))))))
    (sSq (sAs (eBin ixM (eVar 9) (eVar 2)) (bSeq 3 (bCons (bNm 13) (bCons (bNm 14) (bCons (bNm 15) bNil)))))
    (sSq (sAs (eBin addM (eBin addM (eSl slM (eVar 9) oNone (oSome (eVar 2))) (eTup (aCons (eTup (aCons (eVar 13) (aCons (eVar 14) (aCons (eVar 3) aNil)))) aNil))) (eSl slM (eVar 9) (oSome (eBin addM (eVar 2) (eC (.int 1)))) oNone)) (bNm 9))
    (sRt (eTup (aCons (eVar 4) (aCons (eVar 5) (aCons (eVar 6) (aCons (eBin addM (eBin addM (eSl slM (eVar 7) oNone (oSome (eVar 1))) (eTup (aCons (eTup (aCons (eVar 8) (aCons (eVar 9) (aCons (eVar 10) (aCons (eVar 11) (aCons (eVar 12) aNil)))))) aNil))) (eSl slM (eVar 7) (oSome (eBin addM (eVar 1) (eC (.int 1)))) oNone)) aNil))))))))))
noncomputable def m_widened : List D → M D := (fnM 4 16 b_widened)
noncomputable def b__law_deck : SM :=
    (sSq (sAs (eFz (cLc (iSeq (eSl slM (eVar 0) oNone (oSome (eC (.int 63))))) [2] (bNm 2) bTrue (eCall (fn1 absM) (aCons (eVar 2) aNil)))) (bNm 1))
    (sRt (eNw (cLst (aCons (eNw (cLc (iSeq (eVar 1)) [2] (bNm 2) (eB (eBin geM (eVar 2) (eBin powM (eC (.int 10)) (eC (.int 18))))) (eVar 2))) (aCons (eFz (cLc (iSeq (eVar 1)) [2] (bNm 2) (eB (eBin ltM (eVar 2) (eBin powM (eC (.int 10)) (eC (.int 18))))) (eVar 2))) (aCons (eC (.int 0)) aNil)))))))
noncomputable def m__law_deck : List D → M D := (fnM 1 3 b__law_deck)
noncomputable def b__law_next : SM :=
    (sSq (sAs (eVar 0) (bSeq 3 (bCons (bNm 2) (bCons (bNm 3) (bCons (bNm 4) bNil)))))
    (sSq (sAs (eBin addM (eVar 4) (eC (.int 1))) (bSub (eVar 0) (eC (.int 2))))
    (sSq (sWh (bAnd (eB (eBin neM (eVar 2) (eFz (cLst aNil)))) (eB (eBin eqM (eBin ixM (eVar 2) (eC (.int 0))) (eC (.int 0))))) (sEx (eBin popM (eVar 2) (eC (.int 0)))))
    (sSq (sIf (eB (eBin neM (eVar 2) (eFz (cLst aNil)))) (sSq (sAs (eBin modM (eBin ixM (eVar 2) (eC (.int 0))) (eVar 1)) (bNm 5))
    (sSq (sAs (eBin divM (eBin ixM (eVar 2) (eC (.int 0))) (eVar 1)) (bSub (eVar 2) (eC (.int 0))))
    (sRt (eVar 5)))) sNx)
    (sSq (sAs (eBin ixM (eBin addM (eVar 3) (eFz (cLst (aCons (eC (.int 0)) aNil)))) (eBin modM (eVar 4) (eCall (fn2 max2M) (aCons (eC (.int 1)) (aCons (eCall (fn1 lenM) (aCons (eVar 3) aNil)) aNil))))) (bNm 6))
    (sSq (sAs (eBin modM (eBin powM (eBin addM (eBin addM (eBin modM (eVar 6) (eC (.int 2147483629))) (eBin mulM (eC (.int 48271)) (eVar 4))) (eC (.int 104729))) (eC (.int 3))) (eC (.int 2147483587))) (bNm 7))
    (sRt (eBin modM (eBin divM (eBin modM (eBin powM (eBin addM (eVar 7) (eBin mulM (eC (.int 7919)) (eVar 4))) (eC (.int 2))) (eC (.int 2147483477))) (eC (.int 8))) (eVar 1)))))))))
noncomputable def m__law_next : List D → M D := (fnM 2 8 b__law_next)
noncomputable def b__law_names : SM :=
    (sSq (sAs (eC (.str "abcdefghijklmnopqrstuvwxyz")) (bNm 2))
    (sSq (sAs (eJoin (eC (.str "")) (eFz (cLc (iRg1 (aCons (eCall m__law_next (aCons (eVar 0) (aCons (eC (.int 8)) aNil))) aNil)) [6] (bNm 6) bTrue (eBin ixM (eVar 2) (eCall m__law_next (aCons (eVar 0) (aCons (eC (.int 26)) aNil))))))) (bNm 3))
    (sSq (sAs (eTup (aCons (eCall m__law_next (aCons (eVar 0) (aCons (eBin addM (eCall (fn1 lenM) (aCons (eVar 3) aNil)) (eC (.int 1))) aNil))) (aCons (eCall m__law_next (aCons (eVar 0) (aCons (eC (.int 26)) aNil))) aNil))) (bSeq 2 (bCons (bNm 4) (bCons (bNm 5) bNil))))
    (sRt (eCall (fn1 tupM) (aCons (eCall (fn1 sortedM) (aCons (eFz (cLc (iRg1 (aCons (eVar 1) aNil)) [6] (bNm 6) bTrue (eBin addM (eBin addM (eSl slM (eVar 3) oNone (oSome (eVar 4))) (eBin ixM (eVar 2) (eBin modM (eBin addM (eVar 5) (eBin mulM (eC (.int 5)) (eVar 6))) (eC (.int 26))))) (eSl slM (eVar 3) (oSome (eVar 4)) oNone)))) aNil)) aNil))))))
noncomputable def m__law_names : List D → M D := (fnM 2 7 b__law_names)
noncomputable def b__law_source : SM :=
    (sSq (sAs (eBin ixM (eFz (cLst (aCons (eC (.int 0)) (aCons (eCall m__law_next (aCons (eVar 0) (aCons (eC (.int 6)) aNil))) (aCons (eCall m__law_next (aCons (eVar 0) (aCons (eC (.int 21)) aNil))) aNil))))) (eCall m__law_next (aCons (eVar 0) (aCons (eC (.int 3)) aNil)))) (bNm 4))
    (sSq (sAs (eBin ixM (eFz (cLst (aCons (eC (.int 0)) (aCons (eCall m__law_next (aCons (eVar 0) (aCons (eC (.int 7)) aNil))) (aCons (eCall m__law_next (aCons (eVar 0) (aCons (eBin addM (eVar 3) (eC (.int 1))) aNil))) aNil))))) (eCall m__law_next (aCons (eVar 0) (aCons (eC (.int 3)) aNil)))) (bNm 5))
    (sRt (eTup (aCons (eBin ixM (eVar 2) (eCall m__law_next (aCons (eVar 0) (aCons (eCall (fn1 lenM) (aCons (eVar 2) aNil)) aNil)))) (aCons (eVar 4) (aCons (eCall m__law_next (aCons (eVar 0) (aCons (eVar 1) aNil))) (aCons (eVar 5) (aCons (eBin addM (eC (.int 1)) (eCall m__law_next (aCons (eVar 0) (aCons (eC (.int 9)) aNil)))) aNil)))))))))
noncomputable def m__law_source : List D → M D := (fnM 4 6 b__law_source)
noncomputable def b__law_part : SM :=
    (sSq (sAs (eBin ixM (eFz (cLst (aCons (eC (.int 0)) (aCons (eCall m__law_next (aCons (eVar 0) (aCons (eC (.int 4)) aNil))) (aCons (eCall m__law_next (aCons (eVar 0) (aCons (eC (.int 21)) aNil))) aNil))))) (eCall m__law_next (aCons (eVar 0) (aCons (eC (.int 3)) aNil)))) (bNm 2))
    (sSq (sAs (eCall (fn2 min2M) (aCons (eC (.int 20)) (aCons (eBin addM (eVar 2) (eBin ixM (eFz (cLst (aCons (eCall m__law_next (aCons (eVar 0) (aCons (eC (.int 3)) aNil))) (aCons (eCall m__law_next (aCons (eVar 0) (aCons (eC (.int 6)) aNil))) (aCons (eC (.int 20)) aNil))))) (eCall m__law_next (aCons (eVar 0) (aCons (eC (.int 3)) aNil))))) aNil))) (bNm 3))
    (sRt (eTup (aCons (eBin ixM (eVar 1) (eCall m__law_next (aCons (eVar 0) (aCons (eCall (fn1 lenM) (aCons (eVar 1) aNil)) aNil)))) (aCons (eVar 2) (aCons (eVar 3) aNil)))))))
noncomputable def m__law_part : List D → M D := (fnM 2 4 b__law_part)
noncomputable def b__law_way : SM :=
    (sSq (sAs (eCall (fn1 tupM) (aCons (eFz (cLc (iRg1 (aCons (eBin ixM (eFz (cLst (aCons (eC (.int 1)) (aCons (eC (.int 2)) (aCons (eC (.int 2)) (aCons (eC (.int 3)) aNil)))))) (eCall m__law_next (aCons (eVar 0) (aCons (eC (.int 4)) aNil)))) aNil)) [6] (bNm 6) bTrue (eCall m__law_part (aCons (eVar 0) (aCons (eVar 2) aNil))))) aNil)) (bNm 3))
    (sSq (sAs (eCall (fn1 tupM) (aCons (eFz (cLc (iRg1 (aCons (eVar 1) aNil)) [7] (bNm 7) (eB (eBin gtM (eCall m__law_next (aCons (eVar 0) (aCons (eC (.int 4)) aNil))) (eC (.int 0)))) (eVar 7))) aNil)) (bNm 4))
    (sSq (sAs (eBin ixM (eFz (cLst (aCons (eC (.str "oldest")) (aCons (eC (.str "youngest")) aNil)))) (eCall m__law_next (aCons (eVar 0) (aCons (eC (.int 2)) aNil)))) (bNm 5))
    (sRt (eTup (aCons (eBin ixM (eVar 2) (eCall m__law_next (aCons (eVar 0) (aCons (eCall (fn1 lenM) (aCons (eVar 2) aNil)) aNil)))) (aCons (eVar 3) (aCons (eVar 5) (aCons (eVar 4) (aCons (eBin addM (eC (.int 1)) (eCall m__law_next (aCons (eVar 0) (aCons (eBin ixM (eFz (cLst (aCons (eC (.int 2)) (aCons (eC (.int 6)) aNil)))) (eCall m__law_next (aCons (eVar 0) (aCons (eC (.int 2)) aNil)))) aNil)))) aNil))))))))))
noncomputable def m__law_way : List D → M D := (fnM 3 8 b__law_way)
noncomputable def b__law_world : SM :=
    (sSq (sAs (eCall m__law_names (aCons (eVar 0) (aCons (eBin addM (eC (.int 1)) (eCall m__law_next (aCons (eVar 0) (aCons (eVar 2) aNil)))) aNil))) (bNm 4))
    (sSq (sAs (eBin ixM (eFz (cLst (aCons (eC (.int 1)) (aCons (eC (.int 2)) (aCons (eC (.int 3)) (aCons (eC (.int 0)) aNil)))))) (eCall (fn2 min2M) (aCons (eC (.int 3)) (aCons (eBin divM (eCall m__law_next (aCons (eVar 0) (aCons (eC (.int 16)) aNil))) (eC (.int 5))) aNil)))) (bNm 5))
    (sSq (sAs (eCall (fn1 tupM) (aCons (eFz (cLc (iRg1 (aCons (eVar 5) aNil)) [8] (bNm 8) bTrue (eCall m__law_source (aCons (eVar 0) (aCons (eVar 1) (aCons (eVar 4) (aCons (eVar 3) aNil))))))) aNil)) (bNm 6))
    (sSq (sAs (eCall (fn1 tupM) (aCons (eFz (cLc (iRg1 (aCons (eCall m__law_next (aCons (eVar 0) (aCons (eC (.int 5)) aNil))) aNil)) [8] (bNm 8) bTrue (eCall m__law_way (aCons (eVar 0) (aCons (eVar 1) (aCons (eVar 4) aNil)))))) aNil)) (bNm 7))
    (sRt (eTup (aCons (eVar 1) (aCons (eVar 4) (aCons (eVar 6) (aCons (eVar 7) aNil))))))))))
noncomputable def m__law_world : List D → M D := (fnM 4 9 b__law_world)
noncomputable def b__law_lines : SM :=
    (sRt (eFz (cLc (iRg1 (aCons (eCall (fn1 lenM) (aCons (eVar 0) aNil)) aNil)) [1] (bNm 1) bTrue (eBin addM (eSl slM (eVar 0) oNone (oSome (eVar 1))) (eSl slM (eVar 0) (oSome (eBin addM (eVar 1) (eC (.int 1)))) oNone)))))
noncomputable def m__law_lines : List D → M D := (fnM 1 2 b__law_lines)
noncomputable def b__law_with : SM :=
    (sSq (sAs (eFz (cLc (iSeq (eBin ixM (eVar 0) (eC (.int 1)))) [4] (bNm 4) bTrue (eNw (cLof (eVar 4))))) (bNm 3))
    (sSq (sAs (eVar 2) (bSub (eBin ixM (eVar 3) (eVar 1)) (eC (.int 2))))
    (sRt (eBin addM (eTup (aCons (eBin ixM (eVar 0) (eC (.int 0))) (aCons (eCall (fn1 tupM) (aCons (eFz (cLc (iSeq (eVar 3)) [4] (bNm 4) bTrue (eCall (fn1 tupM) (aCons (eVar 4) aNil)))) aNil)) aNil))) (eSl slM (eVar 0) (oSome (eC (.int 2))) oNone)))))
noncomputable def m__law_with : List D → M D := cutM (fnM 3 5 b__law_with)
noncomputable def b__law_widened_right : SM :=
    (sSq (sAs (eVar 0) (bSeq 4 (bCons (bNm 2) (bCons (bNm 3) (bCons (bNm 4) (bCons (bNm 5) bNil))))))
    (sSq (sFor (iRg1 (aCons (eCall (fn1 lenM) (aCons (eBin ixM (eBin ixM (eVar 5) (eVar 1)) (eC (.int 1))) aNil)) aNil)) (bNm 6) (sFor (iRg2 (aCons (eBin ixM (eBin ixM (eBin ixM (eBin ixM (eVar 5) (eVar 1)) (eC (.int 1))) (eVar 6)) (eC (.int 1))) (aCons (eC (.int 21)) aNil))) (bNm 7) (sSq (sAs (eTup (aCons (eVar 2) (aCons (eVar 3) (aCons (eVar 4) (aCons (eBin addM (eBin addM (eSl slM (eVar 5) oNone (oSome (eVar 1))) (eTup (aCons (eCall m__law_with (aCons (eBin ixM (eVar 5) (eVar 1)) (aCons (eVar 6) (aCons (eVar 7) aNil)))) aNil))) (eSl slM (eVar 5) (oSome (eBin addM (eVar 1) (eC (.int 1)))) oNone)) aNil))))) (bNm 8))
    (sIf (eB (eBin neM (eCall (fn1 reprM) (aCons (eCall m_widened (aCons (eVar 0) (aCons (eVar 1) (aCons (eVar 6) (aCons (eVar 7) aNil))))) aNil)) (eCall (fn1 reprM) (aCons (eVar 8) aNil)))) (sRt (eC (.bl false))) sNx))))
    (sRt (eC (.bl true)))))
noncomputable def m__law_widened_right : List D → M D := (fnM 2 9 b__law_widened_right)
noncomputable def b_law : SM :=
    (sSq (sAs (eCall m__law_deck (aCons (eVar 0) aNil)) (bNm 1))
    (sSq (sFor (iRg1 (aCons (eC (.int 3)) aNil)) (bNm 2) (sSq (sAs (eCall m__law_world (aCons (eVar 1) (aCons (eBin addM (eC (.int 1)) (eCall m__law_next (aCons (eVar 1) (aCons (eC (.int 6)) aNil)))) (aCons (eC (.int 4)) (aCons (eBin ixM (eFz (cLst (aCons (eC (.int 9)) (aCons (eBin powM (eC (.int 10)) (eC (.int 6))) aNil)))) (eCall m__law_next (aCons (eVar 1) (aCons (eC (.int 2)) aNil)))) aNil))))) (bNm 3))
    (sSq (sAs (eVar 3) (bSeq 4 (bCons (bNm 4) (bCons (bNm 5) (bCons (bNm 6) (bCons (bNm 7) bNil))))))
    (sSq (sAs (eCall (fn1 reprM) (aCons (eVar 3) aNil)) (bNm 8))
    (sSq (sAs (eFz (cLc (iSeq (eCall m__law_lines (aCons (eVar 6) aNil))) [10] (bNm 10) bTrue (eTup (aCons (eVar 4) (aCons (eVar 5) (aCons (eVar 10) (aCons (eVar 7) aNil))))))) (bNm 9))
    (sSq (sIf (eB (eBin neM (eCall (fn1 reprM) (aCons (eFz (cLc (iRg1 (aCons (eCall (fn1 lenM) (aCons (eVar 6) aNil)) aNil)) [11] (bNm 11) bTrue (eCall m_without (aCons (eVar 3) (aCons (eC (.str "source")) (aCons (eVar 11) aNil)))))) aNil)) (eCall (fn1 reprM) (aCons (eVar 9) aNil)))) (sRt (eC (.bl false))) sNx)
    (sSq (sAs (eFz (cLc (iSeq (eCall m__law_lines (aCons (eVar 7) aNil))) [10] (bNm 10) bTrue (eTup (aCons (eVar 4) (aCons (eVar 5) (aCons (eVar 6) (aCons (eVar 10) aNil))))))) (bNm 9))
    (sSq (sIf (eB (eBin neM (eCall (fn1 reprM) (aCons (eFz (cLc (iRg1 (aCons (eCall (fn1 lenM) (aCons (eVar 7) aNil)) aNil)) [11] (bNm 11) bTrue (eCall m_without (aCons (eVar 3) (aCons (eC (.str "way")) (aCons (eVar 11) aNil)))))) aNil)) (eCall (fn1 reprM) (aCons (eVar 9) aNil)))) (sRt (eC (.bl false))) sNx)
    (sSq (sIf (eB (eBin neM (eFz (cLc (iRg1 (aCons (eCall (fn1 lenM) (aCons (eVar 7) aNil)) aNil)) [12] (bNm 12) (bNot (eB (eCall m__law_widened_right (aCons (eVar 3) (aCons (eVar 12) aNil))))) (eVar 12))) (eFz (cLst aNil)))) (sRt (eC (.bl false))) sNx)
    (sIf (eB (eBin neM (eCall (fn1 reprM) (aCons (eVar 3) aNil)) (eVar 8))) (sRt (eC (.bl false))) sNx))))))))))
    (sRt (eC (.bl true)))))
noncomputable def m_law : List D → M D := (fnM 1 13 b_law)
end K36


set_option Elab.async false
set_option linter.all false
set_option maxRecDepth 100000
set_option maxHeartbeats 4000000
namespace K36
open PySem PySem.Spec L2 DL
def topS (i : Nat) : Stmt := PySem.Challenge.pw_rightage_k36_left_out_and_widened.main.body.getD i (.Pass ⟨0, 0, 0, 0⟩)
abbrev S_left_out : Stmt := topS 2
abbrev N_left_out : List Str := ["row", "number"]
theorem sc_left_out : FnScope N_left_out ["row", "number"] (defScope S_left_out) := ⟨rfl, rfl, rfl, by decide +kernel, rfl, by decide +kernel, by decide +kernel⟩
abbrev S_without : Stmt := topS 3
abbrev N_without : List Str := ["world", "word", "number", "size", "kinds", "sources", "ways"]
theorem sc_without : FnScope N_without ["world", "word", "number"] (defScope S_without) := ⟨rfl, rfl, rfl, by decide +kernel, rfl, by decide +kernel, by decide +kernel⟩
abbrev S_widened : Stmt := topS 5
abbrev N_widened : List Str := ["world", "way", "part", "greatest", "size", "kinds", "sources", "ways", "made", "parts", "keeps", "hours", "wait", "kind", "least", "old"]
theorem sc_widened : FnScope N_widened ["world", "way", "part", "greatest"] (defScope S_widened) := ⟨rfl, rfl, rfl, by decide +kernel, rfl, by decide +kernel, by decide +kernel⟩
abbrev S__law_deck : Stmt := topS 7
abbrev N__law_deck : List Str := ["_law_script", "_law_cells", "_law_cell"]
theorem sc__law_deck : FnScope N__law_deck ["_law_script"] (defScope S__law_deck) := ⟨rfl, rfl, rfl, by decide +kernel, rfl, by decide +kernel, by decide +kernel⟩
abbrev S__law_next : Stmt := topS 8
abbrev N__law_next : List Str := ["_law_deck_here", "_law_many", "_law_great", "_law_small", "_law_turn", "_law_digit", "_law_cell", "_law_mixed"]
theorem sc__law_next : FnScope N__law_next ["_law_deck_here", "_law_many"] (defScope S__law_next) := ⟨rfl, rfl, rfl, by decide +kernel, rfl, by decide +kernel, by decide +kernel⟩
abbrev S__law_names : Stmt := topS 9
abbrev N__law_names : List Str := ["_law_deck_here", "_law_many", "_law_letters", "_law_stem", "_law_at", "_law_begin", "_law_k"]
theorem sc__law_names : FnScope N__law_names ["_law_deck_here", "_law_many"] (defScope S__law_names) := ⟨rfl, rfl, rfl, by decide +kernel, rfl, by decide +kernel, by decide +kernel⟩
abbrev S__law_source : Stmt := topS 10
abbrev N__law_source : List Str := ["_law_deck_here", "_law_size", "_law_kinds", "_law_since", "_law_age", "_law_begin"]
theorem sc__law_source : FnScope N__law_source ["_law_deck_here", "_law_size", "_law_kinds", "_law_since"] (defScope S__law_source) := ⟨rfl, rfl, rfl, by decide +kernel, rfl, by decide +kernel, by decide +kernel⟩
abbrev S__law_part : Stmt := topS 11
abbrev N__law_part : List Str := ["_law_deck_here", "_law_kinds", "_law_low", "_law_high"]
theorem sc__law_part : FnScope N__law_part ["_law_deck_here", "_law_kinds"] (defScope S__law_part) := ⟨rfl, rfl, rfl, by decide +kernel, rfl, by decide +kernel, by decide +kernel⟩
abbrev S__law_way : Stmt := topS 12
abbrev N__law_way : List Str := ["_law_deck_here", "_law_size", "_law_kinds", "_law_parts", "_law_hours", "_law_keeps", "_law_k", "_law_hour"]
theorem sc__law_way : FnScope N__law_way ["_law_deck_here", "_law_size", "_law_kinds"] (defScope S__law_way) := ⟨rfl, rfl, rfl, by decide +kernel, rfl, by decide +kernel, by decide +kernel⟩
abbrev S__law_world : Stmt := topS 13
abbrev N__law_world : List Str := ["_law_deck_here", "_law_size", "_law_many", "_law_since", "_law_kinds", "_law_few", "_law_sources", "_law_ways", "_law_k"]
theorem sc__law_world : FnScope N__law_world ["_law_deck_here", "_law_size", "_law_many", "_law_since"] (defScope S__law_world) := ⟨rfl, rfl, rfl, by decide +kernel, rfl, by decide +kernel, by decide +kernel⟩
abbrev S__law_lines : Stmt := topS 14
abbrev N__law_lines : List Str := ["_law_row", "_law_k"]
theorem sc__law_lines : FnScope N__law_lines ["_law_row"] (defScope S__law_lines) := ⟨rfl, rfl, rfl, by decide +kernel, rfl, by decide +kernel, by decide +kernel⟩
abbrev S__law_with : Stmt := topS 15
abbrev N__law_with : List Str := ["_law_way_here", "_law_part_here", "_law_high", "_law_parts", "_law_one"]
theorem sc__law_with : FnScope N__law_with ["_law_way_here", "_law_part_here", "_law_high"] (defScope S__law_with) := ⟨rfl, rfl, rfl, by decide +kernel, rfl, by decide +kernel, by decide +kernel⟩
abbrev S__law_widened_right : Stmt := topS 16
abbrev N__law_widened_right : List Str := ["_law_world_here", "_law_number", "_law_size", "_law_kinds", "_law_sources", "_law_ways", "_law_part_here", "_law_high", "_law_due"]
theorem sc__law_widened_right : FnScope N__law_widened_right ["_law_world_here", "_law_number"] (defScope S__law_widened_right) := ⟨rfl, rfl, rfl, by decide +kernel, rfl, by decide +kernel, by decide +kernel⟩
abbrev S_law : Stmt := topS 17
abbrev N_law : List Str := ["_law_script", "_law_deck_here", "_law_turn", "_law_world_here", "_law_size", "_law_kinds", "_law_sources", "_law_ways", "_law_shown", "_law_due", "_law_row", "_law_k", "_law_number"]
theorem sc_law : FnScope N_law ["_law_script"] (defScope S_law) := ⟨rfl, rfl, rfl, by decide +kernel, rfl, by decide +kernel, by decide +kernel⟩
/-- what the top has left -/
structure Fx (K : PySem.W.Frag) (mg : Str → Option Value) : Prop where
  v_SOURCE : ∃ t, mg "SOURCE" = some (.str "source" t)
  n_abs : mg "abs" = none
  n_len : mg "len" = none
  n_list : mg "list" = none
  n_max : mg "max" = none
  n_min : mg "min" = none
  n_range : mg "range" = none
  n_repr : mg "repr" = none
  n_sorted : mg "sorted" = none
  n_tuple : mg "tuple" = none
  d_left_out : ∃ f fd, Def K mg "left_out" S_left_out ["row", "number"] f fd
  d_without : ∃ f fd, Def K mg "without" S_without ["world", "word", "number"] f fd
  d_widened : ∃ f fd, Def K mg "widened" S_widened ["world", "way", "part", "greatest"] f fd
  d__law_deck : ∃ f fd, Def K mg "_law_deck" S__law_deck ["_law_script"] f fd
  d__law_next : ∃ f fd, Def K mg "_law_next" S__law_next ["_law_deck_here", "_law_many"] f fd
  d__law_names : ∃ f fd, Def K mg "_law_names" S__law_names ["_law_deck_here", "_law_many"] f fd
  d__law_source : ∃ f fd, Def K mg "_law_source" S__law_source ["_law_deck_here", "_law_size", "_law_kinds", "_law_since"] f fd
  d__law_part : ∃ f fd, Def K mg "_law_part" S__law_part ["_law_deck_here", "_law_kinds"] f fd
  d__law_way : ∃ f fd, Def K mg "_law_way" S__law_way ["_law_deck_here", "_law_size", "_law_kinds"] f fd
  d__law_world : ∃ f fd, Def K mg "_law_world" S__law_world ["_law_deck_here", "_law_size", "_law_many", "_law_since"] f fd
  d__law_lines : ∃ f fd, Def K mg "_law_lines" S__law_lines ["_law_row"] f fd
  d__law_with : ∃ f fd, Def K mg "_law_with" S__law_with ["_law_way_here", "_law_part_here", "_law_high"] f fd
  d__law_widened_right : ∃ f fd, Def K mg "_law_widened_right" S__law_widened_right ["_law_world_here", "_law_number"] f fd
  d_law : ∃ f fd, Def K mg "law" S_law ["_law_script"] f fd
section
variable {P : Program} {w : World} {K : PySem.W.Frag} {mg : Str → Option Value} {base : Heap}
theorem ok_left_out (F : Fx K mg) {f : Addr} {fd : FuncData} (T : Def K mg "left_out" S_left_out ["row", "number"] f fd) : FnG P w K mg base 1 f fd ["row", "number"] m_left_out := by
  exact fn_body T.F sc_left_out fun cdv A outer s H hr hG =>
    (xs_one (xs_ret (ex_bin ox_add (ex_slice ox_sl (ex_var (pv 0)) xo_none (xo_some (ex_var (pv 1)))) (ex_slice ox_sl (ex_var (pv 0)) (xo_some (ex_bin ox_add (ex_var (pv 1)) ex_int)) xo_none))))
theorem ok_without (F : Fx K mg) {f : Addr} {fd : FuncData} (T : Def K mg "without" S_without ["world", "word", "number"] f fd) : FnG P w K mg base 2 f fd ["world", "word", "number"] m_without := by
  obtain ⟨_, c_SOURCE⟩ := F.v_SOURCE
  obtain ⟨_, _, T_left_out⟩ := F.d_left_out
  exact fn_body T.F sc_without fun cdv A outer s H hr hG =>
    (xs_cons (xs_as (ex_var (pv 0)) (xg_seq rfl (xg_cons (xg_name (pg_name (i := 3) sc_without.nd rfl (Or.inl rfl))) (xg_cons (xg_name (pg_name (i := 4) sc_without.nd rfl (Or.inl rfl))) (xg_cons (xg_name (pg_name (i := 5) sc_without.nd rfl (Or.inl rfl))) (xg_cons (xg_name (pg_name (i := 6) sc_without.nd rfl (Or.inl rfl))) xg_nil))))))
    (xs_cons (xs_if (tt_cmp (ox_eq hr.units) (ex_var (pv 1)) (ex_gstr (by rfl) c_SOURCE) (nomark _)) (xs_one (xs_ret (ex_tup (xa_cons (ex_var (pv 3)) (xa_cons (ex_var (pv 4)) (xa_cons (ex_callF T_left_out (FnG.mono (ok_left_out F T_left_out) (by decide)) hr hG (by rfl) (xa_cons (ex_var (pv 5)) (xa_cons (ex_var (pv 2)) xa_nil))) (xa_cons (ex_var (pv 6)) xa_nil))))))) xs_nil)
    (xs_one (xs_ret (ex_tup (xa_cons (ex_var (pv 3)) (xa_cons (ex_var (pv 4)) (xa_cons (ex_var (pv 5)) (xa_cons (ex_callF T_left_out (FnG.mono (ok_left_out F T_left_out) (by decide)) hr hG (by rfl) (xa_cons (ex_var (pv 6)) (xa_cons (ex_var (pv 2)) xa_nil))) xa_nil)))))))))
theorem ok_widened (F : Fx K mg) {f : Addr} {fd : FuncData} (T : Def K mg "widened" S_widened ["world", "way", "part", "greatest"] f fd) : FnG P w K mg base 1 f fd ["world", "way", "part", "greatest"] m_widened := by
  exact fn_body T.F sc_widened fun cdv A outer s H hr hG =>
    (xs_cons (xs_as (ex_var (pv 0)) (xg_seq rfl (xg_cons (xg_name (pg_name (i := 4) sc_widened.nd rfl (Or.inl rfl))) (xg_cons (xg_name (pg_name (i := 5) sc_widened.nd rfl (Or.inl rfl))) (xg_cons (xg_name (pg_name (i := 6) sc_widened.nd rfl (Or.inl rfl))) (xg_cons (xg_name (pg_name (i := 7) sc_widened.nd rfl (Or.inl rfl))) xg_nil))))))
    (xs_cons (xs_as (ex_ix ox_ix (ex_var (pv 7)) (ex_var (pv 1)) (fun _ _ => rfl)) (xg_seq rfl (xg_cons (xg_name (pg_name (i := 8) sc_widened.nd rfl (Or.inl rfl))) (xg_cons (xg_name (pg_name (i := 9) sc_widened.nd rfl (Or.inl rfl))) (xg_cons (xg_name (pg_name (i := 10) sc_widened.nd rfl (Or.inl rfl))) (xg_cons (xg_name (pg_name (i := 11) sc_widened.nd rfl (Or.inl rfl))) (xg_cons (xg_name (pg_name (i := 12) sc_widened.nd rfl (Or.inl rfl))) xg_nil)))))))
    (xs_cons (xs_as (ex_ix ox_ix (ex_var (pv 9)) (ex_var (pv 2)) (fun _ _ => rfl)) (xg_seq rfl (xg_cons (xg_name (pg_name (i := 13) sc_widened.nd rfl (Or.inl rfl))) (xg_cons (xg_name (pg_name (i := 14) sc_widened.nd rfl (Or.inl rfl))) (xg_cons (xg_name (pg_name (i := 15) sc_widened.nd rfl (Or.inl rfl))) xg_nil)))))
    (xs_cons (xs_set (fun he => ps_set (i := 9) sc_widened.nd rfl (Or.inl rfl) he) (ex_bin ox_add (ex_bin ox_add (ex_slice ox_sl (ex_var (pv 9)) xo_none (xo_some (ex_var (pv 2)))) (ex_tup (xa_cons (ex_tup (xa_cons (ex_var (pv 13)) (xa_cons (ex_var (pv 14)) (xa_cons (ex_var (pv 3)) xa_nil)))) xa_nil))) (ex_slice ox_sl (ex_var (pv 9)) (xo_some (ex_bin ox_add (ex_var (pv 2)) ex_int)) xo_none)))
    (xs_one (xs_ret (ex_tup (xa_cons (ex_var (pv 4)) (xa_cons (ex_var (pv 5)) (xa_cons (ex_var (pv 6)) (xa_cons (ex_bin ox_add (ex_bin ox_add (ex_slice ox_sl (ex_var (pv 7)) xo_none (xo_some (ex_var (pv 1)))) (ex_tup (xa_cons (ex_tup (xa_cons (ex_var (pv 8)) (xa_cons (ex_var (pv 9)) (xa_cons (ex_var (pv 10)) (xa_cons (ex_var (pv 11)) (xa_cons (ex_var (pv 12)) xa_nil)))))) xa_nil))) (ex_slice ox_sl (ex_var (pv 7)) (xo_some (ex_bin ox_add (ex_var (pv 1)) ex_int)) xo_none)) xa_nil)))))))))))
theorem ok__law_deck (F : Fx K mg) {f : Addr} {fd : FuncData} (T : Def K mg "_law_deck" S__law_deck ["_law_script"] f fd) : FnG P w K mg base 1 f fd ["_law_script"] m__law_deck := by
  exact fn_body T.F sc__law_deck fun cdv A outer s H hr hG =>
    (xs_cons (xs_setLc (own := [("_law_cell", 2)]) (i := 1) fz_reads rfl sc__law_deck.nd rfl rfl (sw_true rfl rfl rfl (by decide +kernel)) (xi_seq (ex_slice ox_sl (ex_var (pv 0)) xo_none (xo_some ex_int))) (blkOk_by (own := [("_law_cell", 2)]) (N := N__law_deck) (sc := (defScope S__law_deck)) (by decide +kernel)) (fun _ _ _ _ _ => (xg_name (pg_name (i := 2) sc__law_deck.nd rfl (Or.inl rfl)))) (fun _ _ _ _ _ => xt_nil) (fun _ _ _ _ _ => (ex_callB cx_abs (by rfl) F.n_abs b_abs (xa_cons (ex_var (pv 2)) xa_nil))) (by decide))
    (xs_one (xs_ret (ex_nw (xn_lst (xa_cons (ex_nw (xn_lc (own := [("_law_cell", 2)]) rfl sc__law_deck.nd (xi_seq (ex_var (pv 1))) (blkOk_by (own := [("_law_cell", 2)]) (N := N__law_deck) (sc := (defScope S__law_deck)) (by decide +kernel)) (fun _ _ _ _ _ => (xg_name (pg_name (i := 2) sc__law_deck.nd rfl (Or.inl rfl)))) (fun _ _ _ _ _ => (xt_one (tt_cmp ox_ge (ex_var (pv 2)) (ex_bin ox_pow ex_int ex_int) (nomark _)))) (fun _ _ _ _ _ => (ex_var (pv 2))) (by decide))) (xa_cons (ex_fz (xn_lc (own := [("_law_cell", 2)]) rfl sc__law_deck.nd (xi_seq (ex_var (pv 1))) (blkOk_by (own := [("_law_cell", 2)]) (N := N__law_deck) (sc := (defScope S__law_deck)) (by decide +kernel)) (fun _ _ _ _ _ => (xg_name (pg_name (i := 2) sc__law_deck.nd rfl (Or.inl rfl)))) (fun _ _ _ _ _ => (xt_one (tt_cmp ox_lt (ex_var (pv 2)) (ex_bin ox_pow ex_int ex_int) (nomark _)))) (fun _ _ _ _ _ => (ex_var (pv 2))) (by decide))) (xa_cons ex_int xa_nil))))))))
theorem ok__law_next (F : Fx K mg) {f : Addr} {fd : FuncData} (T : Def K mg "_law_next" S__law_next ["_law_deck_here", "_law_many"] f fd) : FnG P w K mg base 1 f fd ["_law_deck_here", "_law_many"] m__law_next := by
  exact fn_body T.F sc__law_next fun cdv A outer s H hr hG =>
    (xs_cons (xs_as (ex_var (pv 0)) (xg_seq rfl (xg_cons (xg_name (pg_name (i := 2) sc__law_next.nd rfl (Or.inl rfl))) (xg_cons (xg_name (pg_name (i := 3) sc__law_next.nd rfl (Or.inl rfl))) (xg_cons (xg_name (pg_name (i := 4) sc__law_next.nd rfl (Or.inl rfl))) xg_nil)))))
    (xs_cons (xs_as (ex_bin ox_add (ex_var (pv 4)) ex_int) (xg_sub (ex_var (pv 0)) ex_int))
    (xs_cons (xs_while PassesOwn.never (PW.pt (tt_and (tt_cmp (ox_ne hr.units) (ex_var (pv 2)) (ex_fz (xn_lst xa_nil)) (nomark _)) (tt_and1 (tt_cmp (ox_eq hr.units) (ex_ix ox_ix (ex_var (pv 2)) ex_int (fun _ _ => rfl)) ex_int (nomark _))))) (xs_one (xs_expr (ex_popAt (ex_var (pv 2)) ex_int))))
    (xs_cons (xs_if (tt_cmp (ox_ne hr.units) (ex_var (pv 2)) (ex_fz (xn_lst xa_nil)) (nomark _)) (xs_cons (xs_set (fun he => ps_set (i := 5) sc__law_next.nd rfl (Or.inl rfl) he) (ex_bin ox_mod (ex_ix ox_ix (ex_var (pv 2)) ex_int (fun _ _ => rfl)) (ex_var (pv 1))))
    (xs_cons (xs_as (ex_bin ox_div (ex_ix ox_ix (ex_var (pv 2)) ex_int (fun _ _ => rfl)) (ex_var (pv 1))) (xg_sub (ex_var (pv 2)) ex_int))
    (xs_one (xs_ret (ex_var (pv 5)))))) xs_nil)
    (xs_cons (xs_set (fun he => ps_set (i := 6) sc__law_next.nd rfl (Or.inl rfl) he) (ex_ix ox_ix (ex_bin ox_add (ex_var (pv 3)) (ex_fz (xn_lst (xa_cons ex_int xa_nil)))) (ex_bin ox_mod (ex_var (pv 4)) (ex_callB (cx_max2 rfl) (by rfl) F.n_max b_max (xa_cons ex_int (xa_cons (ex_callB cx_len (by rfl) F.n_len b_len (xa_cons (ex_var (pv 3)) xa_nil)) xa_nil)))) (fun _ _ => rfl)))
    (xs_cons (xs_set (fun he => ps_set (i := 7) sc__law_next.nd rfl (Or.inl rfl) he) (ex_bin ox_mod (ex_bin ox_pow (ex_bin ox_add (ex_bin ox_add (ex_bin ox_mod (ex_var (pv 6)) ex_int) (ex_bin ox_mul ex_int (ex_var (pv 4)))) ex_int) ex_int) ex_int))
    (xs_one (xs_ret (ex_bin ox_mod (ex_bin ox_div (ex_bin ox_mod (ex_bin ox_pow (ex_bin ox_add (ex_var (pv 7)) (ex_bin ox_mul ex_int (ex_var (pv 4)))) ex_int) ex_int) ex_int) (ex_var (pv 1)))))))))))
theorem ok__law_names (F : Fx K mg) {f : Addr} {fd : FuncData} (T : Def K mg "_law_names" S__law_names ["_law_deck_here", "_law_many"] f fd) : FnG P w K mg base 2 f fd ["_law_deck_here", "_law_many"] m__law_names := by
  obtain ⟨_, _, T__law_next⟩ := F.d__law_next
  exact fn_body T.F sc__law_names fun cdv A outer s H hr hG =>
    (xs_cons (xs_set (fun he => ps_set (i := 2) sc__law_names.nd rfl (Or.inr rfl) he) ex_str)
    (xs_cons (xs_set (fun he => ps_set (i := 3) sc__law_names.nd rfl (Or.inr rfl) he) (ex_join ex_str (ex_fz (xn_lc (own := [("_law_k", 6)]) rfl sc__law_names.nd (xi_rg1 (by rfl) F.n_range (xa_cons (ex_callF T__law_next (FnG.mono (ok__law_next F T__law_next) (by decide)) hr hG (by rfl) (xa_cons (ex_var (pv 0)) (xa_cons ex_int xa_nil))) xa_nil)) (blkOk_by (own := [("_law_k", 6)]) (N := N__law_names) (sc := (defScope S__law_names)) (by decide +kernel)) (fun _ _ _ _ _ => (xg_name (pg_name (i := 6) sc__law_names.nd rfl (Or.inl rfl)))) (fun _ _ _ _ _ => xt_nil) (fun _ _ _ _ _ => (ex_ix ox_ix (ex_var (pv 2)) (ex_callF T__law_next (FnG.mono (ok__law_next F T__law_next) (by decide)) hr hG (by rfl) (xa_cons (ex_var (pv 0)) (xa_cons ex_int xa_nil))) (fun _ _ => rfl))) (by decide)))))
    (xs_cons (xs_as (ex_tup (xa_cons (ex_callF T__law_next (FnG.mono (ok__law_next F T__law_next) (by decide)) hr hG (by rfl) (xa_cons (ex_var (pv 0)) (xa_cons (ex_bin ox_add (ex_callB cx_len (by rfl) F.n_len b_len (xa_cons (ex_var (pv 3)) xa_nil)) ex_int) xa_nil))) (xa_cons (ex_callF T__law_next (FnG.mono (ok__law_next F T__law_next) (by decide)) hr hG (by rfl) (xa_cons (ex_var (pv 0)) (xa_cons ex_int xa_nil))) xa_nil))) (xg_seq rfl (xg_cons (xg_name (pg_name (i := 4) sc__law_names.nd rfl (Or.inr rfl))) (xg_cons (xg_name (pg_name (i := 5) sc__law_names.nd rfl (Or.inr rfl))) xg_nil))))
    (xs_one (xs_ret (ex_callTy cx_tuple (by rfl) F.n_tuple b_tuple (xa_cons (ex_callB (cx_sorted hr.units) (by rfl) F.n_sorted b_sorted (xa_cons (ex_fz (xn_lc (own := [("_law_k", 6)]) rfl sc__law_names.nd (xi_rg1 (by rfl) F.n_range (xa_cons (ex_var (pv 1)) xa_nil)) (blkOk_by (own := [("_law_k", 6)]) (N := N__law_names) (sc := (defScope S__law_names)) (by decide +kernel)) (fun _ _ _ _ _ => (xg_name (pg_name (i := 6) sc__law_names.nd rfl (Or.inl rfl)))) (fun _ _ _ _ _ => xt_nil) (fun _ _ _ _ _ => (ex_bin ox_add (ex_bin ox_add (ex_slice ox_sl (ex_var (pv 3)) xo_none (xo_some (ex_var (pv 4)))) (ex_ix ox_ix (ex_var (pv 2)) (ex_bin ox_mod (ex_bin ox_add (ex_var (pv 5)) (ex_bin ox_mul ex_int (ex_var (pv 6)))) ex_int) (fun _ _ => rfl))) (ex_slice ox_sl (ex_var (pv 3)) (xo_some (ex_var (pv 4))) xo_none))) (by decide))) xa_nil)) xa_nil)))))))
theorem ok__law_source (F : Fx K mg) {f : Addr} {fd : FuncData} (T : Def K mg "_law_source" S__law_source ["_law_deck_here", "_law_size", "_law_kinds", "_law_since"] f fd) : FnG P w K mg base 2 f fd ["_law_deck_here", "_law_size", "_law_kinds", "_law_since"] m__law_source := by
  obtain ⟨_, _, T__law_next⟩ := F.d__law_next
  exact fn_body T.F sc__law_source fun cdv A outer s H hr hG =>
    (xs_cons (xs_set (fun he => ps_set (i := 4) sc__law_source.nd rfl (Or.inl rfl) he) (ex_ix ox_ix (ex_fz (xn_lst (xa_cons ex_int (xa_cons (ex_callF T__law_next (FnG.mono (ok__law_next F T__law_next) (by decide)) hr hG (by rfl) (xa_cons (ex_var (pv 0)) (xa_cons ex_int xa_nil))) (xa_cons (ex_callF T__law_next (FnG.mono (ok__law_next F T__law_next) (by decide)) hr hG (by rfl) (xa_cons (ex_var (pv 0)) (xa_cons ex_int xa_nil))) xa_nil))))) (ex_callF T__law_next (FnG.mono (ok__law_next F T__law_next) (by decide)) hr hG (by rfl) (xa_cons (ex_var (pv 0)) (xa_cons ex_int xa_nil))) (fun _ _ => rfl)))
    (xs_cons (xs_set (fun he => ps_set (i := 5) sc__law_source.nd rfl (Or.inl rfl) he) (ex_ix ox_ix (ex_fz (xn_lst (xa_cons ex_int (xa_cons (ex_callF T__law_next (FnG.mono (ok__law_next F T__law_next) (by decide)) hr hG (by rfl) (xa_cons (ex_var (pv 0)) (xa_cons ex_int xa_nil))) (xa_cons (ex_callF T__law_next (FnG.mono (ok__law_next F T__law_next) (by decide)) hr hG (by rfl) (xa_cons (ex_var (pv 0)) (xa_cons (ex_bin ox_add (ex_var (pv 3)) ex_int) xa_nil))) xa_nil))))) (ex_callF T__law_next (FnG.mono (ok__law_next F T__law_next) (by decide)) hr hG (by rfl) (xa_cons (ex_var (pv 0)) (xa_cons ex_int xa_nil))) (fun _ _ => rfl)))
    (xs_one (xs_ret (ex_tup (xa_cons (ex_ix ox_ix (ex_var (pv 2)) (ex_callF T__law_next (FnG.mono (ok__law_next F T__law_next) (by decide)) hr hG (by rfl) (xa_cons (ex_var (pv 0)) (xa_cons (ex_callB cx_len (by rfl) F.n_len b_len (xa_cons (ex_var (pv 2)) xa_nil)) xa_nil))) (fun _ _ => rfl)) (xa_cons (ex_var (pv 4)) (xa_cons (ex_callF T__law_next (FnG.mono (ok__law_next F T__law_next) (by decide)) hr hG (by rfl) (xa_cons (ex_var (pv 0)) (xa_cons (ex_var (pv 1)) xa_nil))) (xa_cons (ex_var (pv 5)) (xa_cons (ex_bin ox_add ex_int (ex_callF T__law_next (FnG.mono (ok__law_next F T__law_next) (by decide)) hr hG (by rfl) (xa_cons (ex_var (pv 0)) (xa_cons ex_int xa_nil)))) xa_nil))))))))))
theorem ok__law_part (F : Fx K mg) {f : Addr} {fd : FuncData} (T : Def K mg "_law_part" S__law_part ["_law_deck_here", "_law_kinds"] f fd) : FnG P w K mg base 2 f fd ["_law_deck_here", "_law_kinds"] m__law_part := by
  obtain ⟨_, _, T__law_next⟩ := F.d__law_next
  exact fn_body T.F sc__law_part fun cdv A outer s H hr hG =>
    (xs_cons (xs_set (fun he => ps_set (i := 2) sc__law_part.nd rfl (Or.inl rfl) he) (ex_ix ox_ix (ex_fz (xn_lst (xa_cons ex_int (xa_cons (ex_callF T__law_next (FnG.mono (ok__law_next F T__law_next) (by decide)) hr hG (by rfl) (xa_cons (ex_var (pv 0)) (xa_cons ex_int xa_nil))) (xa_cons (ex_callF T__law_next (FnG.mono (ok__law_next F T__law_next) (by decide)) hr hG (by rfl) (xa_cons (ex_var (pv 0)) (xa_cons ex_int xa_nil))) xa_nil))))) (ex_callF T__law_next (FnG.mono (ok__law_next F T__law_next) (by decide)) hr hG (by rfl) (xa_cons (ex_var (pv 0)) (xa_cons ex_int xa_nil))) (fun _ _ => rfl)))
    (xs_cons (xs_set (fun he => ps_set (i := 3) sc__law_part.nd rfl (Or.inl rfl) he) (ex_callB (cx_min2 rfl) (by rfl) F.n_min b_min (xa_cons ex_int (xa_cons (ex_bin ox_add (ex_var (pv 2)) (ex_ix ox_ix (ex_fz (xn_lst (xa_cons (ex_callF T__law_next (FnG.mono (ok__law_next F T__law_next) (by decide)) hr hG (by rfl) (xa_cons (ex_var (pv 0)) (xa_cons ex_int xa_nil))) (xa_cons (ex_callF T__law_next (FnG.mono (ok__law_next F T__law_next) (by decide)) hr hG (by rfl) (xa_cons (ex_var (pv 0)) (xa_cons ex_int xa_nil))) (xa_cons ex_int xa_nil))))) (ex_callF T__law_next (FnG.mono (ok__law_next F T__law_next) (by decide)) hr hG (by rfl) (xa_cons (ex_var (pv 0)) (xa_cons ex_int xa_nil))) (fun _ _ => rfl))) xa_nil))))
    (xs_one (xs_ret (ex_tup (xa_cons (ex_ix ox_ix (ex_var (pv 1)) (ex_callF T__law_next (FnG.mono (ok__law_next F T__law_next) (by decide)) hr hG (by rfl) (xa_cons (ex_var (pv 0)) (xa_cons (ex_callB cx_len (by rfl) F.n_len b_len (xa_cons (ex_var (pv 1)) xa_nil)) xa_nil))) (fun _ _ => rfl)) (xa_cons (ex_var (pv 2)) (xa_cons (ex_var (pv 3)) xa_nil))))))))
theorem ok__law_way (F : Fx K mg) {f : Addr} {fd : FuncData} (T : Def K mg "_law_way" S__law_way ["_law_deck_here", "_law_size", "_law_kinds"] f fd) : FnG P w K mg base 3 f fd ["_law_deck_here", "_law_size", "_law_kinds"] m__law_way := by
  obtain ⟨_, _, T__law_next⟩ := F.d__law_next
  obtain ⟨_, _, T__law_part⟩ := F.d__law_part
  exact fn_body T.F sc__law_way fun cdv A outer s H hr hG =>
    (xs_cons (xs_set (fun he => ps_set (i := 3) sc__law_way.nd rfl (Or.inl rfl) he) (ex_callTy cx_tuple (by rfl) F.n_tuple b_tuple (xa_cons (ex_fz (xn_lc (own := [("_law_k", 6)]) rfl sc__law_way.nd (xi_rg1 (by rfl) F.n_range (xa_cons (ex_ix ox_ix (ex_fz (xn_lst (xa_cons ex_int (xa_cons ex_int (xa_cons ex_int (xa_cons ex_int xa_nil)))))) (ex_callF T__law_next (FnG.mono (ok__law_next F T__law_next) (by decide)) hr hG (by rfl) (xa_cons (ex_var (pv 0)) (xa_cons ex_int xa_nil))) (fun _ _ => rfl)) xa_nil)) (blkOk_by (own := [("_law_k", 6)]) (N := N__law_way) (sc := (defScope S__law_way)) (by decide +kernel)) (fun _ _ _ _ _ => (xg_name (pg_name (i := 6) sc__law_way.nd rfl (Or.inl rfl)))) (fun _ _ _ _ _ => xt_nil) (fun _ _ _ _ _ => (ex_callF T__law_part (FnG.mono (ok__law_part F T__law_part) (by decide)) hr hG (by rfl) (xa_cons (ex_var (pv 0)) (xa_cons (ex_var (pv 2)) xa_nil)))) (by decide))) xa_nil)))
    (xs_cons (xs_set (fun he => ps_set (i := 4) sc__law_way.nd rfl (Or.inl rfl) he) (ex_callTy cx_tuple (by rfl) F.n_tuple b_tuple (xa_cons (ex_fz (xn_lc (own := [("_law_hour", 7)]) rfl sc__law_way.nd (xi_rg1 (by rfl) F.n_range (xa_cons (ex_var (pv 1)) xa_nil)) (blkOk_by (own := [("_law_hour", 7)]) (N := N__law_way) (sc := (defScope S__law_way)) (by decide +kernel)) (fun _ _ _ _ _ => (xg_name (pg_name (i := 7) sc__law_way.nd rfl (Or.inl rfl)))) (fun _ _ _ _ _ => (xt_one (tt_cmp ox_gt (ex_callF T__law_next (FnG.mono (ok__law_next F T__law_next) (by decide)) hr hG (by rfl) (xa_cons (ex_var (pv 0)) (xa_cons ex_int xa_nil))) ex_int (nomark _)))) (fun _ _ _ _ _ => (ex_var (pv 7))) (by decide))) xa_nil)))
    (xs_cons (xs_set (fun he => ps_set (i := 5) sc__law_way.nd rfl (Or.inl rfl) he) (ex_ix ox_ix (ex_fz (xn_lst (xa_cons ex_str (xa_cons ex_str xa_nil)))) (ex_callF T__law_next (FnG.mono (ok__law_next F T__law_next) (by decide)) hr hG (by rfl) (xa_cons (ex_var (pv 0)) (xa_cons ex_int xa_nil))) (fun _ _ => rfl)))
    (xs_one (xs_ret (ex_tup (xa_cons (ex_ix ox_ix (ex_var (pv 2)) (ex_callF T__law_next (FnG.mono (ok__law_next F T__law_next) (by decide)) hr hG (by rfl) (xa_cons (ex_var (pv 0)) (xa_cons (ex_callB cx_len (by rfl) F.n_len b_len (xa_cons (ex_var (pv 2)) xa_nil)) xa_nil))) (fun _ _ => rfl)) (xa_cons (ex_var (pv 3)) (xa_cons (ex_var (pv 5)) (xa_cons (ex_var (pv 4)) (xa_cons (ex_bin ox_add ex_int (ex_callF T__law_next (FnG.mono (ok__law_next F T__law_next) (by decide)) hr hG (by rfl) (xa_cons (ex_var (pv 0)) (xa_cons (ex_ix ox_ix (ex_fz (xn_lst (xa_cons ex_int (xa_cons ex_int xa_nil)))) (ex_callF T__law_next (FnG.mono (ok__law_next F T__law_next) (by decide)) hr hG (by rfl) (xa_cons (ex_var (pv 0)) (xa_cons ex_int xa_nil))) (fun _ _ => rfl)) xa_nil)))) xa_nil)))))))))))
theorem ok__law_world (F : Fx K mg) {f : Addr} {fd : FuncData} (T : Def K mg "_law_world" S__law_world ["_law_deck_here", "_law_size", "_law_many", "_law_since"] f fd) : FnG P w K mg base 4 f fd ["_law_deck_here", "_law_size", "_law_many", "_law_since"] m__law_world := by
  obtain ⟨_, _, T__law_names⟩ := F.d__law_names
  obtain ⟨_, _, T__law_next⟩ := F.d__law_next
  obtain ⟨_, _, T__law_source⟩ := F.d__law_source
  obtain ⟨_, _, T__law_way⟩ := F.d__law_way
  exact fn_body T.F sc__law_world fun cdv A outer s H hr hG =>
    (xs_cons (xs_set (fun he => ps_set (i := 4) sc__law_world.nd rfl (Or.inr rfl) he) (ex_callF T__law_names (FnG.mono (ok__law_names F T__law_names) (by decide)) hr hG (by rfl) (xa_cons (ex_var (pv 0)) (xa_cons (ex_bin ox_add ex_int (ex_callF T__law_next (FnG.mono (ok__law_next F T__law_next) (by decide)) hr hG (by rfl) (xa_cons (ex_var (pv 0)) (xa_cons (ex_var (pv 2)) xa_nil)))) xa_nil))))
    (xs_cons (xs_set (fun he => ps_set (i := 5) sc__law_world.nd rfl (Or.inl rfl) he) (ex_ix ox_ix (ex_fz (xn_lst (xa_cons ex_int (xa_cons ex_int (xa_cons ex_int (xa_cons ex_int xa_nil)))))) (ex_callB (cx_min2 rfl) (by rfl) F.n_min b_min (xa_cons ex_int (xa_cons (ex_bin ox_div (ex_callF T__law_next (FnG.mono (ok__law_next F T__law_next) (by decide)) hr hG (by rfl) (xa_cons (ex_var (pv 0)) (xa_cons ex_int xa_nil))) ex_int) xa_nil))) (fun _ _ => rfl)))
    (xs_cons (xs_set (fun he => ps_set (i := 6) sc__law_world.nd rfl (Or.inl rfl) he) (ex_callTy cx_tuple (by rfl) F.n_tuple b_tuple (xa_cons (ex_fz (xn_lc (own := [("_law_k", 8)]) rfl sc__law_world.nd (xi_rg1 (by rfl) F.n_range (xa_cons (ex_var (pv 5)) xa_nil)) (blkOk_by (own := [("_law_k", 8)]) (N := N__law_world) (sc := (defScope S__law_world)) (by decide +kernel)) (fun _ _ _ _ _ => (xg_name (pg_name (i := 8) sc__law_world.nd rfl (Or.inl rfl)))) (fun _ _ _ _ _ => xt_nil) (fun _ _ _ _ _ => (ex_callF T__law_source (FnG.mono (ok__law_source F T__law_source) (by decide)) hr hG (by rfl) (xa_cons (ex_var (pv 0)) (xa_cons (ex_var (pv 1)) (xa_cons (ex_var (pv 4)) (xa_cons (ex_var (pv 3)) xa_nil)))))) (by decide))) xa_nil)))
    (xs_cons (xs_set (fun he => ps_set (i := 7) sc__law_world.nd rfl (Or.inl rfl) he) (ex_callTy cx_tuple (by rfl) F.n_tuple b_tuple (xa_cons (ex_fz (xn_lc (own := [("_law_k", 8)]) rfl sc__law_world.nd (xi_rg1 (by rfl) F.n_range (xa_cons (ex_callF T__law_next (FnG.mono (ok__law_next F T__law_next) (by decide)) hr hG (by rfl) (xa_cons (ex_var (pv 0)) (xa_cons ex_int xa_nil))) xa_nil)) (blkOk_by (own := [("_law_k", 8)]) (N := N__law_world) (sc := (defScope S__law_world)) (by decide +kernel)) (fun _ _ _ _ _ => (xg_name (pg_name (i := 8) sc__law_world.nd rfl (Or.inl rfl)))) (fun _ _ _ _ _ => xt_nil) (fun _ _ _ _ _ => (ex_callF T__law_way (FnG.mono (ok__law_way F T__law_way) (by decide)) hr hG (by rfl) (xa_cons (ex_var (pv 0)) (xa_cons (ex_var (pv 1)) (xa_cons (ex_var (pv 4)) xa_nil))))) (by decide))) xa_nil)))
    (xs_one (xs_ret (ex_tup (xa_cons (ex_var (pv 1)) (xa_cons (ex_var (pv 4)) (xa_cons (ex_var (pv 6)) (xa_cons (ex_var (pv 7)) xa_nil)))))))))))
theorem ok__law_lines (F : Fx K mg) {f : Addr} {fd : FuncData} (T : Def K mg "_law_lines" S__law_lines ["_law_row"] f fd) : FnG P w K mg base 1 f fd ["_law_row"] m__law_lines := by
  exact fn_body T.F sc__law_lines fun cdv A outer s H hr hG =>
    (xs_one (xs_ret (ex_fz (xn_lc (own := [("_law_k", 1)]) rfl sc__law_lines.nd (xi_rg1 (by rfl) F.n_range (xa_cons (ex_callB cx_len (by rfl) F.n_len b_len (xa_cons (ex_var (pv 0)) xa_nil)) xa_nil)) (blkOk_by (own := [("_law_k", 1)]) (N := N__law_lines) (sc := (defScope S__law_lines)) (by decide +kernel)) (fun _ _ _ _ _ => (xg_name (pg_name (i := 1) sc__law_lines.nd rfl (Or.inl rfl)))) (fun _ _ _ _ _ => xt_nil) (fun _ _ _ _ _ => (ex_bin ox_add (ex_slice ox_sl (ex_var (pv 0)) xo_none (xo_some (ex_var (pv 1)))) (ex_slice ox_sl (ex_var (pv 0)) (xo_some (ex_bin ox_add (ex_var (pv 1)) ex_int)) xo_none))) (by decide)))))
theorem ok__law_with (F : Fx K mg) {f : Addr} {fd : FuncData} (T : Def K mg "_law_with" S__law_with ["_law_way_here", "_law_part_here", "_law_high"] f fd) : FnG P w K mg base 1 f fd ["_law_way_here", "_law_part_here", "_law_high"] m__law_with := by
  exact fn_cut <| fn_body T.F sc__law_with fun cdv A outer s H hr hG =>
    (xs_cons (xs_setLc (own := [("_law_one", 4)]) (i := 3) fz_reads rfl sc__law_with.nd rfl rfl (sw_true rfl rfl rfl (by decide +kernel)) (xi_seq (ex_ix ox_ix (ex_var (pv 0)) ex_int (fun _ _ => rfl))) (blkOk_by (own := [("_law_one", 4)]) (N := N__law_with) (sc := (defScope S__law_with)) (by decide +kernel)) (fun _ _ _ _ _ => (xg_name (pg_name (i := 4) sc__law_with.nd rfl (Or.inl rfl)))) (fun _ _ _ _ _ => xt_nil) (fun _ _ _ _ _ => (ex_nw (xn_list (by rfl) F.n_list (ex_var (pv 4))))) (by decide))
    (xs_cons (xs_as (ex_var (pv 2)) (xg_sub (ex_ix ox_ix (ex_var (pv 3)) (ex_var (pv 1)) (fun _ _ => rfl)) ex_int))
    (xs_one (xs_ret (ex_bin ox_add (ex_tup (xa_cons (ex_ix ox_ix (ex_var (pv 0)) ex_int (fun _ _ => rfl)) (xa_cons (ex_callTy cx_tuple (by rfl) F.n_tuple b_tuple (xa_cons (ex_fz (xn_lc (own := [("_law_one", 4)]) rfl sc__law_with.nd (xi_seq (ex_var (pv 3))) (blkOk_by (own := [("_law_one", 4)]) (N := N__law_with) (sc := (defScope S__law_with)) (by decide +kernel)) (fun _ _ _ _ _ => (xg_name (pg_name (i := 4) sc__law_with.nd rfl (Or.inl rfl)))) (fun _ _ _ _ _ => xt_nil) (fun _ _ _ _ _ => (ex_callTy cx_tuple (by rfl) F.n_tuple b_tuple (xa_cons (ex_var (pv 4)) xa_nil))) (by decide))) xa_nil)) xa_nil))) (ex_slice ox_sl (ex_var (pv 0)) (xo_some ex_int) xo_none))))))
theorem ok__law_widened_right (F : Fx K mg) {f : Addr} {fd : FuncData} (T : Def K mg "_law_widened_right" S__law_widened_right ["_law_world_here", "_law_number"] f fd) : FnG P w K mg base 2 f fd ["_law_world_here", "_law_number"] m__law_widened_right := by
  obtain ⟨_, _, T__law_with⟩ := F.d__law_with
  obtain ⟨_, _, T_widened⟩ := F.d_widened
  exact fn_body T.F sc__law_widened_right fun cdv A outer s H hr hG =>
    (xs_cons (xs_as (ex_var (pv 0)) (xg_seq rfl (xg_cons (xg_name (pg_name (i := 2) sc__law_widened_right.nd rfl (Or.inl rfl))) (xg_cons (xg_name (pg_name (i := 3) sc__law_widened_right.nd rfl (Or.inl rfl))) (xg_cons (xg_name (pg_name (i := 4) sc__law_widened_right.nd rfl (Or.inl rfl))) (xg_cons (xg_name (pg_name (i := 5) sc__law_widened_right.nd rfl (Or.inl rfl))) xg_nil))))))
    (xs_cons (xs_for PassesOwn.never rfl (xi_rg1 (by rfl) F.n_range (xa_cons (ex_callB cx_len (by rfl) F.n_len b_len (xa_cons (ex_ix ox_ix (ex_ix ox_ix (ex_var (pv 5)) (ex_var (pv 1)) (fun _ _ => rfl)) ex_int (fun _ _ => rfl)) xa_nil)) xa_nil)) (xg_name (pg_name (i := 6) sc__law_widened_right.nd rfl (Or.inl rfl))) (xs_one (xs_for PassesOwn.never rfl (xi_rg2 (by rfl) F.n_range (xa_cons (ex_ix ox_ix (ex_ix ox_ix (ex_ix ox_ix (ex_ix ox_ix (ex_var (pv 5)) (ex_var (pv 1)) (fun _ _ => rfl)) ex_int (fun _ _ => rfl)) (ex_var (pv 6)) (fun _ _ => rfl)) ex_int (fun _ _ => rfl)) (xa_cons ex_int xa_nil))) (xg_name (pg_name (i := 7) sc__law_widened_right.nd rfl (Or.inl rfl))) (xs_cons (xs_set (fun he => ps_set (i := 8) sc__law_widened_right.nd rfl (Or.inl rfl) he) (ex_tup (xa_cons (ex_var (pv 2)) (xa_cons (ex_var (pv 3)) (xa_cons (ex_var (pv 4)) (xa_cons (ex_bin ox_add (ex_bin ox_add (ex_slice ox_sl (ex_var (pv 5)) xo_none (xo_some (ex_var (pv 1)))) (ex_tup (xa_cons (ex_callF T__law_with (FnG.mono (ok__law_with F T__law_with) (by decide)) hr hG (by rfl) (xa_cons (ex_ix ox_ix (ex_var (pv 5)) (ex_var (pv 1)) (fun _ _ => rfl)) (xa_cons (ex_var (pv 6)) (xa_cons (ex_var (pv 7)) xa_nil)))) xa_nil))) (ex_slice ox_sl (ex_var (pv 5)) (xo_some (ex_bin ox_add (ex_var (pv 1)) ex_int)) xo_none)) xa_nil))))))
    (xs_one (xs_if (tt_cmp (ox_ne hr.units) (ex_callB (cx_repr hr.units hG) (by rfl) F.n_repr b_repr (xa_cons (ex_callF T_widened (FnG.mono (ok_widened F T_widened) (by decide)) hr hG (by rfl) (xa_cons (ex_var (pv 0)) (xa_cons (ex_var (pv 1)) (xa_cons (ex_var (pv 6)) (xa_cons (ex_var (pv 7)) xa_nil))))) xa_nil)) (ex_callB (cx_repr hr.units hG) (by rfl) F.n_repr b_repr (xa_cons (ex_var (pv 8)) xa_nil)) (nomark _)) (xs_one (xs_ret ex_bl)) xs_nil))))))
    (xs_one (xs_ret ex_bl))))
theorem ok_law (F : Fx K mg) {f : Addr} {fd : FuncData} (T : Def K mg "law" S_law ["_law_script"] f fd) : FnG P w K mg base 5 f fd ["_law_script"] m_law := by
  obtain ⟨_, _, T__law_deck⟩ := F.d__law_deck
  obtain ⟨_, _, T__law_lines⟩ := F.d__law_lines
  obtain ⟨_, _, T__law_next⟩ := F.d__law_next
  obtain ⟨_, _, T__law_widened_right⟩ := F.d__law_widened_right
  obtain ⟨_, _, T__law_world⟩ := F.d__law_world
  obtain ⟨_, _, T_without⟩ := F.d_without
  exact fn_body T.F sc_law fun cdv A outer s H hr hG =>
    (xs_cons (xs_set (fun he => ps_set (i := 1) sc_law.nd rfl (Or.inl rfl) he) (ex_callF T__law_deck (FnG.mono (ok__law_deck F T__law_deck) (by decide)) hr hG (by rfl) (xa_cons (ex_var (pv 0)) xa_nil)))
    (xs_cons (xs_for PassesOwn.never rfl (xi_rg1 (by rfl) F.n_range (xa_cons ex_int xa_nil)) (xg_name (pg_name (i := 2) sc_law.nd rfl (Or.inl rfl))) (xs_cons (xs_set (fun he => ps_set (i := 3) sc_law.nd rfl (Or.inr rfl) he) (ex_callF T__law_world (FnG.mono (ok__law_world F T__law_world) (by decide)) hr hG (by rfl) (xa_cons (ex_var (pv 1)) (xa_cons (ex_bin ox_add ex_int (ex_callF T__law_next (FnG.mono (ok__law_next F T__law_next) (by decide)) hr hG (by rfl) (xa_cons (ex_var (pv 1)) (xa_cons ex_int xa_nil)))) (xa_cons ex_int (xa_cons (ex_ix ox_ix (ex_fz (xn_lst (xa_cons ex_int (xa_cons (ex_bin ox_pow ex_int ex_int) xa_nil)))) (ex_callF T__law_next (FnG.mono (ok__law_next F T__law_next) (by decide)) hr hG (by rfl) (xa_cons (ex_var (pv 1)) (xa_cons ex_int xa_nil))) (fun _ _ => rfl)) xa_nil))))))
    (xs_cons (xs_as (ex_var (pv 3)) (xg_seq rfl (xg_cons (xg_name (pg_name (i := 4) sc_law.nd rfl (Or.inr rfl))) (xg_cons (xg_name (pg_name (i := 5) sc_law.nd rfl (Or.inr rfl))) (xg_cons (xg_name (pg_name (i := 6) sc_law.nd rfl (Or.inr rfl))) (xg_cons (xg_name (pg_name (i := 7) sc_law.nd rfl (Or.inr rfl))) xg_nil))))))
    (xs_cons (xs_set (fun he => ps_set (i := 8) sc_law.nd rfl (Or.inl rfl) he) (ex_callB (cx_repr hr.units hG) (by rfl) F.n_repr b_repr (xa_cons (ex_var (pv 3)) xa_nil)))
    (xs_cons (xs_setLc (own := [("_law_row", 10)]) (i := 9) fz_reads rfl sc_law.nd rfl rfl (sw_true rfl rfl rfl (by decide +kernel)) (xi_seq (ex_callF T__law_lines (FnG.mono (ok__law_lines F T__law_lines) (by decide)) hr hG (by rfl) (xa_cons (ex_var (pv 6)) xa_nil))) (blkOk_by (own := [("_law_row", 10)]) (N := N_law) (sc := (defScope S_law)) (by decide +kernel)) (fun _ _ _ _ _ => (xg_name (pg_name (i := 10) sc_law.nd rfl (Or.inl rfl)))) (fun _ _ _ _ _ => xt_nil) (fun _ _ _ _ _ => (ex_tup (xa_cons (ex_var (pv 4)) (xa_cons (ex_var (pv 5)) (xa_cons (ex_var (pv 10)) (xa_cons (ex_var (pv 7)) xa_nil)))))) (by decide))
    (xs_cons (xs_if (tt_cmp (ox_ne hr.units) (ex_callB (cx_repr hr.units hG) (by rfl) F.n_repr b_repr (xa_cons (ex_fz (xn_lc (own := [("_law_k", 11)]) rfl sc_law.nd (xi_rg1 (by rfl) F.n_range (xa_cons (ex_callB cx_len (by rfl) F.n_len b_len (xa_cons (ex_var (pv 6)) xa_nil)) xa_nil)) (blkOk_by (own := [("_law_k", 11)]) (N := N_law) (sc := (defScope S_law)) (by decide +kernel)) (fun _ _ _ _ _ => (xg_name (pg_name (i := 11) sc_law.nd rfl (Or.inl rfl)))) (fun _ _ _ _ _ => xt_nil) (fun _ _ _ _ _ => (ex_callF T_without (FnG.mono (ok_without F T_without) (by decide)) hr hG (by rfl) (xa_cons (ex_var (pv 3)) (xa_cons ex_str (xa_cons (ex_var (pv 11)) xa_nil))))) (by decide))) xa_nil)) (ex_callB (cx_repr hr.units hG) (by rfl) F.n_repr b_repr (xa_cons (ex_var (pv 9)) xa_nil)) (nomark _)) (xs_one (xs_ret ex_bl)) xs_nil)
    (xs_cons (xs_setLc (own := [("_law_row", 10)]) (i := 9) fz_reads rfl sc_law.nd rfl rfl (sw_true rfl rfl rfl (by decide +kernel)) (xi_seq (ex_callF T__law_lines (FnG.mono (ok__law_lines F T__law_lines) (by decide)) hr hG (by rfl) (xa_cons (ex_var (pv 7)) xa_nil))) (blkOk_by (own := [("_law_row", 10)]) (N := N_law) (sc := (defScope S_law)) (by decide +kernel)) (fun _ _ _ _ _ => (xg_name (pg_name (i := 10) sc_law.nd rfl (Or.inl rfl)))) (fun _ _ _ _ _ => xt_nil) (fun _ _ _ _ _ => (ex_tup (xa_cons (ex_var (pv 4)) (xa_cons (ex_var (pv 5)) (xa_cons (ex_var (pv 6)) (xa_cons (ex_var (pv 10)) xa_nil)))))) (by decide))
    (xs_cons (xs_if (tt_cmp (ox_ne hr.units) (ex_callB (cx_repr hr.units hG) (by rfl) F.n_repr b_repr (xa_cons (ex_fz (xn_lc (own := [("_law_k", 11)]) rfl sc_law.nd (xi_rg1 (by rfl) F.n_range (xa_cons (ex_callB cx_len (by rfl) F.n_len b_len (xa_cons (ex_var (pv 7)) xa_nil)) xa_nil)) (blkOk_by (own := [("_law_k", 11)]) (N := N_law) (sc := (defScope S_law)) (by decide +kernel)) (fun _ _ _ _ _ => (xg_name (pg_name (i := 11) sc_law.nd rfl (Or.inl rfl)))) (fun _ _ _ _ _ => xt_nil) (fun _ _ _ _ _ => (ex_callF T_without (FnG.mono (ok_without F T_without) (by decide)) hr hG (by rfl) (xa_cons (ex_var (pv 3)) (xa_cons ex_str (xa_cons (ex_var (pv 11)) xa_nil))))) (by decide))) xa_nil)) (ex_callB (cx_repr hr.units hG) (by rfl) F.n_repr b_repr (xa_cons (ex_var (pv 9)) xa_nil)) (nomark _)) (xs_one (xs_ret ex_bl)) xs_nil)
    (xs_cons (xs_if (tt_cmp (ox_ne hr.units) (ex_fz (xn_lc (own := [("_law_number", 12)]) rfl sc_law.nd (xi_rg1 (by rfl) F.n_range (xa_cons (ex_callB cx_len (by rfl) F.n_len b_len (xa_cons (ex_var (pv 7)) xa_nil)) xa_nil)) (blkOk_by (own := [("_law_number", 12)]) (N := N_law) (sc := (defScope S_law)) (by decide +kernel)) (fun _ _ _ _ _ => (xg_name (pg_name (i := 12) sc_law.nd rfl (Or.inl rfl)))) (fun _ _ _ _ _ => (xt_one (tt_not (tt_val (ex_callF T__law_widened_right (FnG.mono (ok__law_widened_right F T__law_widened_right) (by decide)) hr hG (by rfl) (xa_cons (ex_var (pv 3)) (xa_cons (ex_var (pv 12)) xa_nil))))))) (fun _ _ _ _ _ => (ex_var (pv 12))) (by decide))) (ex_fz (xn_lst xa_nil)) (nomark _)) (xs_one (xs_ret ex_bl)) xs_nil)
    (xs_one (xs_if (tt_cmp (ox_ne hr.units) (ex_callB (cx_repr hr.units hG) (by rfl) F.n_repr b_repr (xa_cons (ex_var (pv 3)) xa_nil)) (ex_var (pv 8)) (nomark _)) (xs_one (xs_ret ex_bl)) xs_nil)))))))))))
    (xs_one (xs_ret ex_bl))))
end
theorem fin {P : Program} {w : World} {K : PySem.W.Frag} {h : Heap} {mg : Str → Option Value} {fa : Addr} (KX : K.In h) (G : h.Ns mainGlobals mg) (hmg : mg "law" = some (.ref fa))
   (v_SOURCE : ∃ t, mg "SOURCE" = some (.str "source" t))
   (n_abs : mg "abs" = none)
   (n_len : mg "len" = none)
   (n_list : mg "list" = none)
   (n_max : mg "max" = none)
   (n_min : mg "min" = none)
   (n_range : mg "range" = none)
   (n_repr : mg "repr" = none)
   (n_sorted : mg "sorted" = none)
   (n_tuple : mg "tuple" = none)
   (d_left_out : ∃ f fd, Def K mg "left_out" S_left_out ["row", "number"] f fd)
   (d_without : ∃ f fd, Def K mg "without" S_without ["world", "word", "number"] f fd)
   (d_widened : ∃ f fd, Def K mg "widened" S_widened ["world", "way", "part", "greatest"] f fd)
   (d__law_deck : ∃ f fd, Def K mg "_law_deck" S__law_deck ["_law_script"] f fd)
   (d__law_next : ∃ f fd, Def K mg "_law_next" S__law_next ["_law_deck_here", "_law_many"] f fd)
   (d__law_names : ∃ f fd, Def K mg "_law_names" S__law_names ["_law_deck_here", "_law_many"] f fd)
   (d__law_source : ∃ f fd, Def K mg "_law_source" S__law_source ["_law_deck_here", "_law_size", "_law_kinds", "_law_since"] f fd)
   (d__law_part : ∃ f fd, Def K mg "_law_part" S__law_part ["_law_deck_here", "_law_kinds"] f fd)
   (d__law_way : ∃ f fd, Def K mg "_law_way" S__law_way ["_law_deck_here", "_law_size", "_law_kinds"] f fd)
   (d__law_world : ∃ f fd, Def K mg "_law_world" S__law_world ["_law_deck_here", "_law_size", "_law_many", "_law_since"] f fd)
   (d__law_lines : ∃ f fd, Def K mg "_law_lines" S__law_lines ["_law_row"] f fd)
   (d__law_with : ∃ f fd, Def K mg "_law_with" S__law_with ["_law_way_here", "_law_part_here", "_law_high"] f fd)
   (d__law_widened_right : ∃ f fd, Def K mg "_law_widened_right" S__law_widened_right ["_law_world_here", "_law_number"] f fd)
   (d_law : ∃ f fd, Def K mg "law" S_law ["_law_script"] f fd)
    : ∃ fd : FuncData, (∀ (s : Shared) (u : Value), BindsTo s fd ⟨[u], []⟩ [("_law_script", u)]) ∧ ∀ base : Heap, K.In base → base.Ns mainGlobals mg → FnG P w K mg base 5 fa fd ["_law_script"] m_law :=
  have Fc : Fx K mg := ⟨v_SOURCE, n_abs, n_len, n_list, n_max, n_min, n_range, n_repr, n_sorted, n_tuple, d_left_out, d_without, d_widened, d__law_deck, d__law_next, d__law_names, d__law_source, d__law_part, d__law_way, d__law_world, d__law_lines, d__law_with, d__law_widened_right, d_law⟩
  DL.head_of Fc.d_law hmg (fun _ _ _ _ _ _ _ _ => .of_eq rfl) fun base => ok_law Fc
end K36


set_option maxHeartbeats 4000000
set_option maxRecDepth 100000
set_option pp.maxSteps 1500
namespace K36
open PySem L2 DL
local macro_rules | `(tactic| walk_at "ok") => `(tactic| simp only [ok_fnM, ok_some, ok_none, ok_eC, ok_eVar0, ok_eVarS, ok_eBin, ok_eUn, ok_eB, boolK_bl, intK_int, ok_eAnd, ok_eOr, ok_eNot, ok_bAnd, ok_bOr, ok_bNot, ok_eIf, ok_aNil, ok_aCons, ok_eTup, ok_cLst, ok_eFz, ok_eNw, ok_eCall, ok_oNone, ok_oSome, ok_eSl,
  ok_add, ok_sub, ok_mul, ok_mod, ok_div, ok_pow, ok_neg, ok_eq_int, ok_ne_int, ok_eq_str, ok_ne_str, ok_eq_bl, ok_ne_bl, ok_ord, ok_is, ok_isNot, ok_ix_tup, ok_ix_lst, ok_ix_ref0, ok_ix_ref1, ok_ix_str, ok_len_tup, ok_len_lst, ok_len_scr, ok_len_str, ok_list_tup, ok_list_lst, ok_tuple_lst, ok_tuple_tup, ok_int_int, ok_int_bl, ok_min2, ok_max2, ok_isa, ok_bTrue, wipeD, ok_add_str, ok_add_lst, ok_add_tup, ok_mul_lst, ok_sl_lst, ok_sl_tup, ok_sl_scr, ok_sl_str, ok_chain, ok_cLrg, ok_join, ok_cLc, ok_sFor, ok_iSq, srcK_tup, srcK_lst, ok_rev, ok_ne_nil0, ok_ne_cons, ok_pop0, ok_abs, ok_iRg1, ok_iRg2,
  ok_sSq, seqK_nx, seqK_rt, seqK_bk, seqK_ct, ok_sNx, ok_sBk, ok_sCt, ok_sRt, ok_sRtN, ok_sEx, ok_sIf, ok_sAs, ok_sPar, ok_bNm, ok_bNil, ok_bCons, ok_bSeq_tup, ok_bSeq_ref1, ok_bSub, subK_ref0, subK_ref1, atI0, atI1, atI2, atI3, atI4, atI_map, atK_map, List.length_map, fnK_rt, fnK_nx, set0, setS, atK_some,
  List.length_cons, List.length_nil, List.map_cons, List.map_nil, List.cons_append, List.nil_append, List.replicate, Nat.reduceAdd, Nat.reduceSub, true_and, and_true, ↓reduceIte, decide_eq_true_eq, Bool.false_eq_true, if_false, if_true, Bool.not_true, Bool.not_false])

theorem big : (1000000 : Nat) ≤ sizeLine := by decide
def Dr (t : Int) (st : Sto) : Prop := ∃ (great small : List Int) (turn : Int), st = [.lst (great.map .int), .lst [.ref 0, .lst (small.map .int), .int turn]] ∧ small.length ≤ 63 ∧ (∀ r ∈ great, 0 ≤ r) ∧ (∀ r ∈ small, 0 ≤ r) ∧ 0 ≤ turn ∧ turn ≤ t
theorem Dr.le {t t' : Int} {st : Sto} (h : Dr t st) (l : t ≤ t') : Dr t' st := by
  obtain ⟨a, b, turn, e, h1, h2, h3, t0, t1⟩ := h
  exact ⟨a, b, turn, e, h1, h2, h3, t0, by omega⟩
theorem wh_run (r : Sto) (many small : D) (tn : Int) : ∀ (g : List Int), (∀ x ∈ g, 0 ≤ x) → ∃ n, Ok (whL (bAnd (eB (eBin neM (eVar 2) (eFz (cLst aNil)))) (eB (eBin eqM (eBin ixM (eVar 2) (eC (.int 0))) (eC (.int 0))))) (sEx (eBin popM (eVar 2) (eC (.int 0)))) n [some (D.ref 1), some many, some (D.ref 0), some small, some (D.int tn), none, none, none] (.lst (g.map .int) :: r)) fun f s =>
    f = .nx [some (D.ref 1), some many, some (D.ref 0), some small, some (D.int tn), none, none, none] ∧ ∃ g' : List Int, s = .lst (g'.map .int) :: r ∧ ∀ x ∈ g', 0 ≤ x
  | [], _ => by
    refine ⟨1, ?_⟩
    rw [ok_whS]
    try walk_at "ok"
    exact ⟨by decide, [], rfl, by simp⟩
  | x :: g, h => by
    obtain ⟨n, ih⟩ := wh_run r many small tn g fun y hy => h y (List.mem_cons_of_mem _ hy)
    refine ⟨n + 1, ?_⟩
    rw [ok_whS]
    try walk_at "ok"
    refine ⟨by decide, ?_⟩
    split
    · exact ih
    · exact ⟨x :: g, rfl, h⟩
theorem next_run {t : Int} {st : Sto} (h : Dr t st) (ht : t < 2 ^ 25) (m : Int) (hm : 0 < m) (hm2 : m.natAbs.log2 < 9000) :
    Ok (m__law_next [.ref 1, .int m] st) fun d s1 => ∃ r, d = .int r ∧ 0 ≤ r ∧ r < m ∧ Dr (t + 1) s1 := by
  have big := big
  obtain ⟨great, small, turn, rfl, ls, ng, ns, t0, t1⟩ := h
  unfold m__law_next b__law_next
  try walk_at "ok"
  refine ⟨2, rfl, ?_⟩
  try walk_at "ok"
  obtain ⟨n, wh⟩ := wh_run [.lst [.ref 0, .lst (small.map .int), .int (turn + 1)]] (.int m) (.lst (small.map .int)) turn great ng
  refine ok_sWh (n := n) (wh.mono ?_)
  rintro _ _ ⟨rfl, g', rfl, hg⟩
  try walk_at "ok"
  refine ⟨by omega, ?_⟩
  cases g' with
  | cons x g =>
    try walk_at "ok"
    refine ⟨hm, ⟨hm, hm2⟩, _, ixN_in (by omega) (by omega), ?_⟩
    try walk_at "ok"
    refine ⟨_, rfl, Int.emod_nonneg _ (by omega), Int.emod_lt_of_pos _ hm, (x / m) :: g, small, turn + 1, rfl, ls, ?_, ns, by omega, by omega⟩
    intro y hy
    rcases List.mem_cons.mp hy with rfl | hy
    · exact Int.ediv_nonneg (hg x (List.mem_cons_self ..)) (by omega)
    · exact hg y (List.mem_cons_of_mem _ hy)
  | nil =>
    try walk_at "ok"
    have k0 : (0 : Int) < if (small.length : Int) > 1 then (small.length : Int) else 1 := by split <;> omega
    have k1 : (if (small.length : Int) > 1 then (small.length : Int) else 1) ≤ (small.map D.int ++ [D.int 0]).length := by
      rw [List.length_append, List.length_map, List.length_singleton]
      split <;> omega
    obtain ⟨x, hx, xm⟩ := atI_in (l := small.map D.int ++ [D.int 0]) (i := turn % if (small.length : Int) > 1 then (small.length : Int) else 1) (Int.emod_nonneg _ (by omega)) (Int.lt_of_lt_of_le (Int.emod_lt_of_pos _ k0) k1)
    have hx2 : ∃ c : Int, x = .int c := by
      rcases List.mem_append.mp xm with xm | xm
      · obtain ⟨c, _, rfl⟩ := List.mem_map.mp xm; exact ⟨_, rfl⟩
      · exact ⟨0, List.mem_singleton.mp xm⟩
    obtain ⟨c, rfl⟩ := hx2
    refine ⟨by omega, by omega, k0, _, hx, ?_⟩
    try walk_at "ok"
    have q0 : ∀ z : Int, 0 ≤ z % 2147483629 ∧ z % 2147483629 < 2147483629 := fun z => ⟨Int.emod_nonneg _ (by decide), Int.emod_lt_of_pos _ (by decide)⟩
    have q1 : ∀ z : Int, 0 ≤ z % 2147483587 ∧ z % 2147483587 < 2147483587 := fun z => ⟨Int.emod_nonneg _ (by decide), Int.emod_lt_of_pos _ (by decide)⟩
    have e0 := q0 c
    refine ⟨by decide, mulOk_l (by decide), ⟨by decide, by decide, by omega⟩, by decide, mulOk_l (by decide), ?_⟩
    have e1 := q1 ((c % 2147483629 + 48271 * turn + 104729) ^ Int.toNat 3)
    generalize (c % 2147483629 + 48271 * turn + 104729) ^ Int.toNat 3 % 2147483587 = u at e1 ⊢
    refine ⟨⟨by decide, by decide, by omega⟩, by decide, ⟨by decide, by decide +kernel⟩, hm, _, rfl, Int.emod_nonneg _ (by omega), Int.emod_lt_of_pos _ hm, ?_⟩
    exact ⟨[], small, turn + 1, rfl, ls, by simp, ns, by omega, by omega⟩
theorem deck_run (ns : List Int) (h : ns.length ≤ 63) : Ok (m__law_deck [.scr (ns.map .int)] []) fun d s => d = .ref 1 ∧ Dr 0 s := by
  have big := big
  unfold m__law_deck b__law_deck
  try walk_at "ok"
  rw [cutL_all (by rw [List.length_map]; omega)]
  refine ⟨by rw [List.length_map]; omega, ?_⟩
  refine ok_lc_all (fun _ s => s = []) (fun _ x => ∃ r, x = .int r ∧ 0 ≤ r) (fun k d s hd hs => ?_) rfl (fun l s hs hl hR => ?_)
  · subst hs
    rw [List.getElem?_map] at hd
    obtain ⟨z, _, rfl⟩ := Option.map_eq_some_iff.mp hd
    try walk_at "ok"
    refine ⟨_, rfl, ?_⟩
    split <;> omega
  subst hs
  obtain ⟨cs, rfl, hc⟩ := ints_of (all_of_get hR)
  rw [List.length_map, List.length_map] at hl
  try walk_at "ok"
  refine ⟨by omega, ?_⟩
  refine ok_lc_any (fun _ s => s = []) (fun x => ∃ r, x = .int r ∧ 0 ≤ r) (fun k d s hd hs => ?_) rfl (fun l s hs hl2 hR => ?_)
  · subst hs
    obtain ⟨z, hz, rfl⟩ := List.mem_map.mp (List.mem_of_getElem? hd)
    try walk_at "ok"
    refine ⟨⟨by decide, by decide, by decide⟩, ?_⟩
    split
    · exact ⟨_, rfl, hc z hz⟩
    · trivial
  subst hs
  obtain ⟨gs, rfl, hg⟩ := ints_of hR
  try walk_at "ok"
  refine ⟨by omega, ?_⟩
  refine ok_lc_any (fun _ s => s = [.lst (gs.map .int)]) (fun x => ∃ r, x = .int r ∧ 0 ≤ r) (fun k d s hd hs => ?_) rfl (fun l s hs hl2 hR => ?_)
  · subst hs
    obtain ⟨z, hz, rfl⟩ := List.mem_map.mp (List.mem_of_getElem? hd)
    try walk_at "ok"
    refine ⟨⟨by decide, by decide, by decide⟩, ?_⟩
    split
    · exact ⟨_, rfl, hc z hz⟩
    · trivial
  subst hs
  obtain ⟨ss, rfl, hs⟩ := ints_of hR
  try walk_at "ok"
  refine ⟨by omega, gs, ss, 0, rfl, ?_, hg, hs, by omega, by omega⟩
  rw [List.length_map, List.length_map] at hl2
  omega
end K36


set_option maxHeartbeats 4000000
set_option maxRecDepth 100000
set_option pp.maxSteps 1500
namespace K36
open PySem L2 DL
local macro_rules | `(tactic| walk_at "ok") => `(tactic| simp only [ok_fnM, ok_some, ok_none, ok_eC, ok_eVar0, ok_eVarS, ok_eBin, ok_eUn, ok_eB, boolK_bl, intK_int, ok_eAnd, ok_eOr, ok_eNot, ok_bAnd, ok_bOr, ok_bNot, ok_eIf, ok_aNil, ok_aCons, ok_eTup, ok_cLst, ok_eFz, ok_eNw, ok_eCall, ok_oNone, ok_oSome, ok_eSl,
  ok_add, ok_sub, ok_mul, ok_mod, ok_div, ok_pow, ok_neg, ok_eq_int, ok_ne_int, ok_eq_str, ok_ne_str, ok_eq_bl, ok_ne_bl, ok_ord, ok_is, ok_isNot, ok_ix_tup, ok_ix_lst, ok_ix_ref0, ok_ix_ref1, ok_ix_str, ok_len_tup, ok_len_lst, ok_len_scr, ok_len_str, ok_list_tup, ok_list_lst, ok_tuple_lst, ok_tuple_tup, ok_int_int, ok_int_bl, ok_min2, ok_max2, ok_isa, ok_bTrue, wipeD, ok_add_str, ok_add_lst, ok_add_tup, ok_mul_lst, ok_sl_lst, ok_sl_tup, ok_sl_scr, ok_sl_str, ok_chain, ok_cLrg, ok_join, ok_cLc, ok_sFor, ok_iSq, srcK_tup, srcK_lst, ok_rev, ok_ne_nil0, ok_ne_cons, ok_pop0, ok_abs, ok_iRg1, ok_iRg2,
  ok_sSq, seqK_nx, seqK_rt, seqK_bk, seqK_ct, ok_sNx, ok_sBk, ok_sCt, ok_sRt, ok_sRtN, ok_sEx, ok_sIf, ok_sAs, ok_sPar, ok_bNm, ok_bNil, ok_bCons, ok_bSeq_tup, ok_bSeq_ref1, ok_bSub, subK_ref0, subK_ref1, atI0, atI1, atI2, atI3, atI4, atI_map, atK_map, List.length_map, fnK_rt, fnK_nx, set0, setS, atK_some,
  List.length_cons, List.length_nil, List.map_cons, List.map_nil, List.cons_append, List.nil_append, List.replicate, Nat.reduceAdd, Nat.reduceSub, true_and, and_true, ↓reduceIte, decide_eq_true_eq, Bool.false_eq_true, if_false, if_true, Bool.not_true, Bool.not_false])

section
variable {t : Int} {st : Sto} {Q : D → Sto → Prop}
theorem nx (h : Dr t st) (ht : t < 2 ^ 25) (m : Int) (hm : 0 < m) (hm2 : m < 2 ^ 60) (k : ∀ r s, 0 ≤ r → r < m → Dr (t + 1) s → Q (.int r) s) : Ok (m__law_next [.ref 1, .int m] st) Q := by
  refine (next_run h ht m hm ?_).mono ?_
  · have : m.natAbs < 2 ^ 60 := by omega
    have := (Nat.log2_lt (by omega)).mpr this
    omega
  · rintro _ s ⟨r, rfl, a, b, c⟩
    exact k r s a b c
end
theorem plain_app {x y : Str} (h : Plain x) (h2 : Plain y) : Plain (x ++ y) := by
  intro c hc
  have e : (x ++ y).cps.toList = x.cps.toList ++ y.cps.toList := by show (x.cps ++ y.cps).toList = _; rw [Array.toList_append]
  rw [e] at hc
  rcases List.mem_append.mp hc with hc | hc
  · exact h c hc
  · exact h2 c hc
theorem plain_cut {x : Str} (h : Plain x) (lo hi : Option Int) : Plain (cutS x lo hi) := by
  intro c hc
  unfold cutS at hc
  exact h c (List.mem_of_mem_drop (List.mem_of_mem_take hc))
theorem len_cut {x : Str} (lo hi : Option Int) : (cutS x lo hi).length ≤ x.length := by
  unfold cutS
  show ((List.take _ (List.drop _ x.cps.toList)).toArray).size ≤ x.length
  rw [List.size_toArray, List.length_take, List.length_drop, Array.length_toList]
  show _ ≤ x.cps.size
  omega
theorem plain_join : ∀ {l : List Str}, (∀ z ∈ l, Plain z) → Plain (Txt.join (Str.ofString "") l) := by
  intro l h
  show Plain (Builtin.Str.glued (Str.ofString "") l)
  rw [StrLaws.glued_eq_join]
  induction l with
  | nil => intro c hc; cases hc
  | cons x l ih =>
    have h1 := h x (List.mem_cons_self ..)
    have h2 := ih fun z hz => h z (List.mem_cons_of_mem _ hz)
    cases l with
    | nil => exact h1
    | cons y l =>
      show Plain (x ++ Str.ofString "" ++ Str.join (Str.ofString "") (y :: l))
      exact plain_app (plain_app h1 (fun c hc => by cases hc)) h2
theorem letters_plain : Plain (Str.ofString "abcdefghijklmnopqrstuvwxyz") := by
  have h : ((Str.ofString "abcdefghijklmnopqrstuvwxyz").cps.toList.all fun c => decide (c < 128)) = true := by decide +kernel
  intro c hc
  exact of_decide_eq_true (List.all_eq_true.mp h c hc)
theorem alen : (Str.ofString "abcdefghijklmnopqrstuvwxyz").length = 26 := by decide
def Kd (x : D) : Prop := ∃ z, x = .str z ∧ Plain z ∧ z.length ≤ 15
theorem names_run {t : Int} {st : Sto} {Q : D → Sto → Prop} (h : Dr t st) (ht : t < 2 ^ 24) (n : Int) (hn : 1 ≤ n) (hn2 : n ≤ 4) (k : ∀ l s, l.length = n.toNat → (∀ x ∈ l, Kd x) → Dr (t + 10) s → Q (.tup l) s) : Ok (m__law_names [.ref 1, .int n] st) Q := by
  have big := big
  have al := alen
  unfold m__law_names b__law_names
  try walk_at "ok"
  refine nx h (by omega) _ (by omega) (by omega) fun r s a b h => ?_
  refine ⟨r, rfl, by omega, by rw [rngL_len]; omega, ?_⟩
  refine lc_rg_all (fun k s => Dr (t + 1 + k) s) (fun x => ∃ z, x = .str z ∧ (z.length = 1 ∧ Plain z)) (fun i s hi h => ?_) (by simpa using h) (fun l s h hl hR => ?_)
  · try walk_at "ok"
    refine nx h (by omega) _ (by omega) (by omega) fun j s a b h => ?_
    try walk_at "ok"
    obtain ⟨c, hc, cm⟩ := atI_in (l := (Str.ofString "abcdefghijklmnopqrstuvwxyz").cps.toList) (i := j) a (by rw [Array.length_toList]; exact b)
    refine ⟨by omega, c, hc, ⟨_, rfl, rfl, ?_⟩, ?_⟩
    · intro x hx
      have : x = c := by simpa using hx
      subst this
      exact letters_plain _ cm
    · exact h.le (by omega)
  obtain ⟨ys, rfl, hy⟩ := strs_of hR
  rw [List.length_map] at hl
  have hy0 : ∀ y ∈ ys, y.length = 1 := fun y h => (hy y h).1
  have hy1 : (ys.map fun x => x.length).sum = ys.length := by
    clear hl hR hy
    induction ys with
    | nil => rfl
    | cons y ys ih =>
      rw [List.map_cons, List.sum_cons, ih fun r hr => hy0 r (List.mem_cons_of_mem _ hr), hy0 y (List.mem_cons_self ..), List.length_cons]; omega
  have hz0 : (Str.ofString "").length = 0 := by decide
  refine ⟨_, ys, rfl, strsD_map ys, by rw [hy1, hz0]; omega, ?_⟩
  have hst : (Txt.join (Str.ofString "") ys).length = ys.length := PySem.W.KT.join_ones ys hy0
  have hpl : Plain (Txt.join (Str.ofString "") ys) := plain_join fun z hz => (hy z hz).2
  generalize Txt.join (Str.ofString "") ys = stem at hst hpl
  try walk_at "ok"
  refine ⟨by omega, ?_⟩
  refine nx h (by omega) _ (by omega) (by omega) fun f s f0 f1 h => ?_
  refine nx h (by omega) _ (by omega) (by omega) fun w s w0 w1 h => ?_
  try walk_at "ok"
  refine ⟨by omega, n, rfl, by omega, by rw [rngL_len]; omega, ?_⟩
  have h : Dr (t + 10) s := h.le (by omega)
  refine lc_rg_all (fun _ s => Dr (t + 10) s) (fun x => Kd x) (fun i s hi h => ?_) h (fun l s h hl2 hR => ?_)
  · try walk_at "ok"
    obtain ⟨c, hc, cm⟩ := atI_in (l := (Str.ofString "abcdefghijklmnopqrstuvwxyz").cps.toList) (i := (w + 5 * (0 + (i : Int))) % 26) (Int.emod_nonneg _ (by decide)) (by rw [Array.length_toList]; show _ < ((Str.ofString "abcdefghijklmnopqrstuvwxyz").length : Int); rw [al]; exact Int.emod_lt_of_pos _ (by decide))
    have c1 := len_cut (x := stem) none (some f)
    have c2 := len_cut (x := stem) (some f) none
    have hc1 : Plain ⟨#[c]⟩ := by
      intro x hx
      have : x = c := by simpa using hx
      subst this
      exact letters_plain _ cm
    have l1 : (Str.mk #[c]).length = 1 := rfl
    refine ⟨by omega, mulOk_l (by decide), by decide, by omega, c, hc, by omega, by omega, by rw [len_app]; omega, ⟨_, rfl, plain_app (plain_app (plain_cut hpl _ _) hc1) (plain_cut hpl _ _), ?_⟩, h⟩
    rw [len_app, len_app]; omega
  · obtain ⟨zs, e, _⟩ := strs_of (P := fun _ => True) fun x hx => let ⟨z, h1, _⟩ := hR x hx; ⟨z, h1, trivial⟩
    subst e
    rw [List.length_map] at hl2
    rw [ok_sorted rfl (sort_strs zs (by omega)), ok_tuple_lst]
    refine k _ s (by rw [List.length_mergeSort, List.length_map]; exact hl2) (fun x hx => hR x (List.mem_mergeSort.mp hx)) h
end K36


set_option maxHeartbeats 4000000
set_option maxRecDepth 100000
set_option pp.maxSteps 1500
namespace K36
open PySem L2 DL
local macro_rules | `(tactic| walk_at "ok") => `(tactic| simp only [ok_fnM, ok_some, ok_none, ok_eC, ok_eVar0, ok_eVarS, ok_eBin, ok_eUn, ok_eB, boolK_bl, intK_int, ok_eAnd, ok_eOr, ok_eNot, ok_bAnd, ok_bOr, ok_bNot, ok_eIf, ok_aNil, ok_aCons, ok_eTup, ok_cLst, ok_eFz, ok_eNw, ok_eCall, ok_oNone, ok_oSome, ok_eSl,
  ok_add, ok_sub, ok_mul, ok_mod, ok_div, ok_pow, ok_neg, ok_eq_int, ok_ne_int, ok_eq_str, ok_ne_str, ok_eq_bl, ok_ne_bl, ok_ord, ok_is, ok_isNot, ok_ix_tup, ok_ix_lst, ok_ix_ref0, ok_ix_ref1, ok_ix_str, ok_len_tup, ok_len_lst, ok_len_scr, ok_len_str, ok_list_tup, ok_list_lst, ok_tuple_lst, ok_tuple_tup, ok_int_int, ok_int_bl, ok_min2, ok_max2, ok_isa, ok_bTrue, wipeD, ok_add_str, ok_add_lst, ok_add_tup, ok_mul_lst, ok_sl_lst, ok_sl_tup, ok_sl_scr, ok_sl_str, ok_chain, ok_cLrg, ok_join, ok_cLc, ok_sFor, ok_iSq, srcK_tup, srcK_lst, ok_rev, ok_ne_nil0, ok_ne_cons, ok_pop0, ok_abs, ok_iRg1, ok_iRg2,
  ok_sSq, seqK_nx, seqK_rt, seqK_bk, seqK_ct, ok_sNx, ok_sBk, ok_sCt, ok_sRt, ok_sRtN, ok_sEx, ok_sIf, ok_sAs, ok_sPar, ok_bNm, ok_bNil, ok_bCons, ok_bSeq_tup, ok_bSeq_ref1, ok_bSub, subK_ref0, subK_ref1, atI0, atI1, atI2, atI3, atI4, atI_map, atK_map, List.length_map, fnK_rt, fnK_nx, set0, setS, atK_some,
  List.length_cons, List.length_nil, List.map_cons, List.map_nil, List.cons_append, List.nil_append, List.replicate, Nat.reduceAdd, Nat.reduceSub, true_and, and_true, ↓reduceIte, decide_eq_true_eq, Bool.false_eq_true, if_false, if_true, Bool.not_true, Bool.not_false])

def In1 (n : Int) (x : D) : Prop := ∃ i : Int, x = .int i ∧ 0 ≤ i ∧ i ≤ n
def Src1 (x : D) : Prop := ∃ kd a b c d, x = .tup [kd, a, b, c, d] ∧ Kd kd ∧ In1 1000000 a ∧ In1 1000000 b ∧ In1 1000000 c ∧ In1 1000000 d
def Part1 (x : D) : Prop := ∃ kd lo hi, x = .tup [kd, .int lo, .int hi] ∧ Kd kd ∧ 0 ≤ lo ∧ lo ≤ 20 ∧ 0 ≤ hi ∧ hi ≤ 20
def Way1 (x : D) : Prop := ∃ kd parts keeps hours wait, x = .tup [kd, .tup parts, keeps, .tup hours, wait] ∧ Kd kd ∧ (∀ y ∈ parts, Part1 y) ∧ parts.length ≤ 3 ∧ Kd keeps ∧ (∀ y ∈ hours, In1 6 y) ∧ hours.length ≤ 6 ∧ In1 6 wait
def World1 (x : D) : Prop := ∃ size kinds sources ways, x = .tup [size, .tup kinds, .tup sources, .tup ways] ∧ In1 6 size ∧ (∀ y ∈ kinds, Kd y) ∧ kinds.length ≤ 4 ∧ (∀ y ∈ sources, Src1 y) ∧ sources.length ≤ 3 ∧ (∀ y ∈ ways, Way1 y) ∧ ways.length ≤ 4
theorem pick2 {x : D} {l : List D} {P : D → Prop} (xm : x ∈ l) (h : ∀ y ∈ l, P y) : P x := h x xm
theorem source_run {t : Int} {st : Sto} {Q : D → Sto → Prop} (h : Dr t st) (ht : t < 2 ^ 24) (size since : Int) (hs : 0 < size) (hs2 : size ≤ 6) (hn : 0 ≤ since) (hn2 : since ≤ 1000000) (kinds : List D) (hk : 0 < kinds.length) (hk2 : kinds.length ≤ 4) (hkd : ∀ x ∈ kinds, Kd x)
    (k : ∀ x s, Src1 x → Dr (t + 9) s → Q x s) : Ok (m__law_source [.ref 1, .int size, .tup kinds, .int since] st) Q := by
  have big := big
  unfold m__law_source b__law_source
  try walk_at "ok"
  refine nx h (by omega) _ (by omega) (by omega) fun r1 s a1 b1 h => ?_
  refine nx h (by omega) _ (by omega) (by omega) fun r2 s a2 b2 h => ?_
  refine ⟨by omega, ?_⟩
  refine nx h (by omega) _ (by omega) (by omega) fun r3 s a3 b3 h => ?_
  try walk_at "ok"
  obtain ⟨x, hx, xm⟩ := atI_in (l := [D.int 0, D.int r1, D.int r2]) (i := r3) a3 (by simpa using b3)
  have hx1 : In1 1000000 x := by
    simp only [List.mem_cons, List.not_mem_nil, or_false] at xm
    rcases xm with rfl | rfl | rfl <;> exact ⟨_, rfl, by omega, by omega⟩
  refine ⟨_, hx, ?_⟩
  refine nx h (by omega) _ (by omega) (by omega) fun r4 s a4 b4 h => ?_
  try walk_at "ok"
  refine nx h (by omega) _ (by omega) (by omega) fun r5 s a5 b5 h => ?_
  refine ⟨by omega, ?_⟩
  refine nx h (by omega) _ (by omega) (by omega) fun r6 s a6 b6 h => ?_
  try walk_at "ok"
  obtain ⟨y, hy, ym⟩ := atI_in (l := [D.int 0, D.int r4, D.int r5]) (i := r6) a6 (by simpa using b6)
  have hy1 : In1 1000000 y := by
    simp only [List.mem_cons, List.not_mem_nil, or_false] at ym
    rcases ym with rfl | rfl | rfl <;> exact ⟨_, rfl, by omega, by omega⟩
  refine ⟨_, hy, ?_⟩
  refine nx h (by omega) _ (by omega) (by omega) fun r7 s a7 b7 h => ?_
  try walk_at "ok"
  obtain ⟨z, hz, zm⟩ := atI_in (l := kinds) (i := r7) a7 b7
  refine ⟨_, hz, ?_⟩
  refine nx h (by omega) _ (by omega) (by omega) fun r8 s a8 b8 h => ?_
  refine nx h (by omega) _ (by omega) (by omega) fun r9 s a9 b9 h => ?_
  try walk_at "ok"
  exact ⟨by omega, k _ s ⟨_, _, _, _, _, rfl, hkd z zm, hx1, ⟨_, rfl, by omega, by omega⟩, hy1, ⟨_, rfl, by omega, by omega⟩⟩ (h.le (by omega))⟩
theorem part_run {t : Int} {st : Sto} {Q : D → Sto → Prop} (h : Dr t st) (ht : t < 2 ^ 24) (kinds : List D) (hk : 0 < kinds.length) (hk2 : kinds.length ≤ 4) (hkd : ∀ x ∈ kinds, Kd x)
    (k : ∀ x s, Part1 x → Dr (t + 7) s → Q x s) : Ok (m__law_part [.ref 1, .tup kinds] st) Q := by
  have big := big
  unfold m__law_part b__law_part
  try walk_at "ok"
  refine nx h (by omega) _ (by omega) (by omega) fun r1 s a1 b1 h => ?_
  refine nx h (by omega) _ (by omega) (by omega) fun r2 s a2 b2 h => ?_
  refine ⟨by omega, ?_⟩
  refine nx h (by omega) _ (by omega) (by omega) fun r3 s a3 b3 h => ?_
  try walk_at "ok"
  obtain ⟨x, hx, xm⟩ := atI_in (l := [D.int 0, D.int r1, D.int r2]) (i := r3) a3 (by simpa using b3)
  have hx1 : In1 20 x := by
    simp only [List.mem_cons, List.not_mem_nil, or_false] at xm
    rcases xm with rfl | rfl | rfl <;> exact ⟨_, rfl, by omega, by omega⟩
  obtain ⟨lo, rfl, l0, l1⟩ := hx1
  refine ⟨_, hx, ?_⟩
  refine nx h (by omega) _ (by omega) (by omega) fun r4 s a4 b4 h => ?_
  refine nx h (by omega) _ (by omega) (by omega) fun r5 s a5 b5 h => ?_
  refine ⟨by omega, ?_⟩
  refine nx h (by omega) _ (by omega) (by omega) fun r6 s a6 b6 h => ?_
  try walk_at "ok"
  obtain ⟨y, hy, ym⟩ := atI_in (l := [D.int r4, D.int r5, D.int 20]) (i := r6) a6 (by simpa using b6)
  have hy1 : In1 20 y := by
    simp only [List.mem_cons, List.not_mem_nil, or_false] at ym
    rcases ym with rfl | rfl | rfl <;> exact ⟨_, rfl, by omega, by omega⟩
  obtain ⟨up, rfl, u0, u1⟩ := hy1
  refine ⟨_, hy, ?_⟩
  try walk_at "ok"
  refine nx h (by omega) _ (by omega) (by omega) fun r7 s a7 b7 h => ?_
  try walk_at "ok"
  obtain ⟨z, hz, zm⟩ := atI_in (l := kinds) (i := r7) a7 b7
  refine ⟨_, hz, by omega, k _ s ⟨_, _, _, rfl, hkd z zm, l0, l1, ?_, ?_⟩ (h.le (by omega))⟩
  · split <;> omega
  · split <;> omega
end K36


set_option maxHeartbeats 4000000
set_option maxRecDepth 100000
set_option pp.maxSteps 1500
namespace K36
open PySem L2 DL
local macro_rules | `(tactic| walk_at "ok") => `(tactic| simp only [ok_fnM, ok_some, ok_none, ok_eC, ok_eVar0, ok_eVarS, ok_eBin, ok_eUn, ok_eB, boolK_bl, intK_int, ok_eAnd, ok_eOr, ok_eNot, ok_bAnd, ok_bOr, ok_bNot, ok_eIf, ok_aNil, ok_aCons, ok_eTup, ok_cLst, ok_eFz, ok_eNw, ok_eCall, ok_oNone, ok_oSome, ok_eSl,
  ok_add, ok_sub, ok_mul, ok_mod, ok_div, ok_pow, ok_neg, ok_eq_int, ok_ne_int, ok_eq_str, ok_ne_str, ok_eq_bl, ok_ne_bl, ok_ord, ok_is, ok_isNot, ok_ix_tup, ok_ix_lst, ok_ix_ref0, ok_ix_ref1, ok_ix_str, ok_len_tup, ok_len_lst, ok_len_scr, ok_len_str, ok_list_tup, ok_list_lst, ok_tuple_lst, ok_tuple_tup, ok_int_int, ok_int_bl, ok_min2, ok_max2, ok_isa, ok_bTrue, wipeD, ok_add_str, ok_add_lst, ok_add_tup, ok_mul_lst, ok_sl_lst, ok_sl_tup, ok_sl_scr, ok_sl_str, ok_chain, ok_cLrg, ok_join, ok_cLc, ok_sFor, ok_iSq, srcK_tup, srcK_lst, ok_rev, ok_ne_nil0, ok_ne_cons, ok_pop0, ok_abs, ok_iRg1, ok_iRg2,
  ok_sSq, seqK_nx, seqK_rt, seqK_bk, seqK_ct, ok_sNx, ok_sBk, ok_sCt, ok_sRt, ok_sRtN, ok_sEx, ok_sIf, ok_sAs, ok_sPar, ok_bNm, ok_bNil, ok_bCons, ok_bSeq_tup, ok_bSeq_ref1, ok_bSub, subK_ref0, subK_ref1, atI0, atI1, atI2, atI3, atI4, atI_map, atK_map, List.length_map, fnK_rt, fnK_nx, set0, setS, atK_some,
  List.length_cons, List.length_nil, List.map_cons, List.map_nil, List.cons_append, List.nil_append, List.replicate, Nat.reduceAdd, Nat.reduceSub, true_and, and_true, ↓reduceIte, decide_eq_true_eq, Bool.false_eq_true, if_false, if_true, Bool.not_true, Bool.not_false])

theorem way_run {t : Int} {st : Sto} {Q : D → Sto → Prop} (h : Dr t st) (ht : t < 2 ^ 24 - 100) (size : Int) (hs : 0 < size) (hs2 : size ≤ 6) (kinds : List D) (hk : 0 < kinds.length) (hk2 : kinds.length ≤ 4) (hkd : ∀ x ∈ kinds, Kd x)
    (k : ∀ x s, Way1 x → Dr (t + 40) s → Q x s) : Ok (m__law_way [.ref 1, .int size, .tup kinds] st) Q := by
  have big := big
  unfold m__law_way b__law_way
  try walk_at "ok"
  refine ⟨by omega, ?_⟩
  refine nx h (by omega) _ (by omega) (by omega) fun r1 s a1 b1 h => ?_
  try walk_at "ok"
  obtain ⟨x, hx, xm⟩ := atI_in (l := [D.int 1, D.int 2, D.int 2, D.int 3]) (i := r1) a1 (by simpa using b1)
  have hx2 : ∃ n : Int, x = .int n ∧ 0 < n ∧ n ≤ 3 := by
    simp only [List.mem_cons, List.not_mem_nil, or_false] at xm
    rcases xm with rfl | rfl | rfl | rfl <;> exact ⟨_, rfl, by omega, by omega⟩
  obtain ⟨n, rfl, n0, n1⟩ := hx2
  refine ⟨_, hx, n, rfl, by omega, by rw [rngL_len]; omega, ?_⟩
  refine lc_rg_all (fun i s => Dr (t + 1 + 7 * i) s) (fun x => Part1 x) (fun i s hi h => ?_) (by simpa using h) (fun parts s h pl hP => ?_)
  · try walk_at "ok"
    refine part_run h (by omega) kinds hk hk2 hkd fun x s hx h => ⟨hx, ?_⟩
    refine h.le (by rw [Int.natCast_add]; omega)
  try walk_at "ok"
  have h : Dr (t + 22) s := h.le (by omega)
  refine ⟨size, rfl, by omega, by rw [rngL_len]; omega, ?_⟩
  refine lc_rg_any (fun i s => Dr (t + 22 + i) s) (fun x => In1 6 x) (fun i s hi h => ?_) (by simpa using h) (fun hours s h hl hR => ?_)
  · try walk_at "ok"
    refine nx h (by omega) _ (by omega) (by omega) fun r s a b h => ?_
    try walk_at "ok"
    have h : Dr (t + 22 + (i + 1 : Nat)) s := h.le (by omega)
    split
    · exact ⟨⟨_, rfl, by omega, by omega⟩, h⟩
    · exact h
  have h : Dr (t + 28) s := h.le (by omega)
  try walk_at "ok"
  refine ⟨by omega, ?_⟩
  refine nx h (by omega) _ (by omega) (by omega) fun r2 s a2 b2 h => ?_
  try walk_at "ok"
  obtain ⟨y, hy, ym⟩ := atI_in (l := [D.str (Str.ofString "oldest"), D.str (Str.ofString "youngest")]) (i := r2) a2 (by simpa using b2)
  have hy1 : Kd y := by
    simp only [List.mem_cons, List.not_mem_nil, or_false] at ym
    have pl : ∀ z : Str, (z.cps.toList.all fun c => decide (c < 128)) = true → Plain z := fun z h c hc => of_decide_eq_true (List.all_eq_true.mp h c hc)
    rcases ym with rfl | rfl
    · exact ⟨_, rfl, pl _ (by decide +kernel), by decide +kernel⟩
    · exact ⟨_, rfl, pl _ (by decide +kernel), by decide +kernel⟩
  refine ⟨_, hy, ?_⟩
  refine nx h (by omega) _ (by omega) (by omega) fun r3 s a3 b3 h => ?_
  try walk_at "ok"
  obtain ⟨z, hz, zm⟩ := atI_in (l := kinds) (i := r3) a3 b3
  refine ⟨_, hz, by omega, ?_⟩
  refine nx h (by omega) _ (by omega) (by omega) fun r4 s a4 b4 h => ?_
  try walk_at "ok"
  obtain ⟨w, hw, wm⟩ := atI_in (l := [D.int 2, D.int 6]) (i := r4) a4 (by simpa using b4)
  have hw2 : ∃ n : Int, w = .int n ∧ 0 < n ∧ n ≤ 6 := by
    simp only [List.mem_cons, List.not_mem_nil, or_false] at wm
    rcases wm with rfl | rfl <;> exact ⟨_, rfl, by omega, by omega⟩
  obtain ⟨wn, rfl, w0, w1⟩ := hw2
  refine ⟨_, hw, ?_⟩
  refine nx h (by omega) _ (by omega) (by omega) fun r5 s a5 b5 h => ?_
  try walk_at "ok"
  exact ⟨by omega, k _ s ⟨_, _, _, _, _, rfl, hkd z zm, hP, by omega, hy1, hR, by omega, ⟨_, rfl, by omega, by omega⟩⟩ (h.le (by omega))⟩
theorem world_run {t : Int} {st : Sto} {Q : D → Sto → Prop} (h : Dr t st) (ht : t < 2 ^ 24 - 1000) (size since : Int) (hs : 0 < size) (hs2 : size ≤ 6) (hn : 0 ≤ since) (hn2 : since ≤ 1000000)
    (k : ∀ x s, World1 x → Dr (t + 250) s → Q x s) : Ok (m__law_world [.ref 1, .int size, .int 4, .int since] st) Q := by
  have big := big
  unfold m__law_world b__law_world
  try walk_at "ok"
  refine nx h (by omega) _ (by omega) (by omega) fun r2 s a2 b2 h => ?_
  try walk_at "ok"
  refine names_run h (by omega) _ (by omega) (by omega) fun kinds s kl hkd h => ?_
  refine ⟨by omega, ?_⟩
  refine nx h (by omega) _ (by omega) (by omega) fun r3 s a3 b3 h => ?_
  try walk_at "ok"
  refine ⟨⟨by decide, by decide +kernel⟩, ?_⟩
  obtain ⟨x, hx, xm⟩ := atI_in (l := [D.int 1, D.int 2, D.int 3, D.int 0]) (i := if r3 / 5 < 3 then r3 / 5 else 3) (by split <;> omega) (by simp; split <;> omega)
  have hx2 : ∃ n : Int, x = .int n ∧ 0 ≤ n ∧ n ≤ 3 := by
    simp only [List.mem_cons, List.not_mem_nil, or_false] at xm
    rcases xm with rfl | rfl | rfl | rfl <;> exact ⟨_, rfl, by omega, by omega⟩
  obtain ⟨n, rfl, n0, n1⟩ := hx2
  refine ⟨_, hx, n, rfl, by omega, by rw [rngL_len]; omega, ?_⟩
  refine lc_rg_all (fun i s => Dr (t + 12 + 9 * i) s) (fun x => Src1 x) (fun i s hi h => ?_) (h.le (by omega)) (fun sources s h sl hS => ?_)
  · try walk_at "ok"
    refine source_run h (by omega) _ _ hs hs2 hn hn2 kinds (by omega) (by omega) hkd fun x s hx h => ⟨hx, ?_⟩
    refine h.le (by rw [Int.natCast_add]; omega)
  have h : Dr (t + 39) s := h.le (by omega)
  try walk_at "ok"
  refine nx h (by omega) _ (by omega) (by omega) fun r4 s a4 b4 h => ?_
  refine ⟨r4, rfl, by omega, by rw [rngL_len]; omega, ?_⟩
  refine lc_rg_all (fun i s => Dr (t + 40 + 40 * i) s) (fun x => Way1 x) (fun i s hi h => ?_) (by simpa using h.le (by omega)) (fun ways s h wl hW => ?_)
  · try walk_at "ok"
    refine way_run h (by omega) _ hs hs2 kinds (by omega) (by omega) hkd fun x s hx h => ⟨hx, ?_⟩
    refine h.le (by rw [Int.natCast_add]; omega)
  have h : Dr (t + 250) s := h.le (by omega)
  try walk_at "ok"
  exact ⟨by omega, k _ s ⟨_, _, _, _, rfl, ⟨_, rfl, by omega, hs2⟩, hkd, by omega, hS, by omega, hW, by omega⟩ h⟩
end K36


set_option maxHeartbeats 4000000
set_option maxRecDepth 100000
set_option pp.maxSteps 1500
namespace K36
open PySem L2 DL
local macro_rules | `(tactic| walk_at "ok") => `(tactic| simp only [ok_fnM, ok_some, ok_none, ok_eC, ok_eVar0, ok_eVarS, ok_eBin, ok_eUn, ok_eB, boolK_bl, intK_int, ok_eAnd, ok_eOr, ok_eNot, ok_bAnd, ok_bOr, ok_bNot, ok_eIf, ok_aNil, ok_aCons, ok_eTup, ok_cLst, ok_eFz, ok_eNw, ok_eCall, ok_oNone, ok_oSome, ok_eSl,
  ok_add, ok_sub, ok_mul, ok_mod, ok_div, ok_pow, ok_neg, ok_eq_int, ok_ne_int, ok_eq_str, ok_ne_str, ok_eq_bl, ok_ne_bl, ok_ord, ok_is, ok_isNot, ok_ix_tup, ok_ix_lst, ok_ix_ref0, ok_ix_ref1, ok_ix_str, ok_len_tup, ok_len_lst, ok_len_scr, ok_len_str, ok_list_tup, ok_list_lst, ok_tuple_lst, ok_tuple_tup, ok_int_int, ok_int_bl, ok_min2, ok_max2, ok_isa, ok_bTrue, wipeD, ok_add_str, ok_add_lst, ok_add_tup, ok_mul_lst, ok_sl_lst, ok_sl_tup, ok_sl_scr, ok_sl_str, ok_chain, ok_cLrg, ok_join, ok_cLc, ok_sFor, ok_iSq, srcK_tup, srcK_lst, ok_rev, ok_ne_nil0, ok_ne_cons, ok_pop0, ok_abs, ok_iRg1, ok_iRg2,
  ok_sSq, seqK_nx, seqK_rt, seqK_bk, seqK_ct, ok_sNx, ok_sBk, ok_sCt, ok_sRt, ok_sRtN, ok_sEx, ok_sIf, ok_sAs, ok_sPar, ok_bNm, ok_bNil, ok_bCons, ok_bSeq_tup, ok_bSeq_ref1, ok_bSub, subK_ref0, subK_ref1, atI0, atI1, atI2, atI3, atI4, atI_map, atK_map, List.length_map, fnK_rt, fnK_nx, set0, setS, atK_some,
  List.length_cons, List.length_nil, List.map_cons, List.map_nil, List.cons_append, List.nil_append, List.replicate, Nat.reduceAdd, Nat.reduceSub, true_and, and_true, ↓reduceIte, decide_eq_true_eq, Bool.false_eq_true, if_false, if_true, Bool.not_true, Bool.not_false])

def items : D → List D
  | .tup l => l
  | _ => []
theorem closedDs_of {n : Nat} : ∀ {l : List D}, (∀ x ∈ l, closedD n x = true) → closedDs n l = true
  | [], _ => rfl
  | d :: l, h => by
    show (closedD n d && closedDs n l) = true
    rw [h d (List.mem_cons_self ..), closedDs_of fun x hx => h x (List.mem_cons_of_mem _ hx)]; rfl
theorem closed_kd {n : Nat} {x : D} (h : Kd x) : closedD n x = true := by obtain ⟨z, rfl, _⟩ := h; rfl
theorem closed_in {n : Nat} {m : Int} {x : D} (h : In1 m x) : closedD n x = true := by obtain ⟨z, rfl, _⟩ := h; rfl
theorem closed_part {n : Nat} {x : D} (h : Part1 x) : closedD n x = true := by
  obtain ⟨kd, lo, hi, rfl, h1, _⟩ := h
  show (closedD n kd && (true && (true && true))) = true
  rw [closed_kd h1]; rfl
theorem closed_dr {t : Int} {st : Sto} (h : Dr t st) : st.length = 2 ∧ st.all (closedO 2) = true := by
  obtain ⟨a, b, turn, rfl, _⟩ := h
  have hint : ∀ l : List Int, closedDs 2 (l.map D.int) = true := fun l => closedDs_of fun x hx => by obtain ⟨i, _, rfl⟩ := List.mem_map.mp hx; rfl
  refine ⟨rfl, ?_⟩
  show (closedDs 2 (a.map D.int) && ((true && (closedDs 2 (b.map D.int) && (true && true))) && true)) = true
  rw [hint, hint]; rfl
theorem ok_tuple_ref {n : Nat} {l : List D} {s : Sto} {QD : D → Sto → Prop} (h : s[n]? = some (.lst l)) : Ok (fn1 tupM [.ref n] s) QD ↔ QD (.tup l) s := by
  have e : fn1 tupM [.ref n] s = some (.tup l, s) := by
    unfold fn1 tupM seqD dr
    dsimp only
    rw [h]
    rfl
  rw [e, ok_some]
theorem with_run {t : Int} {st : Sto} {Q : D → Sto → Prop} (h : Dr t st) {kd keeps wait : D} {parts hours : List D} {p : Nat} {high : Int} {pk : D} {lo hi : Int}
    (hkd : Kd kd) (hP : ∀ y ∈ parts, Part1 y) (hl : parts.length ≤ 3) (hke : Kd keeps) (hH : ∀ y ∈ hours, In1 6 y) (hw : In1 6 wait) (hp : parts[p]? = some (.tup [pk, .int lo, .int hi]))
    (k : Q (.tup [kd, .tup (parts.set p (.tup [pk, .int lo, .int high])), keeps, .tup hours, wait]) st) : Ok (m__law_with [.tup [kd, .tup parts, keeps, .tup hours, wait], .int p, .int high] st) Q := by
  have big := big
  obtain ⟨ln, cl⟩ := closed_dr h
  have pl : p < parts.length := (List.getElem?_eq_some_iff.mp hp).1
  unfold m__law_with
  refine ok_cutM ?_
  unfold b__law_with
  try walk_at "ok"
  refine ⟨by omega, ?_⟩
  refine ok_lc_all (fun k s => s = st ++ (parts.take k).map fun x => Ob.lst (items x)) (fun k x => x = .ref (st.length + k)) (fun k d s hd hj => ?_) (by simp) (fun l s hj hl2 hR => ?_)
  · subst hj
    obtain ⟨pk', lo', hi', rfl, _⟩ := hP d (List.mem_of_getElem? hd)
    have kl : k < parts.length := (List.getElem?_eq_some_iff.mp hd).1
    try walk_at "ok"
    refine ⟨[pk', .int lo', .int hi'], st ++ (parts.take k).map (fun x => Ob.lst (items x)), rfl, ?_, ?_⟩
    · show D.ref _ = D.ref _
      rw [List.length_append, List.length_map, List.length_take]
      congr 2
      omega
    · rw [List.append_assoc]
      congr 1
      rw [List.take_add_one, hd]
      simp [items]
  rw [List.take_of_length_le (Nat.le_refl _)] at hj
  subst hj
  have hlp : l[p]? = some (.ref (st.length + p)) := by
    have := List.getElem?_eq_getElem (l := l) (i := p) (by omega)
    rw [this, hR p _ this]
  try walk_at "ok"
  have new : Part1 (.tup [pk, .int lo, .int hi]) := hP _ (List.mem_of_getElem? hp)
  have all : ∀ y ∈ parts.set p (.tup [pk, .int lo, .int high]), ∃ q, y = .tup q ∧ closedDs 2 q = true := by
    intro y hy
    rcases List.mem_or_eq_of_mem_set hy with hy | rfl
    · obtain ⟨a, b, c, rfl, h1, _⟩ := hP y hy
      refine ⟨_, rfl, ?_⟩
      show (closedD 2 a && (true && (true && true))) = true
      rw [closed_kd h1]; rfl
    · obtain ⟨a, b, c, e, h1, _⟩ := new
      cases e
      refine ⟨_, rfl, ?_⟩
      show (closedD 2 pk && (true && (true && true))) = true
      rw [closed_kd h1]; rfl
  have upd : (st ++ parts.map fun x => Ob.lst (items x)).set (st.length + p) (.lst ([pk, .int lo, .int hi].set 2 (.int high))) = st ++ (parts.set p (.tup [pk, .int lo, .int high])).map fun x => Ob.lst (items x) := by
    rw [List.set_append_right _ _ (by omega), Nat.add_sub_cancel_left, List.map_set]
    rfl
  refine ⟨_, atI_of hlp rfl, st.length + p, 2, [pk, .int lo, .int hi], 2, rfl, rfl, ?_, (by decide : ixN 3 2 = some 2), ?_⟩
  · rw [List.getElem?_append_right (by omega), Nat.add_sub_cancel_left, List.getElem?_map, hp]
    rfl
  rw [upd]
  generalize hps : parts.set p (.tup [pk, .int lo, .int high]) = ps at *
  have lps : ps.length = parts.length := by rw [← hps, List.length_set]
  try walk_at "ok"
  refine ⟨by omega, ?_⟩
  refine ok_lc_all (fun _ s => s = st ++ ps.map fun x => Ob.lst (items x)) (fun k x => ps[k]? = some x) (fun k d s hd hj => ?_) rfl (fun l2 s hj hl3 hR2 => ?_)
  · subst hj
    have kl : k < l.length := (List.getElem?_eq_some_iff.mp hd).1
    have ed := hR k d hd
    subst ed
    have hk : ps[k]? = some ps[k] := List.getElem?_eq_getElem (by omega)
    obtain ⟨q, hq, _⟩ := all _ (List.mem_of_getElem? hk)
    try walk_at "ok"
    rw [ok_tuple_ref (l := q) (by rw [List.getElem?_append_right (by omega), Nat.add_sub_cancel_left, List.getElem?_map, hk, hq]; rfl)]
    exact ⟨by rw [hk, hq], rfl⟩
  subst hj
  have el2 : l2 = ps := by
    apply List.ext_getElem?
    intro k
    by_cases hk : k < l2.length
    · have h1 := List.getElem?_eq_getElem hk
      rw [h1, hR2 k _ h1]
    · rw [List.getElem?_eq_none_iff.mpr (by omega), List.getElem?_eq_none_iff.mpr (by omega)]
  subst el2
  try walk_at "ok"
  have ec : cutL [kd, D.tup parts, keeps, D.tup hours, wait] (some 2) none = [keeps, D.tup hours, wait] := rfl
  rw [ec, List.take_left, ln]
  refine ⟨by omega, by show 5 ≤ sizeLine; omega, ?_, cl, k⟩
  show (closedD 2 kd && (closedDs 2 l2 && (closedD 2 keeps && (closedDs 2 hours && (closedD 2 wait && true))))) = true
  rw [closed_kd hkd, closed_kd hke, closed_in hw, closedDs_of fun x hx => closed_in (hH x hx), closedDs_of fun x hx => by
    obtain ⟨q, rfl, hq⟩ := all x hx
    exact hq]
  rfl
theorem mem_cut {l : List D} {lo hi : Option Int} {x : D} (h : x ∈ cutL l lo hi) : x ∈ l := List.mem_of_mem_drop (List.mem_of_mem_take h)
theorem len_cutL {l : List D} {lo hi : Option Int} : (cutL l lo hi).length ≤ l.length := by
  unfold cutL
  rw [List.length_take, List.length_drop]
  omega
/-- l without its kth -/
def outD (l : List D) (k : Int) : D := .tup (cutL l none (some k) ++ cutL l (some (k + 1)) none)
theorem left_run {st : Sto} {Q : D → Sto → Prop} {l : List D} {k : Int} (hl : l.length ≤ 1000) (q : Q (outD l k) st) : Ok (m_left_out [.tup l, .int k] st) Q := by
  have big := big
  have c1 := len_cutL (l := l) (lo := none) (hi := some k)
  have c2 := len_cutL (l := l) (lo := some (k + 1)) (hi := none)
  unfold m_left_out b_left_out
  try walk_at "ok"
  exact ⟨by omega, q⟩
theorem without_s {st : Sto} {Q : D → Sto → Prop} {a b : D} {l : List D} {w : D} {k : Int} (hl : l.length ≤ 1000) (q : Q (.tup [a, b, outD l k, w]) st) : Ok (m_without [.tup [a, b, .tup l, w], .str "source", .int k] st) Q := by
  have big := big
  unfold m_without b_without
  try walk_at "ok"
  refine left_run hl ?_
  exact ⟨by omega, q⟩
theorem without_w {st : Sto} {Q : D → Sto → Prop} {a b : D} {l : List D} {w : D} {k : Int} (hl : l.length ≤ 1000) (q : Q (.tup [a, b, w, outD l k]) st) : Ok (m_without [.tup [a, b, w, .tup l], .str "way", .int k] st) Q := by
  have big := big
  have ne : ¬ ((("way" : String) : Str) = (("source" : String) : Str)) := by decide
  unfold m_without b_without
  try walk_at "ok"
  rw [if_neg ne]
  refine left_run hl ?_
  exact ⟨by omega, q⟩
theorem lc_rg_map {n : Nat} {lo : Int} {t : EM Bool} {g : BM} {el : EM D} {ρ : En} {st : Sto} {QL : List D → Sto → Prop} (f : Nat → D)
    (turn : ∀ k : Nat, k < n → Ok (g (.int (lo + (k : Nat))) ρ st) fun ρ' s1 => s1 = st ∧ Ok (t ρ' st) fun c s2 => c = true ∧ s2 = st ∧ Ok (el ρ' st) fun x s3 => x = f k ∧ s3 = st)
    (hq : QL ((List.range n).map f) st) : Ok (lcL [] g t el ρ (rngL lo n) st) QL := by
  refine ⟨_, st, lc_map (fun d => match d with | .int i => f (i - lo).toNat | d => d) fun d hd => ?_, ?_⟩
  · unfold rngL at hd
    obtain ⟨k, hk, rfl⟩ := List.mem_map.mp hd
    have := turn k (List.mem_range.mp hk)
    dsimp only
    rw [show (lo + (k : Int) - lo).toNat = k by omega]
    exact this
  · unfold rngL
    rw [List.map_map]
    have e : ((fun d : D => match d with | .int i => f (i - lo).toNat | d => d) ∘ fun i : Nat => D.int (lo + (i : Int))) = f := by
      funext k
      show f (lo + (k : Int) - lo).toNat = f k
      rw [show (lo + (k : Int) - lo).toNat = k by omega]
    rw [e]
    exact hq
theorem lines_run {st : Sto} {Q : D → Sto → Prop} {l : List D} (hl : l.length ≤ 1000) (q : Q (.lst ((List.range l.length).map fun k => outD l (k : Nat))) st) : Ok (m__law_lines [.tup l] st) Q := by
  have big := big
  unfold m__law_lines b__law_lines
  try walk_at "ok"
  refine ⟨_, rfl, by omega, by rw [rngL_len]; omega, ?_⟩
  refine lc_rg_map (fun k => outD l (k : Nat)) (fun k hk => ?_) ?_
  · have c1 := len_cutL (l := l) (lo := none) (hi := some (k : Int))
    have c2 := len_cutL (l := l) (lo := some ((k : Int) + 1)) (hi := none)
    simp only [Int.zero_add]
    try walk_at "ok"
    exact ⟨by omega, rfl⟩
  · exact q
theorem widened_run {st : Sto} {Q : D → Sto → Prop} {size kinds sources kd keeps hours wait pk lo hi : D} {ways parts : List D} {n p : Nat} {high : Int}
    (hn : ways[n]? = some (.tup [kd, .tup parts, keeps, hours, wait])) (hp : parts[p]? = some (.tup [pk, lo, hi])) (lw : ways.length ≤ 1000) (lp : parts.length ≤ 1000)
    (q : Q (.tup [size, kinds, sources, .tup (cutL ways none (some (n : Int)) ++ [.tup [kd, .tup (parts.set p (.tup [pk, lo, .int high])), keeps, hours, wait]] ++ cutL ways (some ((n : Int) + 1)) none)]) st) :
    Ok (m_widened [.tup [size, kinds, sources, .tup ways], .int n, .int p, .int high] st) Q := by
  have big := big
  have c1 := len_cutL (l := ways) (lo := none) (hi := some (n : Int))
  have c2 := len_cutL (l := ways) (lo := some ((n : Int) + 1)) (hi := none)
  have c3 := len_cutL (l := parts) (lo := none) (hi := some (p : Int))
  have c4 := len_cutL (l := parts) (lo := some ((p : Int) + 1)) (hi := none)
  have pl : p < parts.length := (List.getElem?_eq_some_iff.mp hp).1
  unfold m_widened b_widened
  try walk_at "ok"
  refine ⟨_, atI_of hn rfl, ?_⟩
  try walk_at "ok"
  refine ⟨_, atI_of hp rfl, ?_⟩
  try walk_at "ok"
  have e : cutL parts none (some (p : Int)) ++ [.tup [pk, lo, .int high]] ++ cutL parts (some ((p : Int) + 1)) none = parts.set p (.tup [pk, lo, .int high]) := by
    have h1 : cutL parts none (some (p : Int)) = parts.take p := by
      unfold cutL
      rw [HT.sIx_none, HT.sIx_nat, List.drop_zero, Nat.sub_zero, Nat.min_eq_left (by omega)]
    have h2 : cutL parts (some ((p : Int) + 1)) none = parts.drop (p + 1) := by
      unfold cutL
      rw [HT.sIx_none, show ((p : Int) + 1) = ((p + 1 : Nat) : Int) by omega, HT.sIx_nat, Nat.min_eq_left (by omega), List.take_of_length_le (by rw [List.length_drop]; omega)]
    rw [h1, h2, List.append_assoc, List.set_eq_take_append_cons_drop, if_pos pl]
    rfl
  rw [e]
  simp only [List.length_append, List.length_cons, List.length_nil]
  repeat' (first | exact q | refine ⟨by omega, ?_⟩)
end K36


set_option maxHeartbeats 4000000
set_option maxRecDepth 100000
set_option pp.maxSteps 1500
namespace K36
open PySem L2 DL
local macro_rules | `(tactic| walk_at "ok") => `(tactic| simp only [ok_fnM, ok_some, ok_none, ok_eC, ok_eVar0, ok_eVarS, ok_eBin, ok_eUn, ok_eB, boolK_bl, intK_int, ok_eAnd, ok_eOr, ok_eNot, ok_bAnd, ok_bOr, ok_bNot, ok_eIf, ok_aNil, ok_aCons, ok_eTup, ok_cLst, ok_eFz, ok_eNw, ok_eCall, ok_oNone, ok_oSome, ok_eSl,
  ok_add, ok_sub, ok_mul, ok_mod, ok_div, ok_pow, ok_neg, ok_eq_int, ok_ne_int, ok_eq_str, ok_ne_str, ok_eq_bl, ok_ne_bl, ok_ord, ok_is, ok_isNot, ok_ix_tup, ok_ix_lst, ok_ix_ref0, ok_ix_ref1, ok_ix_str, ok_len_tup, ok_len_lst, ok_len_scr, ok_len_str, ok_list_tup, ok_list_lst, ok_tuple_lst, ok_tuple_tup, ok_int_int, ok_int_bl, ok_min2, ok_max2, ok_isa, ok_bTrue, wipeD, ok_add_str, ok_add_lst, ok_add_tup, ok_mul_lst, ok_sl_lst, ok_sl_tup, ok_sl_scr, ok_sl_str, ok_chain, ok_cLrg, ok_join, ok_cLc, ok_sFor, ok_iSq, srcK_tup, srcK_lst, ok_rev, ok_ne_nil0, ok_ne_cons, ok_pop0, ok_abs, ok_iRg1, ok_iRg2,
  ok_sSq, seqK_nx, seqK_rt, seqK_bk, seqK_ct, ok_sNx, ok_sBk, ok_sCt, ok_sRt, ok_sRtN, ok_sEx, ok_sIf, ok_sAs, ok_sPar, ok_bNm, ok_bNil, ok_bCons, ok_bSeq_tup, ok_bSeq_ref1, ok_bSub, subK_ref0, subK_ref1, atI0, atI1, atI2, atI3, atI4, atI_map, atK_map, List.length_map, fnK_rt, fnK_nx, set0, setS, atK_some,
  List.length_cons, List.length_nil, List.map_cons, List.map_nil, List.cons_append, List.nil_append, List.replicate, Nat.reduceAdd, Nat.reduceSub, true_and, and_true, ↓reduceIte, decide_eq_true_eq, Bool.false_eq_true, if_false, if_true, Bool.not_true, Bool.not_false])

theorem wt_kd {x : D} (h : Kd x) : Wt 17 60 0 x := by
  obtain ⟨z, rfl, h1, h2⟩ := h
  exact .str h1 (by omega)
theorem wt_in {n : Int} {x : D} (hn : n ≤ 1000000) (h : In1 n x) : Wt 17 60 0 x := by
  obtain ⟨i, rfl, h0, h1⟩ := h
  exact .int (by omega)
theorem wt_all {n k : Nat} {l : List D} (h : ∀ x ∈ l, Wt 17 n k x) (m : Nat) (hm : l.length ≤ m) : Wt 17 (m * (n + 1)) (k + 1) (.tup l) :=
  (Wts.of h).tup.mono (Nat.mul_le_mul_right _ hm) (Nat.le_refl _)
theorem wt_src {x : D} (h : Src1 x) : Wt 17 305 1 x := by
  obtain ⟨kd, a, b, c, d, rfl, h0, h1, h2, h3, h4⟩ := h
  refine wt_all (n := 60) (k := 0) ?_ 5 (Nat.le_refl _)
  intro y hy
  simp only [List.mem_cons, List.not_mem_nil, or_false] at hy
  rcases hy with rfl | rfl | rfl | rfl | rfl
  · exact wt_kd h0
  · exact wt_in (by decide) h1
  · exact wt_in (by decide) h2
  · exact wt_in (by decide) h3
  · exact wt_in (by decide) h4
theorem wt_part {x : D} (h : Part1 x) : Wt 17 183 1 x := by
  obtain ⟨kd, lo, hi, rfl, h0, h1, h2, h3, h4⟩ := h
  refine wt_all (n := 60) (k := 0) ?_ 3 (Nat.le_refl _)
  intro y hy
  simp only [List.mem_cons, List.not_mem_nil, or_false] at hy
  rcases hy with rfl | rfl | rfl
  · exact wt_kd h0
  · exact .int (by omega)
  · exact .int (by omega)
theorem wt_way {x : D} (h : Way1 x) : Wt 17 3005 3 x := by
  obtain ⟨kd, parts, keeps, hours, wait, rfl, h0, h1, h2, h3, h4, h5, h6⟩ := h
  refine wt_all (n := 600) (k := 2) ?_ 5 (Nat.le_refl _)
  intro y hy
  simp only [List.mem_cons, List.not_mem_nil, or_false] at hy
  rcases hy with rfl | rfl | rfl | rfl | rfl
  · exact (wt_kd h0).mono (by omega) (by omega)
  · exact (wt_all (fun z hz => wt_part (h1 z hz)) 3 h2).mono (by omega) (by omega)
  · exact (wt_kd h3).mono (by omega) (by omega)
  · exact (wt_all (fun z hz => wt_in (by decide) (h4 z hz)) 6 h5).mono (by omega) (by omega)
  · exact (wt_in (by decide) h6).mono (by omega) (by omega)
theorem wt_world {size : D} {kinds sources ways : List D} (h1 : In1 6 size) (h2 : ∀ y ∈ kinds, Kd y) (h3 : kinds.length ≤ 4) (h4 : ∀ y ∈ sources, Src1 y) (h5 : sources.length ≤ 6) (h6 : ∀ y ∈ ways, Way1 y) (h7 : ways.length ≤ 9) :
    Wt 17 112004 5 (.tup [size, .tup kinds, .tup sources, .tup ways]) := by
  refine (wt_all (n := 28000) (k := 4) ?_ 4 (Nat.le_refl _))
  intro y hy
  simp only [List.mem_cons, List.not_mem_nil, or_false] at hy
  rcases hy with rfl | rfl | rfl | rfl
  · exact (wt_in (by decide) h1).mono (by omega) (by omega)
  · exact (wt_all (fun z hz => wt_kd (h2 z hz)) 4 h3).mono (by omega) (by omega)
  · exact (wt_all (fun z hz => wt_src (h4 z hz)) 6 h5).mono (by omega) (by omega)
  · exact (wt_all (fun z hz => wt_way (h6 z hz)) 9 h7).mono (by omega) (by omega)
theorem wr_run {t : Int} {st : Sto} {Q : D → Sto → Prop} (h : Dr t st) {size : D} {kinds sources ways : List D} {n : Nat} (h1 : In1 6 size) (h2 : ∀ y ∈ kinds, Kd y) (h3 : kinds.length ≤ 4) (h4 : ∀ y ∈ sources, Src1 y) (h5 : sources.length ≤ 3) (h6 : ∀ y ∈ ways, Way1 y) (h7 : ways.length ≤ 4) (hn : n < ways.length)
    (k : Q (.bl true) st) : Ok (m__law_widened_right [.tup [size, .tup kinds, .tup sources, .tup ways], .int n] st) Q := by
  have big := big
  have hw : ways[n]? = some ways[n] := List.getElem?_eq_getElem hn
  obtain ⟨kd, parts, keeps, hours, wait, ew, w0, w1, w2, w3, w4, w5, w6⟩ := h6 ways[n] (List.getElem_mem hn)
  rw [ew] at hw
  unfold m__law_widened_right b__law_widened_right
  try walk_at "ok"
  refine ⟨_, atI_of hw rfl, ?_⟩
  try walk_at "ok"
  refine ⟨_, rfl, by omega, ?_⟩
  refine ok_for_all (fun _ ρ s => (∃ a b c, ρ = [some (D.tup [size, D.tup kinds, D.tup sources, D.tup ways]), some (D.int n), some size, some (D.tup kinds), some (D.tup sources), some (D.tup ways), a, b, c]) ∧ s = st) (fun i d ρ s hd hj => ?_) ⟨⟨_, _, _, rfl⟩, rfl⟩ (fun ρ s hj => ?_)
  · obtain ⟨hi, rfl⟩ := rngL_get hd
    obtain ⟨⟨a, b, c, rfl⟩, rfl⟩ := hj
    have hp : parts[i]? = some parts[i] := List.getElem?_eq_getElem (by omega)
    obtain ⟨pk, lo, up, ep, p0, p1, p2, p3, p4⟩ := w1 parts[i] (List.getElem_mem _)
    rw [ep] at hp
    simp only [Int.zero_add]
    try walk_at "ok"
    refine ⟨_, atI_of hw rfl, ?_⟩
    try walk_at "ok"
    refine ⟨_, atI_of hp rfl, ?_⟩
    try walk_at "ok"
    refine ⟨lo, 21, rfl, by omega, ?_⟩
    refine ok_for_all (fun _ ρ s2 => (∃ b c, ρ = [some (D.tup [size, D.tup kinds, D.tup sources, D.tup ways]), some (D.int n), some size, some (D.tup kinds), some (D.tup sources), some (D.tup ways), some (D.int i), b, c]) ∧ s2 = s) (fun j d ρ s2 hd hj => ?_) ⟨⟨_, _, rfl⟩, rfl⟩ (fun ρ s2 hj => ?_)
    · obtain ⟨hj2, rfl⟩ := rngL_get hd
      obtain ⟨⟨b, c, rfl⟩, rfl⟩ := hj
      have hh : 0 ≤ lo + (j : Int) ∧ lo + (j : Int) ≤ 20 := by omega
      generalize lo + (j : Int) = high at hh
      have c1 := len_cutL (l := ways) (lo := none) (hi := some (n : Int))
      have c2 := len_cutL (l := ways) (lo := some ((n : Int) + 1)) (hi := none)
      have way' : Way1 (.tup [kd, .tup (parts.set i (.tup [pk, .int lo, .int high])), keeps, .tup hours, wait]) := by
        refine ⟨_, _, _, _, _, rfl, w0, fun y hy => ?_, by rw [List.length_set]; exact w2, w3, w4, w5, w6⟩
        rcases List.mem_or_eq_of_mem_set hy with hy | rfl
        · exact w1 y hy
        · exact ⟨_, _, _, rfl, p0, p1, p2, hh.1, hh.2⟩
      have RO : ReprOk (.tup [size, .tup kinds, .tup sources, .tup (cutL ways none (some (n : Int)) ++ [.tup [kd, .tup (parts.set i (.tup [pk, .int lo, .int high])), keeps, .tup hours, wait]] ++ cutL ways (some ((n : Int) + 1)) none)]) := by
        refine (wt_world h1 h2 h3 h4 (by omega) (fun y hy => ?_) ?_).repr (by omega) (by omega)
        · rcases List.mem_append.mp hy with hy | hy
          · rcases List.mem_append.mp hy with hy | hy
            · exact h6 y (mem_cut hy)
            · rw [List.mem_singleton.mp hy]; exact way'
          · exact h6 y (mem_cut hy)
        · simp only [List.length_append, List.length_cons, List.length_nil]; omega
      try walk_at "ok"
      refine ⟨_, atI_of hw rfl, ?_⟩
      refine with_run h w0 w1 w2 w3 w4 w6 hp ?_
      simp only [List.length_append, List.length_cons, List.length_nil]
      refine ⟨by omega, by omega, by omega, by omega, ?_⟩
      refine widened_run hw hp (by omega) (by omega) ?_
      rw [ok_repr_tup RO, ok_repr_tup RO]
      try walk_at "ok"
      simp only [decide_true, Bool.not_true, Bool.false_eq_true, if_false]
      first | exact .inl ⟨_, rfl, ⟨_, _, rfl⟩, rfl⟩ | exact .inl ⟨_, rfl, _, _, rfl⟩
    · obtain ⟨⟨b, c, rfl⟩, rfl⟩ := hj
      try walk_at "ok"
      first | exact .inl ⟨_, rfl, ⟨_, _, _, rfl⟩, rfl⟩ | exact .inl ⟨_, rfl, _, _, _, rfl⟩
  · obtain ⟨⟨a, b, c, rfl⟩, rfl⟩ := hj
    try walk_at "ok"
    exact k
end K36


set_option maxHeartbeats 4000000
set_option maxRecDepth 100000
set_option pp.maxSteps 1500
namespace K36
open PySem L2 DL
local macro_rules | `(tactic| walk_at "ok") => `(tactic| simp only [ok_fnM, ok_some, ok_none, ok_eC, ok_eVar0, ok_eVarS, ok_eBin, ok_eUn, ok_eB, boolK_bl, intK_int, ok_eAnd, ok_eOr, ok_eNot, ok_bAnd, ok_bOr, ok_bNot, ok_eIf, ok_aNil, ok_aCons, ok_eTup, ok_cLst, ok_eFz, ok_eNw, ok_eCall, ok_oNone, ok_oSome, ok_eSl,
  ok_add, ok_sub, ok_mul, ok_mod, ok_div, ok_pow, ok_neg, ok_eq_int, ok_ne_int, ok_eq_str, ok_ne_str, ok_eq_bl, ok_ne_bl, ok_ord, ok_is, ok_isNot, ok_ix_tup, ok_ix_lst, ok_ix_ref0, ok_ix_ref1, ok_ix_str, ok_len_tup, ok_len_lst, ok_len_scr, ok_len_str, ok_list_tup, ok_list_lst, ok_tuple_lst, ok_tuple_tup, ok_int_int, ok_int_bl, ok_min2, ok_max2, ok_isa, ok_bTrue, wipeD, ok_add_str, ok_add_lst, ok_add_tup, ok_mul_lst, ok_sl_lst, ok_sl_tup, ok_sl_scr, ok_sl_str, ok_chain, ok_cLrg, ok_join, ok_cLc, ok_sFor, ok_iSq, srcK_tup, srcK_lst, ok_rev, ok_ne_nil0, ok_ne_cons, ok_pop0, ok_abs, ok_iRg1, ok_iRg2,
  ok_sSq, seqK_nx, seqK_rt, seqK_bk, seqK_ct, ok_sNx, ok_sBk, ok_sCt, ok_sRt, ok_sRtN, ok_sEx, ok_sIf, ok_sAs, ok_sPar, ok_bNm, ok_bNil, ok_bCons, ok_bSeq_tup, ok_bSeq_ref1, ok_bSub, subK_ref0, subK_ref1, atI0, atI1, atI2, atI3, atI4, atI_map, atK_map, List.length_map, fnK_rt, fnK_nx, set0, setS, atK_some,
  List.length_cons, List.length_nil, List.map_cons, List.map_nil, List.cons_append, List.nil_append, List.replicate, Nat.reduceAdd, Nat.reduceSub, true_and, and_true, ↓reduceIte, decide_eq_true_eq, Bool.false_eq_true, if_false, if_true, Bool.not_true, Bool.not_false])

theorem lc_map' {t : EM Bool} {g : BM} {el : EM D} {ρ : En} {st : Sto} {QL : List D → Sto → Prop} (f : D → D) {ds : List D}
    (h : ∀ d ∈ ds, Ok (g d ρ st) fun ρ' s1 => s1 = st ∧ Ok (t ρ' st) fun c s2 => c = true ∧ s2 = st ∧ Ok (el ρ' st) fun x s3 => x = f d ∧ s3 = st)
    (hq : QL (ds.map f) st) : Ok (lcL [] g t el ρ ds st) QL := ⟨_, st, lc_map f h, hq⟩
theorem law_true (ns : List Int) (h : ns.length ≤ 63) : ∃ st, m_law [.scr (ns.map D.int)] [] = some (.bl true, st) := by
  have big := big
  have e6 : (10 : Int) ^ Int.toNat 6 = 1000000 := by decide
  suffices q : Ok (m_law [.scr (ns.map D.int)] []) fun d _ => d = .bl true by
    obtain ⟨_, s, e, rfl⟩ := q
    exact ⟨s, e⟩
  unfold m_law b_law
  try walk_at "ok"
  refine (deck_run ns h).mono ?_
  rintro _ s ⟨rfl, h⟩
  refine ⟨3, rfl, by omega, ?_⟩
  refine ok_for_all (fun i ρ s => (∃ a b c d e f g i j k l, ρ = [some (D.scr (ns.map .int)), some (D.ref 1), a, b, c, d, e, f, g, i, j, k, l]) ∧ Dr (1000 * i) s) (fun i d ρ s hd hj => ?_) ⟨⟨_, _, _, _, _, _, _, _, _, _, _, rfl⟩, by simpa using h⟩ (fun ρ s hj => ?_)
  · have hi := (List.getElem?_eq_some_iff.mp hd).1
    rw [rngL_len] at hi
    obtain ⟨⟨_, _, _, _, _, _, _, _, _, _, _, rfl⟩, h⟩ := hj
    try walk_at "ok"
    refine nx h (by omega) _ (by omega) (by omega) fun r1 s a1 b1 h => ?_
    try walk_at "ok"
    rw [e6]
    refine ⟨by decide, by omega, ?_⟩
    refine nx h (by omega) _ (by omega) (by omega) fun r2 s a2 b2 h => ?_
    try walk_at "ok"
    obtain ⟨x, hx, xm⟩ := atI_in (l := [D.int 9, D.int 1000000]) (i := r2) a2 (by simpa using b2)
    have hx2 : ∃ n : Int, x = .int n ∧ 0 ≤ n ∧ n ≤ 1000000 := by
      simp only [List.mem_cons, List.not_mem_nil, or_false] at xm
      rcases xm with rfl | rfl <;> exact ⟨_, rfl, by omega, by omega⟩
    obtain ⟨since, rfl, n0, n1⟩ := hx2
    refine ⟨_, hx, ?_⟩
    refine world_run h (by omega) _ _ (by omega) (by omega) n0 n1 fun x s hx h => ?_
    obtain ⟨size, kinds, sources, ways, rfl, h1, h2, h3, h4, h5, h6, h7⟩ := hx
    have RW : ReprOk (.tup [size, .tup kinds, .tup sources, .tup ways]) := (wt_world h1 h2 h3 h4 (by omega) h6 (by omega)).repr (by omega) (by omega)
    have RS : ReprOk (.lst ((List.range sources.length).map fun k => D.tup [size, .tup kinds, outD sources (k : Nat), .tup ways])) := by
      refine (((Wts.of (n := 112004) (k := 5) ?_).lst).mono (m := 336015) (j := 6) ?_ (Nat.le_refl _)).repr (by omega) (by omega)
      · intro y hy
        obtain ⟨k, hk, rfl⟩ := List.mem_map.mp hy
        have c1 := len_cutL (l := sources) (lo := none) (hi := some (k : Int))
        have c2 := len_cutL (l := sources) (lo := some ((k : Int) + 1)) (hi := none)
        refine wt_world h1 h2 h3 (fun z hz => ?_) (by rw [List.length_append]; omega) h6 (by omega)
        rcases List.mem_append.mp hz with hz | hz <;> exact h4 z (mem_cut hz)
      · rw [List.length_map, List.length_range]; exact Nat.mul_le_mul_right _ h5
    have RV : ReprOk (.lst ((List.range ways.length).map fun k => D.tup [size, .tup kinds, .tup sources, outD ways (k : Nat)])) := by
      refine (((Wts.of (n := 112004) (k := 5) ?_).lst).mono (m := 448020) (j := 6) ?_ (Nat.le_refl _)).repr (by omega) (by omega)
      · intro y hy
        obtain ⟨k, hk, rfl⟩ := List.mem_map.mp hy
        have c1 := len_cutL (l := ways) (lo := none) (hi := some (k : Int))
        have c2 := len_cutL (l := ways) (lo := some ((k : Int) + 1)) (hi := none)
        refine wt_world h1 h2 h3 h4 (by omega) (fun z hz => ?_) (by rw [List.length_append]; omega)
        rcases List.mem_append.mp hz with hz | hz <;> exact h6 z (mem_cut hz)
      · rw [List.length_map, List.length_range]; exact Nat.mul_le_mul_right _ h7
    try walk_at "ok"
    rw [ok_repr_tup RW]
    refine lines_run (by omega) ?_
    try walk_at "ok"
    refine ⟨by rw [List.length_range]; omega, ?_⟩
    refine lc_map' (fun d => .tup [size, .tup kinds, d, .tup ways]) (fun d hd => ?_) ?_
    · try walk_at "ok"
      omega
    rw [List.map_map]
    refine ⟨_, rfl, by omega, by rw [rngL_len]; omega, ?_⟩
    refine lc_rg_map (fun k => .tup [size, .tup kinds, outD sources (k : Nat), .tup ways]) (fun k hk => ?_) ?_
    · try walk_at "ok"
      refine without_s (by omega) ?_
      rw [Int.zero_add]
      exact ⟨rfl, rfl⟩
    simp only [Function.comp_def, Int.toNat_natCast]
    rw [ok_repr_lst RS, ok_repr_lst RS]
    try walk_at "ok"
    simp only [decide_true, Bool.not_true, Bool.false_eq_true, if_false]
    refine lines_run (by omega) ?_
    try walk_at "ok"
    refine ⟨by rw [List.length_range]; omega, ?_⟩
    refine lc_map' (fun d => .tup [size, .tup kinds, .tup sources, d]) (fun d hd => ?_) ?_
    · try walk_at "ok"
      omega
    rw [List.map_map]
    refine ⟨_, rfl, by omega, by rw [rngL_len]; omega, ?_⟩
    refine lc_rg_map (fun k => .tup [size, .tup kinds, .tup sources, outD ways (k : Nat)]) (fun k hk => ?_) ?_
    · try walk_at "ok"
      refine without_w (by omega) ?_
      rw [Int.zero_add]
      exact ⟨rfl, rfl⟩
    simp only [Function.comp_def, Int.toNat_natCast]
    rw [ok_repr_lst RV, ok_repr_lst RV]
    try walk_at "ok"
    simp only [decide_true, Bool.not_true, Bool.false_eq_true, if_false]
    refine ⟨_, rfl, by omega, by rw [rngL_len]; omega, ?_⟩
    refine lc_rg_any (fun _ s2 => s2 = s) (fun _ => False) (fun k s2 hk hs2 => ?_) rfl (fun l s2 hs2 hl hR => ?_)
    · subst hs2
      try walk_at "ok"
      rw [Int.zero_add]
      refine wr_run h h1 h2 h3 h4 h5 h6 h7 (by omega) ?_
      try walk_at "ok"
    subst hs2
    have e1 : l = [] := List.eq_nil_iff_forall_not_mem.mpr fun x hx => hR x hx
    subst e1
    have e0 : eqv2 (.lst []) (.lst []) = some true := by decide +kernel
    have nee : ∀ s : Sto, neM (.lst []) (.lst []) s = some (.bl false, s) := fun s => by
      show (eqv2 (.lst []) (.lst [])).map _ = _
      rw [e0]
      rfl
    refine ⟨by omega, ?_⟩
    rw [nee]
    try walk_at "ok"
    rw [ok_repr_tup RW]
    try walk_at "ok"
    simp only [decide_true, Bool.not_true, Bool.false_eq_true, if_false]
    have h : Dr (1000 * (i + 1 : Nat)) s2 := h.le (by omega)
    first | exact .inl ⟨_, rfl, ⟨_, _, _, _, _, _, _, _, _, _, _, rfl⟩, h⟩ | trace_state
  · obtain ⟨⟨_, _, _, _, _, _, _, _, _, _, _, rfl⟩, h⟩ := hj
    try walk_at "ok"
end K36


set_option Elab.async false
set_option linter.all false
set_option maxRecDepth 100000
set_option maxHeartbeats 4000000
set_option pp.maxSteps 300
set_option pp.deepTerms false
open PySem PySem.W PyProof.Rows
set_option maxHeartbeats 0 in
theorem PySem.Challenge.cw_rightage_k36_left_out_and_widened_holds : PySem.Challenge.rw_rightage_k36_left_out_and_widened.Holds := by
  w_on; o_law; k_head; (case hw => w_witness2)
  k_fill
  refine DL.walk_law (l := PySem.Challenge.rw_rightage_k36_left_out_and_widened) (n := 63) (k := 5) (x := "_law_script") (m := K36.m_law) rfl (by decide) rfl ⟨rfl, by decide, by decide⟩ (fun w h Y => PySem.W.kIn_of Y) ?F K36.law_true
  case F =>
    intro w mg fa h KX G hmg
    refine' K36.fin KX G hmg ?v_SOURCE ?n_abs ?n_len ?n_list ?n_max ?n_min ?n_range ?n_repr ?n_sorted ?n_tuple ?d_left_out ?d_without ?d_widened ?d__law_deck ?d__law_next ?d__law_names ?d__law_source ?d__law_part ?d__law_way ?d__law_world ?d__law_lines ?d__law_with ?d__law_widened_right ?d_law
    case v_SOURCE => (refine' DL.fact_str KX G ?a; (case a => k_is))
    case n_abs => (refine' DL.fact_none KX G ?a; (case a => k_is))
    case n_len => (refine' DL.fact_none KX G ?a; (case a => k_is))
    case n_list => (refine' DL.fact_none KX G ?a; (case a => k_is))
    case n_max => (refine' DL.fact_none KX G ?a; (case a => k_is))
    case n_min => (refine' DL.fact_none KX G ?a; (case a => k_is))
    case n_range => (refine' DL.fact_none KX G ?a; (case a => k_is))
    case n_repr => (refine' DL.fact_none KX G ?a; (case a => k_is))
    case n_sorted => (refine' DL.fact_none KX G ?a; (case a => k_is))
    case n_tuple => (refine' DL.fact_none KX G ?a; (case a => k_is))
    case d_left_out => (refine' DL.def_mk KX G ?a ?l ?c ?k (fun _ _ _ _ _ _ us hl => match us, hl with | [_, _], _ => rfl); (case a => k_is); (case l => k_is); (case c => k_is); (case k => k_is))
    case d_without => (refine' DL.def_mk KX G ?a ?l ?c ?k (fun _ _ _ _ _ _ us hl => match us, hl with | [_, _, _], _ => rfl); (case a => k_is); (case l => k_is); (case c => k_is); (case k => k_is))
    case d_widened => (refine' DL.def_mk KX G ?a ?l ?c ?k (fun _ _ _ _ _ _ us hl => match us, hl with | [_, _, _, _], _ => rfl); (case a => k_is); (case l => k_is); (case c => k_is); (case k => k_is))
    case d__law_deck => (refine' DL.def_mk KX G ?a ?l ?c ?k (fun _ _ _ _ _ _ us hl => match us, hl with | [_], _ => rfl); (case a => k_is); (case l => k_is); (case c => k_is); (case k => k_is))
    case d__law_next => (refine' DL.def_mk KX G ?a ?l ?c ?k (fun _ _ _ _ _ _ us hl => match us, hl with | [_, _], _ => rfl); (case a => k_is); (case l => k_is); (case c => k_is); (case k => k_is))
    case d__law_names => (refine' DL.def_mk KX G ?a ?l ?c ?k (fun _ _ _ _ _ _ us hl => match us, hl with | [_, _], _ => rfl); (case a => k_is); (case l => k_is); (case c => k_is); (case k => k_is))
    case d__law_source => (refine' DL.def_mk KX G ?a ?l ?c ?k (fun _ _ _ _ _ _ us hl => match us, hl with | [_, _, _, _], _ => rfl); (case a => k_is); (case l => k_is); (case c => k_is); (case k => k_is))
    case d__law_part => (refine' DL.def_mk KX G ?a ?l ?c ?k (fun _ _ _ _ _ _ us hl => match us, hl with | [_, _], _ => rfl); (case a => k_is); (case l => k_is); (case c => k_is); (case k => k_is))
    case d__law_way => (refine' DL.def_mk KX G ?a ?l ?c ?k (fun _ _ _ _ _ _ us hl => match us, hl with | [_, _, _], _ => rfl); (case a => k_is); (case l => k_is); (case c => k_is); (case k => k_is))
    case d__law_world => (refine' DL.def_mk KX G ?a ?l ?c ?k (fun _ _ _ _ _ _ us hl => match us, hl with | [_, _, _, _], _ => rfl); (case a => k_is); (case l => k_is); (case c => k_is); (case k => k_is))
    case d__law_lines => (refine' DL.def_mk KX G ?a ?l ?c ?k (fun _ _ _ _ _ _ us hl => match us, hl with | [_], _ => rfl); (case a => k_is); (case l => k_is); (case c => k_is); (case k => k_is))
    case d__law_with => (refine' DL.def_mk KX G ?a ?l ?c ?k (fun _ _ _ _ _ _ us hl => match us, hl with | [_, _, _], _ => rfl); (case a => k_is); (case l => k_is); (case c => k_is); (case k => k_is))
    case d__law_widened_right => (refine' DL.def_mk KX G ?a ?l ?c ?k (fun _ _ _ _ _ _ us hl => match us, hl with | [_, _], _ => rfl); (case a => k_is); (case l => k_is); (case c => k_is); (case k => k_is))
    case d_law => (refine' DL.def_mk KX G ?a ?l ?c ?k (fun _ _ _ _ _ _ us hl => match us, hl with | [_], _ => rfl); (case a => k_is); (case l => k_is); (case c => k_is); (case k => k_is))

