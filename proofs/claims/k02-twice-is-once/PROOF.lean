import PyProof.Rows.All
import Wide.All
import OpenK.AllK
import Wide.FinOn
import KE.GoesEnum
import HandS.ForMost
import HandS.Exc
import HandS.ExcOwn
import HandS.TupAny
import HandS.Wide
import HandS.Deep
import HandS.IsInst
import HandS.Flow
import HandS.FStr
import HandS.RaiseMore
import HandS.Walk
import HandS.WordsExc
import HandS.Zip
import HandS.EndBits
import HandS.Codes
import PySem.Challenge.RW_redolots_k02_twice_is_once
set_option Elab.async false
set_option linter.all false
set_option maxRecDepth 100000
set_option maxHeartbeats 2000000
/-! R1: data as values (D), how they lie in the abstract heap (Reps), the slots of a def (Sl, Rel), how a state goes on (Evo). -/
namespace R
open PySem L2

/-- data: tuples and lists by value; scr: a list of ints that nobody writes (the script) -/
inductive D where
  | non | bl (b : Bool) | int (i : Int) | str (s : PySem.Str)
  | tup (xs : List D) | lst (xs : List D) | scr (ns : List Int)

mutual
/-- no list within -/
def D.pure : D → Bool
  | .lst _ => false
  | .tup xs => pureL xs
  | .scr _ => true
  | .non => true
  | .bl _ => true
  | .int _ => true
  | .str _ => true
def pureL : List D → Bool
  | [] => true
  | x :: xs => x.pure && pureL xs
end
/-- a scalar's value -/
def D.sc : D → Option V
  | .non => some .non
  | .bl b => some (.bl b)
  | .int i => some (.int i)
  | .str s => some (.str s)
  | _ => none
def isLst : D → Bool
  | .lst _ => true
  | _ => false

/-- a list of the written part -/
def Written (K : PySem.W.Frag) (a : Addr) (xs : List V) : Prop :=
  ∃ (o : PySem.Obj) (its : Array PySem.Value) (n : Nat), K.lookup a = some o ∧ o.cls = .type "list" ∧ o.dict = none ∧ o.data = .seq its n ∧ its.size ≤ PySem.sizeLine ∧ Vals xs its.toList
/-- a list that is not written: known to the object, or of the written part -/
def ScrAt (K : PySem.W.Frag) (H : Hp) (a : Addr) (xs : List V) : Prop := (∃ o, H a = some (.frz o (.lst xs))) ∨ Written K a xs
theorem ScrAt.sql {K : PySem.W.Frag} {H : Hp} {a : Addr} {xs : List V} (h : ScrAt K H a xs) : SqL K H a xs := by
  rcases h with ⟨o, h⟩ | h
  · exact .inl (.inr ⟨o, h⟩)
  · exact .inr h
/-- the data ds lie in H as the values vs; F: the addresses of their lists (with repetitions) -/
inductive Reps (K : PySem.W.Frag) (H : Hp) : List V → List D → List Addr → Prop
  | nil : Reps K H [] [] []
  | sc {v d vs ds F} : d.sc = some v → Reps K H vs ds F → Reps K H (v :: vs) (d :: ds) F
  | tup {a xs es vs ds F G} : SqT K H a xs → Reps K H xs es F → Reps K H vs ds G → Reps K H (.ref a :: vs) (.tup es :: ds) (F ++ G)
  | lst {a xs es vs ds F G} : H a = some (.lst xs) → Reps K H xs es F → Reps K H vs ds G → Reps K H (.ref a :: vs) (.lst es :: ds) (a :: (F ++ G))
  | scr {a ns vs ds G} : ScrAt K H a (ns.map V.int) → Reps K H vs ds G → Reps K H (.ref a :: vs) (.scr ns :: ds) G
abbrev Rep (K : PySem.W.Frag) (H : Hp) (v : V) (d : D) (F : List Addr) : Prop := Reps K H [v] [d] F
/-- a set of lists that are not written any more -/
abbrev Sh := Addr → Prop

section
variable {K : PySem.W.Frag} {H H' : Hp} {vs ws : List V} {ds es : List D} {F G : List Addr} {v : V} {d : D}

theorem Reps.length (r : Reps K H vs ds F) : vs.length = ds.length := by
  induction r with
  | nil => rfl
  | sc _ _ ih => simp [ih]
  | tup _ _ _ _ ih => simp [ih]
  | lst _ _ _ _ ih => simp [ih]
  | scr _ _ ih => simp [ih]

/-- the lists are lists -/
theorem Reps.lists (r : Reps K H vs ds F) : ∀ a ∈ F, ∃ xs, H a = some (.lst xs) := by
  induction r with
  | nil => intro a h; cases h
  | sc _ _ ih => exact ih
  | tup _ _ _ ih1 ih2 => exact fun a h => (List.mem_append.mp h).elim (ih1 a) (ih2 a)
  | lst h _ _ ih1 ih2 =>
    intro a ha
    rcases List.mem_cons.mp ha with ha | ha
    · subst ha
      exact ⟨_, h⟩
    · exact (List.mem_append.mp ha).elim (ih1 a) (ih2 a)
  | scr _ _ ih => exact ih

theorem sqt_step {a : Addr} {xs : List V} (B : Addr → Prop) (hB : ∀ b, B b → ∃ ys, H b = some (.lst ys)) (k : ∀ b o, H b = some o → ¬ B b → H' b = some o) (h : SqT K H a xs) : SqT K H' a xs := by
  rcases h with (h | ⟨o, h⟩) | h
  · refine .inl (.inl (k _ _ h fun hb => ?_))
    obtain ⟨ys, e⟩ := hB _ hb
    rw [h] at e; cases e
  · refine .inl (.inr ⟨o, k _ _ h fun hb => ?_⟩)
    obtain ⟨ys, e⟩ := hB _ hb
    rw [h] at e; cases e
  · exact .inr h
theorem scr_step {a : Addr} {xs : List V} (B : Addr → Prop) (hB : ∀ b, B b → ∃ ys, H b = some (.lst ys)) (k : ∀ b o, H b = some o → ¬ B b → H' b = some o) (h : ScrAt K H a xs) : ScrAt K H' a xs := by
  rcases h with ⟨o, h⟩ | h
  · refine .inl ⟨o, k _ _ h fun hb => ?_⟩
    obtain ⟨ys, e⟩ := hB _ hb
    rw [h] at e; cases e
  · exact .inr h
/-- what lies beside what may change stays -/
theorem Reps.step (B : Addr → Prop) (hB : ∀ b, B b → ∃ ys, H b = some (.lst ys)) (k : ∀ b o, H b = some o → ¬ B b → H' b = some o) (r : Reps K H vs ds F) (hF : ∀ a ∈ F, ¬ B a) : Reps K H' vs ds F := by
  induction r with
  | nil => exact .nil
  | sc e _ ih => exact .sc e (ih hF)
  | tup h _ _ ih1 ih2 => exact .tup (sqt_step B hB k h) (ih1 fun a ha => hF a (List.mem_append_left _ ha)) (ih2 fun a ha => hF a (List.mem_append_right _ ha))
  | lst h _ _ ih1 ih2 =>
    refine .lst ?_ (ih1 fun a ha => hF a (List.mem_cons_of_mem _ (List.mem_append_left _ ha))) (ih2 fun a ha => hF a (List.mem_cons_of_mem _ (List.mem_append_right _ ha)))
    exact k _ _ h (hF _ List.mem_cons_self)
  | scr h _ ih => exact .scr (scr_step B hB k h) (ih hF)
theorem Reps.ext (k : ∀ b o, H b = some o → H' b = some o) (r : Reps K H vs ds F) : Reps K H' vs ds F :=
  r.step (fun _ => False) (fun _ h => h.elim) (fun b o e _ => k b o e) fun _ _ h => h

theorem Reps.cons (r : Rep K H v d F) (q : Reps K H vs ds G) : Reps K H (v :: vs) (d :: ds) (F ++ G) := by
  cases r with
  | sc e r =>
    cases r
    exact Reps.sc e q
  | tup h r t =>
    cases t
    rw [List.append_nil]
    exact .tup h r q
  | lst h r t =>
    cases t
    rw [List.append_nil]
    exact .lst h r q
  | scr h t =>
    cases t
    exact .scr h q
theorem Reps.uncons (r : Reps K H (v :: vs) (d :: ds) F) : ∃ F1 F2, F = F1 ++ F2 ∧ Rep K H v d F1 ∧ Reps K H vs ds F2 := by
  cases r with
  | sc e r => exact ⟨[], F, rfl, .sc e .nil, r⟩
  | @tup _ _ _ _ _ F1 F2 h r t => exact ⟨F1, F2, rfl, by have := Reps.tup h r (.nil (K := K) (H := H)); rwa [List.append_nil] at this, t⟩
  | @lst a _ _ _ _ F1 F2 h r t => exact ⟨a :: F1, F2, rfl, by have := Reps.lst h r (.nil (K := K) (H := H)); rwa [List.append_nil] at this, t⟩
  | scr h t => exact ⟨[], F, rfl, .scr h .nil, t⟩
theorem Reps.append (r : Reps K H vs ds F) (q : Reps K H ws es G) : Reps K H (vs ++ ws) (ds ++ es) (F ++ G) := by
  induction r with
  | nil => exact q
  | sc e _ ih => exact .sc e ih
  | tup h r _ _ ih => rw [List.append_assoc]; exact .tup h r ih
  | @lst a _ _ _ _ F1 F2 h r _ _ ih =>
    show Reps K H _ _ (a :: ((F1 ++ F2) ++ G))
    rw [List.append_assoc]; exact .lst h r ih
  | scr h _ ih => exact .scr h ih
/-- the i-th -/
theorem Reps.at : ∀ {vs : List V} {ds : List D} {F : List Addr} {i : Nat} {d : D}, Reps K H vs ds F → ds[i]? = some d → ∃ v F1, vs[i]? = some v ∧ Rep K H v d F1 ∧ ∀ a ∈ F1, a ∈ F
  | [], [], _, i, d, _, h => by simp at h
  | [], _ :: _, _, _, _, r, _ => by cases r
  | _ :: _, [], _, _, _, r, _ => by cases r
  | v :: vs, e :: ds, F, 0, d, r, h => by
    obtain ⟨F1, F2, rfl, r1, r2⟩ := Reps.uncons r
    simp at h; subst h
    exact ⟨v, F1, rfl, r1, fun a ha => List.mem_append_left _ ha⟩
  | v :: vs, e :: ds, F, i + 1, d, r, h => by
    obtain ⟨F1, F2, rfl, r1, r2⟩ := Reps.uncons r
    obtain ⟨u, G, h1, h2, h3⟩ := Reps.at (i := i) r2 (by simpa using h)
    exact ⟨u, G, by simpa using h1, h2, fun a ha => List.mem_append_right _ (h3 a ha)⟩
/-- the i-th replaced -/
theorem Reps.set : ∀ {vs : List V} {ds : List D} {F : List Addr} (i : Nat), Reps K H vs ds F → Rep K H v d G → ∃ F', Reps K H (vs.set i v) (ds.set i d) F' ∧ ∀ a ∈ F', a ∈ F ∨ a ∈ G
  | [], [], F, i, r, _ => ⟨F, r, fun _ h => .inl h⟩
  | [], _ :: _, _, _, r, _ => by cases r
  | _ :: _, [], _, _, r, _ => by cases r
  | u :: vs, e :: ds, F, 0, r, q => by
    obtain ⟨F1, F2, rfl, r1, r2⟩ := Reps.uncons r
    exact ⟨G ++ F2, q.cons r2, fun a ha => (List.mem_append.mp ha).elim .inr fun h => .inl (List.mem_append_right _ h)⟩
  | u :: vs, e :: ds, F, i + 1, r, q => by
    obtain ⟨F1, F2, rfl, r1, r2⟩ := Reps.uncons r
    obtain ⟨F', r3, h⟩ := Reps.set i r2 q
    refine ⟨F1 ++ F', r1.cons r3, fun a ha => ?_⟩
    rcases List.mem_append.mp ha with ha | ha
    · exact .inl (List.mem_append_left _ ha)
    · rcases h a ha with h | h
      · exact .inl (List.mem_append_right _ h)
      · exact .inr h
/-- one taken out -/
theorem Reps.erase : ∀ {vs : List V} {ds : List D} {F : List Addr} (i : Nat), Reps K H vs ds F → ∃ F', Reps K H (vs.eraseIdx i) (ds.eraseIdx i) F' ∧ ∀ a ∈ F', a ∈ F
  | [], [], F, i, r => ⟨F, r, fun _ h => h⟩
  | [], _ :: _, _, _, r => by cases r
  | _ :: _, [], _, _, r => by cases r
  | u :: vs, e :: ds, F, 0, r => by
    obtain ⟨F1, F2, rfl, r1, r2⟩ := Reps.uncons r
    exact ⟨F2, r2, fun a ha => List.mem_append_right _ ha⟩
  | u :: vs, e :: ds, F, i + 1, r => by
    obtain ⟨F1, F2, rfl, r1, r2⟩ := Reps.uncons r
    obtain ⟨F', r3, h⟩ := Reps.erase i r2
    exact ⟨F1 ++ F', r1.cons r3, fun a ha => (List.mem_append.mp ha).elim (List.mem_append_left _) fun q => List.mem_append_right _ (h a q)⟩

theorem Reps.pure : ∀ {vs ds F}, Reps K H vs ds F → pureL ds = true → F = [] := by
  intro vs ds F r
  induction r with
  | nil => intro _; rfl
  | @sc v d vs ds F e _ ih =>
    intro h
    rw [pureL, Bool.and_eq_true] at h
    exact ih h.2
  | @tup a xs es vs ds F G hs _ _ ih1 ih2 =>
    intro h
    rw [pureL, Bool.and_eq_true, D.pure] at h
    rw [ih1 h.1, ih2 h.2]
    rfl
  | lst _ _ _ _ _ =>
    intro h
    rw [pureL, Bool.and_eq_true, D.pure] at h
    cases h.1
  | scr _ _ ih =>
    intro h
    rw [pureL, Bool.and_eq_true] at h
    exact ih h.2
theorem Rep.pure (r : Rep K H v d F) (h : d.pure = true) : F = [] := Reps.pure r (by rw [pureL, h]; rfl)

theorem Rep.scE (r : Rep K H v d F) {u : V} (h : d.sc = some u) : v = u ∧ F = [] := by
  cases r with
  | sc e r =>
    rw [h] at e
    cases e
    cases r
    exact ⟨rfl, rfl⟩
  | tup _ _ _ => cases h
  | lst _ _ _ => cases h
  | scr _ _ => cases h
theorem Rep.of (h : d.sc = some v) : Rep K H v d [] := Reps.sc h .nil
theorem Rep.tupE {es : List D} (r : Rep K H v (.tup es) F) : ∃ a xs, v = .ref a ∧ SqT K H a xs ∧ Reps K H xs es F := by
  cases r with
  | sc e _ => cases e
  | tup h r t =>
    cases t
    rw [List.append_nil]
    exact ⟨_, _, rfl, h, r⟩
theorem Rep.lstE {es : List D} (r : Rep K H v (.lst es) F) : ∃ a xs G, v = .ref a ∧ F = a :: G ∧ H a = some (.lst xs) ∧ Reps K H xs es G := by
  cases r with
  | sc e _ => cases e
  | lst h r t =>
    cases t
    rw [List.append_nil]
    exact ⟨_, _, _, rfl, rfl, h, r⟩
theorem Rep.scrE {ns : List Int} (r : Rep K H v (.scr ns) F) : ∃ a, v = .ref a ∧ F = [] ∧ ScrAt K H a (ns.map V.int) := by
  cases r with
  | sc e _ => cases e
  | scr h t =>
    cases t
    exact ⟨_, rfl, rfl, h⟩
theorem Rep.tupI {a : Addr} {xs : List V} {es : List D} (h : SqT K H a xs) (r : Reps K H xs es F) : Rep K H (.ref a) (.tup es) F := by
  have := Reps.tup h r (.nil (K := K) (H := H))
  rwa [List.append_nil] at this
theorem Rep.lstI {a : Addr} {xs : List V} {es : List D} (h : H a = some (.lst xs)) (r : Reps K H xs es F) : Rep K H (.ref a) (.lst es) (a :: F) := by
  have := Reps.lst h r (.nil (K := K) (H := H))
  rwa [List.append_nil] at this
/-- an address of it is not free -/
theorem Reps.dom (r : Reps K H vs ds F) : ∀ a ∈ F, H a ≠ none := fun a h e => by
  obtain ⟨xs, q⟩ := r.lists a h
  rw [e] at q; cases q
theorem reps_ints (ns : List Int) : Reps K H (ns.map V.int) (ns.map D.int) [] := by
  induction ns with
  | nil => exact .nil
  | cons n ns ih => exact .sc rfl ih

/-- data whose top may be a list of one's own: A is that list (or nothing), all lists below are shared -/
def Top (K : PySem.W.Frag) (H : Hp) (Z : Sh) (v : V) (d : D) (A : List Addr) : Prop := match d with
  | .lst ds => ∃ a xs G, v = .ref a ∧ A = [a] ∧ H a = some (.lst xs) ∧ Reps K H xs ds G ∧ ∀ g ∈ G, Z g
  | d => A = [] ∧ ∃ F, Rep K H v d F ∧ ∀ g ∈ F, Z g
variable {Z Z' : Sh} {A : List Addr}
theorem Top.rep (t : Top K H Z v d A) : ∃ F, Rep K H v d F ∧ ∀ g ∈ F, Z g ∨ g ∈ A := by
  cases d with
  | lst ds =>
    obtain ⟨a, xs, G, rfl, rfl, h, r, z⟩ := t
    refine ⟨a :: G, Rep.lstI h r, fun g hg => ?_⟩
    rcases List.mem_cons.mp hg with e | hg
    · exact .inr (by rw [e]; exact List.mem_singleton.mpr rfl)
    · exact .inl (z g hg)
  | _ =>
    obtain ⟨_, F, r, z⟩ := t
    exact ⟨F, r, fun g hg => .inl (z g hg)⟩
theorem Top.mono (t : Top K H Z v d A) (h : ∀ g, Z g → Z' g) : Top K H Z' v d A := by
  cases d with
  | lst ds =>
    obtain ⟨a, xs, G, e1, e2, e3, r, z⟩ := t
    exact ⟨a, xs, G, e1, e2, e3, r, fun g hg => h g (z g hg)⟩
  | _ =>
    obtain ⟨e, F, r, z⟩ := t
    exact ⟨e, F, r, fun g hg => h g (z g hg)⟩
theorem Top.notLst (h : isLst d = false) : Top K H Z v d A ↔ A = [] ∧ ∃ F, Rep K H v d F ∧ ∀ g ∈ F, Z g := by
  cases d with
  | lst _ => cases h
  | _ => exact Iff.rfl
theorem Top.step (t : Top K H Z v d A) (B : Addr → Prop) (hB : ∀ b, B b → ∃ ys, H b = some (.lst ys)) (k : ∀ b o, H b = some o → ¬ B b → H' b = some o) (hZ : ∀ g, Z g → ¬ B g) (hA : ∀ a ∈ A, ¬ B a) : Top K H' Z v d A := by
  cases d with
  | lst ds =>
    obtain ⟨a, xs, G, rfl, rfl, h, r, z⟩ := t
    exact ⟨a, xs, G, rfl, rfl, k _ _ h (hA a (List.mem_singleton.mpr rfl)), r.step B hB k fun g hg => hZ g (z g hg), z⟩
  | _ =>
    obtain ⟨e, F, r, z⟩ := t
    exact ⟨e, F, r.step B hB k fun g hg => hZ g (z g hg), z⟩
theorem Top.lists (t : Top K H Z v d A) : ∀ a ∈ A, ∃ xs, H a = some (.lst xs) := by
  cases d with
  | lst ds =>
    obtain ⟨a, xs, G, rfl, rfl, h, r, z⟩ := t
    intro b hb
    rw [List.mem_singleton.mp hb]
    exact ⟨xs, h⟩
  | _ =>
    obtain ⟨e, _⟩ := t
    subst e
    exact fun b hb => nomatch hb
end

/-! ### the slots of a def -/
/-- not yet known | a value of its own (a list at its top is nobody else's) | a value that may be shared | the parameter that the caller lends for writing -/
inductive Sl where
  | un | own (d : D) | frz (d : D) | io (d : D)
abbrev State := List Sl
/-- which list a slot owns -/
abbrev Own := Nat → List Addr
def Owns (O : Own) (a : Addr) : Prop := ∃ i, a ∈ O i
/-- the def's entry: its heap, the lent value, the lent list -/
structure Entry where
  H0 : Hp
  v0 : V
  F0 : List Addr

structure Rel (K : PySem.W.Frag) (en : Entry) (S : State) (σ : L2.St) (H : Hp) (O : Own) (Z : Sh) : Prop where
  len : S.length = σ.length
  own : ∀ (i : Nat) (d : D), S[i]? = some (Sl.own d) → (∃ v, σ[i]? = some (some v) ∧ Top K H Z v d (O i)) ∧ ∀ a ∈ O i, en.H0 a = none
  io : ∀ (i : Nat) (d : D), S[i]? = some (Sl.io d) → σ[i]? = some (some en.v0) ∧ Top K H Z en.v0 d (O i) ∧ O i = en.F0
  frz : ∀ (i : Nat) (d : D), S[i]? = some (Sl.frz d) → ∃ v F, σ[i]? = some (some v) ∧ Rep K H v d F ∧ ∀ a ∈ F, Z a
  non : ∀ (i : Nat), (∀ d, S[i]? ≠ some (Sl.own d)) → (∀ d, S[i]? ≠ some (Sl.io d)) → O i = []
  dis : ∀ i j a, a ∈ O i → a ∈ O j → i = j
  dom : ∀ a, en.H0 a ≠ none → H a ≠ none
  zo : ∀ a, Z a → ¬ Owns O a
  zd : ∀ a, Z a → H a ≠ none
/-- the state goes on -/
structure Evo (O : Own) (Z : Sh) (H : Hp) (O' : Own) (Z' : Sh) (H' : Hp) : Prop where
  keep : ∀ b o, H b = some o → ¬ Owns O b → H' b = some o
  dom : ∀ b, H b ≠ none → H' b ≠ none
  own : ∀ b, Owns O' b → Owns O b ∨ H b = none
  sh : ∀ b, Z' b → Z b ∨ Owns O b ∨ H b = none
  grow : ∀ b, Z b → Z' b
def Ext (H H' : Hp) : Prop := ∀ b o, H b = some o → H' b = some o

section
variable {K : PySem.W.Frag} {en : Entry} {S S' : State} {σ : L2.St} {H H1 H2 : Hp} {O O1 O2 : Own} {Z Z1 Z2 : Sh}
theorem Ext.refl : Ext H H := fun _ _ h => h
theorem Ext.trans (a : Ext H H1) (b : Ext H1 H2) : Ext H H2 := fun c o h => b c o (a c o h)
theorem Ext.new {p : Addr} {o : HO} (h : H p = none) : Ext H (upd H p o) := fun b u e => by
  rw [upd_ne (ne_of_none e h)]
  exact e
theorem Ext.dom (h : Ext H H1) (b : Addr) (e : H b ≠ none) : H1 b ≠ none := fun z => by
  cases q : H b with
  | none => exact e q
  | some o =>
    rw [h b o q] at z
    cases z
theorem Evo.refl : Evo O Z H O Z H := ⟨fun _ _ h _ => h, fun _ h => h, fun _ h => .inl h, fun _ h => .inl h, fun _ h => h⟩
theorem Evo.back (a : Evo O Z H O1 Z1 H1) (c : Addr) (h : H1 c = none) : H c = none := by
  cases e : H c with
  | none => rfl
  | some o => exact absurd h (a.dom c (by rw [e]; exact fun z => nomatch z))
theorem Evo.trans (a : Evo O Z H O1 Z1 H1) (b : Evo O1 Z1 H1 O2 Z2 H2) : Evo O Z H O2 Z2 H2 where
  keep := fun c o h n => b.keep c o (a.keep c o h n) fun q => by
    rcases a.own c q with q | q
    · exact n q
    · rw [h] at q; cases q
  dom := fun c h => b.dom c (a.dom c h)
  own := fun c h => by
    rcases b.own c h with h | h
    · exact a.own c h
    · exact .inr (a.back c h)
  sh := fun c h => by
    rcases b.sh c h with h | h | h
    · exact a.sh c h
    · rcases a.own c h with h | h
      · exact .inr (.inl h)
      · exact .inr (.inr h)
    · exact .inr (.inr (a.back c h))
  grow := fun c h => b.grow c (a.grow c h)
theorem Evo.ext (h : Ext H H1) : Evo O Z H O Z H1 := ⟨fun b o e _ => h b o e, h.dom, fun _ h => .inl h, fun _ h => .inl h, fun _ h => h⟩
theorem Evo.new {p : Addr} {o : HO} (h : H p = none) : Evo O Z H O Z (upd H p o) := .ext (.new h)
/-- more is shared: what is new -/
theorem Evo.more {P : Addr → Prop} (h : ∀ a, P a → H a = none ∨ Owns O a) : Evo O Z H O (fun a => Z a ∨ P a) H :=
  ⟨fun _ _ h _ => h, fun _ h => h, fun _ h => .inl h, fun b hb => by
    rcases hb with hb | hb
    · exact .inl hb
    · rcases h b hb with h | h
      · exact .inr (.inr h)
      · exact .inr (.inl h), fun _ h => .inl h⟩

theorem Rel.mut (r : Rel K en S σ H O Z) : ∀ b, Owns O b → ∃ ys, H b = some (.lst ys) := by
  rintro b ⟨i, hb⟩
  by_cases h1 : ∃ d, S[i]? = some (Sl.own d)
  · obtain ⟨d, e⟩ := h1
    obtain ⟨⟨v, _, q⟩, _⟩ := r.own i d e
    exact q.lists b hb
  · by_cases h2 : ∃ d, S[i]? = some (Sl.io d)
    · obtain ⟨d, e⟩ := h2
      obtain ⟨_, q, _⟩ := r.io i d e
      exact q.lists b hb
    · have := r.non i (fun d e => h1 ⟨d, e⟩) fun d e => h2 ⟨d, e⟩
      rw [this] at hb; cases hb
theorem Rel.odom (r : Rel K en S σ H O Z) : ∀ b, Owns O b → H b ≠ none := fun b h e => by
  obtain ⟨ys, q⟩ := r.mut b h
  rw [e] at q; cases q
/-- what is shared stays -/
theorem Rel.keep (r : Rel K en S σ H O Z) (e : Evo O Z H O1 Z1 H1) {vs : List V} {ds : List D} {F : List Addr} (q : Reps K H vs ds F) (h : ∀ a ∈ F, Z a) : Reps K H1 vs ds F :=
  q.step (Owns O) r.mut e.keep fun a ha => r.zo a (h a ha)
/-- the heap grew, the slots are as they were -/
theorem Rel.ext (r : Rel K en S σ H O Z) (e : Ext H H1) : Rel K en S σ H1 O Z where
  len := r.len
  own := fun i d h => by
    obtain ⟨⟨v, a, b⟩, c⟩ := r.own i d h
    exact ⟨⟨v, a, b.step (fun _ => False) (fun _ h => h.elim) (fun b o q _ => e b o q) (fun _ _ h => h) fun _ _ h => h⟩, c⟩
  io := fun i d h => by
    obtain ⟨a, b, c⟩ := r.io i d h
    exact ⟨a, b.step (fun _ => False) (fun _ h => h.elim) (fun b o q _ => e b o q) (fun _ _ h => h) fun _ _ h => h, c⟩
  frz := fun i d h => by
    obtain ⟨v, F, a, b, c⟩ := r.frz i d h
    exact ⟨v, F, a, b.ext e, c⟩
  non := r.non
  dis := r.dis
  dom := fun a h => e.dom a (r.dom a h)
  zo := r.zo
  zd := fun a h => e.dom a (r.zd a h)
theorem Rel.new (r : Rel K en S σ H O Z) {p : Addr} {o : HO} (h : H p = none) : Rel K en S σ (upd H p o) O Z := r.ext (.new h)
/-- more is shared -/
theorem Rel.more (r : Rel K en S σ H O Z) {Z' : Sh} (h : ∀ a, Z a → Z' a) (h1 : ∀ a, Z' a → ¬ Owns O a) (h2 : ∀ a, Z' a → H a ≠ none) : Rel K en S σ H O Z' where
  len := r.len
  own := fun i d e => by
    obtain ⟨⟨v, a, b⟩, c⟩ := r.own i d e
    exact ⟨⟨v, a, b.mono h⟩, c⟩
  io := fun i d e => by
    obtain ⟨a, b, c⟩ := r.io i d e
    exact ⟨a, b.mono h, c⟩
  frz := fun i d e => by
    obtain ⟨v, F, a, b, c⟩ := r.frz i d e
    exact ⟨v, F, a, b, fun x hx => h x (c x hx)⟩
  non := r.non
  dis := r.dis
  dom := r.dom
  zo := h1
  zd := h2
end
end R

set_option Elab.async false
set_option linter.all false
set_option maxRecDepth 100000
set_option maxHeartbeats 2000000
/-! R2: weakest readings (WE ..), runs over slots (M), how a value came (Md, Res). -/
namespace R
open PySem PySem.Spec PyProof.Rows L2

/-! ### weakest readings -/
def WE (X : Cx) (e : Expr) : TE := fun σ H Q => ∀ pins s, Inv X pins σ H s → wpAny (model X.prog X.w) X.A (eval e X.env) (EP X pins σ Q) X.xe s
def WT (X : Cx) (e : Expr) : TT := fun σ H Q => ∀ pins s, Inv X pins σ H s → wpAny (model X.prog X.w) X.A (isTrue e X.env (eval e X.env)) (TP X pins σ Q) X.xe s
def WW (X : Cx) (e : Expr) : TT := fun σ H Q => ∀ whole pins s, Inv X pins σ H s → wpAny (model X.prog X.w) X.A (isTrue e X.env whole) (TP X pins σ Q) X.xe s
def WA (X : Cx) (es : List Expr) : TA := fun σ H Q => ∀ pos pins s, Inv X pins σ H s → wpAny (model X.prog X.w) X.A (spliced (backTo pos (starEach es X.env))) (AP X pins σ Q) X.xe s
def WS (X : Cx) (st : Stmt) : TS := fun D σ H => ∀ pins s, Inv X pins σ H s → wpAny (model X.prog X.w) X.A (exec st X.env) (SP X pins D) X.xe s
def WSs (X : Cx) (st : List Stmt) : TS := fun D σ H => ∀ pins s, Inv X pins σ H s → wpAny (model X.prog X.w) X.A (execs st X.env) (SP X pins D) X.xe s
section
variable {X : Cx} {e : Expr} {es : List Expr} {st : Stmt} {sts : List Stmt} {σ : L2.St} {H : Hp}
theorem WE.pe : PE X e (WE X e) := ⟨fun pins s _ _ _ I h => h pins s I⟩
theorem WE.of {t : TE} {Q : VK} (p : PE X e t) (h : t σ H Q) : WE X e σ H Q := fun pins s I => p.run pins s σ H Q I h
theorem WT.pt : PT X e (WT X e) := ⟨fun pins s _ _ _ I h => h pins s I⟩
theorem WT.of {t : TT} {Q : Bool → Hp → Prop} (p : PT X e t) (h : t σ H Q) : WT X e σ H Q := fun pins s I => p.run pins s σ H Q I h
theorem WW.pw : PW X e (WW X e) := ⟨fun wh pins s _ _ _ I h => h wh pins s I⟩
theorem WW.of {t : TT} {Q : Bool → Hp → Prop} (p : PW X e t) (h : t σ H Q) : WW X e σ H Q := fun wh pins s I => p.run wh pins s σ H Q I h
theorem WW.wt {Q : Bool → Hp → Prop} (h : WW X e σ H Q) : WT X e σ H Q := fun pins s I => h _ pins s I
theorem WA.pa : PA X es (WA X es) := ⟨fun pos pins s _ _ _ I h => h pos pins s I⟩
theorem WA.of {t : TA} {Q : List V → Hp → Prop} (p : PA X es t) (h : t σ H Q) : WA X es σ H Q := fun pos pins s I => p.run pos pins s σ H Q I h
theorem WS.ps : PS X st (WS X st) := ⟨fun pins s _ _ _ I h => h pins s I⟩
theorem WS.of {t : TS} {D : Ends} (p : PS X st t) (h : t D σ H) : WS X st D σ H := fun pins s I => p.run pins s σ H D I h
theorem WSs.pss : PSs X sts (WSs X sts) := ⟨fun pins s _ _ _ I h => h pins s I⟩
theorem WSs.of {t : TS} {D : Ends} (p : PSs X sts t) (h : t D σ H) : WSs X sts D σ H := fun pins s I => p.run pins s σ H D I h
end

/-! ### runs -/
/-- an exception: its class (a number of one's own table), its fields -/
structure Exn where
  cls : Nat
  fs : List (Str × D)
inductive Out (α : Type) where
  | ok (a : α) (S : State) | exc (x : Exn) (S : State) | bad
abbrev M (α : Type) := State → Out α
/-- how a value came: its top is new | it is shared | its top may be a slot's own -/
inductive Md where
  | N | Z | B
structure RV where
  md : Md
  d : D

def Res (K : PySem.W.Frag) (md : Md) (d : D) (v : V) (H H' : Hp) (O' : Own) (Z' : Sh) : Prop := match md with
  | .N => ∃ A, Top K H' Z' v d A ∧ ∀ a ∈ A, H a = none ∧ ¬ Owns O' a ∧ ¬ Z' a
  | .Z => ∃ F, Rep K H' v d F ∧ ∀ a ∈ F, Z' a
  | .B => ∃ A, Top K H' Z' v d A
/-- to be put away: what a slot may own is refused -/
def settle (r : RV) : Option RV := match r.md with
  | .B => if isLst r.d then none else some ⟨.Z, r.d⟩
  | _ => some r
/-- held over q (quiet: nothing changes) -/
def hold (q : Bool) (r : RV) : Option RV := match r.md with
  | .B => if q then some r else if isLst r.d then none else some ⟨.Z, r.d⟩
  | _ => some r
section
variable {K : PySem.W.Frag} {en : Entry} {S S' : State} {σ σ' : L2.St} {H H' H0 H1 H2 : Hp} {O O' O1 O2 : Own} {Z Z' Z1 Z2 : Sh} {md : Md} {d : D} {v : V} {ds : List D} {vs : List V}
theorem Res.any (r : Res K md d v H H' O' Z') : ∃ F, Rep K H' v d F := by
  cases md with
  | N => obtain ⟨A, t, _⟩ := r; obtain ⟨F, p, _⟩ := t.rep; exact ⟨F, p⟩
  | Z => obtain ⟨F, r, _⟩ := r; exact ⟨F, r⟩
  | B => obtain ⟨A, t⟩ := r; obtain ⟨F, p, _⟩ := t.rep; exact ⟨F, p⟩
theorem Rep.top {F : List Addr} (r : Rep K H v d F) (z : ∀ a ∈ F, Z a) : ∃ A, Top K H Z v d A := by
  cases d with
  | lst ds =>
    obtain ⟨a, xs, G, rfl, rfl, h, rr⟩ := r.lstE
    exact ⟨[a], a, xs, G, rfl, rfl, h, rr, fun g hg => z g (List.mem_cons_of_mem _ hg)⟩
  | _ => exact ⟨[], rfl, F, r, z⟩
/-- a list: its items are shared -/
theorem Res.lst {xs : List D} (r : Res K md (.lst xs) v H H' O' Z') : ∃ a vs G, v = .ref a ∧ H' a = some (.lst vs) ∧ Reps K H' vs xs G ∧ ∀ g ∈ G, Z' g := by
  cases md with
  | N => obtain ⟨A, ⟨a, vs, G, e, _, h, r, z⟩, _⟩ := r; exact ⟨a, vs, G, e, h, r, z⟩
  | Z =>
    obtain ⟨F, r, z⟩ := r
    obtain ⟨a, vs, G, rfl, rfl, h, rr⟩ := r.lstE
    exact ⟨a, vs, G, rfl, h, rr, fun g hg => z g (List.mem_cons_of_mem _ hg)⟩
  | B => obtain ⟨A, ⟨a, vs, G, e, _, h, r, z⟩⟩ := r; exact ⟨a, vs, G, e, h, r, z⟩
/-- no list at its top: shared -/
theorem Res.flatZ (r : Res K md d v H H' O' Z') (h : isLst d = false) : ∃ F, Rep K H' v d F ∧ ∀ a ∈ F, Z' a := by
  cases md with
  | N => obtain ⟨A, t, _⟩ := r; exact ((Top.notLst h).mp t).2
  | Z => exact r
  | B => obtain ⟨A, t⟩ := r; exact ((Top.notLst h).mp t).2
theorem Res.of_flat {F : List Addr} (r : Rep K H' v d F) (z : ∀ a ∈ F, Z' a) (h : isLst d = false) (md : Md) : Res K md d v H H' O' Z' := by
  cases md with
  | N => exact ⟨[], (Top.notLst h).mpr ⟨rfl, F, r, z⟩, fun _ q => nomatch q⟩
  | Z => exact ⟨F, r, z⟩
  | B => exact ⟨[], (Top.notLst h).mpr ⟨rfl, F, r, z⟩⟩
theorem sc_notLst {u : V} (h : d.sc = some u) : isLst d = false := by cases d <;> first | rfl | cases h
theorem Res.sc {u : V} (h : d.sc = some u) : Res K md d u H H' O' Z' := .of_flat (.of h) (fun _ z => nomatch z) (sc_notLst h) md
theorem Res.weakB (r : Res K md d v H H' O' Z') : Res K .B d v H1 H' O1 Z' := by
  cases md with
  | N => obtain ⟨A, t, _⟩ := r; exact ⟨A, t⟩
  | Z => obtain ⟨F, r, z⟩ := r; exact r.top z
  | B => exact r
theorem Res.val {u : V} (r : Res K md d v H H' O' Z') (h : d.sc = some u) : v = u := by
  obtain ⟨F, r⟩ := r.any
  exact (r.scE h).1
theorem Res.from (f : ∀ b, H b = none → H0 b = none) (r : Res K md d v H H' O Z) : Res K md d v H0 H' O Z := by
  cases md with
  | N => obtain ⟨A, a, b⟩ := r; exact ⟨A, a, fun x hx => ⟨f x (b x hx).1, (b x hx).2⟩⟩
  | Z => exact r
  | B => exact r
/-- held data stays while the state goes on -/
theorem Res.later (r : Res K md d v H H1 O1 Z1) (rel : Rel K en S σ H1 O1 Z1) (e : Evo O1 Z1 H1 O2 Z2 H2) (hm : md = .B → Ext H1 H2 ∨ isLst d = false) : Res K md d v H H2 O2 Z2 := by
  cases md with
  | N =>
    obtain ⟨A, t, n⟩ := r
    refine ⟨A, (t.step (Owns O1) rel.mut e.keep rel.zo fun a ha => (n a ha).2.1).mono e.grow, fun a ha => ?_⟩
    have hd : H1 a ≠ none := fun z => by
      obtain ⟨xs, q⟩ := t.lists a ha
      rw [z] at q; cases q
    refine ⟨(n a ha).1, fun q => ?_, fun q => ?_⟩
    · rcases e.own a q with q | q
      · exact (n a ha).2.1 q
      · exact hd q
    · rcases e.sh a q with q | q | q
      · exact (n a ha).2.2 q
      · exact (n a ha).2.1 q
      · exact hd q
  | Z =>
    obtain ⟨F, r, o⟩ := r
    exact ⟨F, rel.keep e r o, fun a ha => e.grow a (o a ha)⟩
  | B =>
    rcases hm rfl with x | hn
    · obtain ⟨A, t⟩ := r
      exact ⟨A, (t.step (fun _ => False) (fun _ h => h.elim) (fun b o q _ => x b o q) (fun _ _ h => h) fun _ _ h => h).mono e.grow⟩
    · obtain ⟨F, r, z⟩ := Res.flatZ (md := .B) (H := H) (O' := O1) r hn
      exact .of_flat (rel.keep e r z) (fun a ha => e.grow a (z a ha)) hn .B
theorem Res.ext (r : Res K md d v H H1 O1 Z1) (x : Ext H1 H2) : Res K md d v H H2 O1 Z1 := by
  have st : ∀ {A}, Top K H1 Z1 v d A → Top K H2 Z1 v d A := fun t => t.step (fun _ => False) (fun _ h => h.elim) (fun b o q _ => x b o q) (fun _ _ h => h) fun _ _ h => h
  cases md with
  | N => obtain ⟨A, t, n⟩ := r; exact ⟨A, st t, n⟩
  | Z => obtain ⟨F, r, o⟩ := r; exact ⟨F, r.ext x, o⟩
  | B => obtain ⟨A, t⟩ := r; exact ⟨A, st t⟩
theorem settle_ok {r r' : RV} (h : settle r = some r') (x : Res K r.md r.d v H0 H O Z) : r'.d = r.d ∧ Res K r'.md r'.d v H0 H O Z ∧ r'.md ≠ .B := by
  obtain ⟨md, d⟩ := r
  unfold settle at h
  cases md with
  | N => cases h; exact ⟨rfl, x, fun z => nomatch z⟩
  | Z => cases h; exact ⟨rfl, x, fun z => nomatch z⟩
  | B =>
    dsimp only at h
    split at h
    · cases h
    · rename_i e
      cases h
      have e' : isLst d = false := by cases q : isLst d <;> first | rfl | exact absurd q e
      obtain ⟨F, p, z⟩ := x.flatZ e'
      exact ⟨rfl, ⟨F, p, z⟩, fun z => nomatch z⟩
theorem hold_ok {q : Bool} {r r' : RV} (h : hold q r = some r') (x : Res K r.md r.d v H0 H O Z) : r'.d = r.d ∧ Res K r'.md r'.d v H0 H O Z ∧ (r'.md = .B → q = true) := by
  obtain ⟨md, d⟩ := r
  unfold hold at h
  cases md with
  | N => cases h; exact ⟨rfl, x, fun z => nomatch z⟩
  | Z => cases h; exact ⟨rfl, x, fun z => nomatch z⟩
  | B =>
    dsimp only at h
    split at h
    · rename_i e
      cases h; exact ⟨rfl, x, fun _ => e⟩
    · split at h
      · cases h
      · rename_i e
        cases h
        have e' : isLst d = false := by cases q : isLst d <;> first | rfl | exact absurd q e
        obtain ⟨F, p, z⟩ := x.flatZ e'
        exact ⟨rfl, ⟨F, p, z⟩, fun z => nomatch z⟩
/-- a new list of shared items -/
theorem Res.new_lst {p : Addr} {F : List Addr} (rel : Rel K en S σ H O Z) (f : ∀ b, H b = none → H0 b = none) (hp : H p = none) (r : Reps K H vs ds F) (z : ∀ x ∈ F, Z x) : Res K .N (.lst ds) (.ref p) H0 (upd H p (.lst vs)) O Z := by
  refine ⟨[p], ⟨p, vs, F, rfl, rfl, upd_same, r.ext (Ext.new hp), z⟩, fun a ha => ?_⟩
  rw [List.mem_singleton.mp ha]
  exact ⟨f p hp, fun q => rel.odom p q hp, fun q => rel.zd p q hp⟩
theorem Res.new_tup {p : Addr} {F : List Addr} {md : Md} (hp : H p = none) (r : Reps K H vs ds F) (z : ∀ x ∈ F, Z x) : Res K md (.tup ds) (.ref p) H0 (upd H p (.tup vs)) O Z :=
  .of_flat (Rep.tupI (SqT.of upd_same) (r.ext (Ext.new hp))) z rfl md
/-- a tuple, its items -/
theorem Res.tup {xs : List D} (r : Res K md (.tup xs) v H H' O' Z') : ∃ a vs G, v = .ref a ∧ SqT K H' a vs ∧ Reps K H' vs xs G ∧ ∀ g ∈ G, Z' g := by
  obtain ⟨F, p, z⟩ := r.flatZ rfl
  obtain ⟨a, vs, rfl, ha, ra⟩ := p.tupE
  exact ⟨a, vs, F, rfl, ha, ra, z⟩
theorem Res.scr {ns : List Int} (r : Res K md (.scr ns) v H H' O' Z') : ∃ a, v = .ref a ∧ SqL K H' a (ns.map V.int) := by
  obtain ⟨F, p, z⟩ := r.flatZ rfl
  obtain ⟨a, rfl, _, ha⟩ := p.scrE
  exact ⟨a, rfl, ha.sql⟩
end
end R

set_option Elab.async false
set_option linter.all false
set_option maxRecDepth 100000
set_option maxHeartbeats 2000000
/-! R3: what a def does by data (FSem, spOf), the module's table, what an expression does (RD, SE): names, constants, two operands. -/
namespace R
open PySem PySem.Spec PyProof.Rows L2

/-- an exception object by its class and its dict -/
def XRep (K : PySem.W.Frag) (cl : Nat → Addr) (x : Exn) (cls : Value) (d : Option Addr) (H : Hp) : Prop :=
  cls = .ref (cl x.cls) ∧ (x.fs = [] ∨ ∃ dx vs, d = some dx ∧ H dx = some (.xd ((x.fs.map (·.1)).zip vs)) ∧ Reps K H vs (x.fs.map (·.2)) [])

/-! ### what a def does, by data -/
inductive FRes where
  | ret (md : Md) (d : D) (io : Option D) | exc (x : Exn) (io : Option D) | bad
abbrev FSem := List D → FRes
def oneOwn (F : List Addr) : Own := fun i => if i = 0 then F else []
theorem owns_one {F : List Addr} {a : Addr} : Owns (oneOwn F) a ↔ a ∈ F := by
  constructor
  · rintro ⟨i, h⟩
    unfold oneOwn at h
    split at h
    · exact h
    · cases h
  · exact fun h => ⟨0, h⟩
def noOwn : Own := fun _ => []
theorem owns_no {a : Addr} : ¬ Owns noOwn a := fun ⟨_, h⟩ => nomatch h
/-- the heap behind a call that was lent A0 -/
structure Lent (A0 : List Addr) (H H' : Hp) : Prop where
  keep : ∀ b o, H b = some o → b ∉ A0 → H' b = some o
  dom : ∀ b, H b ≠ none → H' b ≠ none
/-- what is shared behind a call: of the arguments, or new -/
structure ShOf (F : List Addr) (A0 : List Addr) (H H' : Hp) (Zr : Sh) : Prop where
  of : ∀ a, Zr a → a ∈ F ∨ H a = none
  dom : ∀ a, Zr a → H' a ≠ none
  out : ∀ a, Zr a → a ∉ A0
/-- the arguments: without a lent one | the first one lent (F: the lists within) -/
def ArgsP (K : PySem.W.Frag) (vs : List V) (ds : List D) (F : List Addr) (H : Hp) : Prop := Reps K H vs ds F
def ArgsL (K : PySem.W.Frag) (v0 : V) (vr : List V) (ds : List D) (F : List Addr) (A0 : List Addr) (H : Hp) : Prop :=
  ∃ (d0 : D) (dr : List D) (Fr G : List Addr), ds = d0 :: dr ∧ Top K H (fun a => a ∈ G) v0 d0 A0 ∧ Reps K H vr dr Fr ∧ (∀ a ∈ G, a ∈ F) ∧ (∀ a ∈ Fr, a ∈ F) ∧ (∀ a ∈ F, a ∉ A0 ∧ H a ≠ none)
def spOf (K : PySem.W.Frag) (cl : Nat → Addr) (n : Nat) (g : FSem) : Sp := fun vs H Q E => vs.length = n ∧ ∃ (ds : List D) (F : List Addr), match g ds with
  | .bad => False
  | .ret md d none => ArgsP K vs ds F H ∧ ∀ v H' Zr, Ext H H' → ShOf F [] H H' Zr → Res K md d v H H' noOwn Zr → Q v H'
  | .exc x none => ArgsP K vs ds F H ∧ ∀ cls d H', Ext H H' → XRep K cl x cls d H' → E cls d H'
  | .ret md d (some d0') => ∃ v0 vr A0, vs = v0 :: vr ∧ ArgsL K v0 vr ds F A0 H ∧ ∀ v H' Zr, Lent A0 H H' → ShOf F A0 H H' Zr → Top K H' Zr v0 d0' A0 → Res K md d v H H' (oneOwn A0) Zr → Q v H'
  | .exc x (some d0') => ∃ v0 vr A0, vs = v0 :: vr ∧ ArgsL K v0 vr ds F A0 H ∧ ∀ cls d H' Zr, Lent A0 H H' → ShOf F A0 H H' Zr → Top K H' Zr v0 d0' A0 → XRep K cl x cls d H' → E cls d H'

/-! ### the table of the module's names -/
inductive GV where
  | fn (n : Nat) (g : FSem)
  | con (d : D)
  | blt
  | cls (c : Nat)
abbrev Tab := List (Str × GV)
/-- what the classes of the table are -/
abbrev Cls := Nat → Addr
def GvOk (X : Cx) (cl : Cls) (k : Nat) (x : Str) : GV → Prop
  | .fn n g => ∃ f fd ps, FnOk X.prog X.w X.K X.mg X.base (L2.CX X.prog X.w) k f fd ps (spOf X.K cl n g) ∧ X.mg x = some (.ref f) ∧ PySem.W.keepIn X.K (.ref f) = true ∧ Binds X.K fd ps []
  | .con d => ∃ u v, d.sc = some v ∧ X.mg x = some u ∧ RelV v u
  | .blt => X.mg x = none
  | .cls c => X.mg x = some (.ref (cl c)) ∧ PySem.W.keepIn X.K (.ref (cl c)) = true
/-- the place of a name -/
def ix (N : List Str) (x : Str) : Option Nat := match N with
  | [] => none
  | y :: r => if y == x then some 0 else (ix r x).map (· + 1)
theorem ix_get : ∀ {N : List Str} {x : Str} {i : Nat}, ix N x = some i → N[i]? = some x
  | [], _, _, h => by cases h
  | y :: r, x, i, h => by
    unfold ix at h
    split at h
    · rename_i e
      cases h
      have e' : y = x := by simpa using e
      rw [e']; rfl
    · obtain ⟨j, hj, rfl⟩ := Option.map_eq_some_iff.mp h
      show r[j]? = _
      exact ix_get hj

structure Good (T : Tab) (cl : Cls) (N : List Str) (k : Nat) (sc : Scope) (X : Cx) (W : WX) : Prop where
  hN : X.N = N
  nd : N.Nodup
  hsc : X.env.scope = sc
  calm : X.calm = true
  tab : ∀ x gv, T.lookup x = some gv → GvOk X cl k x gv
  room : Room k X.A
  tk : Takes X W

/-- what is wanted of an exception -/
def XPost (cl : Cls) (X : Cx) (W : WX) (en : Entry) (S' : State) (σ : L2.St) (H : Hp) (O : Own) (Z : Sh) (x : Exn) : Prop :=
  ∀ cls d H' O' Z', Evo O Z H O' Z' H' → Rel X.K en S' σ H' O' Z' → XRep X.K cl x cls d H' → W cls d σ H'
/-- a reading: q, nothing that stood is changed -/
structure RD (cl : Cls) (X : Cx) (W : WX) (q : Bool) (t : TE) (m : M RV) : Prop where
  ok : ∀ {S r S'}, m S = .ok r S' → ∀ {en σ H O Z}, Rel X.K en S σ H O Z → ∀ {Q : VK}, (∀ v H' O' Z', Evo O Z H O' Z' H' → (q = true → Ext H H') → Rel X.K en S' σ H' O' Z' → Res X.K r.md r.d v H H' O' Z' → Q v H') → t σ H Q
  exc : ∀ {S x S'}, m S = .exc x S' → ∀ {en σ H O Z}, Rel X.K en S σ H O Z → XPost cl X W en S' σ H O Z x → ∀ {Q : VK}, t σ H Q
/-- an expression -/
abbrev SE (cl : Cls) (X : Cx) (W : WX) (q : Bool) (e : Expr) (m : M RV) : Prop := RD cl X W q (WE X e) m
theorem RD.of {cl : Cls} {X : Cx} {W : WX} {q : Bool} {e : Expr} {t : TE} {m : M RV} (h : RD cl X W q t m) (p : PE X e t) : SE cl X W q e m :=
  ⟨fun h1 _ _ _ _ _ r _ h2 => WE.of p (h.ok h1 r h2), fun h1 _ _ _ _ _ r h2 _ => WE.of p (h.exc h1 r h2)⟩
/-- a test -/
structure ST (cl : Cls) (X : Cx) (W : WX) (q : Bool) (e : Expr) (m : M Bool) : Prop where
  ok : ∀ {S b S'}, m S = .ok b S' → ∀ {en σ H O Z}, Rel X.K en S σ H O Z → ∀ {Q : Bool → Hp → Prop}, (∀ H' O' Z', Evo O Z H O' Z' H' → (q = true → Ext H H') → Rel X.K en S' σ H' O' Z' → Q b H') → WT X e σ H Q
  exc : ∀ {S x S'}, m S = .exc x S' → ∀ {en σ H O Z}, Rel X.K en S σ H O Z → XPost cl X W en S' σ H O Z x → ∀ {Q : Bool → Hp → Prop}, WT X e σ H Q
/-- .. whatever stands around it -/
structure SW (cl : Cls) (X : Cx) (W : WX) (q : Bool) (e : Expr) (m : M Bool) : Prop where
  ok : ∀ {S b S'}, m S = .ok b S' → ∀ {en σ H O Z}, Rel X.K en S σ H O Z → ∀ {Q : Bool → Hp → Prop}, (∀ H' O' Z', Evo O Z H O' Z' H' → (q = true → Ext H H') → Rel X.K en S' σ H' O' Z' → Q b H') → WW X e σ H Q
  exc : ∀ {S x S'}, m S = .exc x S' → ∀ {en σ H O Z}, Rel X.K en S σ H O Z → XPost cl X W en S' σ H O Z x → ∀ {Q : Bool → Hp → Prop}, WW X e σ H Q
/-- the items of a display, all shared -/
structure SB (cl : Cls) (X : Cx) (W : WX) (q : Bool) (es : List Expr) (m : M (List D)) : Prop where
  ok : ∀ {S r S'}, m S = .ok r S' → ∀ {en σ H O Z}, Rel X.K en S σ H O Z → ∀ {Q : List V → Hp → Prop}, (∀ vs F H' O' Z', Evo O Z H O' Z' H' → (q = true → Ext H H') → Rel X.K en S' σ H' O' Z' → Reps X.K H' vs r F → (∀ a ∈ F, Z' a) → Q vs H') → WA X es σ H Q
  exc : ∀ {S x S'}, m S = .exc x S' → ∀ {en σ H O Z}, Rel X.K en S σ H O Z → XPost cl X W en S' σ H O Z x → ∀ {Q : List V → Hp → Prop}, WA X es σ H Q

def mBad {α : Type} : M α := fun _ => .bad
section
variable {cl : Cls} {X : Cx} {W : WX} {q q1 q2 : Bool} {e a b c : Expr} {es : List Expr} {m ma mb mc : M RV} {T : Tab} {N : List Str} {k : Nat} {sc : Scope} {pos : Pos}
theorem SE.bad : SE cl X W q e mBad := ⟨(fun h => nomatch h), (fun h => nomatch h)⟩
theorem ST.bad : ST cl X W q e mBad := ⟨(fun h => nomatch h), (fun h => nomatch h)⟩
theorem SW.bad : SW cl X W q e mBad := ⟨(fun h => nomatch h), (fun h => nomatch h)⟩
theorem SB.bad : SB cl X W q es mBad := ⟨(fun h => nomatch h), (fun h => nomatch h)⟩
theorem SW.st {m : M Bool} (h : SW cl X W q e m) : ST cl X W q e m := ⟨fun h1 _ _ _ _ _ r _ h2 => (h.ok h1 r h2).wt, fun h1 _ _ _ _ _ r h2 _ => (h.exc h1 r h2).wt⟩
/-- an exception behind some steps -/
theorem XPost.from {en : Entry} {S' : State} {σ : L2.St} {H H1 : Hp} {O O1 : Own} {Z Z1 : Sh} {x : Exn} (h : XPost cl X W en S' σ H O Z x) (e : Evo O Z H O1 Z1 H1) : XPost cl X W en S' σ H1 O1 Z1 x :=
  fun cls d H' O' Z' ev rel xr => h cls d H' O' Z' (e.trans ev) rel xr

/-! ### constants and names -/
def mC (d : D) : M RV := fun S => .ok ⟨.N, d⟩ S
theorem SE.const {d : D} {v : V} (h : d.sc = some v) (p : PE X e (tC v)) : SE cl X W true e (mC d) :=
  ⟨fun h1 en σ H O Z r Q h2 => by
    cases h1
    exact WE.of p (h2 v H O Z .refl (fun _ => .refl) r (.sc h)), fun h1 => nomatch h1⟩
def visB (sc : Scope) (x : Str) : Bool := match sc.names.lookup x with
  | some .local => true
  | some .cell => true
  | some .free => true
  | _ => false
theorem vis_of {sc : Scope} {x : Str} (h : visB sc x = true) : Vis sc x := by
  unfold visB at h
  unfold Vis
  split at h
  · exact .inl (by assumption)
  · exact .inr (.inl (by assumption))
  · exact .inr (.inr (by assumption))
  · cases h
def slotRV (S : State) (i : Nat) : Option RV := match S[i]? with
  | some (.own d) => some ⟨.B, d⟩
  | some (.io d) => some ⟨.B, d⟩
  | some (.frz d) => some ⟨.Z, d⟩
  | _ => none
theorem slot_ok {K : PySem.W.Frag} {en : Entry} {S : State} {σ : L2.St} {H H0 : Hp} {O : Own} {Z : Sh} {i : Nat} {r : RV} (rel : Rel K en S σ H O Z) (h : slotRV S i = some r) : ∃ v, σ[i]? = some (some v) ∧ Res K r.md r.d v H0 H O Z := by
  unfold slotRV at h
  split at h
  · rename_i d e
    cases h
    obtain ⟨⟨v, e1, r1⟩, _⟩ := rel.own i d e
    exact ⟨v, e1, _, r1⟩
  · rename_i d e
    cases h
    obtain ⟨e1, r1, _⟩ := rel.io i d e
    exact ⟨_, e1, _, r1⟩
  · rename_i d e
    cases h
    obtain ⟨v, F, e1, r1, n⟩ := rel.frz i d e
    exact ⟨v, e1, F, r1, n⟩
  · cases h
def mVar (i : Nat) : M RV := fun S => match slotRV S i with
  | some r => .ok r S
  | none => .bad
theorem pe_slot {x : Str} {i : Nat} (g : Good T cl N k sc X W) (hi : ix N x = some i) (hv : visB sc x = true) (hd : (x == ("__debug__" : Str)) = false) (hcd : (x == ("__classdict__" : Str)) = false) : PE X (.Name x pos) (tVar i) :=
  pe_var (by rw [g.hN]; exact ix_get hi) (by rw [g.hsc]; exact vis_of hv) hd hcd
theorem SE.var {x : Str} {i : Nat} (p : PE X (.Name x pos) (tVar i)) : SE cl X W true (.Name x pos) (mVar i) := by
  refine ⟨fun {S r S'} h1 en σ H O Z rel Q h2 => ?_, fun {S x S'} h1 => ?_⟩
  · unfold mVar at h1
    split at h1
    · rename_i r1 e1
      cases h1
      obtain ⟨v, ev, res⟩ := slot_ok (H0 := H) rel e1
      exact WE.of p ⟨v, ev, h2 v H O Z .refl (fun _ => .refl) rel res⟩
    · cases h1
  · unfold mVar at h1
    split at h1 <;> cases h1
theorem SE.glob {x : Str} {d : D} (g : Good T cl N k sc X W) (hT : T.lookup x = some (.con d)) (hg : sc.names.lookup x = some .globalImplicit) (hd : (x == ("__debug__" : Str)) = false) : SE cl X W true (.Name x pos) (mC d) := by
  obtain ⟨u, v, hs, hm, r⟩ := g.tab _ _ hT
  exact SE.const hs (pe_glob (by show X.env.scope.names.lookup x = _; rw [g.hsc]; exact hg) hm r hd)

/-! ### two operands -/
/-- what f makes of two values is what the rule r makes -/
def OpS (X : Cx) (f : RV → RV → Option RV) (r : R2) : Prop :=
  ∀ (r1 r2 res : RV), f r1 r2 = some res → ∀ (en : Entry) (S : State) (σ : L2.St) (H0 H : Hp) (O : Own) (Z : Sh) (x y : V), (∀ b, H b = none → H0 b = none) → Rel X.K en S σ H O Z → Res X.K r1.md r1.d x H0 H O Z → Res X.K r2.md r2.d y H0 H O Z →
    ∀ Q : VK, (∀ v H', Ext H H' → Res X.K res.md res.d v H0 H' O Z → Q v H') → r x y H Q
def mOp (q2 : Bool) (f : RV → RV → Option RV) (ma mb : M RV) : M RV := fun S => match ma S with
  | .ok r1 S1 => match hold q2 r1 with
    | some r1 => match mb S1 with
      | .ok r2 S2 => match f r1 r2 with
        | some r => .ok r S2
        | none => .bad
      | .exc x S2 => .exc x S2
      | .bad => .bad
    | none => .bad
  | .exc x S1 => .exc x S1
  | .bad => .bad
theorem q_left {H H1 : Hp} (h : q1 = true → Ext H H1) (z : (q1 && q2) = true) : Ext H H1 := by
  rw [Bool.and_eq_true] at z
  exact h z.1
theorem q_both {H H1 H2 : Hp} (h : q1 = true → Ext H H1) (h' : q2 = true → Ext H1 H2) (z : (q1 && q2) = true) : Ext H H2 := by
  rw [Bool.and_eq_true] at z
  exact (h z.1).trans (h' z.2)
theorem RD.op {r : R2} {f : RV → RV → Option RV} (ha : SE cl X W q1 a ma) (hb : SE cl X W q2 b mb) (hf : OpS X f r) : RD cl X W (q1 && q2) (tOp r (WE X a) (WE X b)) (mOp q2 f ma mb) := by
  refine ⟨fun {S res S'} h1 en σ H O Z rel Q h2 => ?_, fun {S x S'} h1 en σ H O Z rel h2 Q => ?_⟩
  · unfold mOp at h1
    split at h1
    · rename_i r1 S1 e1
      split at h1
      · rename_i r1' e1'
        split at h1
        · rename_i r2 S2 e2
          split at h1
          · rename_i rr e3
            cases h1
            refine ha.ok e1 rel fun v H1 O1 Z1 ev1 x1 rel1 res1 => ?_
            obtain ⟨_, res1', hB⟩ := hold_ok e1' res1
            refine hb.ok e2 rel1 fun u H2 O2 Z2 ev2 x2 rel2 res2 => ?_
            have res1'' := res1'.later rel1 ev2 fun z => .inl (x2 (hB z))
            refine hf r1' r2 res e3 en S' σ H H2 O2 Z2 v u (ev1.trans ev2).back rel2 res1'' (res2.from ev1.back) Q fun w H3 x3 res3 => ?_
            exact h2 w H3 O2 Z2 ((ev1.trans ev2).trans (.ext x3)) (fun z => (q_both x1 x2 z).trans x3) (rel2.ext x3) res3
          · cases h1
        · cases h1
        · cases h1
      · cases h1
    · cases h1
    · cases h1
  · unfold mOp at h1
    split at h1
    · rename_i r1 S1 e1
      split at h1
      · rename_i r1' e1'
        split at h1
        · split at h1 <;> cases h1
        · rename_i x2 S2 e2
          cases h1
          exact ha.ok e1 rel fun v H1 O1 Z1 ev1 x1 rel1 res1 => hb.exc e2 rel1 (h2.from ev1)
        · cases h1
      · cases h1
    · rename_i x1 S1 e1
      cases h1
      exact ha.exc e1 rel h2
    · cases h1
/-- the first operand a name: its value is read when both are there -/
def mOpV (i : Nat) (f : RV → RV → Option RV) (mb : M RV) : M RV := fun S => match slotRV S i with
  | none => .bad
  | some _ => match mb S with
    | .ok r2 S2 => match slotRV S2 i with
      | some r1 => match f r1 r2 with
        | some r => .ok r S2
        | none => .bad
      | none => .bad
    | .exc x S2 => .exc x S2
    | .bad => .bad
theorem RD.opV {r : R2} {f : RV → RV → Option RV} {i : Nat} (hb : SE cl X W q b mb) (hf : OpS X f r) : RD cl X W q (tOp r (tVar i) (WE X b)) (mOpV i f mb) := by
  refine ⟨fun {S res S'} h1 en σ H O Z rel Q h2 => ?_, fun {S x S'} h1 en σ H O Z rel h2 Q => ?_⟩
  · unfold mOpV at h1
    split at h1
    · cases h1
    · rename_i r0 e0
      obtain ⟨v, ev, _⟩ := slot_ok (H0 := H) rel e0
      split at h1
      · rename_i r2 S2 e2
        split at h1
        · rename_i r1 e1
          split at h1
          · rename_i rr e3
            cases h1
            refine ⟨v, ev, hb.ok e2 rel fun u H2 O2 Z2 ev2 x2 rel2 res2 => ?_⟩
            obtain ⟨v', ev', res1⟩ := slot_ok (H0 := H) rel2 e1
            rw [ev] at ev'
            cases ev'
            exact hf r1 r2 res e3 en S' σ H H2 O2 Z2 v u ev2.back rel2 res1 res2 Q fun w H3 x3 res3 => h2 w H3 O2 Z2 (ev2.trans (.ext x3)) (fun z => (x2 z).trans x3) (rel2.ext x3) res3
          · cases h1
        · cases h1
      · cases h1
      · cases h1
  · unfold mOpV at h1
    split at h1
    · cases h1
    · rename_i r0 e0
      obtain ⟨v, ev, _⟩ := slot_ok (H0 := H) rel e0
      split at h1
      · split at h1
        · split at h1 <;> cases h1
        · cases h1
      · rename_i x2 S2 e2
        cases h1
        exact ⟨v, ev, hb.exc e2 rel h2⟩
      · cases h1
/-- one operand -/
def UnS (X : Cx) (f : RV → Option RV) (r : V → Hp → VK → Prop) : Prop :=
  ∀ (r1 res : RV), f r1 = some res → ∀ (en : Entry) (S : State) (σ : L2.St) (H0 H : Hp) (O : Own) (Z : Sh) (x : V), (∀ b, H b = none → H0 b = none) → Rel X.K en S σ H O Z → Res X.K r1.md r1.d x H0 H O Z →
    ∀ Q : VK, (∀ v H', Ext H H' → Res X.K res.md res.d v H0 H' O Z → Q v H') → r x H Q
def mUn (f : RV → Option RV) (ma : M RV) : M RV := fun S => match ma S with
  | .ok r1 S1 => match f r1 with
    | some r => .ok r S1
    | none => .bad
  | .exc x S1 => .exc x S1
  | .bad => .bad
theorem RD.un {r : V → Hp → VK → Prop} {f : RV → Option RV} (ha : SE cl X W q a ma) (hf : UnS X f r) : RD cl X W q (fun σ H Q => WE X a σ H fun x H1 => r x H1 Q) (mUn f ma) := by
  refine ⟨fun {S res S'} h1 en σ H O Z rel Q h2 => ?_, fun {S x S'} h1 en σ H O Z rel h2 Q => ?_⟩
  · unfold mUn at h1
    split at h1
    · rename_i r1 S1 e1
      split at h1
      · rename_i rr e3
        cases h1
        refine ha.ok e1 rel fun v H1 O1 Z1 ev1 x1 rel1 res1 => ?_
        exact hf r1 res e3 en S' σ H H1 O1 Z1 v ev1.back rel1 res1 Q fun w H3 x3 res3 => h2 w H3 O1 Z1 (ev1.trans (.ext x3)) (fun z => (x1 z).trans x3) (rel1.ext x3) res3
      · cases h1
    · cases h1
    · cases h1
  · unfold mUn at h1
    split at h1
    · split at h1 <;> cases h1
    · rename_i x1 S1 e1
      cases h1
      exact ha.exc e1 rel h2
    · cases h1
end
end R

set_option Elab.async false
set_option linter.all false
set_option maxRecDepth 100000
set_option maxHeartbeats 2000000
/-! R4: operators, comparisons, subscripts, slices of data, and why the machine does the same. -/
namespace R
open PySem PySem.Spec PyProof.Rows L2

/-- the largest length that is used here -/
abbrev big : Nat := 1000000
theorem big_line {n : Nat} (h : n ≤ big) : n ≤ sizeLine := by rw [sizeLine_eq]; unfold big at h; omega
theorem big_lt {n : Nat} (h : n ≤ big) : n < sizeLine := by rw [sizeLine_eq]; unfold big at h; omega

/-! ### data as the model's data -/
def pyI : List Int → List PyData
  | [] => []
  | n :: r => .int n :: pyI r
mutual
def D.py : D → PyData
  | .non => .none
  | .bl b => .bool b
  | .int i => .int i
  | .str s => .str s
  | .tup xs => .tuple (pyL xs)
  | .lst xs => .list (pyL xs)
  | .scr ns => .list (pyI ns)
def pyL : List D → List PyData
  | [] => []
  | x :: xs => x.py :: pyL xs
end
/-- as deep as n at most, its texts of proper signs -/
def shp : Nat → D → Bool
  | _, .non => true
  | _, .bl _ => true
  | _, .int _ => true
  | _, .str s => PyData.strOk s
  | 0, _ => false
  | n + 1, .tup xs => xs.all (shp n)
  | n + 1, .lst xs => xs.all (shp n)
  | _, .scr _ => true
theorem pyL_map : ∀ xs : List D, pyL xs = xs.map D.py
  | [] => rfl
  | x :: xs => by rw [pyL, pyL_map xs]; rfl
theorem lay_all : ∀ {ps : List PyData}, (∀ p ∈ ps, p.canLay0 = true) → PyData.canLayAll0 ps = true
  | [], _ => rfl
  | p :: ps, h => by
    rw [PyData.canLayAll0, h p List.mem_cons_self, lay_all fun q hq => h q (List.mem_cons_of_mem _ hq)]; rfl
theorem depth_all {n : Nat} : ∀ {ps : List PyData}, (∀ p ∈ ps, p.depth ≤ n) → PyData.depthAll ps ≤ n
  | [], _ => by unfold PyData.depthAll; omega
  | p :: ps, h => by
    unfold PyData.depthAll
    have h1 := h p List.mem_cons_self
    have h2 := depth_all fun q hq => h q (List.mem_cons_of_mem _ hq)
    omega
theorem pyI_ok : ∀ ns : List Int, PyData.canLayAll0 (pyI ns) = true ∧ PyData.depthAll (pyI ns) ≤ 0
  | [] => ⟨rfl, by rw [pyI, PyData.depthAll]; omega⟩
  | m :: r => by
    have h := pyI_ok r
    refine ⟨?_, ?_⟩
    · rw [pyI, PyData.canLayAll0, h.1]; rfl
    · rw [pyI, PyData.depthAll, PyData.depth]; omega
theorem shp_of : ∀ {n : Nat} {d : D}, shp n d = true → d.py.canLay0 = true ∧ d.py.depth ≤ n + 1
  | n, .non, _ => by
    rw [D.py, PyData.canLay0, PyData.depth]
    exact ⟨rfl, by omega⟩
  | n, .bl _, _ => by
    rw [D.py, PyData.canLay0, PyData.depth]
    exact ⟨rfl, by omega⟩
  | n, .int _, _ => by
    rw [D.py, PyData.canLay0, PyData.depth]
    exact ⟨rfl, by omega⟩
  | n, .str s, h => by
    rw [D.py, PyData.canLay0, PyData.depth]
    refine ⟨?_, by omega⟩
    cases n <;> (rw [shp] at h; exact h)
  | 0, .tup _, h => nomatch h
  | 0, .lst _, h => nomatch h
  | n + 1, .tup xs, h => by
    have h' : xs.all (shp n) = true := h
    rw [List.all_eq_true] at h'
    have key : ∀ p ∈ pyL xs, p.canLay0 = true ∧ p.depth ≤ n + 1 := fun p hp => by
      rw [pyL_map] at hp
      obtain ⟨x, hx, rfl⟩ := List.mem_map.mp hp
      exact shp_of (h' x hx)
    refine ⟨by rw [D.py, PyData.canLay0]; exact lay_all fun p hp => (key p hp).1, ?_⟩
    have := depth_all fun p hp => (key p hp).2
    rw [D.py, PyData.depth]; omega
  | n + 1, .lst xs, h => by
    have h' : xs.all (shp n) = true := h
    rw [List.all_eq_true] at h'
    have key : ∀ p ∈ pyL xs, p.canLay0 = true ∧ p.depth ≤ n + 1 := fun p hp => by
      rw [pyL_map] at hp
      obtain ⟨x, hx, rfl⟩ := List.mem_map.mp hp
      exact shp_of (h' x hx)
    refine ⟨by rw [D.py, PyData.canLay0]; exact lay_all fun p hp => (key p hp).1, ?_⟩
    have := depth_all fun p hp => (key p hp).2
    rw [D.py, PyData.depth]; omega
  | n, .scr ns, _ => by
    rw [D.py, PyData.canLay0, PyData.depth]
    have h := pyI_ok ns
    exact ⟨h.1, by omega⟩
theorem shaped_of {d : D} (h : shp 60 d = true) : SeqAt.shaped d.py = true := by
  obtain ⟨h1, h2⟩ := shp_of h
  unfold SeqAt.shaped
  rw [h1, decide_eq_true (by omega : d.py.depth ≤ 64)]; rfl
theorem dp_ints {K : PySem.W.Frag} {H : Hp} : ∀ ns : List Int, DpAll K H (ns.map V.int) (pyI ns)
  | [] => .nil
  | n :: r => .cons (.int n) (dp_ints r)
theorem Reps.dp {K : PySem.W.Frag} {H : Hp} {vs : List V} {ds : List D} {F : List Addr} (r : Reps K H vs ds F) : DpAll K H vs (pyL ds) := by
  induction r with
  | nil => exact .nil
  | @sc v d _ _ _ e _ ih =>
    refine .cons ?_ ih
    cases d with
    | non => cases e; exact .non
    | bl b => cases e; exact .bl b
    | int i => cases e; exact .int i
    | str s => cases e; exact .str s
    | tup _ => cases e
    | lst _ => cases e
    | scr _ => cases e
  | tup h _ _ ih1 ih2 => exact .cons (.tup h ih1) ih2
  | lst h _ _ ih1 ih2 => exact .cons (.lst (SqL.of h) ih1) ih2
  | @scr a ns _ _ _ h _ ih => exact .cons (.lst h.sql (dp_ints ns)) ih
theorem Rep.dp {K : PySem.W.Frag} {H : Hp} {v : V} {d : D} {F : List Addr} (r : Rep K H v d F) : Dp K H v d.py := by
  have h := Reps.dp r
  cases h with
  | cons h _ => exact h

/-! ### equality -/
def eqOk (d e : D) : Bool := match d.sc, e.sc with
  | some v, some u => scal v u
  | _, _ => shp 60 d && shp 60 e
def eqB (d e : D) : Bool := match d.sc, e.sc with
  | some v, some u => decide (v = u)
  | _, _ => PyData.eqv d.py e.py
def mulOk (i j : Int) : Bool := decide (-(2 ^ 64) < i ∧ i < 2 ^ 64) || decide (-(2 ^ 64) < j ∧ j < 2 ^ 64)
def divOk (j : Int) : Bool := decide (0 < j ∧ j < 1073741824)
def powOk (i j : Int) : Bool := decide (0 ≤ j ∧ j ≤ 1000000 ∧ i.natAbs < 2 ^ 64)
def lenOk (n : Nat) : Bool := decide (n ≤ big)

def bop (op : Operator) (a b : RV) : Option RV :=
  match op, a.d, b.d with
  | .Add, .int i, .int j => some ⟨.N, .int (i + j)⟩
  | .Sub, .int i, .int j => some ⟨.N, .int (i - j)⟩
  | .Mult, .int i, .int j => if mulOk i j then some ⟨.N, .int (i * j)⟩ else none
  | .FloorDiv, .int i, .int j => if divOk j then some ⟨.N, .int (i / j)⟩ else none
  | .Mod, .int i, .int j => if decide (0 < j) then some ⟨.N, .int (i % j)⟩ else none
  | .Pow, .int i, .int j => if powOk i j then some ⟨.N, .int (i ^ j.toNat)⟩ else none
  | .Add, .str i, .str j => if lenOk (i.length + j.length) then some ⟨.N, .str (i ++ j)⟩ else none
  | .Add, .tup xs, .tup ys => if lenOk (xs.length + ys.length) then some ⟨.N, .tup (xs ++ ys)⟩ else none
  | .Add, .lst xs, .lst ys => if lenOk (xs.length + ys.length) then some ⟨.N, .lst (xs ++ ys)⟩ else none
  | .Mult, .lst xs, .int k => if decide (0 ≤ k ∧ k ≤ 1000) && decide (xs.length ≤ 1000) then some ⟨.N, .lst (List.replicate k.toNat xs).flatten⟩ else none
  | _, _, _ => none

theorem Reps.flatten_rep {K : PySem.W.Frag} {H : Hp} {vs : List V} {ds : List D} {F : List Addr} (n : Nat) (r : Reps K H vs ds F) : ∃ G, Reps K H (List.replicate n vs).flatten (List.replicate n ds).flatten G ∧ ∀ a ∈ G, a ∈ F := by
  induction n with
  | zero => exact ⟨[], .nil, fun _ h => nomatch h⟩
  | succ n ih =>
    obtain ⟨G, q, h⟩ := ih
    rw [List.replicate_succ, List.replicate_succ, List.flatten_cons, List.flatten_cons]
    exact ⟨F ++ G, r.append q, fun a ha => (List.mem_append.mp ha).elim id (h a)⟩
/-- a rule for the operation on values, and that it gives what f gives -/
def Has (X : Cx) (g : Value → Value → Sem Value) (f : RV → RV → Option RV) : Prop := ∃ r, OpR X g r ∧ OpS X f r
section
variable {X : Cx} {g : Value → Value → Sem Value} {f f' : RV → RV → Option RV}
theorem Has.none (h : ∀ a b, f a b = none) : Has X g f :=
  ⟨fun _ _ _ _ => False, fun _ _ _ _ _ _ _ _ _ _ _ _ h => h.elim, fun r1 r2 res e => by rw [h] at e; cases e⟩
/-- two rules for two kinds of operands -/
theorem Has.or (a : Has X g f) (b : Has X g f') {f2 : RV → RV → Option RV} (h : ∀ x y r, f2 x y = some r → f x y = some r ∨ f' x y = some r) : Has X g f2 := by
  obtain ⟨r, h1, h2⟩ := a
  obtain ⟨r', h3, h4⟩ := b
  refine ⟨_, OpR.or h1 h3, fun r1 r2 res e en S σ H0 H O Z x y k rel q1 q2 Q hQ => ?_⟩
  rcases h _ _ _ e with e | e
  · exact .inl (h2 r1 r2 res e en S σ H0 H O Z x y k rel q1 q2 Q hQ)
  · exact .inr (h4 r1 r2 res e en S σ H0 H O Z x y k rel q1 q2 Q hQ)
theorem Has.or4 {fa fb fc fd : RV → RV → Option RV} (a : Has X g fa) (b : Has X g fb) (c : Has X g fc) (d : Has X g fd) {f2 : RV → RV → Option RV}
    (h : ∀ x y r, f2 x y = some r → fa x y = some r ∨ fb x y = some r ∨ fc x y = some r ∨ fd x y = some r) : Has X g f2 := by
  obtain ⟨ra, a1, a2⟩ := a
  obtain ⟨rb, b1, b2⟩ := b
  obtain ⟨rc, c1, c2⟩ := c
  obtain ⟨rd, d1, d2⟩ := d
  refine ⟨_, OpR.or a1 (OpR.or b1 (OpR.or c1 d1)), fun r1 r2 res e en S σ H0 H O Z x y k rel q1 q2 Q hQ => ?_⟩
  rcases h _ _ _ e with e | e | e | e
  · exact .inl (a2 r1 r2 res e en S σ H0 H O Z x y k rel q1 q2 Q hQ)
  · exact .inr (.inl (b2 r1 r2 res e en S σ H0 H O Z x y k rel q1 q2 Q hQ))
  · exact .inr (.inr (.inl (c2 r1 r2 res e en S σ H0 H O Z x y k rel q1 q2 Q hQ)))
  · exact .inr (.inr (.inr (d2 r1 r2 res e en S σ H0 H O Z x y k rel q1 q2 Q hQ)))
theorem Has.of (a : Has X g f) {f2 : RV → RV → Option RV} (h : ∀ x y r, f2 x y = some r → f x y = some r) : Has X g f2 := by
  obtain ⟨r, h1, h2⟩ := a
  exact ⟨r, h1, fun r1 r2 res e => h2 r1 r2 res (h _ _ _ e)⟩
def fAddI (a b : RV) : Option RV := match a.d, b.d with
  | .int i, .int j => some ⟨.N, .int (i + j)⟩
  | _, _ => none
def fAddS (a b : RV) : Option RV := match a.d, b.d with
  | .str i, .str j => if lenOk (i.length + j.length) then some ⟨.N, .str (i ++ j)⟩ else none
  | _, _ => none
def fAddT (a b : RV) : Option RV := match a.d, b.d with
  | .tup xs, .tup ys => if lenOk (xs.length + ys.length) then some ⟨.N, .tup (xs ++ ys)⟩ else none
  | _, _ => none
def fAddL (a b : RV) : Option RV := match a.d, b.d with
  | .lst xs, .lst ys => if lenOk (xs.length + ys.length) then some ⟨.N, .lst (xs ++ ys)⟩ else none
  | _, _ => none
def fInt (p : Int → Int → Bool) (g : Int → Int → Int) (a b : RV) : Option RV := match a.d, b.d with
  | .int i, .int j => if p i j then some ⟨.N, .int (g i j)⟩ else none
  | _, _ => none
def fMulL (a b : RV) : Option RV := match a.d, b.d with
  | .lst xs, .int k => if decide (0 ≤ k ∧ k ≤ 1000) && decide (xs.length ≤ 1000) then some ⟨.N, .lst (List.replicate k.toNat xs).flatten⟩ else none
  | _, _ => none
theorem has_int {p : Int → Int → Bool} {gi : Int → Int → Int} {C : Int → Int → Prop} (h : OpR X g (rI C fun i j => .int (gi i j))) (hp : ∀ i j, p i j = true → C i j) : Has X g (fInt p gi) := by
  refine ⟨_, h, fun r1 r2 res e en S σ H0 H O Z x y k rel q1 q2 Q hQ => ?_⟩
  obtain ⟨m1, d1⟩ := r1
  obtain ⟨m2, d2⟩ := r2
  unfold fInt at e
  dsimp only at e
  split at e
  · split at e
    · rename_i hpp
      cases q1.val rfl; cases q2.val rfl
      cases e
      exact ⟨_, _, rfl, rfl, hp _ _ hpp, hQ _ H .refl (.sc rfl)⟩
    · cases e
  · cases e
theorem has_addI : Has X (binaryOp .Add) fAddI := by
  refine ⟨_, op_add, fun r1 r2 res e en S σ H0 H O Z x y k rel q1 q2 Q hQ => ?_⟩
  obtain ⟨m1, d1⟩ := r1
  obtain ⟨m2, d2⟩ := r2
  unfold fAddI at e
  dsimp only at e
  split at e
  · cases q1.val rfl; cases q2.val rfl
    cases e
    exact ⟨_, _, rfl, rfl, hQ _ H .refl (.sc rfl)⟩
  · cases e
theorem len_of {n : Nat} (h : lenOk n = true) : n ≤ sizeLine := big_line (of_decide_eq_true h)
theorem has_addS : Has X (binaryOp .Add) fAddS := by
  refine ⟨_, op_add_str, fun r1 r2 res e en S σ H0 H O Z x y k rel q1 q2 Q hQ => ?_⟩
  obtain ⟨m1, d1⟩ := r1
  obtain ⟨m2, d2⟩ := r2
  unfold fAddS at e
  dsimp only at e
  split at e
  · split at e
    · rename_i hl
      cases q1.val rfl; cases q2.val rfl
      cases e
      exact ⟨_, _, rfl, rfl, len_of hl, hQ _ H .refl (.sc rfl)⟩
    · cases e
  · cases e
theorem has_addT : Has X (binaryOp .Add) fAddT := by
  refine ⟨_, op_catA, fun r1 r2 res e en S σ H0 H O Z x y k rel q1 q2 Q hQ => ?_⟩
  obtain ⟨m1, d1⟩ := r1
  obtain ⟨m2, d2⟩ := r2
  unfold fAddT at e
  dsimp only at e
  split at e
  · rename_i xs ys
    split at e
    · rename_i hl
      cases e
      obtain ⟨a, vs, F1, rfl, ha, ra, z1⟩ := q1.tup
      obtain ⟨b, ws, F2, rfl, hb, rb, z2⟩ := q2.tup
      have hz : vs.length + ws.length ≤ sizeLine := by rw [ra.length, rb.length]; exact len_of hl
      refine ⟨a, b, vs, ws, rfl, rfl, ha, hb, hz, fun e0 => ?_, fun _ e0 => ?_, fun _ _ p hp => ?_⟩
      · subst e0
        have : xs = [] := List.eq_nil_of_length_eq_zero (by rw [← ra.length]; rfl)
        subst this
        exact hQ _ H .refl (.of_flat (Rep.tupI hb rb) z2 rfl .N)
      · subst e0
        have : ys = [] := List.eq_nil_of_length_eq_zero (by rw [← rb.length]; rfl)
        subst this
        have e1 : xs ++ [] = xs := List.append_nil xs
        rw [e1] at hQ
        exact hQ _ H .refl (.of_flat (Rep.tupI ha ra) z1 rfl .N)
      · exact hQ _ _ (Ext.new hp) (Res.new_tup hp (ra.append rb) fun x hx => (List.mem_append.mp hx).elim (z1 x) (z2 x))
    · cases e
  · cases e
theorem has_addL : Has X (binaryOp .Add) fAddL := by
  refine ⟨_, op_cat, fun r1 r2 res e en S σ H0 H O Z x y k rel q1 q2 Q hQ => ?_⟩
  obtain ⟨m1, d1⟩ := r1
  obtain ⟨m2, d2⟩ := r2
  unfold fAddL at e
  dsimp only at e
  split at e
  · rename_i xs ys
    split at e
    · rename_i hl
      cases e
      obtain ⟨a, vs, F1, rfl, ha, ra, z1⟩ := q1.lst
      obtain ⟨b, ws, F2, rfl, hb, rb, z2⟩ := q2.lst
      have hz : vs.length + ws.length ≤ sizeLine := by rw [ra.length, rb.length]; exact len_of hl
      refine ⟨a, b, vs, ws, rfl, rfl, ha, hb, hz, fun p hp => ?_⟩
      exact hQ _ _ (Ext.new hp) (Res.new_lst rel k hp (ra.append rb) fun x hx => (List.mem_append.mp hx).elim (z1 x) (z2 x))
    · cases e
  · cases e
theorem has_mulL : Has X (binaryOp .Mult) fMulL := by
  refine ⟨_, op_rep, fun r1 r2 res e en S σ H0 H O Z x y k rel q1 q2 Q hQ => ?_⟩
  obtain ⟨m1, d1⟩ := r1
  obtain ⟨m2, d2⟩ := r2
  unfold fMulL at e
  dsimp only at e
  split at e
  · rename_i xs n
    split at e
    · rename_i hl
      rw [Bool.and_eq_true, decide_eq_true_eq, decide_eq_true_eq] at hl
      obtain ⟨⟨h0, h1⟩, h2⟩ := hl
      cases e
      cases q2.val rfl
      obtain ⟨a, vs, F1, rfl, ha, ra, z1⟩ := q1.lst
      have hn : n.toNat ≤ 1000 := by omega
      have hz : vs.length * n.toNat ≤ sizeLine := by
        rw [ra.length, sizeLine_eq]
        exact Nat.le_trans (Nat.mul_le_mul h2 hn) (by decide)
      refine ⟨a, n, vs, rfl, rfl, ha, by omega, by omega, hz, fun p hp => ?_⟩
      obtain ⟨G, rr, hG⟩ := ra.flatten_rep n.toNat
      exact hQ _ _ (Ext.new hp) (Res.new_lst rel k hp rr fun x hx => z1 x (hG x hx))
    · cases e
  · cases e
theorem bop_add_split (x y r : RV) (h : bop .Add x y = some r) : fAddI x y = some r ∨ fAddS x y = some r ∨ fAddT x y = some r ∨ fAddL x y = some r := by
  obtain ⟨m1, d1⟩ := x
  obtain ⟨m2, d2⟩ := y
  unfold bop at h
  dsimp only at h
  cases d1 <;> cases d2 <;> first
    | exact .inl h
    | exact .inr (.inl h)
    | exact .inr (.inr (.inl h))
    | exact .inr (.inr (.inr h))
    | cases h
theorem bop_ok (op : Operator) : Has X (binaryOp op) (bop op) := by
  cases op with
  | Add => exact Has.or4 has_addI has_addS has_addT has_addL bop_add_split
  | Sub =>
    refine Has.of (has_int (p := fun _ _ => true) (gi := fun i j => i - j) (C := fun _ _ => True) (fun pins s σ H x y v u Q I rx ry h => op_sub pins s σ H x y v u Q I rx ry ?_) fun _ _ _ => trivial) fun x y r h => ?_
    · obtain ⟨i, j, h1, h2, _, h3⟩ := h
      exact ⟨i, j, h1, h2, h3⟩
    · obtain ⟨m1, d1⟩ := x
      obtain ⟨m2, d2⟩ := y
      cases d1 <;> cases d2 <;> first | exact h | cases h
  | Mult =>
    refine Has.or (has_int (p := mulOk) (gi := fun i j => i * j) op_mul fun i j h => ?_) has_mulL fun x y r h => ?_
    · unfold mulOk at h
      rw [Bool.or_eq_true, decide_eq_true_eq, decide_eq_true_eq] at h
      exact h
    · obtain ⟨m1, d1⟩ := x
      obtain ⟨m2, d2⟩ := y
      cases d1 <;> cases d2 <;> first | exact .inl h | exact .inr h | cases h
  | FloorDiv =>
    refine Has.of (has_int (p := fun _ j => divOk j) (gi := fun i j => i / j) op_fdiv fun i j h => (of_decide_eq_true (show decide (0 < j ∧ j < 1073741824) = true from h) : 0 < j ∧ j < 1073741824)) fun x y r h => ?_
    obtain ⟨m1, d1⟩ := x
    obtain ⟨m2, d2⟩ := y
    cases d1 <;> cases d2 <;> first | exact h | cases h
  | Mod =>
    refine Has.of (has_int (p := fun _ j => decide (0 < j)) (gi := fun i j => i % j) op_mod fun i j h => of_decide_eq_true h) fun x y r h => ?_
    obtain ⟨m1, d1⟩ := x
    obtain ⟨m2, d2⟩ := y
    cases d1 <;> cases d2 <;> first | exact h | cases h
  | Pow =>
    refine Has.of (has_int (p := powOk) (gi := fun i j => i ^ j.toNat) op_pow fun i j h => (of_decide_eq_true (show decide (0 ≤ j ∧ j ≤ 1000000 ∧ i.natAbs < 2 ^ 64) = true from h) : 0 ≤ j ∧ j ≤ 1000000 ∧ i.natAbs < 2 ^ 64)) fun x y r h => ?_
    obtain ⟨m1, d1⟩ := x
    obtain ⟨m2, d2⟩ := y
    cases d1 <;> cases d2 <;> first | exact h | cases h
  | _ =>
    refine Has.none fun x y => ?_
    obtain ⟨m1, d1⟩ := x
    obtain ⟨m2, d2⟩ := y
    cases d1 <;> cases d2 <;> rfl

/-! ### comparisons -/
def flat (d : D) : Bool := d.sc.isSome
def sV (d : D) : V := d.sc.getD .non
def inB (x : D) (ys : List D) : Bool := inV (sV x) (ys.map sV)
def inDeep (x : D) (ys : List D) : Bool := ys.any fun y => PyData.eqv y.py x.py
def fEq (neg : Bool) (a b : RV) : Option RV := if eqOk a.d b.d then some ⟨.N, .bl (neg ^^ eqB a.d b.d)⟩ else none
def fCmpI (p : Int → Int → Bool) (a b : RV) : Option RV := match a.d, b.d with
  | .int i, .int j => some ⟨.N, .bl (p i j)⟩
  | _, _ => none
/-- in, not in: a scalar among scalars -/
def fInF (neg : Bool) (a b : RV) : Option RV := match b.d with
  | .tup ys => if flat a.d && ys.all flat then some ⟨.N, .bl (neg ^^ inB a.d ys)⟩ else none
  | .lst ys => if flat a.d && ys.all flat then some ⟨.N, .bl (neg ^^ inB a.d ys)⟩ else none
  | _ => none
/-- a sign in a text -/
def fInS (neg : Bool) (a b : RV) : Option RV := match a.d, b.d with
  | .str x, .str z => match x.cps.toList with
    | [c] => some ⟨.N, .bl (neg ^^ decide (c ∈ z.cps.toList))⟩
    | _ => none
  | _, _ => none
def isNone : D → Bool
  | .non => true
  | _ => false
def fIs (neg : Bool) (a b : RV) : Option RV := if isNone b.d then some ⟨.N, .bl (neg ^^ isNone a.d)⟩ else none
def cop (op : CmpOp) (a b : RV) : Option RV := match op with
  | .Eq => fEq false a b
  | .NotEq => fEq true a b
  | .Lt => fCmpI (fun i j => decide (i < j)) a b
  | .LtE => fCmpI (fun i j => decide (i ≤ j)) a b
  | .Gt => fCmpI (fun i j => decide (j < i)) a b
  | .GtE => fCmpI (fun i j => decide (j ≤ i)) a b
  | .In => (fInS false a b).or (fInF false a b)
  | .NotIn => (fInS true a b).or (fInF true a b)
  | .Is => fIs false a b
  | .IsNot => fIs true a b
theorem eqB_sc {d e : D} {v u : V} (h1 : d.sc = some v) (h2 : e.sc = some u) : eqB d e = decide (v = u) := by
  unfold eqB; rw [h1, h2]
theorem has_eq (hu : X.A.units + 64 < cLine) : Has X (compareOp .Eq) (fEq false) := by
  refine ⟨_, OpR.or op_eq (op_eqD hu), fun r1 r2 res e en S σ H0 H O Z x y k rel q1 q2 Q hQ => ?_⟩
  unfold fEq at e
  split at e
  · rename_i h
    cases e
    have fin : ∀ b, b = eqB r1.d r2.d → Q (.bl b) H := fun b hb => by
      rw [hb]
      refine hQ (.bl (eqB r1.d r2.d)) H .refl (.sc ?_)
      rw [Bool.false_xor]; rfl
    unfold eqOk at h
    split at h
    · rename_i v u h1 h2
      cases q1.val h1
      cases q2.val h2
      exact .inl ⟨h, fin _ (eqB_sc h1 h2).symm⟩
    · rename_i hn
      rw [Bool.and_eq_true] at h
      obtain ⟨F1, p1⟩ := q1.any
      obtain ⟨F2, p2⟩ := q2.any
      refine .inr ⟨_, _, p1.dp, p2.dp, shaped_of h.1, shaped_of h.2, fin _ ?_⟩
      unfold eqB
      split
      · rename_i v u h1 h2
        exact absurd h2 (hn v u h1)
      · rfl
  · cases e
theorem has_ne (hu : X.A.units + 64 < cLine) : Has X (compareOp .NotEq) (fEq true) := by
  refine ⟨_, OpR.or op_ne (op_neD hu), fun r1 r2 res e en S σ H0 H O Z x y k rel q1 q2 Q hQ => ?_⟩
  unfold fEq at e
  split at e
  · rename_i h
    cases e
    have fin : ∀ b, b = eqB r1.d r2.d → Q (.bl (!b)) H := fun b hb => by
      rw [hb]
      refine hQ (.bl (!eqB r1.d r2.d)) H .refl (.sc ?_)
      rw [Bool.true_xor]; rfl
    unfold eqOk at h
    split at h
    · rename_i v u h1 h2
      cases q1.val h1
      cases q2.val h2
      exact .inl ⟨h, fin _ (eqB_sc h1 h2).symm⟩
    · rename_i hn
      rw [Bool.and_eq_true] at h
      obtain ⟨F1, p1⟩ := q1.any
      obtain ⟨F2, p2⟩ := q2.any
      refine .inr ⟨_, _, p1.dp, p2.dp, shaped_of h.1, shaped_of h.2, fin _ ?_⟩
      unfold eqB
      split
      · rename_i v u h1 h2
        exact absurd h2 (hn v u h1)
      · rfl
  · cases e
theorem has_cmpI {g : Value → Value → Sem Value} {p : Int → Int → Bool} (h : OpR X g (rI0 fun i j => .bl (p i j))) : Has X g (fCmpI p) := by
  refine ⟨_, h, fun r1 r2 res e en S σ H0 H O Z x y k rel q1 q2 Q hQ => ?_⟩
  obtain ⟨m1, d1⟩ := r1
  obtain ⟨m2, d2⟩ := r2
  unfold fCmpI at e
  dsimp only at e
  split at e
  · cases q1.val rfl; cases q2.val rfl
    cases e
    exact ⟨_, _, rfl, rfl, hQ _ H .refl (.sc rfl)⟩
  · cases e
theorem sc_flat {d : D} {v : V} (h : d.sc = some v) : flatV v = true := by
  cases d <;> cases h <;> rfl
theorem flat_sc {d : D} (h : flat d = true) : d.sc = some (sV d) := by
  unfold flat at h
  unfold sV
  cases e : d.sc with
  | none => rw [e] at h; cases h
  | some v => rfl
theorem reps_flat {K : PySem.W.Frag} {H : Hp} : ∀ {vs : List V} {ds : List D} {F : List Addr}, Reps K H vs ds F → ds.all flat = true → vs = ds.map sV ∧ vs.all flatV = true
  | [], [], _, _, _ => ⟨rfl, rfl⟩
  | [], _ :: _, _, r, _ => by cases r
  | _ :: _, [], _, r, _ => by cases r
  | v :: vs, d :: ds, _, r, h => by
    rw [List.all_cons, Bool.and_eq_true] at h
    obtain ⟨F1, F2, _, r1, r2⟩ := r.uncons
    obtain ⟨e1, e2⟩ := reps_flat r2 h.2
    have e3 := (r1.scE (flat_sc h.1)).1
    refine ⟨by rw [e1, e3]; rfl, ?_⟩
    rw [List.all_cons, e2, e3, sc_flat (flat_sc h.1)]; rfl
theorem has_inF {g : Value → Value → Sem Value} (neg : Bool) (h : OpR X g (rIn X.K neg)) : Has X g (fInF neg) := by
  refine ⟨_, h, fun r1 r2 res e en S σ H0 H O Z x y k rel q1 q2 Q hQ => ?_⟩
  obtain ⟨m1, d1⟩ := r1
  obtain ⟨m2, d2⟩ := r2
  unfold fInF at e
  dsimp only at e
  obtain ⟨F2, p2⟩ := q2.any
  have fin : ∀ (ys : List D) (vs : List V) (F : List Addr) (p : Addr), (flat d1 && ys.all flat) = true → res = ⟨.N, .bl (neg ^^ inB d1 ys)⟩ → Reps X.K H vs ys F → (SqL X.K H p vs ∨ SqT X.K H p vs) → rIn X.K neg x (.ref p) H Q := fun ys vs F p hf er r hs => by
    rw [Bool.and_eq_true] at hf
    obtain ⟨e1, e2⟩ := reps_flat r hf.2
    have e3 := q1.val (flat_sc hf.1)
    refine ⟨p, vs, rfl, hs, by rw [e3]; exact sc_flat (flat_sc hf.1), e2, ?_⟩
    subst er
    have := hQ (.bl (neg ^^ inB d1 ys)) H .refl (.sc rfl)
    have e4 : inB d1 ys = inV x vs := by unfold inB; rw [e1, e3]
    rw [e4] at this
    cases neg with
    | true => rw [Bool.true_xor] at this; exact this
    | false => rw [Bool.false_xor] at this; exact this
  split at e
  · split at e
    · rename_i ys hf
      obtain ⟨a, vs, F1, rfl, ha, ra, _⟩ := q2.tup
      exact fin ys vs _ a hf (Option.some.inj e).symm ra (.inr ha)
    · cases e
  · split at e
    · rename_i ys hf
      obtain ⟨a, vs, G, rfl, ha, ra, _⟩ := q2.lst
      exact fin ys vs _ a hf (Option.some.inj e).symm ra (.inl (SqL.of ha))
    · cases e
  · cases e
theorem has_inS {g : Value → Value → Sem Value} (neg : Bool) (h : OpR X g (fun x y H Q => ∃ (c : Nat) (z : Str), x = .str ⟨#[c]⟩ ∧ y = .str z ∧ Q (.bl (neg ^^ decide (c ∈ z.cps.toList))) H)) : Has X g (fInS neg) := by
  refine ⟨_, h, fun r1 r2 res e en S σ H0 H O Z x y k rel q1 q2 Q hQ => ?_⟩
  obtain ⟨m1, d1⟩ := r1
  obtain ⟨m2, d2⟩ := r2
  unfold fInS at e
  dsimp only at e
  split at e
  · rename_i a z
    split at e
    · rename_i c hc
      cases e
      cases q1.val rfl; cases q2.val rfl
      have ea : a = ⟨#[c]⟩ := by
        obtain ⟨⟨l⟩⟩ := a
        have hc' : l = [c] := hc
        rw [hc']
      exact ⟨c, z, by rw [ea], rfl, hQ _ H .refl (.sc rfl)⟩
    · cases e
  · cases e
theorem has_is {g : Value → Value → Sem Value} (neg : Bool) (h : OpR X g (fun x y H Q => y = .non ∧ Q (.bl (neg ^^ decide (x = .non))) H)) : Has X g (fIs neg) := by
  refine ⟨_, h, fun r1 r2 res e en S σ H0 H O Z x y k rel q1 q2 Q hQ => ?_⟩
  obtain ⟨m1, d1⟩ := r1
  obtain ⟨m2, d2⟩ := r2
  unfold fIs at e
  dsimp only at e
  split at e
  · rename_i hn
    cases e
    have e2 : d2 = .non := by cases d2 <;> first | rfl | cases hn
    subst e2
    cases q2.val rfl
    refine ⟨rfl, ?_⟩
    have : decide (x = .non) = isNone d1 := by
      obtain ⟨F, p1⟩ := q1.any
      cases d1 with
      | non => cases q1.val rfl; rfl
      | bl b => cases q1.val rfl; rfl
      | int i => cases q1.val rfl; rfl
      | str s => cases q1.val rfl; rfl
      | tup _ => obtain ⟨a, _, rfl, _⟩ := p1.tupE; rfl
      | lst _ => obtain ⟨a, _, _, rfl, _⟩ := p1.lstE; rfl
      | scr _ => obtain ⟨a, rfl, _⟩ := p1.scrE; rfl
    rw [this]
    exact hQ _ H .refl (.sc rfl)
  · cases e
theorem cop_ok (hu : X.A.units + 64 < cLine) (op : CmpOp) : Has X (compareOp op) (cop op) := by
  cases op with
  | Eq => exact has_eq hu
  | NotEq => exact has_ne hu
  | Lt => exact has_cmpI op_lt
  | LtE => exact has_cmpI op_le
  | Gt => exact has_cmpI op_gt
  | GtE => exact has_cmpI op_ge
  | In =>
    refine Has.or (has_inS false (by simpa using op_in_sign)) (has_inF false op_in_seq) fun x y r h => ?_
    have h' : (fInS false x y).or (fInF false x y) = some r := h
    cases e : fInS false x y with
    | none => rw [e] at h'; exact .inr h'
    | some z => rw [e] at h'; exact .inl h'
  | NotIn =>
    refine Has.or (has_inS true (by simpa using op_notIn_sign)) (has_inF true op_notIn_seq) fun x y r h => ?_
    have h' : (fInS true x y).or (fInF true x y) = some r := h
    cases e : fInS true x y with
    | none => rw [e] at h'; exact .inr h'
    | some z => rw [e] at h'; exact .inl h'
  | Is => exact has_is false (by simpa using op_isN)
  | IsNot => exact has_is true (by simpa using op_notN)
end
end R

set_option Elab.async false
set_option linter.all false
set_option maxRecDepth 100000
set_option maxHeartbeats 2000000
/-! R5: subscripts, slices, displays, calls. -/
namespace R
open PySem PySem.Spec PyProof.Rows L2

/-! ### subscripts -/
def fIdx (a b : RV) : Option RV := match a.d, b.d with
  | .lst xs, .int i => (atI xs i).map fun d => ⟨.Z, d⟩
  | .tup xs, .int i => (atI xs i).map fun d => ⟨.Z, d⟩
  | .scr ns, .int i => (atI ns i).map fun n => ⟨.N, .int n⟩
  | .str s, .int i => if lenOk s.length then (atI s.cps.toList i).map fun c => ⟨.N, .str ⟨#[c]⟩⟩ else none
  | _, _ => none
def HasIx (X : Cx) (f : RV → RV → Option RV) : Prop := ∃ r, IxR X r ∧ OpS X f r
theorem Reps.atI {K : PySem.W.Frag} {H : Hp} {vs : List V} {ds : List D} {F : List Addr} {i : Int} {d : D} (r : Reps K H vs ds F) (h : atI ds i = some d) : ∃ v F1, L2.atI vs i = some v ∧ Rep K H v d F1 ∧ ∀ a ∈ F1, a ∈ F := by
  unfold L2.atI at h ⊢
  rw [r.length]
  cases e : ixN ds.length i with
  | none => rw [e] at h; cases h
  | some j =>
    rw [e] at h
    exact r.at h
theorem atI_map {α β : Type} {f : α → β} {xs : List α} {i : Int} {x : α} (h : atI xs i = some x) : atI (xs.map f) i = some (f x) := by
  unfold L2.atI at h ⊢
  rw [List.length_map]
  cases e : ixN xs.length i with
  | none => rw [e] at h; cases h
  | some j =>
    rw [e] at h
    have h' : xs[j]? = some x := h
    show (xs.map f)[j]? = some (f x)
    rw [List.getElem?_map, h']; rfl
section
variable {X : Cx}
theorem idx_ok : HasIx X fIdx := by
  refine ⟨_, IxR.or ix_list (IxR.or ix_tup ix_str), fun r1 r2 res e en S σ H0 H O Z x y k rel q1 q2 Q hQ => ?_⟩
  obtain ⟨m1, d1⟩ := r1
  obtain ⟨m2, d2⟩ := r2
  unfold fIdx at e
  dsimp only at e
  split at e
  · obtain ⟨d, hd, rfl⟩ := Option.map_eq_some_iff.mp e
    obtain ⟨a, vs, G, rfl, ha, ra, z⟩ := q1.lst
    cases q2.val rfl
    obtain ⟨v, F2, h1, h2, h3⟩ := ra.atI hd
    exact .inl ⟨a, vs, _, v, rfl, rfl, SqL.of ha, h1, hQ v H .refl ⟨F2, h2, fun b hb => z b (h3 b hb)⟩⟩
  · obtain ⟨d, hd, rfl⟩ := Option.map_eq_some_iff.mp e
    obtain ⟨a, vs, G, rfl, ha, ra, z⟩ := q1.tup
    cases q2.val rfl
    obtain ⟨v, F2, h1, h2, h3⟩ := ra.atI hd
    exact .inr (.inl ⟨a, vs, _, v, rfl, rfl, ha, h1, hQ v H .refl ⟨F2, h2, fun b hb => z b (h3 b hb)⟩⟩)
  · obtain ⟨n, hd, rfl⟩ := Option.map_eq_some_iff.mp e
    obtain ⟨a, rfl, ha⟩ := q1.scr
    cases q2.val rfl
    exact .inl ⟨a, _, _, _, rfl, rfl, ha, atI_map hd, hQ _ H .refl (.sc rfl)⟩
  · split at e
    · rename_i hl
      obtain ⟨c, hc, rfl⟩ := Option.map_eq_some_iff.mp e
      cases q1.val rfl
      cases q2.val rfl
      exact .inr (.inr ⟨_, _, c, rfl, rfl, len_of hl, hc, hQ _ H .refl (.sc rfl)⟩)
    · cases e
  · cases e
end

section
variable {cl : Cls} {X : Cx} {W : WX} {q q1 q2 : Bool} {e a b c : Expr} {es : List Expr} {m ma mb mc : M RV} {T : Tab} {N : List Str} {k : Nat} {sc : Scope} {pos : Pos}
/-! ### displays -/
def mANil : M (List D) := fun S => .ok [] S
def mACons (ma : M RV) (ms : M (List D)) : M (List D) := fun S => match ma S with
  | .ok r1 S1 => match settle r1 with
    | some r1 => match ms S1 with
      | .ok ds S2 => .ok (r1.d :: ds) S2
      | .exc x S2 => .exc x S2
      | .bad => .bad
    | none => .bad
  | .exc x S1 => .exc x S1
  | .bad => .bad
def notStar : Expr → Bool
  | .Starred _ _ => false
  | _ => true
theorem star_cons {env : Env} (h : notStar e = true) : starEach (e :: es) env = (false, eval e env) :: starEach es env := by
  cases e <;> first | rfl | cases h
theorem SB.nil : SB cl X W true [] mANil :=
  ⟨fun h1 en σ H O Z rel Q h2 => by
    cases h1
    exact WA.of pa_nil (h2 [] [] H O Z .refl (fun _ => .refl) rel .nil fun _ z => nomatch z), fun h1 => nomatch h1⟩
/-- what is settled becomes shared -/
theorem Res.share {K : PySem.W.Frag} {en : Entry} {S : State} {σ : L2.St} {H H1 : Hp} {O O1 : Own} {Z Z1 : Sh} {md : Md} {d : D} {v : V} (r : Res K md d v H H1 O1 Z1) (hB : md ≠ .B) (ev : Evo O Z H O1 Z1 H1) (rel : Rel K en S σ H1 O1 Z1) :
    ∃ Z2 F, Evo O Z H O1 Z2 H1 ∧ Rel K en S σ H1 O1 Z2 ∧ Rep K H1 v d F ∧ ∀ a ∈ F, Z2 a := by
  cases md with
  | B => exact absurd rfl hB
  | Z =>
    obtain ⟨F, p, z⟩ := r
    exact ⟨Z1, F, ev, rel, p, z⟩
  | N =>
    obtain ⟨A, t, n⟩ := r
    obtain ⟨F, p, z⟩ := t.rep
    refine ⟨fun a => Z1 a ∨ a ∈ A, F, ⟨ev.keep, ev.dom, ev.own, fun b hb => ?_, fun b hb => .inl (ev.grow b hb)⟩, rel.more (fun a h => .inl h) (fun a h => ?_) (fun a h => ?_), p, z⟩
    · rcases hb with hb | hb
      · exact ev.sh b hb
      · exact .inr (.inr (n b hb).1)
    · rcases h with h | h
      · exact rel.zo a h
      · exact (n a h).2.1
    · rcases h with h | h
      · exact rel.zd a h
      · obtain ⟨xs, q⟩ := t.lists a h
        rw [q]; exact fun z => nomatch z
theorem SB.cons {ms : M (List D)} (ha : SE cl X W q1 a ma) (hs : SB cl X W q2 es ms) (hst : notStar a = true) : SB cl X W (q1 && q2) (a :: es) (mACons ma ms) := by
  have pe : PA X (a :: es) _ := pa_cons (WE.pe (X := X) (e := a)) (WA.pa (X := X) (es := es)) (star_cons hst)
  refine ⟨fun {S res S'} h1 en σ H O Z rel Q h2 => WA.of pe ?_, fun {S x S'} h1 en σ H O Z rel h2 Q => WA.of pe ?_⟩
  · unfold mACons at h1
    split at h1
    · rename_i r1 S1 e1
      split at h1
      · rename_i r1' e1'
        split at h1
        · rename_i ds S2 e2
          cases h1
          refine ha.ok e1 rel fun v H1 O1 Z1 ev1 x1 rel1 res1 => ?_
          obtain ⟨_, res1', hB⟩ := settle_ok e1' res1
          obtain ⟨Z1', F, ev1', rel1', p, z⟩ := res1'.share hB ev1 rel1
          refine hs.ok e2 rel1' fun vs G H2 O2 Z2 ev2 x2 rel2 r2 z2 => ?_
          exact h2 (v :: vs) (F ++ G) H2 O2 Z2 (ev1'.trans ev2) (q_both x1 x2) rel2 ((rel1'.keep ev2 p z).cons r2) fun x hx => (List.mem_append.mp hx).elim (fun h => ev2.grow x (z x h)) (z2 x)
        · cases h1
        · cases h1
      · cases h1
    · cases h1
    · cases h1
  · unfold mACons at h1
    split at h1
    · rename_i r1 S1 e1
      split at h1
      · rename_i r1' e1'
        split at h1
        · cases h1
        · rename_i x2 S2 e2
          cases h1
          refine ha.ok e1 rel fun v H1 O1 Z1 ev1 x1 rel1 res1 => ?_
          exact hs.exc e2 rel1 (h2.from ev1)
        · cases h1
      · cases h1
    · rename_i x1 S1 e1
      cases h1
      exact ha.exc e1 rel h2
    · cases h1
def mTup (ms : M (List D)) : M RV := fun S => match ms S with
  | .ok r S' => if lenOk r.length then .ok ⟨.N, .tup r⟩ S' else .bad
  | .exc x S' => .exc x S'
  | .bad => .bad
def mLst (ms : M (List D)) : M RV := fun S => match ms S with
  | .ok r S' => if lenOk r.length then .ok ⟨.N, .lst r⟩ S' else .bad
  | .exc x S' => .exc x S'
  | .bad => .bad
theorem SE.tup {ms : M (List D)} {x1 : Nat} (hs : SB cl X W q es ms) : SE cl X W q (.Tuple es x1 pos) (mTup ms) := by
  have pe : PE X (.Tuple es x1 pos) _ := pe_tup (WA.pa (X := X) (es := es))
  refine ⟨fun {S res S'} h1 en σ H O Z rel Q h2 => WE.of pe ?_, fun {S x S'} h1 en σ H O Z rel h2 Q => WE.of pe ?_⟩
  · unfold mTup at h1
    split at h1
    · rename_i r S1 e1
      split at h1
      · rename_i hl
        cases h1
        refine hs.ok e1 rel fun vs F H1 O1 Z1 ev1 x1 rel1 p z => ⟨by rw [p.length]; exact len_of hl, fun pp hp => ?_⟩
        exact h2 (.ref pp) _ O1 Z1 (ev1.trans (.new hp)) (fun z => (x1 z).trans (.new hp)) (rel1.new hp) (Res.new_tup hp p z)
      · cases h1
    · cases h1
    · cases h1
  · unfold mTup at h1
    split at h1
    · split at h1 <;> cases h1
    · rename_i x1 S1 e1
      cases h1
      exact hs.exc e1 rel h2
    · cases h1
theorem SE.lst {ms : M (List D)} (hs : SB cl X W q es ms) : SE cl X W q (.List es pos) (mLst ms) := by
  have pe : PE X (.List es pos) _ := pe_lst (WA.pa (X := X) (es := es))
  refine ⟨fun {S res S'} h1 en σ H O Z rel Q h2 => WE.of pe ?_, fun {S x S'} h1 en σ H O Z rel h2 Q => WE.of pe ?_⟩
  · unfold mLst at h1
    split at h1
    · rename_i r S1 e1
      split at h1
      · rename_i hl
        cases h1
        refine hs.ok e1 rel fun vs F H1 O1 Z1 ev1 x1 rel1 p z => ⟨by rw [p.length]; exact len_of hl, fun pp hp => ?_⟩
        exact h2 (.ref pp) _ O1 Z1 (ev1.trans (.new hp)) (fun z => (x1 z).trans (.new hp)) (rel1.new hp) (Res.new_lst rel1 ev1.back hp p z)
      · cases h1
    · cases h1
    · cases h1
  · unfold mLst at h1
    split at h1
    · split at h1 <;> cases h1
    · rename_i x1 S1 e1
      cases h1
      exact hs.exc e1 rel h2
    · cases h1
end
end R

set_option Elab.async false
set_option linter.all false
set_option maxRecDepth 100000
set_option maxHeartbeats 2000000
/-! R6: slices, tests, calls of defs and built-ins. -/
namespace R
open PySem PySem.Spec PyProof.Rows L2

/-! ### slices -/
def cutD {α : Type} (xs : List α) (lo hi : Option Int) : List α := (xs.drop (HT.sIx xs.length 0 lo)).take (HT.sIx xs.length xs.length hi - HT.sIx xs.length 0 lo)
def fSl (a : RV) (lo hi : Option Int) : Option RV := match a.d with
  | .lst xs => some ⟨.N, .lst (cutD xs lo hi)⟩
  | .scr ns => some ⟨.N, .lst ((cutD ns lo hi).map D.int)⟩
  | .tup xs => some ⟨.N, .tup (cutD xs lo hi)⟩
  | .str s => if lenOk s.length then some ⟨.N, .str (cutS s lo hi)⟩ else none
  | _ => none
section
variable {K : PySem.W.Frag} {H H0 : Hp} {O : Own}
theorem Reps.drop : ∀ (n : Nat) {vs : List V} {ds : List D} {F : List Addr}, Reps K H vs ds F → ∃ G, Reps K H (vs.drop n) (ds.drop n) G ∧ ∀ a ∈ G, a ∈ F
  | 0, _, _, F, r => ⟨F, r, fun _ h => h⟩
  | n + 1, [], [], F, r => ⟨F, r, fun _ h => h⟩
  | n + 1, [], _ :: _, _, r => by cases r
  | n + 1, _ :: _, [], _, r => by cases r
  | n + 1, v :: vs, d :: ds, F, r => by
    obtain ⟨F1, F2, rfl, _, r2⟩ := r.uncons
    obtain ⟨G, r3, h⟩ := Reps.drop n r2
    exact ⟨G, r3, fun a ha => List.mem_append_right _ (h a ha)⟩
theorem Reps.take : ∀ (n : Nat) {vs : List V} {ds : List D} {F : List Addr}, Reps K H vs ds F → ∃ G, Reps K H (vs.take n) (ds.take n) G ∧ ∀ a ∈ G, a ∈ F
  | 0, _, _, F, r => ⟨[], .nil, fun _ h => nomatch h⟩
  | n + 1, [], [], F, r => ⟨F, r, fun _ h => h⟩
  | n + 1, [], _ :: _, _, r => by cases r
  | n + 1, _ :: _, [], _, r => by cases r
  | n + 1, v :: vs, d :: ds, F, r => by
    obtain ⟨F1, F2, rfl, r1, r2⟩ := r.uncons
    obtain ⟨G, r3, h⟩ := Reps.take n r2
    exact ⟨F1 ++ G, r1.cons r3, fun a ha => (List.mem_append.mp ha).elim (List.mem_append_left _) fun q => List.mem_append_right _ (h a q)⟩
theorem Reps.cut {vs : List V} {ds : List D} {F : List Addr} (r : Reps K H vs ds F) (lo hi : Option Int) : ∃ G, Reps K H (cutV vs lo hi) (cutD ds lo hi) G ∧ ∀ a ∈ G, a ∈ F := by
  unfold cutV cutD
  rw [r.length]
  obtain ⟨G, r1, h1⟩ := r.drop (HT.sIx ds.length 0 lo)
  obtain ⟨G2, r2, h2⟩ := r1.take (HT.sIx ds.length ds.length hi - HT.sIx ds.length 0 lo)
  exact ⟨G2, r2, fun a ha => h1 a (h2 a ha)⟩
end
theorem cutD_whole {α : Type} {xs : List α} {lo hi : Option Int} (h : HT.sIx xs.length 0 lo = 0 ∧ HT.sIx xs.length xs.length hi = xs.length) : cutD xs lo hi = xs := by
  unfold cutD
  rw [h.1, h.2]
  simp
theorem cutV_ints (ns : List Int) (lo hi : Option Int) : cutV (ns.map V.int) lo hi = (cutD ns lo hi).map V.int := by
  unfold cutV cutD
  rw [List.length_map, List.map_take, List.map_drop]
/-- what a slice is -/
def SlS (X : Cx) (f : RV → Option Int → Option Int → Option RV) (r : V → Option Int → Option Int → Hp → VK → Prop) : Prop :=
  ∀ (r1 res : RV) (lo hi : Option Int), f r1 lo hi = some res → ∀ (en : Entry) (S : State) (σ : L2.St) (H0 H : Hp) (O : Own) (Z : Sh) (x : V), (∀ b, H b = none → H0 b = none) → Rel X.K en S σ H O Z → Res X.K r1.md r1.d x H0 H O Z →
    ∀ Q : VK, (∀ v H', Ext H H' → Res X.K res.md res.d v H0 H' O Z → Q v H') → r x lo hi H Q
theorem sl_ok (X : Cx) : ∃ r, SlR X r ∧ SlS X fSl r := by
  refine ⟨_, SlR.or sl_list (SlR.or sl_tupA sl_str), fun r1 res lo hi e en S σ H0 H O Z x k rel q1 Q hQ => ?_⟩
  obtain ⟨m1, d1⟩ := r1
  unfold fSl at e
  dsimp only at e
  split at e
  · cases e
    obtain ⟨a, vs, G, rfl, ha, ra, z⟩ := q1.lst
    obtain ⟨G2, rc, hc⟩ := ra.cut lo hi
    exact .inl ⟨a, vs, rfl, SqL.of ha, fun p hp => hQ _ _ (Ext.new hp) (Res.new_lst rel k hp rc fun x hx => z x (hc x hx))⟩
  · cases e
    obtain ⟨a, rfl, ha⟩ := q1.scr
    refine .inl ⟨a, _, rfl, ha, fun p hp => ?_⟩
    rw [cutV_ints]
    exact hQ _ _ (Ext.new hp) (Res.new_lst rel k hp (reps_ints _) fun _ h => nomatch h)
  · cases e
    obtain ⟨a, vs, G, rfl, ha, ra, z⟩ := q1.tup
    obtain ⟨G2, rc, hc⟩ := ra.cut lo hi
    refine .inr (.inl ⟨a, vs, rfl, ha, fun h => ?_, fun _ p hp => hQ _ _ (Ext.new hp) (Res.new_tup hp rc fun x hx => z x (hc x hx))⟩)
    rename_i xs
    rw [ra.length] at h
    have ew := cutD_whole h
    refine hQ _ H .refl ?_
    show Res X.K .N (.tup (cutD xs lo hi)) _ _ _ _ _
    rw [ew]
    exact .of_flat (Rep.tupI ha ra) z rfl .N
  · split at e
    · rename_i hl
      cases e
      cases q1.val rfl
      exact .inr (.inr ⟨_, rfl, len_of hl, hQ _ H .refl (.sc rfl)⟩)
    · cases e
  · cases e
/-- a slice's part -/
structure SO (cl : Cls) (X : Cx) (W : WX) (q : Bool) (eo : Option Expr) (m : M (Option Int)) : Prop where
  t : ∃ t, PO X eo t ∧ (∀ {S r S'}, m S = .ok r S' → ∀ {en σ H O Z}, Rel X.K en S σ H O Z → ∀ {Q : Option Int → Hp → Prop}, (∀ H' O' Z', Evo O Z H O' Z' H' → (q = true → Ext H H') → Rel X.K en S' σ H' O' Z' → Q r H') → t σ H Q) ∧
    ∀ {S x S'}, m S = .exc x S' → False
def mNoPart : M (Option Int) := fun S => .ok none S
def mPart (ma : M RV) : M (Option Int) := fun S => match ma S with
  | .ok r S' => match r.d with
    | .int i => .ok (some i) S'
    | _ => .bad
  | _ => .bad
def mSl (q : Bool) (ma : M RV) (ml mh : M (Option Int)) : M RV := fun S => match ma S with
  | .ok r1 S1 => match hold q r1 with
    | some r1 => match ml S1 with
      | .ok lo S2 => match mh S2 with
        | .ok hi S3 => match fSl r1 lo hi with
          | some r => .ok r S3
          | none => .bad
        | _ => .bad
      | _ => .bad
    | none => .bad
  | .exc x S1 => .exc x S1
  | .bad => .bad
section
variable {cl : Cls} {X : Cx} {W : WX} {q q1 q2 q3 : Bool} {e a b c : Expr} {es : List Expr} {m ma mb mc : M RV} {T : Tab} {N : List Str} {k : Nat} {sc : Scope} {pos p2 : Pos} {lo hi : Option Expr} {ml mh : M (Option Int)} {ta tb tc : M Bool}
theorem SO.none : SO cl X W true none mNoPart := ⟨_, po_none, fun h1 _ σ H O Z rel Q h2 => by cases h1; exact h2 H O Z .refl (fun _ => .refl) rel, fun h => nomatch h⟩
theorem SO.some (ha : SE cl X W q a ma) : SO cl X W q (some a) (mPart ma) := by
  refine ⟨_, po_some (WE.pe (X := X) (e := a)), fun {S r S'} h1 en σ H O Z rel Q h2 => ?_, fun {S x S'} h1 => ?_⟩
  · unfold mPart at h1
    split at h1
    · rename_i r1 S1 e1
      split at h1
      · rename_i i ei
        cases h1
        refine ha.ok e1 rel fun v H1 O1 Z1 ev1 x1 rel1 res1 => ?_
        have : v = .int i := res1.val (by rw [ei]; rfl)
        exact ⟨i, this, h2 H1 O1 Z1 ev1 x1 rel1⟩
      · cases h1
    · cases h1
  · unfold mPart at h1
    split at h1
    · split at h1 <;> cases h1
    · cases h1
theorem SE.slice (ha : SE cl X W q1 a ma) (hl : SO cl X W q2 lo ml) (hh : SO cl X W q3 hi mh) : SE cl X W (q1 && (q2 && q3)) (.Subscript a (.Slice lo hi none p2) pos) (mSl (q2 && q3) ma ml mh) := by
  obtain ⟨r, rs, hs⟩ := sl_ok X
  obtain ⟨tl, pl, okl, xl⟩ := hl.t
  obtain ⟨th, ph, okh, xh⟩ := hh.t
  have pe := pe_slice (pos := pos) (p2 := p2) rs (WE.pe (X := X) (e := a)) pl ph
  refine ⟨fun {S res S'} h1 en σ H O Z rel Q h2 => ?_, fun {S x S'} h1 en σ H O Z rel h2 Q => ?_⟩
  · unfold mSl at h1
    split at h1
    · rename_i r1 S1 e1
      split at h1
      · rename_i r1' e1'
        split at h1
        · rename_i l S2 e2
          split at h1
          · rename_i h S3 e3
            split at h1
            · rename_i rr e4
              cases h1
              refine WE.of pe (ha.ok e1 rel fun v H1 O1 Z1 ev1 x1 rel1 res1 => ?_)
              obtain ⟨_, res1', hB⟩ := hold_ok e1' res1
              refine okl e2 rel1 fun H2 O2 Z2 ev2 x2 rel2 => okh e3 rel2 fun H3 O3 Z3 ev3 x3 rel3 => ?_
              have res3 := res1'.later rel1 (ev2.trans ev3) fun z => .inl (by
                have := hB z
                rw [Bool.and_eq_true] at this
                exact (x2 this.1).trans (x3 this.2))
              refine hs r1' res l h e4 en S' σ H H3 O3 Z3 v ((ev1.trans (ev2.trans ev3)).back) rel3 res3 Q fun w H4 x4 res4 => ?_
              exact h2 w H4 O3 Z3 ((ev1.trans (ev2.trans ev3)).trans (.ext x4)) (fun z => by
                rw [Bool.and_eq_true, Bool.and_eq_true] at z
                exact (((x1 z.1).trans (x2 z.2.1)).trans (x3 z.2.2)).trans x4) (rel3.ext x4) res4
            · cases h1
          · cases h1
        · cases h1
      · cases h1
    · cases h1
    · cases h1
  · unfold mSl at h1
    split at h1
    · split at h1
      · split at h1
        · split at h1
          · split at h1 <;> cases h1
          · cases h1
        · cases h1
      · cases h1
    · rename_i x1 S1 e1
      cases h1
      exact WE.of pe (ha.exc e1 rel h2)
    · cases h1

/-! ### tests -/
def truD : D → Option Bool
  | .non => some false
  | .bl b => some b
  | .int i => some (i != 0)
  | .str s => if lenOk s.length then some ((s.length : Int) != 0) else none
  | .tup xs => some (!xs.isEmpty)
  | .lst xs => some (!xs.isEmpty)
  | .scr xs => some (!xs.isEmpty)
def tTrue (ma : M RV) : M Bool := fun S => match ma S with
  | .ok r S' => match truD r.d with
    | some b => .ok b S'
    | none => .bad
  | .exc x S' => .exc x S'
  | .bad => .bad
/-- an expression whose test is its value's truth -/
def plainT : Expr → Bool
  | .BoolOp _ _ _ => false
  | .UnaryOp .Not _ _ => false
  | .Compare _ _ _ _ => false
  | .NamedExpr _ _ _ => false
  | .IfExp _ _ _ _ => false
  | .Name _ _ => true
  | .Call _ _ _ _ => true
  | .Subscript _ _ _ => true
  | .Attribute _ _ _ => true
  | .Constant _ _ _ => true
  | .BinOp _ _ _ _ => true
  | .ListComp _ _ _ _ => true
  | _ => false
theorem plain_isTrue {a : Expr} {env : Env} (hp : plainT a = true) (whole : Sem Value) : isTrue a env whole = (do let v ← whole; standAt a.pos; holding [v] (truthy v)) := by
  unfold plainT at hp
  split at hp <;> first | rfl | exact Bool.noConfusion hp
theorem isEmpty_len {α β : Type} {xs : List α} {ys : List β} (h : xs.length = ys.length) : xs.isEmpty = ys.isEmpty := by
  cases xs <;> cases ys <;> first | rfl | cases h
theorem tru_of {K : PySem.W.Frag} {H H0 : Hp} {O : Own} {Z : Sh} {v : V} {r : RV} {b : Bool} (h : truD r.d = some b) (res : Res K r.md r.d v H0 H O Z) : TruV K v H b := by
  obtain ⟨md, d⟩ := r
  obtain ⟨F, p⟩ := res.any
  cases d with
  | non => cases res.val rfl; cases h; rfl
  | bl k => cases res.val rfl; cases h; rfl
  | int i => cases res.val rfl; cases h; rfl
  | str s =>
    cases res.val rfl
    unfold truD at h
    dsimp only at h
    split at h
    · rename_i hl
      cases h
      exact ⟨len_of hl, rfl⟩
    · cases h
  | tup xs =>
    obtain ⟨a, vs, rfl, ha, ra⟩ := p.tupE
    cases h
    exact .inr (.inl ⟨vs, ha, by rw [isEmpty_len ra.length]⟩)
  | lst xs =>
    obtain ⟨a, vs, G, rfl, _, ha, ra⟩ := p.lstE
    cases h
    exact .inl ⟨vs, SqL.of ha, by rw [isEmpty_len ra.length]⟩
  | scr ns =>
    obtain ⟨a, rfl, ha⟩ := res.scr
    cases h
    exact .inl ⟨_, ha, by cases ns <;> rfl⟩
theorem ST.truth (ha : SE cl X W q a ma) (hp : plainT a = true) : ST cl X W q a (tTrue ma) := by
  have pe := pt_truth (WE.pe (X := X) (e := a)) (plain_isTrue hp)
  refine ⟨fun {S res S'} h1 en σ H O Z rel Q h2 => ?_, fun {S x S'} h1 en σ H O Z rel h2 Q => ?_⟩
  · unfold tTrue at h1
    split at h1
    · rename_i r S1 e1
      split at h1
      · rename_i b e2
        cases h1
        exact WT.of pe (ha.ok e1 rel fun v H1 O1 Z1 ev1 x1 rel1 res1 => ⟨res, tru_of e2 res1, h2 H1 O1 Z1 ev1 x1 rel1⟩)
      · cases h1
    · cases h1
    · cases h1
  · unfold tTrue at h1
    split at h1
    · split at h1 <;> cases h1
    · rename_i x1 S1 e1
      cases h1
      exact WT.of pe (ha.exc e1 rel h2)
    · cases h1
/-- a value that is a bool, as a test -/
def tBool (ma : M RV) : M Bool := fun S => match ma S with
  | .ok r S' => match r.d with
    | .bl b => .ok b S'
    | _ => .bad
  | .exc x S' => .exc x S'
  | .bad => .bad
theorem ST.bool {t : TE} (ha : RD cl X W q t ma) (pe : PT X e (fun σ H Q => t σ H fun x H' => ∃ k, x = .bl k ∧ Q k H')) : ST cl X W q e (tBool ma) := by
  refine ⟨fun {S res S'} h1 en σ H O Z rel Q h2 => ?_, fun {S x S'} h1 en σ H O Z rel h2 Q => ?_⟩
  · unfold tBool at h1
    split at h1
    · rename_i r S1 e1
      split at h1
      · rename_i b e2
        cases h1
        exact WT.of pe (ha.ok e1 rel fun v H1 O1 Z1 ev1 x1 rel1 res1 => ⟨res, res1.val (by rw [e2]; rfl), h2 H1 O1 Z1 ev1 x1 rel1⟩)
      · cases h1
    · cases h1
    · cases h1
  · unfold tBool at h1
    split at h1
    · split at h1 <;> cases h1
    · rename_i x1 S1 e1
      cases h1
      exact WT.of pe (ha.exc e1 rel h2)
    · cases h1
/-- two values compared -/
theorem SE.cmp {r : R2} {f : RV → RV → Option RV} {op : CmpOp} (ha : SE cl X W q1 a ma) (hb : SE cl X W q2 b mb) (ho : OpR X (compareOp op) r) (hf : OpS X f r) (hm : behindInMarks op b = false) : SE cl X W (q1 && q2) (.Compare a [op] [b] pos) (mOp q2 f ma mb) :=
  (RD.op ha hb hf).of (pe_cmpR ho WE.pe WE.pe hm)
theorem ST.cmp {r : R2} {f : RV → RV → Option RV} {op : CmpOp} (ha : SE cl X W q1 a ma) (hb : SE cl X W q2 b mb) (ho : OpR X (compareOp op) r) (hf : OpS X f r) (hm : behindInMarks op b = false) : ST cl X W (q1 && q2) (.Compare a [op] [b] pos) (tBool (mOp q2 f ma mb)) :=
  ST.bool (RD.op ha hb hf) (pt_cmpR ho WE.pe WE.pe hm)
/-- .. the first one a name -/
theorem SE.cmpV {r : R2} {f : RV → RV → Option RV} {op : CmpOp} {i : Nat} (pa : PE X a (tVar i)) (hb : SE cl X W q b mb) (ho : OpR X (compareOp op) r) (hf : OpS X f r) (hm : behindInMarks op b = false) : SE cl X W q (.Compare a [op] [b] pos) (mOpV i f mb) :=
  (RD.opV hb hf).of (pe_cmpR ho pa WE.pe hm)
theorem ST.cmpV {r : R2} {f : RV → RV → Option RV} {op : CmpOp} {i : Nat} (pa : PE X a (tVar i)) (hb : SE cl X W q b mb) (ho : OpR X (compareOp op) r) (hf : OpS X f r) (hm : behindInMarks op b = false) : ST cl X W q (.Compare a [op] [b] pos) (tBool (mOpV i f mb)) :=
  ST.bool (RD.opV hb hf) (pt_cmpR ho pa WE.pe hm)
/-- a op b op' c: ints between, all told at once -/
def mCh (q2 q3 : Bool) (f f' : RV → RV → Option RV) (ma mb mc : M RV) : M RV := fun S => match ma S with
  | .ok r1 S1 => match settle r1 with
    | some r1 => match mb S1 with
      | .ok r2 S2 => match settle r2 with
        | some r2 => match f r1 r2 with
          | some ⟨_, .bl true⟩ => match mc S2 with
            | .ok r3 S3 => match f' r2 r3 with
              | some r => .ok r S3
              | none => .bad
            | .exc x S3 => .exc x S3
            | .bad => .bad
          | some ⟨_, .bl false⟩ => .ok ⟨.N, .bl false⟩ S2
          | _ => .bad
        | none => .bad
      | .exc x S2 => .exc x S2
      | .bad => .bad
    | none => .bad
  | .exc x S1 => .exc x S1
  | .bad => .bad
theorem RD.chain {r r' : R2} {f f' : RV → RV → Option RV} (ha : SE cl X W q1 a ma) (hb : SE cl X W q2 b mb) (hc : SE cl X W q3 c mc) (hf : OpS X f r) (hf' : OpS X f' r') : RD cl X W (q1 && (q2 && q3)) (tChain r r' (WE X a) (WE X b) (WE X c)) (mCh q2 q3 f f' ma mb mc) := by
  refine ⟨fun {S res S'} h1 en σ H O Z rel Q h2 => ?_, fun {S x S'} h1 en σ H O Z rel h2 Q => ?_⟩
  · unfold mCh at h1
    split at h1
    · rename_i r1 S1 e1
      split at h1
      · rename_i r1' e1'
        split at h1
        · rename_i r2 S2 e2
          split at h1
          · rename_i r2' e2'
            refine ha.ok e1 rel fun v H1 O1 Z1 ev1 x1 rel1 res1 => ?_
            obtain ⟨_, res1', hB⟩ := settle_ok e1' res1
            refine hb.ok e2 rel1 fun u H2 O2 Z2 ev2 x2 rel2 res2 => ?_
            obtain ⟨_, res2', hB2⟩ := settle_ok e2' res2
            have res1'' := res1'.later rel1 ev2 fun z => absurd z hB
            split at h1
            · rename_i m0 e3
              split at h1
              · rename_i r3 S3 e4
                split at h1
                · rename_i rr e5
                  cases h1
                  refine hf r1' r2' _ e3 en S2 σ H H2 O2 Z2 v u ((ev1.trans ev2).back) rel2 res1'' (res2'.from (ev1.back)) _ fun w H3 x3 res3 => ?_
                  have ew := res3.val (u := .bl true) rfl
                  refine ⟨true, ew, ?_⟩
                  rw [if_pos rfl]
                  have rel3 := rel2.ext x3
                  refine hc.ok e4 rel3 fun z H4 O4 Z4 ev4 x4 rel4 res4 => ?_
                  have res2'' := (res2'.ext x3).later rel3 ev4 fun z => absurd z hB2
                  refine hf' r2' r3 res e5 en S' σ H H4 O4 Z4 u z (((ev1.trans ev2).trans (.ext x3)).trans ev4).back rel4 (res2''.from (ev1.back)) (res4.from (((ev1.trans ev2).trans (.ext x3)).back)) Q fun w' H5 x5 res5 => ?_
                  exact h2 w' H5 O4 Z4 ((((ev1.trans ev2).trans (.ext x3)).trans ev4).trans (.ext x5)) (fun z => by
                    rw [Bool.and_eq_true, Bool.and_eq_true] at z
                    exact (((x1 z.1).trans (x2 z.2.1)).trans x3).trans ((x4 z.2.2).trans x5)) (rel4.ext x5) res5
                · cases h1
              · cases h1
              · cases h1
            · rename_i m0 e3
              cases h1
              refine hf r1' r2' _ e3 en S' σ H H2 O2 Z2 v u ((ev1.trans ev2).back) rel2 res1'' (res2'.from (ev1.back)) _ fun w H3 x3 res3 => ?_
              have ew := res3.val (u := .bl false) rfl
              refine ⟨false, ew, ?_⟩
              rw [if_neg Bool.false_ne_true]
              exact h2 (.bl false) H3 O2 Z2 ((ev1.trans ev2).trans (.ext x3)) (fun z => by
                rw [Bool.and_eq_true, Bool.and_eq_true] at z
                exact ((x1 z.1).trans (x2 z.2.1)).trans x3) (rel2.ext x3) (.sc rfl)
            · cases h1
          · cases h1
        · cases h1
        · cases h1
      · cases h1
    · cases h1
    · cases h1
  · unfold mCh at h1
    split at h1
    · rename_i r1 S1 e1
      split at h1
      · rename_i r1' e1'
        split at h1
        · rename_i r2 S2 e2
          split at h1
          · rename_i r2' e2'
            refine ha.ok e1 rel fun v H1 O1 Z1 ev1 x1 rel1 res1 => ?_
            obtain ⟨_, res1', hB⟩ := settle_ok e1' res1
            refine hb.ok e2 rel1 fun u H2 O2 Z2 ev2 x2 rel2 res2 => ?_
            obtain ⟨_, res2', hB2⟩ := settle_ok e2' res2
            have res1'' := res1'.later rel1 ev2 fun z => absurd z hB
            split at h1
            · rename_i m0 e3
              split at h1
              · split at h1 <;> cases h1
              · rename_i x3 S3 e4
                cases h1
                refine hf r1' r2' _ e3 en S2 σ H H2 O2 Z2 v u ((ev1.trans ev2).back) rel2 res1'' (res2'.from (ev1.back)) _ fun w H3 x3 res3 => ?_
                have ew := res3.val (u := .bl true) rfl
                refine ⟨true, ew, ?_⟩
                rw [if_pos rfl]
                exact hc.exc e4 (rel2.ext x3) fun cls d H4 O4 Z4 ev4 rel4 xr => h2 cls d H4 O4 Z4 (((ev1.trans ev2).trans (.ext x3)).trans ev4) rel4 xr
              · cases h1
            · cases h1
            · cases h1
          · cases h1
        · rename_i x2 S2 e2
          cases h1
          refine ha.ok e1 rel fun v H1 O1 Z1 ev1 x1 rel1 res1 => ?_
          exact hb.exc e2 rel1 (h2.from ev1)
        · cases h1
      · cases h1
    · rename_i x1 S1 e1
      cases h1
      exact ha.exc e1 rel h2
    · cases h1
/-! ### and, or, not, if -/
def tAndM (ta tb : M Bool) : M Bool := fun S => match ta S with
  | .ok b S1 => if b then tb S1 else .ok false S1
  | .exc x S1 => .exc x S1
  | .bad => .bad
def tOrM (ta tb : M Bool) : M Bool := fun S => match ta S with
  | .ok b S1 => if b then .ok true S1 else tb S1
  | .exc x S1 => .exc x S1
  | .bad => .bad
def tNotM (ta : M Bool) : M Bool := fun S => match ta S with
  | .ok b S1 => .ok (!b) S1
  | .exc x S1 => .exc x S1
  | .bad => .bad
def mIfE (tc : M Bool) (ma mb : M RV) : M RV := fun S => match tc S with
  | .ok b S1 => if b then ma S1 else mb S1
  | .exc x S1 => .exc x S1
  | .bad => .bad
/-- a test as a value -/
def mOfT (tc : M Bool) : M RV := fun S => match tc S with
  | .ok b S1 => .ok ⟨.N, .bl b⟩ S1
  | .exc x S1 => .exc x S1
  | .bad => .bad
variable {rest : List Expr}
theorem SW.and1 (h : ST cl X W q a ta) : SW cl X W q (.BoolOp .And [a] pos) ta :=
  ⟨fun h1 _ _ _ _ _ r _ h2 => WW.of (pw_and1 (WT.pt (X := X) (e := a))) (h.ok h1 r h2), fun h1 _ _ _ _ _ r h2 _ => WW.of (pw_and1 (WT.pt (X := X) (e := a))) (h.exc h1 r h2)⟩
theorem SW.or1 (h : ST cl X W q a ta) : SW cl X W q (.BoolOp .Or [a] pos) ta :=
  ⟨fun h1 _ _ _ _ _ r _ h2 => WW.of (pw_or1 (WT.pt (X := X) (e := a))) (h.ok h1 r h2), fun h1 _ _ _ _ _ r h2 _ => WW.of (pw_or1 (WT.pt (X := X) (e := a))) (h.exc h1 r h2)⟩
theorem SW.and (h : ST cl X W q1 a ta) (h' : SW cl X W q2 (.BoolOp .And (b :: rest) pos) tb) : SW cl X W (q1 && q2) (.BoolOp .And (a :: b :: rest) pos) (tAndM ta tb) := by
  have pe : PW X (.BoolOp .And (a :: b :: rest) pos) _ := pw_and (WT.pt (X := X) (e := a)) (WW.pw (X := X) (e := .BoolOp .And (b :: rest) pos))
  refine ⟨fun {S res S'} h1 en σ H O Z rel Q h2 => WW.of pe ?_, fun {S x S'} h1 en σ H O Z rel h2 Q => WW.of pe ?_⟩
  · unfold tAndM at h1
    split at h1
    · rename_i c S1 e1
      refine h.ok e1 rel fun H1 O1 Z1 ev1 x1 rel1 => ?_
      cases c with
      | true =>
        rw [if_pos rfl] at h1 ⊢
        exact h'.ok h1 rel1 fun H2 O2 Z2 ev2 x2 rel2 => h2 H2 O2 Z2 (ev1.trans ev2) (q_both x1 x2) rel2
      | false =>
        rw [if_neg Bool.false_ne_true] at h1 ⊢
        cases h1
        exact h2 H1 O1 Z1 ev1 (q_left x1) rel1
    · cases h1
    · cases h1
  · unfold tAndM at h1
    split at h1
    · rename_i c S1 e1
      refine h.ok e1 rel fun H1 O1 Z1 ev1 x1 rel1 => ?_
      cases c with
      | true =>
        rw [if_pos rfl] at h1 ⊢
        exact h'.exc h1 rel1 (h2.from ev1)
      | false =>
        rw [if_neg Bool.false_ne_true] at h1
        cases h1
    · rename_i x1 S1 e1
      cases h1
      exact h.exc e1 rel h2
    · cases h1
theorem SW.or (h : ST cl X W q1 a ta) (h' : SW cl X W q2 (.BoolOp .Or (b :: rest) pos) tb) : SW cl X W (q1 && q2) (.BoolOp .Or (a :: b :: rest) pos) (tOrM ta tb) := by
  have pe : PW X (.BoolOp .Or (a :: b :: rest) pos) _ := pw_or (WT.pt (X := X) (e := a)) (WW.pw (X := X) (e := .BoolOp .Or (b :: rest) pos))
  refine ⟨fun {S res S'} h1 en σ H O Z rel Q h2 => WW.of pe ?_, fun {S x S'} h1 en σ H O Z rel h2 Q => WW.of pe ?_⟩
  · unfold tOrM at h1
    split at h1
    · rename_i c S1 e1
      refine h.ok e1 rel fun H1 O1 Z1 ev1 x1 rel1 => ?_
      cases c with
      | true =>
        rw [if_pos rfl] at h1 ⊢
        cases h1
        exact h2 H1 O1 Z1 ev1 (q_left x1) rel1
      | false =>
        rw [if_neg Bool.false_ne_true] at h1 ⊢
        exact h'.ok h1 rel1 fun H2 O2 Z2 ev2 x2 rel2 => h2 H2 O2 Z2 (ev1.trans ev2) (q_both x1 x2) rel2
    · cases h1
    · cases h1
  · unfold tOrM at h1
    split at h1
    · rename_i c S1 e1
      refine h.ok e1 rel fun H1 O1 Z1 ev1 x1 rel1 => ?_
      cases c with
      | true =>
        rw [if_pos rfl] at h1
        cases h1
      | false =>
        rw [if_neg Bool.false_ne_true] at h1 ⊢
        exact h'.exc h1 rel1 (h2.from ev1)
    · rename_i x1 S1 e1
      cases h1
      exact h.exc e1 rel h2
    · cases h1
theorem ST.not (h : ST cl X W q a ta) : ST cl X W q (.UnaryOp .Not a pos) (tNotM ta) := by
  have pe : PT X (.UnaryOp .Not a pos) _ := pt_not (WT.pt (X := X) (e := a))
  refine ⟨fun {S res S'} h1 en σ H O Z rel Q h2 => WT.of pe ?_, fun {S x S'} h1 en σ H O Z rel h2 Q => WT.of pe ?_⟩
  · unfold tNotM at h1
    split at h1
    · rename_i c S1 e1
      cases h1
      exact h.ok e1 rel fun H1 O1 Z1 ev1 x1 rel1 => h2 H1 O1 Z1 ev1 x1 rel1
    · cases h1
    · cases h1
  · unfold tNotM at h1
    split at h1
    · cases h1
    · rename_i x1 S1 e1
      cases h1
      exact h.exc e1 rel h2
    · cases h1
theorem SE.ifE (h : ST cl X W q1 c tc) (ha : SE cl X W q2 a ma) (hb : SE cl X W q3 b mb) : SE cl X W (q1 && (q2 && q3)) (.IfExp c a b pos) (mIfE tc ma mb) := by
  have pe : PE X (.IfExp c a b pos) _ := pe_ifExp (WT.pt (X := X) (e := c)) (WE.pe (X := X) (e := a)) (WE.pe (X := X) (e := b))
  refine ⟨fun {S res S'} h1 en σ H O Z rel Q h2 => WE.of pe ?_, fun {S x S'} h1 en σ H O Z rel h2 Q => WE.of pe ?_⟩
  · unfold mIfE at h1
    split at h1
    · rename_i k S1 e1
      refine h.ok e1 rel fun H1 O1 Z1 ev1 x1 rel1 => ?_
      cases k with
      | true =>
        rw [if_pos rfl] at h1 ⊢
        exact ha.ok h1 rel1 fun v H2 O2 Z2 ev2 x2 rel2 res => h2 v H2 O2 Z2 (ev1.trans ev2) (q_both x1 fun z => by
          rw [Bool.and_eq_true] at z
          exact x2 z.1) rel2 (res.from (ev1.back))
      | false =>
        rw [if_neg Bool.false_ne_true] at h1 ⊢
        exact hb.ok h1 rel1 fun v H2 O2 Z2 ev2 x2 rel2 res => h2 v H2 O2 Z2 (ev1.trans ev2) (q_both x1 fun z => by
          rw [Bool.and_eq_true] at z
          exact x2 z.2) rel2 (res.from (ev1.back))
    · cases h1
    · cases h1
  · unfold mIfE at h1
    split at h1
    · rename_i k S1 e1
      refine h.ok e1 rel fun H1 O1 Z1 ev1 x1 rel1 => ?_
      cases k with
      | true =>
        rw [if_pos rfl] at h1 ⊢
        exact ha.exc h1 rel1 (h2.from ev1)
      | false =>
        rw [if_neg Bool.false_ne_true] at h1 ⊢
        exact hb.exc h1 rel1 (h2.from ev1)
    · rename_i x1 S1 e1
      cases h1
      exact h.exc e1 rel h2
    · cases h1
end
end R

set_option Elab.async false
set_option linter.all false
set_option maxRecDepth 100000
set_option maxHeartbeats 2000000
/-! R7: values of and, or, not; calls of defs and of built-ins; isinstance; methods of texts; f-strings. -/
namespace R
open PySem PySem.Spec PyProof.Rows L2

section
variable {cl : Cls} {X : Cx} {W : WX} {q q1 q2 q3 : Bool} {e a b c o : Expr} {es rest : List Expr} {m ma mb mc mo : M RV} {T : Tab} {N : List Str} {k : Nat} {sc : Scope} {pos p2 apos : Pos}
/-! ### and, or, not as values -/
def mAndV (ma mb : M RV) : M RV := fun S => match ma S with
  | .ok r S1 => match r.d with
    | .bl b => if b then mb S1 else .ok ⟨.N, .bl false⟩ S1
    | _ => .bad
  | .exc x S1 => .exc x S1
  | .bad => .bad
def mOrV (ma mb : M RV) : M RV := fun S => match ma S with
  | .ok r S1 => match r.d with
    | .bl b => if b then .ok ⟨.N, .bl true⟩ S1 else mb S1
    | _ => .bad
  | .exc x S1 => .exc x S1
  | .bad => .bad
def mNotV (ma : M RV) : M RV := fun S => match ma S with
  | .ok r S1 => match truD r.d with
    | some b => .ok ⟨.N, .bl (!b)⟩ S1
    | none => .bad
  | .exc x S1 => .exc x S1
  | .bad => .bad
theorem SE.one {op : BoolOp} (ha : SE cl X W q a ma) : SE cl X W q (.BoolOp op [a] pos) ma := RD.of ha (pe_one WE.pe)
theorem SE.andV (ha : SE cl X W q1 a ma) (hb : SE cl X W q2 (.BoolOp .And (b :: rest) pos) mb) : SE cl X W (q1 && q2) (.BoolOp .And (a :: b :: rest) pos) (mAndV ma mb) := by
  have pe : PE X (.BoolOp .And (a :: b :: rest) pos) _ := pe_and (WE.pe (X := X) (e := a)) (WE.pe (X := X) (e := .BoolOp .And (b :: rest) pos))
  refine ⟨fun {S res S'} h1 en σ H O Z rel Q h2 => WE.of pe ?_, fun {S x S'} h1 en σ H O Z rel h2 Q => WE.of pe ?_⟩
  · unfold mAndV at h1
    split at h1
    · rename_i r S1 e1
      split at h1
      · rename_i k ek
        refine ha.ok e1 rel fun v H1 O1 Z1 ev1 x1 rel1 res1 => ⟨k, res1.val (by rw [ek]; rfl), ?_⟩
        cases k with
        | true =>
          rw [if_pos rfl] at h1 ⊢
          exact hb.ok h1 rel1 fun u H2 O2 Z2 ev2 x2 rel2 res => h2 u H2 O2 Z2 (ev1.trans ev2) (q_both x1 x2) rel2 (res.from (ev1.back))
        | false =>
          rw [if_neg Bool.false_ne_true] at h1 ⊢
          cases h1
          exact h2 _ H1 O1 Z1 ev1 (q_left x1) rel1 (.sc rfl)
      · cases h1
    · cases h1
    · cases h1
  · unfold mAndV at h1
    split at h1
    · rename_i r S1 e1
      split at h1
      · rename_i k ek
        refine ha.ok e1 rel fun v H1 O1 Z1 ev1 x1 rel1 res1 => ⟨k, res1.val (by rw [ek]; rfl), ?_⟩
        cases k with
        | true =>
          rw [if_pos rfl] at h1 ⊢
          exact hb.exc h1 rel1 (h2.from ev1)
        | false =>
          rw [if_neg Bool.false_ne_true] at h1
          cases h1
      · cases h1
    · rename_i x1 S1 e1
      cases h1
      exact ha.exc e1 rel h2
    · cases h1
theorem SE.orV (ha : SE cl X W q1 a ma) (hb : SE cl X W q2 (.BoolOp .Or (b :: rest) pos) mb) : SE cl X W (q1 && q2) (.BoolOp .Or (a :: b :: rest) pos) (mOrV ma mb) := by
  have pe : PE X (.BoolOp .Or (a :: b :: rest) pos) _ := pe_or (WE.pe (X := X) (e := a)) (WE.pe (X := X) (e := .BoolOp .Or (b :: rest) pos))
  refine ⟨fun {S res S'} h1 en σ H O Z rel Q h2 => WE.of pe ?_, fun {S x S'} h1 en σ H O Z rel h2 Q => WE.of pe ?_⟩
  · unfold mOrV at h1
    split at h1
    · rename_i r S1 e1
      split at h1
      · rename_i k ek
        refine ha.ok e1 rel fun v H1 O1 Z1 ev1 x1 rel1 res1 => ⟨k, res1.val (by rw [ek]; rfl), ?_⟩
        cases k with
        | true =>
          rw [if_pos rfl] at h1 ⊢
          cases h1
          exact h2 _ H1 O1 Z1 ev1 (q_left x1) rel1 (.sc rfl)
        | false =>
          rw [if_neg Bool.false_ne_true] at h1 ⊢
          exact hb.ok h1 rel1 fun u H2 O2 Z2 ev2 x2 rel2 res => h2 u H2 O2 Z2 (ev1.trans ev2) (q_both x1 x2) rel2 (res.from (ev1.back))
      · cases h1
    · cases h1
    · cases h1
  · unfold mOrV at h1
    split at h1
    · rename_i r S1 e1
      split at h1
      · rename_i k ek
        refine ha.ok e1 rel fun v H1 O1 Z1 ev1 x1 rel1 res1 => ⟨k, res1.val (by rw [ek]; rfl), ?_⟩
        cases k with
        | true =>
          rw [if_pos rfl] at h1
          cases h1
        | false =>
          rw [if_neg Bool.false_ne_true] at h1 ⊢
          exact hb.exc h1 rel1 (h2.from ev1)
      · cases h1
    · rename_i x1 S1 e1
      cases h1
      exact ha.exc e1 rel h2
    · cases h1
theorem SE.notV (ha : SE cl X W q a ma) : SE cl X W q (.UnaryOp .Not a pos) (mNotV ma) := by
  have pe : PE X (.UnaryOp .Not a pos) _ := pe_notT (WE.pe (X := X) (e := a))
  refine ⟨fun {S res S'} h1 en σ H O Z rel Q h2 => WE.of pe ?_, fun {S x S'} h1 en σ H O Z rel h2 Q => WE.of pe ?_⟩
  · unfold mNotV at h1
    split at h1
    · rename_i r S1 e1
      split at h1
      · rename_i k ek
        cases h1
        exact ha.ok e1 rel fun v H1 O1 Z1 ev1 x1 rel1 res1 => ⟨k, tru_of ek res1, h2 _ H1 O1 Z1 ev1 x1 rel1 (.sc rfl)⟩
      · cases h1
    · cases h1
    · cases h1
  · unfold mNotV at h1
    split at h1
    · split at h1 <;> cases h1
    · rename_i x1 S1 e1
      cases h1
      exact ha.exc e1 rel h2
    · cases h1
/-- one operand, a reading -/
theorem SE.un {r : V → Hp → VK → Prop} {f : RV → Option RV} (ha : SE cl X W q a ma) (hf : UnS X f r) (p : PE X e (fun σ H Q => WE X a σ H fun x H1 => r x H1 Q)) : SE cl X W q e (mUn f ma) := (RD.un ha hf).of p
def fNeg (a : RV) : Option RV := match a.d with
  | .int i => some ⟨.N, .int (-i)⟩
  | _ => none
theorem SE.neg (ha : SE cl X W q a ma) : SE cl X W q (.UnaryOp .USub a pos) (mUn fNeg ma) := by
  refine SE.un (r := rU fun i => .int (-i)) ha (fun r1 res e en S σ H0 H O Z x k rel q1 Q hQ => ?_) (pe_un un_neg WE.pe)
  obtain ⟨m1, d1⟩ := r1
  unfold fNeg at e
  dsimp only at e
  split at e
  · cases e
    cases q1.val rfl
    exact ⟨_, rfl, hQ _ H .refl (.sc rfl)⟩
  · cases e

/-! ### arguments of a call: names are looked at when all is there -/
inductive AV where
  | pl (i : Nat) | rv (r : RV)
def AVs (K : PySem.W.Frag) (σ : L2.St) (H H' : Hp) (O' : Own) (Z' : Sh) : List AV → List V → Prop
  | [], [] => True
  | .pl i :: as, v :: vs => σ[i]? = some (some v) ∧ AVs K σ H H' O' Z' as vs
  | .rv r :: as, v :: vs => Res K r.md r.d v H H' O' Z' ∧ AVs K σ H H' O' Z' as vs
  | _, _ => False
structure SC (cl : Cls) (X : Cx) (W : WX) (q : Bool) (es : List Expr) (m : M (List AV)) : Prop where
  ok : ∀ {S r S'}, m S = .ok r S' → ∀ {en σ H O Z}, Rel X.K en S σ H O Z → ∀ {Q : List V → Hp → Prop}, (∀ vs H' O' Z', Evo O Z H O' Z' H' → (q = true → Ext H H') → Rel X.K en S' σ H' O' Z' → AVs X.K σ H H' O' Z' r vs → Q vs H') → WA X es σ H Q
  exc : ∀ {S x S'}, m S = .exc x S' → ∀ {en σ H O Z}, Rel X.K en S σ H O Z → XPost cl X W en S' σ H O Z x → ∀ {Q : List V → Hp → Prop}, WA X es σ H Q
def cNil : M (List AV) := fun S => .ok [] S
def cPl (i : Nat) (ms : M (List AV)) : M (List AV) := fun S => match slotRV S i with
  | some _ => match ms S with
    | .ok r S' => .ok (.pl i :: r) S'
    | .exc x S' => .exc x S'
    | .bad => .bad
  | none => .bad
def cRv (q2 : Bool) (ma : M RV) (ms : M (List AV)) : M (List AV) := fun S => match ma S with
  | .ok r1 S1 => match hold q2 r1 with
    | some r1 => match ms S1 with
      | .ok r S' => .ok (.rv r1 :: r) S'
      | .exc x S' => .exc x S'
      | .bad => .bad
    | none => .bad
  | .exc x S1 => .exc x S1
  | .bad => .bad
theorem AVs.from {K : PySem.W.Frag} {σ : L2.St} {H0 H H' : Hp} {O' : Own} {Z' : Sh} (f : ∀ b, H b = none → H0 b = none) : ∀ {as : List AV} {vs : List V}, AVs K σ H H' O' Z' as vs → AVs K σ H0 H' O' Z' as vs
  | [], [], _ => trivial
  | [], _ :: _, h => h.elim
  | .pl _ :: _, [], h => h.elim
  | .rv _ :: _, [], h => h.elim
  | .pl i :: as, v :: vs, h => ⟨h.1, AVs.from f h.2⟩
  | .rv r :: as, v :: vs, h => ⟨h.1.from f, AVs.from f h.2⟩
theorem SC.nil : SC cl X W true [] cNil :=
  ⟨fun h1 en σ H O Z rel Q h2 => by
    cases h1
    exact WA.of pa_nil (h2 [] H O Z .refl (fun _ => .refl) rel trivial), fun h1 => nomatch h1⟩
theorem SC.pl {i : Nat} {ms : M (List AV)} (pa : PE X a (tVar i)) (hs : SC cl X W q es ms) (hst : notStar a = true) : SC cl X W q (a :: es) (cPl i ms) := by
  have pe : PA X (a :: es) _ := pa_cons pa (WA.pa (X := X) (es := es)) (star_cons hst)
  refine ⟨fun {S res S'} h1 en σ H O Z rel Q h2 => WA.of pe ?_, fun {S x S'} h1 en σ H O Z rel h2 Q => WA.of pe ?_⟩
  · unfold cPl at h1
    split at h1
    · rename_i r0 e0
      obtain ⟨v, ev, _⟩ := slot_ok (H0 := H) rel e0
      split at h1
      · rename_i r S1 e1
        cases h1
        exact ⟨v, ev, hs.ok e1 rel fun vs H1 O1 Z1 ev1 x1 rel1 av => h2 (v :: vs) H1 O1 Z1 ev1 x1 rel1 ⟨ev, av⟩⟩
      · cases h1
      · cases h1
    · cases h1
  · unfold cPl at h1
    split at h1
    · rename_i r0 e0
      obtain ⟨v, ev, _⟩ := slot_ok (H0 := H) rel e0
      split at h1
      · cases h1
      · rename_i x1 S1 e1
        cases h1
        exact ⟨v, ev, hs.exc e1 rel h2⟩
      · cases h1
    · cases h1
theorem SC.rv {ms : M (List AV)} (ha : SE cl X W q1 a ma) (hs : SC cl X W q2 es ms) (hst : notStar a = true) : SC cl X W (q1 && q2) (a :: es) (cRv q2 ma ms) := by
  have pe : PA X (a :: es) _ := pa_cons (WE.pe (X := X) (e := a)) (WA.pa (X := X) (es := es)) (star_cons hst)
  refine ⟨fun {S res S'} h1 en σ H O Z rel Q h2 => WA.of pe ?_, fun {S x S'} h1 en σ H O Z rel h2 Q => WA.of pe ?_⟩
  · unfold cRv at h1
    split at h1
    · rename_i r1 S1 e1
      split at h1
      · rename_i r1' e1'
        split at h1
        · rename_i r S2 e2
          cases h1
          refine ha.ok e1 rel fun v H1 O1 Z1 ev1 x1 rel1 res1 => ?_
          obtain ⟨_, res1', hB⟩ := hold_ok e1' res1
          refine hs.ok e2 rel1 fun vs H2 O2 Z2 ev2 x2 rel2 av => ?_
          exact h2 (v :: vs) H2 O2 Z2 (ev1.trans ev2) (q_both x1 x2) rel2 ⟨res1'.later rel1 ev2 fun z => .inl (x2 (hB z)), av.from (ev1.back)⟩
        · cases h1
        · cases h1
      · cases h1
    · cases h1
    · cases h1
  · unfold cRv at h1
    split at h1
    · rename_i r1 S1 e1
      split at h1
      · split at h1
        · cases h1
        · rename_i x2 S2 e2
          cases h1
          refine ha.ok e1 rel fun v H1 O1 Z1 ev1 x1 rel1 res1 => ?_
          exact hs.exc e2 rel1 (h2.from ev1)
        · cases h1
      · cases h1
    · rename_i x1 S1 e1
      cases h1
      exact ha.exc e1 rel h2
    · cases h1
/-- what the arguments hold -/
def avRV (S : State) : AV → Option RV
  | .pl i => slotRV S i
  | .rv r => some r
def avRVs (S : State) : List AV → Option (List RV)
  | [] => some []
  | a :: as => match avRV S a, avRVs S as with
    | some r, some rs => some (r :: rs)
    | _, _ => none
/-- values of data -/
def RVs (K : PySem.W.Frag) (H H' : Hp) (O' : Own) (Z' : Sh) : List RV → List V → Prop
  | [], [] => True
  | r :: rs, v :: vs => Res K r.md r.d v H H' O' Z' ∧ RVs K H H' O' Z' rs vs
  | _, _ => False
theorem avs_rvs {en : Entry} {S : State} {σ : L2.St} {H H' : Hp} {O' : Own} {Z' : Sh} (rel : Rel X.K en S σ H' O' Z') : ∀ {as : List AV} {vs : List V} {rs : List RV}, AVs X.K σ H H' O' Z' as vs → avRVs S as = some rs → RVs X.K H H' O' Z' rs vs
  | [], [], rs, _, h => by cases h; trivial
  | [], _ :: _, _, h, _ => h.elim
  | .pl _ :: _, [], _, h, _ => h.elim
  | .rv _ :: _, [], _, h, _ => h.elim
  | a :: as, v :: vs, rs, h, e => by
    unfold avRVs at e
    split at e
    · rename_i r rs' e1 e2
      cases e
      cases a with
      | pl i =>
        obtain ⟨u, eu, ru⟩ := slot_ok (H0 := H) rel e1
        obtain ⟨h1, h2⟩ := h
        rw [h1] at eu
        cases eu
        exact ⟨ru, avs_rvs rel h2 e2⟩
      | rv r' =>
        cases e1
        exact ⟨h.1, avs_rvs rel h.2 e2⟩
    · cases e
theorem RVs.reps {K : PySem.W.Frag} {H H' : Hp} {O' : Own} {Z' : Sh} : ∀ {rs : List RV} {vs : List V}, RVs K H H' O' Z' rs vs → ∃ F, Reps K H' vs (rs.map (·.d)) F
  | [], [], _ => ⟨[], .nil⟩
  | [], _ :: _, h => h.elim
  | _ :: _, [], h => h.elim
  | r :: rs, v :: vs, h => by
    obtain ⟨F, p⟩ := h.1.any
    obtain ⟨G, p2⟩ := RVs.reps h.2
    exact ⟨F ++ G, p.cons p2⟩

/-! ### a built-in by values -/
def CaS (X : Cx) (f : List RV → Option RV) (r : List V → Hp → VK → Prop) : Prop :=
  ∀ (rs : List RV) (res : RV), f rs = some res → ∀ (en : Entry) (S : State) (σ : L2.St) (H0 H : Hp) (O : Own) (Z : Sh) (vs : List V), (∀ b, H b = none → H0 b = none) → Rel X.K en S σ H O Z → RVs X.K H0 H O Z rs vs →
    ∀ Q : VK, (∀ v H', Ext H H' → Res X.K res.md res.d v H0 H' O Z → Q v H') → r vs H Q
def mBlt (f : List RV → Option RV) (ms : M (List AV)) : M RV := fun S => match ms S with
  | .ok as S' => match avRVs S' as with
    | some rs => match f rs with
      | some r => .ok r S'
      | none => .bad
    | none => .bad
  | .exc x S' => .exc x S'
  | .bad => .bad
theorem RD.blt {r : List V → Hp → VK → Prop} {f : List RV → Option RV} {ms : M (List AV)} (hs : SC cl X W q es ms) (hf : CaS X f r) : RD cl X W q (tCB r (WA X es)) (mBlt f ms) := by
  refine ⟨fun {S res S'} h1 en σ H O Z rel Q h2 => ?_, fun {S x S'} h1 en σ H O Z rel h2 Q => ?_⟩
  · unfold mBlt at h1
    split at h1
    · rename_i as S1 e1
      split at h1
      · rename_i rs e2
        split at h1
        · rename_i rr e3
          cases h1
          refine hs.ok e1 rel fun vs H1 O1 Z1 ev1 x1 rel1 av => ?_
          exact hf rs res e3 en S' σ H H1 O1 Z1 vs (ev1.back) rel1 (avs_rvs rel1 av e2) Q fun v H2 x2 res2 => h2 v H2 O1 Z1 (ev1.trans (.ext x2)) (fun z => (x1 z).trans x2) (rel1.ext x2) res2
        · cases h1
      · cases h1
    · cases h1
    · cases h1
  · unfold mBlt at h1
    split at h1
    · split at h1
      · split at h1 <;> cases h1
      · cases h1
    · rename_i x1 S1 e1
      cases h1
      exact hs.exc e1 rel h2
    · cases h1
/-- a method of a text with one argument: f, of the text and the argument -/
def mM1 (f : Str → RV → Option RV) (mo mb : M RV) : M RV := fun S => match mo S with
  | .ok r1 S1 => match r1.d with
    | .str z => match mb S1 with
      | .ok r2 S2 => match f z r2 with
        | some r => .ok r S2
        | none => .bad
      | .exc x S2 => .exc x S2
      | .bad => .bad
    | _ => .bad
  | .exc x S1 => .exc x S1
  | .bad => .bad
def M1S (X : Cx) (f : Str → RV → Option RV) (r : V → List V → Hp → VK → Prop) : Prop :=
  ∀ (z : Str) (r1 res : RV), f z r1 = some res → ∀ (en : Entry) (S : State) (σ : L2.St) (H0 H : Hp) (O : Own) (Z : Sh) (y : V), (∀ b, H b = none → H0 b = none) → Rel X.K en S σ H O Z → Res X.K r1.md r1.d y H0 H O Z →
    ∀ Q : VK, (∀ v H', Ext H H' → Res X.K res.md res.d v H0 H' O Z → Q v H') → r (.str z) [y] H Q
theorem SE.m1 {id : String} {name : Str} {r : V → List V → Hp → VK → Prop} {f : Str → RV → Option RV} (slot : PySem.Slot "str" name id) (ty : typeOf (.builtin id) = pure (.type "method_descriptor")) (rule : MtR X id r) (hf : M1S X f r)
    (ho : SE cl X W q1 o mo) (hb : SE cl X W q2 b mb) (hst : notStar b = true) (hbase : attributeBase o name X.env (eval o X.env) = eval o X.env) (hline : (apos.endLine == pos.line) = true) :
    SE cl X W (q1 && q2) (.Call (.Attribute o name apos) [b] [] pos) (mM1 f mo mb) := by
  have hs : starEach [b] X.env = [(false, eval b X.env)] := star_cons hst
  have pe := pe_m1 slot ty rule (WE.pe (X := X) (e := o)) (WE.pe (X := X) (e := b)) hs hbase hline
  refine ⟨fun {S res S'} h1 en σ H O Z rel Q h2 => WE.of pe ?_, fun {S x S'} h1 en σ H O Z rel h2 Q => WE.of pe ?_⟩
  · unfold mM1 at h1
    split at h1
    · rename_i r1 S1 e1
      split at h1
      · rename_i z ez
        split at h1
        · rename_i r2 S2 e2
          split at h1
          · rename_i rr e3
            cases h1
            refine ho.ok e1 rel fun v H1 O1 Z1 ev1 x1 rel1 res1 => ?_
            have ev : v = .str z := res1.val (by rw [ez]; rfl)
            subst ev
            refine ⟨⟨z, rfl⟩, hb.ok e2 rel1 fun u H2 O2 Z2 ev2 x2 rel2 res2 => ?_⟩
            exact hf z r2 res e3 en S' σ H H2 O2 Z2 u ((ev1.trans ev2).back) rel2 (res2.from (ev1.back)) Q fun w H3 x3 res3 => h2 w H3 O2 Z2 ((ev1.trans ev2).trans (.ext x3)) (fun z => (q_both x1 x2 z).trans x3) (rel2.ext x3) res3
          · cases h1
        · cases h1
        · cases h1
      · cases h1
    · cases h1
    · cases h1
  · unfold mM1 at h1
    split at h1
    · rename_i r1 S1 e1
      split at h1
      · rename_i z ez
        split at h1
        · split at h1 <;> cases h1
        · rename_i x2 S2 e2
          cases h1
          refine ho.ok e1 rel fun v H1 O1 Z1 ev1 x1 rel1 res1 => ?_
          have ev : v = .str z := res1.val (by rw [ez]; rfl)
          subst ev
          exact ⟨⟨z, rfl⟩, hb.exc e2 rel1 (h2.from ev1)⟩
        · cases h1
      · cases h1
    · rename_i x1 S1 e1
      cases h1
      exact ho.exc e1 rel h2
    · cases h1
/-- the texts of a list of texts -/
def strsOf : List D → Option (List Str)
  | [] => some []
  | .str s :: r => (strsOf r).map (s :: ·)
  | _ :: _ => none
def joinOk (a : Str) (ys : List Str) : Bool := decide ((ys.map (·.length)).sum + ys.length * a.length ≤ big)
def fJoin (z : Str) (r : RV) : Option RV := match r.d with
  | .lst ds => match strsOf ds with
    | some ys => if joinOk z ys then some ⟨.N, .str (Txt.join z ys)⟩ else none
    | none => none
  | _ => none
def fSplit (z : Str) (r : RV) : Option RV := match r.d with
  | .str b => if !(b.length == 0) && lenOk (z.length + 2) then some ⟨.N, .lst ((Txt.split z b).map D.str)⟩ else none
  | _ => none
theorem strs_vals {K : PySem.W.Frag} {H : Hp} : ∀ {ds : List D} {vs : List V} {F : List Addr} {ys : List Str}, strsOf ds = some ys → Reps K H vs ds F → vs = ys.map V.str
  | [], [], _, ys, h, _ => by cases h; rfl
  | [], _ :: _, _, _, _, r => by cases r
  | _ :: _, [], _, _, _, r => by cases r
  | d :: ds, v :: vs, _, ys, h, r => by
    obtain ⟨F1, F2, _, r1, r2⟩ := r.uncons
    cases d with
    | str s =>
      obtain ⟨zs, hz, rfl⟩ := Option.map_eq_some_iff.mp (show (strsOf ds).map (s :: ·) = some ys from h)
      rw [strs_vals hz r2, (r1.scE (u := .str s) rfl).1]; rfl
    | _ => cases h
theorem join_ok : M1S X fJoin (fun x xs H Q => ∃ a p, ∃ ys : List Str, x = .str a ∧ xs = [.ref p] ∧ (SqL X.K H p (ys.map V.str) ∨ SqT X.K H p (ys.map V.str)) ∧ (ys.map (·.length)).sum + ys.length * a.length ≤ 16777216 ∧ Q (.str (Txt.join a ys)) H) := by
  intro z r1 res e en S σ H0 H O Z y k rel q1 Q hQ
  obtain ⟨m1, d1⟩ := r1
  unfold fJoin at e
  dsimp only at e
  split at e
  · split at e
    · rename_i ys hy
      split at e
      · rename_i hj
        cases e
        obtain ⟨a, vs, G, rfl, ha, ra, _⟩ := q1.lst
        have hv := strs_vals hy ra
        subst hv
        refine ⟨z, a, ys, rfl, rfl, .inl (SqL.of ha), ?_, hQ _ H .refl (.sc rfl)⟩
        have h := of_decide_eq_true hj
        unfold big at h
        omega
      · cases e
    · cases e
  · cases e
theorem reps_strs {K : PySem.W.Frag} {H : Hp} : ∀ ys : List Str, Reps K H (ys.map V.str) (ys.map D.str) []
  | [] => .nil
  | y :: ys => .sc rfl (reps_strs ys)
theorem split_ok : M1S X fSplit (fun x xs H Q => ∃ a b, x = .str a ∧ xs = [.str b] ∧ (b.length == 0) = false ∧ a.length + 2 ≤ sizeLine ∧ rNewStrs (Txt.split a b) H Q) := by
  intro z r1 res e en S σ H0 H O Z y k rel q1 Q hQ
  obtain ⟨m1, d1⟩ := r1
  unfold fSplit at e
  dsimp only at e
  split at e
  · rename_i b
    split at e
    · rename_i hb
      cases e
      cases q1.val rfl
      rw [Bool.and_eq_true, Bool.not_eq_true'] at hb
      refine ⟨z, b, rfl, rfl, hb.1, len_of hb.2, fun p hp => ?_⟩
      exact hQ _ _ (Ext.new hp) (Res.new_lst rel k hp (reps_strs (Txt.split z b)) fun _ h => nomatch h)
    · cases e
  · cases e
end
end R

set_option Elab.async false
set_option linter.all false
set_option maxRecDepth 100000
set_option maxHeartbeats 2000000
/-! R8: calls of the text's own defs; the built-ins that are used; isinstance; f-strings. -/
namespace R
open PySem PySem.Spec PyProof.Rows L2

/-! ### a slot's value replaced by what a callee made of it -/
def lend (S : State) (i : Nat) (d' : D) : Option State := match S[i]? with
  | some (.own _) => some (S.set i (.own d'))
  | some (.io _) => some (S.set i (.io d'))
  | _ => none
theorem lend_own {K : PySem.W.Frag} {en : Entry} {S S' : State} {σ : L2.St} {H : Hp} {O : Own} {Z : Sh} {i : Nat} {d0 : D} (rel : Rel K en S σ H O Z) (h : lend S i d0 = some S') : ∃ d v, slotRV S i = some ⟨.B, d⟩ ∧ σ[i]? = some (some v) ∧ Top K H Z v d (O i) := by
  unfold lend at h
  unfold slotRV
  split at h
  · rename_i d e
    obtain ⟨⟨v, ev, p⟩, _⟩ := rel.own i d e
    rw [e]; exact ⟨d, v, rfl, ev, p⟩
  · rename_i d e
    obtain ⟨ev, p, _⟩ := rel.io i d e
    rw [e]; exact ⟨d, _, rfl, ev, p⟩
  · cases h
/-- the slot i holds new data at the same top -/
theorem lend_rel {K : PySem.W.Frag} {en : Entry} {S S' : State} {σ : L2.St} {H H' : Hp} {O : Own} {Z Z' : Sh} {i : Nat} {d0 : D} {v0 : V} (rel : Rel K en S σ H O Z) (l : Lent (O i) H H') (hS : lend S i d0 = some S') (hv : σ[i]? = some (some v0)) (t : Top K H' Z' v0 d0 (O i))
    (g : ∀ a, Z a → Z' a) (zo : ∀ a, Z' a → ¬ Owns O a) (zd : ∀ a, Z' a → H' a ≠ none) : Rel K en S' σ H' O Z' := by
  have hset : ∃ s, S' = S.set i s ∧ i < S.length ∧ ((s = .own d0 ∧ ∃ d, S[i]? = some (.own d)) ∨ (s = .io d0 ∧ ∃ d, S[i]? = some (.io d))) := by
    unfold lend at hS
    split at hS
    · rename_i d e
      cases hS
      exact ⟨_, rfl, (List.getElem?_eq_some_iff.mp e).1, .inl ⟨rfl, d, e⟩⟩
    · rename_i d e
      cases hS
      exact ⟨_, rfl, (List.getElem?_eq_some_iff.mp e).1, .inr ⟨rfl, d, e⟩⟩
    · cases hS
  obtain ⟨s, rfl, hi, hs⟩ := hset
  have other : ∀ j, j ≠ i → (S.set i s)[j]? = S[j]? := fun j hj => List.getElem?_set_ne (Ne.symm hj)
  have here : (S.set i s)[i]? = some s := List.getElem?_set_self hi
  have mutI : ∀ b, b ∈ O i → ∃ ys, H b = some (.lst ys) := fun b hb => rel.mut b ⟨i, hb⟩
  have keepj : ∀ j, j ≠ i → ∀ {v d}, Top K H Z v d (O j) → Top K H' Z' v d (O j) := fun j hj v d r =>
    (r.step (fun a => a ∈ O i) mutI (fun b o e n => l.keep b o e n) (fun a ha q => rel.zo a ha ⟨i, q⟩) fun a ha q => hj (rel.dis j i a ha q)).mono g
  refine ⟨by rw [List.length_set]; exact rel.len, fun j d h => ?_, fun j d h => ?_, fun j d h => ?_, fun j h1 h2 => ?_, rel.dis, fun a h => l.dom a (rel.dom a h), zo, zd⟩
  · by_cases hj : j = i
    · subst hj
      rw [here] at h
      cases h
      rcases hs with ⟨e, d1, e1⟩ | ⟨e, _⟩
      · cases e
        exact ⟨⟨v0, hv, t⟩, (rel.own j d1 e1).2⟩
      · cases e
    · rw [other j hj] at h
      obtain ⟨⟨w, ew, p⟩, f⟩ := rel.own j d h
      exact ⟨⟨w, ew, keepj j hj p⟩, f⟩
  · by_cases hj : j = i
    · subst hj
      rw [here] at h
      cases h
      rcases hs with ⟨e, _⟩ | ⟨e, d1, e1⟩
      · cases e
      · cases e
        obtain ⟨ew, _, f⟩ := rel.io j d1 e1
        rw [hv] at ew
        cases ew
        exact ⟨hv, t, f⟩
    · rw [other j hj] at h
      obtain ⟨ew, p, f⟩ := rel.io j d h
      exact ⟨ew, keepj j hj p, f⟩
  · have hj : j ≠ i := fun z => by
      subst z
      rw [here] at h
      cases h
      rcases hs with ⟨e, _⟩ | ⟨e, _⟩ <;> cases e
    rw [other j hj] at h
    obtain ⟨w, F, ew, p, n⟩ := rel.frz j d h
    exact ⟨w, F, ew, p.step (fun a => a ∈ O i) mutI (fun b o e n => l.keep b o e n) fun a ha q => rel.zo a (n a ha) ⟨i, q⟩, fun a ha => g a (n a ha)⟩
  · by_cases hj : j = i
    · subst hj
      rw [here] at h1 h2
      rcases hs with ⟨e, _⟩ | ⟨e, _⟩
      · subst e; exact absurd rfl (h1 d0)
      · subst e; exact absurd rfl (h2 d0)
    · rw [other j hj] at h1 h2
      exact rel.non j h1 h2

/-- .. and a step that keeps all but what is owned -/
theorem Evo.then {O O1 : Own} {Z Z1 Z2 : Sh} {H H1 H2 : Hp} (e : Evo O Z H O1 Z1 H1) (k : ∀ b o, H1 b = some o → ¬ Owns O1 b → H2 b = some o) (d : ∀ b, H1 b ≠ none → H2 b ≠ none) (s : ∀ b, Z2 b → Z b ∨ Owns O b ∨ H b = none) (g : ∀ b, Z b → Z2 b) : Evo O Z H O1 Z2 H2 where
  keep := fun b o h n => k b o (e.keep b o h n) fun w => by
    rcases e.own b w with q | q
    · exact n q
    · rw [h] at q; cases q
  dom := fun b h => d b (e.dom b h)
  own := e.own
  sh := s
  grow := g
/-- no list of a slot's own is handed on -/
def shareOk (S : State) : AV → Bool
  | .pl i => match slotRV S i with
    | some r => match r.md with
      | .B => !isLst r.d
      | _ => true
    | none => true
  | .rv r => match r.md with
    | .B => !isLst r.d
    | _ => true
/-- an argument beside the lent slot i -/
def okLent (i : Nat) : AV → Bool
  | .pl j => j != i
  | .rv r => match r.md with
    | .B => !isLst r.d
    | _ => true
def clean : D → Bool
  | .lst xs => pureL xs
  | d => d.pure
/-- an answer that can't hold an argument -/
def apart (md : Md) (d : D) : Bool := clean d && (match md with
  | .N => true
  | _ => !isLst d)
def mCall (n : Nat) (g : FSem) (ms : M (List AV)) : M RV := fun S => match ms S with
  | .ok as S' => if as.length == n then match avRVs S' as with
    | some rs => match g (rs.map (·.d)) with
      | .ret md d none => if as.all (shareOk S') || apart md d then .ok ⟨md, d⟩ S' else .bad
      | .ret md d (some d0) => match as with
        | .pl i :: ar => if ar.all (okLent i) && (ar.all (shareOk S') || (apart md d && clean d0)) then match lend S' i d0 with
          | some S'' => .ok ⟨md, d⟩ S''
          | none => .bad
          else .bad
        | _ => .bad
      | .exc x none => .exc x S'
      | .exc x (some d0) => match as with
        | .pl i :: ar => if ar.all (okLent i) && (ar.all (shareOk S') || clean d0) then match lend S' i d0 with
          | some S'' => .exc x S''
          | none => .bad
          else .bad
        | _ => .bad
      | .bad => .bad
    | none => .bad
    else .bad
  | .exc x S' => .exc x S'
  | .bad => .bad
theorem AVs.length {K : PySem.W.Frag} {σ : L2.St} {H H' : Hp} {O' : Own} {Z' : Sh} : ∀ {as : List AV} {vs : List V}, AVs K σ H H' O' Z' as vs → vs.length = as.length
  | [], [], _ => rfl
  | [], _ :: _, h => h.elim
  | .pl _ :: _, [], h => h.elim
  | .rv _ :: _, [], h => h.elim
  | .pl _ :: as, _ :: vs, h => by rw [List.length_cons, List.length_cons, AVs.length h.2]
  | .rv _ :: as, _ :: vs, h => by rw [List.length_cons, List.length_cons, AVs.length h.2]
/-- one argument's lists: shared or new, a slot's own list where sh is not asked; beside the lent slot i where that is asked -/
theorem av_fp1 {K : PySem.W.Frag} {en : Entry} {S : State} {σ : L2.St} {H H' : Hp} {O' : Own} {Z' : Sh} (rel : Rel K en S σ H' O' Z') {a : AV} {v : V} {r : RV} (h : AVs K σ H H' O' Z' [a] [v]) (e : avRV S a = some r) :
    ∃ F, Rep K H' v r.d F ∧ (∀ x ∈ F, H' x ≠ none) ∧ (shareOk S a = true → ∀ x ∈ F, Z' x ∨ (H x = none ∧ ¬ Owns O' x)) ∧ ∀ i, okLent i a = true → ∀ x ∈ F, x ∉ O' i := by
  have gen : ∀ (md : Md) (d : D), Res K md d v H H' O' Z' → ∃ F, Rep K H' v d F ∧ (∀ x ∈ F, H' x ≠ none) ∧ ((match md with
      | .B => !isLst d
      | _ => true) = true → ∀ x ∈ F, Z' x ∨ (H x = none ∧ ¬ Owns O' x)) := fun md d res => by
    cases md with
    | N =>
      obtain ⟨A, t, n⟩ := res
      obtain ⟨F, p, z⟩ := t.rep
      refine ⟨F, p, p.dom, fun _ x hx => ?_⟩
      rcases z x hx with q | q
      · exact .inl q
      · exact .inr ⟨(n x q).1, (n x q).2.1⟩
    | Z =>
      obtain ⟨F, p, z⟩ := res
      exact ⟨F, p, p.dom, fun _ x hx => .inl (z x hx)⟩
    | B =>
      by_cases hd : isLst d = true
      · obtain ⟨F, p⟩ := res.any
        exact ⟨F, p, p.dom, fun q => by
          dsimp only at q
          rw [hd] at q; cases q⟩
      · have hd' : isLst d = false := by cases q : isLst d <;> first | rfl | exact absurd q hd
        obtain ⟨F, p, z⟩ := res.flatZ hd'
        exact ⟨F, p, p.dom, fun _ x hx => .inl (z x hx)⟩
  cases a with
  | rv r' =>
    have e' : some r' = some r := e
    cases e'
    obtain ⟨F, p, d1, s1⟩ := gen r.md r.d h.1
    refine ⟨F, p, d1, s1, fun i hi x hx q => ?_⟩
    rcases s1 hi x hx with w | w
    · exact rel.zo x w ⟨i, q⟩
    · exact w.2 ⟨i, q⟩
  | pl j =>
    have e' : slotRV S j = some r := e
    obtain ⟨u, eu, res⟩ := slot_ok (H0 := H) rel e'
    have hv : σ[j]? = some (some v) := h.1
    rw [hv] at eu
    cases eu
    have shape : shareOk S (.pl j) = (match r.md with
      | .B => !isLst r.d
      | _ => true) := by
      show (match slotRV S j with
        | some r => (match r.md with
          | .B => !isLst r.d
          | _ => true)
        | none => true) = _
      rw [e']
    rw [shape]
    -- the lists of a slot: its own list, and shared ones
    unfold slotRV at e'
    split at e'
    · rename_i d ej
      cases e'
      obtain ⟨⟨w, ew, t⟩, _⟩ := rel.own j d ej
      rw [hv] at ew; cases ew
      obtain ⟨F, p, z⟩ := t.rep
      refine ⟨F, p, p.dom, fun q x hx => ?_, fun i hi x hx q => ?_⟩
      · rcases z x hx with y | y
        · exact .inl y
        · have hd' : isLst d = false := by
            cases q2 : isLst d with
            | false => rfl
            | true =>
              dsimp only at q
              rw [q2] at q; cases q
          have := ((Top.notLst hd').mp t).1
          rw [this] at y; cases y
      · have hji : j ≠ i := by
          unfold okLent at hi
          simpa using hi
        rcases z x hx with y | y
        · exact rel.zo x y ⟨i, q⟩
        · exact hji (rel.dis j i x y q)
    · rename_i d ej
      cases e'
      obtain ⟨ew, t, _⟩ := rel.io j d ej
      rw [hv] at ew; cases ew
      obtain ⟨F, p, z⟩ := t.rep
      refine ⟨F, p, p.dom, fun q x hx => ?_, fun i hi x hx q => ?_⟩
      · rcases z x hx with y | y
        · exact .inl y
        · have hd' : isLst d = false := by
            cases q2 : isLst d with
            | false => rfl
            | true =>
              dsimp only at q
              rw [q2] at q; cases q
          have := ((Top.notLst hd').mp t).1
          rw [this] at y; cases y
      · have hji : j ≠ i := by
          unfold okLent at hi
          simpa using hi
        rcases z x hx with y | y
        · exact rel.zo x y ⟨i, q⟩
        · exact hji (rel.dis j i x y q)
    · rename_i d ej
      cases e'
      obtain ⟨w, F, ew, p, z⟩ := rel.frz j d ej
      rw [hv] at ew; cases ew
      exact ⟨F, p, p.dom, fun _ x hx => .inl (z x hx), fun i _ x hx q => rel.zo x (z x hx) ⟨i, q⟩⟩
    · cases e'
theorem av_fp {K : PySem.W.Frag} {en : Entry} {S : State} {σ : L2.St} {H H' : Hp} {O' : Own} {Z' : Sh} (rel : Rel K en S σ H' O' Z') : ∀ {as : List AV} {vs : List V} {rs : List RV}, AVs K σ H H' O' Z' as vs → avRVs S as = some rs →
    ∃ F, Reps K H' vs (rs.map (·.d)) F ∧ (∀ x ∈ F, H' x ≠ none) ∧ (as.all (shareOk S) = true → ∀ x ∈ F, Z' x ∨ (H x = none ∧ ¬ Owns O' x)) ∧ ∀ i, as.all (okLent i) = true → ∀ x ∈ F, x ∉ O' i
  | [], [], rs, _, h => by cases h; exact ⟨[], .nil, fun _ h => (nomatch h), fun _ _ h => (nomatch h), fun _ _ _ h => nomatch h⟩
  | [], _ :: _, _, h, _ => h.elim
  | .pl _ :: _, [], _, h, _ => h.elim
  | .rv _ :: _, [], _, h, _ => h.elim
  | a :: as, v :: vs, rs, h, e => by
    unfold avRVs at e
    split at e
    · rename_i r rs' e1 e2
      cases e
      have h1 : AVs K σ H H' O' Z' [a] [v] := by
        cases a with
        | pl i => exact ⟨h.1, trivial⟩
        | rv r => exact ⟨h.1, trivial⟩
      have h2 : AVs K σ H H' O' Z' as vs := by cases a <;> exact h.2
      obtain ⟨F, p, d1, s1, l1⟩ := av_fp1 rel h1 e1
      obtain ⟨G, p2, d2, s2, l2⟩ := av_fp rel h2 e2
      refine ⟨F ++ G, p.cons p2, fun x hx => (List.mem_append.mp hx).elim (d1 x) (d2 x), fun q x hx => ?_, fun i q x hx => ?_⟩
      · rw [List.all_cons, Bool.and_eq_true] at q
        exact (List.mem_append.mp hx).elim (s1 q.1 x) (s2 q.2 x)
      · rw [List.all_cons, Bool.and_eq_true] at q
        exact (List.mem_append.mp hx).elim (l1 i q.1 x) (l2 i q.2 x)
    · cases e
theorem clean_top {K : PySem.W.Frag} {H : Hp} {Z Z' : Sh} {v : V} {d : D} {A : List Addr} (h : clean d = true) (t : Top K H Z v d A) : Top K H Z' v d A := by
  cases d with
  | lst ds =>
    obtain ⟨a, xs, G, e1, e2, e3, r, z⟩ := t
    have := r.pure h
    subst this
    exact ⟨a, xs, [], e1, e2, e3, r, fun _ h => nomatch h⟩
  | _ =>
    obtain ⟨e, F, r, z⟩ := t
    have := r.pure h
    subst this
    exact ⟨e, [], r, fun _ h => nomatch h⟩
theorem apart_res {K : PySem.W.Frag} {H H' : Hp} {O O' : Own} {Z Z' : Sh} {v : V} {md : Md} {d : D} (h : apart md d = true) (r : Res K md d v H H' O Z) (hO : ∀ a, H a = none → ¬ Owns O' a) (hZ : ∀ a, H a = none → ¬ Z' a) : Res K md d v H H' O' Z' := by
  unfold apart at h
  rw [Bool.and_eq_true] at h
  by_cases hd : isLst d = true
  · cases md with
    | N =>
      obtain ⟨A, t, n⟩ := r
      exact ⟨A, clean_top h.1 t, fun a ha => ⟨(n a ha).1, hO a (n a ha).1, hZ a (n a ha).1⟩⟩
    | Z =>
      have := h.2
      dsimp only at this
      rw [hd] at this; cases this
    | B =>
      have := h.2
      dsimp only at this
      rw [hd] at this; cases this
  · have hd' : isLst d = false := by cases q : isLst d <;> first | rfl | exact absurd q hd
    obtain ⟨F, p, z⟩ := r.flatZ hd'
    have hp : d.pure = true := by cases d <;> first | exact h.1 | cases hd'
    have := p.pure hp
    subst this
    exact .of_flat p (fun _ h => nomatch h) hd' md
section
variable {cl : Cls} {X : Cx} {W : WX} {q q1 q2 q3 : Bool} {e a b c o : Expr} {es rest : List Expr} {m ma mb mc mo : M RV} {T : Tab} {N : List Str} {k n : Nat} {sc : Scope} {pos p2 apos p : Pos}
theorem plain_args {env : Env} : ∀ {es : List Expr}, es.all notStar = true → (backTo pos (starEach es env)).any (·.1) = false
  | [], _ => rfl
  | y :: r, h => by
    rw [List.all_cons, Bool.and_eq_true] at h
    rw [star_cons h.1]
    show (false || (backTo pos (starEach r env)).any (·.1)) = false
    rw [plain_args h.2]; rfl
/-- the shared lists behind a call whose arguments are shared or new -/
theorem call_more {K : PySem.W.Frag} {en : Entry} {S : State} {σ : L2.St} {H H1 H2 : Hp} {O O1 : Own} {Z Z1 Zr : Sh} {F A0 : List Addr} (ev : Evo O Z H O1 Z1 H1) (rel : Rel K en S σ H1 O1 Z1) (dom : ∀ b, H1 b ≠ none → H2 b ≠ none)
    (hF : ∀ x ∈ F, Z1 x ∨ (H x = none ∧ ¬ Owns O1 x)) (sh : ShOf F A0 H1 H2 Zr) :
    (∀ a, (Z1 a ∨ Zr a) → ¬ Owns O1 a) ∧ (∀ a, (Z1 a ∨ Zr a) → H2 a ≠ none) ∧ (∀ a, (Z1 a ∨ Zr a) → Z a ∨ Owns O a ∨ H a = none) := by
  refine ⟨fun a h => ?_, fun a h => ?_, fun a h => ?_⟩
  · rcases h with h | h
    · exact rel.zo a h
    · rcases sh.of a h with q | q
      · rcases hF a q with q | q
        · exact rel.zo a q
        · exact q.2
      · exact fun w => rel.odom a w q
  · rcases h with h | h
    · exact dom a (rel.zd a h)
    · exact sh.dom a h
  · rcases h with h | h
    · exact ev.sh a h
    · rcases sh.of a h with q | q
      · rcases hF a q with q | q
        · exact ev.sh a q
        · exact .inr (.inr q.1)
      · exact .inr (.inr (ev.back a q))
theorem res_more {K : PySem.W.Frag} {H1 H2 : Hp} {O1 Oc : Own} {Z1 Zr : Sh} {md : Md} {d : D} {v : V} (hz : ∀ a, Z1 a → H1 a ≠ none) (ho : ∀ a, H1 a = none → ¬ Owns O1 a) (r : Res K md d v H1 H2 Oc Zr) : Res K md d v H1 H2 O1 (fun a => Z1 a ∨ Zr a) := by
  cases md with
  | N =>
    obtain ⟨A, t, n⟩ := r
    refine ⟨A, t.mono fun _ h => .inr h, fun a ha => ⟨(n a ha).1, ho a (n a ha).1, fun h => ?_⟩⟩
    rcases h with h | h
    · exact hz a h (n a ha).1
    · exact (n a ha).2.2 h
  | Z =>
    obtain ⟨F, p, z⟩ := r
    exact ⟨F, p, fun a ha => .inr (z a ha)⟩
  | B =>
    obtain ⟨A, t⟩ := r
    exact ⟨A, t.mono fun _ h => .inr h⟩
theorem SE.call {g : FSem} {x : Str} {ms : M (List AV)} (G : Good T cl N k sc X W) (hT : T.lookup x = some (.fn n g)) (hg : sc.names.lookup x = some .globalImplicit) (hd : (x == ("__debug__" : Str)) = false) (hst : notStar e = true) (hpl : es.all notStar = true)
    (hs : SC cl X W q (e :: es) ms) : SE cl X W false (.Call (.Name x p) (e :: es) [] pos) (mCall n g ms) := by
  obtain ⟨f, fd, ps, F, hm, hk, hb⟩ := G.tab _ _ hT
  have hgl : Gl X x := by show X.env.scope.names.lookup x = _; rw [G.hsc]; exact hg
  have pe := pe_callS (pos := pos) (p := p) (E := fun σ => L2.WE W σ) F G.room hgl hm hk hb (fun σ => passAt G.tk σ) (WA.pa (X := X) (es := e :: es)) hd (star_cons hst) (plain_args hpl)
  refine ⟨fun {S res S'} h1 en σ H O Z rel Q h2 => WE.of pe ?_, fun {S x S'} h1 en σ H O Z rel h2 Q => WE.of pe ?_⟩
  · unfold mCall at h1
    split at h1
    · rename_i as S1 e1
      split at h1
      · rename_i hn
        split at h1
        · rename_i rs e2
          split at h1
          · rename_i md d e3
            split at h1
            · rename_i hsh
              cases h1
              refine hs.ok e1 rel fun vs H1 O1 Z1 ev1 x1 rel1 av => ?_
              obtain ⟨F1, p1, d1, s1, _⟩ := av_fp rel1 av e2
              refine ⟨by rw [av.length]; simpa using hn, rs.map (·.d), F1, ?_⟩
              rw [e3]
              refine ⟨p1, fun v H2 Zr x2 sh res2 => ?_⟩
              have ho : ∀ a, H1 a = none → ¬ Owns O1 a := fun a h w => rel1.odom a w h
              rw [Bool.or_eq_true] at hsh
              rcases hsh with hsh | hap
              · obtain ⟨c1, c2, c3⟩ := call_more (A0 := []) ev1 rel1 x2.dom (s1 hsh) sh
                exact h2 v H2 O1 (fun a => Z1 a ∨ Zr a) ⟨fun b o e n => x2 b o (ev1.keep b o e n), fun b h => x2.dom b (ev1.dom b h), ev1.own, c3, fun b h => .inl (ev1.grow b h)⟩ (fun z => nomatch z)
                  ((rel1.ext x2).more (fun _ h => .inl h) c1 c2) ((res_more rel1.zd ho res2).from ev1.back)
              · exact h2 v H2 O1 Z1 (ev1.trans (.ext x2)) (fun z => nomatch z) (rel1.ext x2) ((apart_res hap res2 ho fun a h z => rel1.zd a z h).from ev1.back)
            · cases h1
          · rename_i md d d0 e3
            split at h1
            · rename_i i ar
              split at h1
              · rename_i hal
                rw [Bool.and_eq_true] at hal
                split at h1
                · rename_i S2 e4
                  cases h1
                  refine hs.ok e1 rel fun vs H1 O1 Z1 ev1 x1 rel1 av => ?_
                  obtain ⟨dd, v0, es0, ev0, t0⟩ := lend_own rel1 e4
                  cases vs with
                  | nil => exact av.elim
                  | cons v vr =>
                    have hv := av.1
                    rw [ev0] at hv
                    cases hv
                    have e2' := e2
                    unfold avRVs at e2'
                    split at e2'
                    · rename_i r0 rr ea eb
                      cases e2'
                      have ea' : slotRV S1 i = some r0 := ea
                      rw [es0] at ea'
                      cases ea'
                      obtain ⟨Fr, pr, dr, sr, lr⟩ := av_fp rel1 av.2 eb
                      have avl := av.length
                      obtain ⟨Gt, tG, zG⟩ : ∃ G, Top X.K H1 (fun a => a ∈ G) v0 dd (O1 i) ∧ ∀ a ∈ G, Z1 a := by
                        cases dd with
                        | lst ds =>
                          obtain ⟨a, xs, G, q1, q2, q3, r, z⟩ := t0
                          exact ⟨G, ⟨a, xs, G, q1, q2, q3, r, fun _ h => h⟩, z⟩
                        | _ =>
                          obtain ⟨q1, G, r, z⟩ := t0
                          exact ⟨G, ⟨q1, G, r, fun _ h => h⟩, z⟩
                      refine ⟨by rw [avl]; simpa using hn, (⟨.B, dd⟩ :: rr : List RV).map (·.d), Gt ++ Fr, ?_⟩
                      rw [e3]
                      refine ⟨v0, vr, O1 i, rfl, ⟨dd, rr.map (·.d), Fr, Gt, rfl, tG, pr, fun a h => List.mem_append_left _ h, fun a h => List.mem_append_right _ h, fun a h => ?_⟩, fun w H2 Zr ln sh t2 res2 => ?_⟩
                      · rcases List.mem_append.mp h with h | h
                        · exact ⟨fun w => rel1.zo a (zG a h) ⟨i, w⟩, rel1.zd a (zG a h)⟩
                        · exact ⟨lr i hal.1 a h, dr a h⟩
                      · have ho : ∀ a, H1 a = none → ¬ Owns O1 a := fun a h w => rel1.odom a w h
                        have hkeep : ∀ b o, H1 b = some o → ¬ Owns O1 b → H2 b = some o := fun b o e n => ln.keep b o e fun w => n ⟨i, w⟩
                        have hal2 := hal.2
                        rw [Bool.or_eq_true] at hal2
                        rcases hal2 with hsh | hap
                        · obtain ⟨c1, c2, c3⟩ := call_more (F := Gt ++ Fr) ev1 rel1 ln.dom (fun a h => (List.mem_append.mp h).elim (fun h => .inl (zG a h)) (sr hsh a)) sh
                          have ev2 : Evo O Z H O1 (fun a => Z1 a ∨ Zr a) H2 := ev1.then hkeep ln.dom c3 fun b h => .inl (ev1.grow b h)
                          exact h2 w H2 O1 _ ev2 (fun z => nomatch z) (lend_rel rel1 ln e4 ev0 (t2.mono fun _ h => .inr h) (fun _ h => .inl h) c1 c2) ((res_more rel1.zd ho res2).from ev1.back)
                        · rw [Bool.and_eq_true] at hap
                          have ev2 : Evo O Z H O1 Z1 H2 := ev1.then hkeep ln.dom ev1.sh ev1.grow
                          exact h2 w H2 O1 Z1 ev2 (fun z => nomatch z) (lend_rel rel1 ln e4 ev0 (clean_top hap.2 t2) (fun _ h => h) rel1.zo fun a h => ln.dom a (rel1.zd a h)) ((apart_res hap.1 res2 ho fun a h z => rel1.zd a z h).from ev1.back)
                    · cases e2'
                · cases h1
              · cases h1
            · cases h1
          · cases h1
          · split at h1
            · split at h1
              · split at h1 <;> cases h1
              · cases h1
            · cases h1
          · cases h1
        · cases h1
      · cases h1
    · cases h1
    · cases h1
  · unfold mCall at h1
    split at h1
    · rename_i as S1 e1
      split at h1
      · rename_i hn
        split at h1
        · rename_i rs e2
          split at h1
          · split at h1 <;> cases h1
          · split at h1
            · split at h1
              · split at h1 <;> cases h1
              · cases h1
            · cases h1
          · rename_i x0 e3
            cases h1
            refine hs.ok e1 rel fun vs H1 O1 Z1 ev1 x1 rel1 av => ?_
            obtain ⟨F1, p1, d1, s1, _⟩ := av_fp rel1 av e2
            refine ⟨by rw [av.length]; simpa using hn, rs.map (·.d), F1, ?_⟩
            rw [e3]
            exact ⟨p1, fun cls d H2 x2 xr => h2 cls d H2 O1 Z1 (ev1.trans (.ext x2)) (rel1.ext x2) xr⟩
          · rename_i x0 d0 e3
            split at h1
            · rename_i i ar
              split at h1
              · rename_i hal
                rw [Bool.and_eq_true] at hal
                split at h1
                · rename_i S2 e4
                  cases h1
                  refine hs.ok e1 rel fun vs H1 O1 Z1 ev1 x1 rel1 av => ?_
                  obtain ⟨dd, v0, es0, ev0, t0⟩ := lend_own rel1 e4
                  cases vs with
                  | nil => exact av.elim
                  | cons v vr =>
                    have hv := av.1
                    rw [ev0] at hv
                    cases hv
                    have e2' := e2
                    unfold avRVs at e2'
                    split at e2'
                    · rename_i r0 rr ea eb
                      cases e2'
                      have ea' : slotRV S1 i = some r0 := ea
                      rw [es0] at ea'
                      cases ea'
                      obtain ⟨Fr, pr, dr, sr, lr⟩ := av_fp rel1 av.2 eb
                      have avl := av.length
                      obtain ⟨Gt, tG, zG⟩ : ∃ G, Top X.K H1 (fun a => a ∈ G) v0 dd (O1 i) ∧ ∀ a ∈ G, Z1 a := by
                        cases dd with
                        | lst ds =>
                          obtain ⟨a, xs, G, q1, q2, q3, r, z⟩ := t0
                          exact ⟨G, ⟨a, xs, G, q1, q2, q3, r, fun _ h => h⟩, z⟩
                        | _ =>
                          obtain ⟨q1, G, r, z⟩ := t0
                          exact ⟨G, ⟨q1, G, r, fun _ h => h⟩, z⟩
                      refine ⟨by rw [avl]; simpa using hn, (⟨.B, dd⟩ :: rr : List RV).map (·.d), Gt ++ Fr, ?_⟩
                      rw [e3]
                      refine ⟨v0, vr, O1 i, rfl, ⟨dd, rr.map (·.d), Fr, Gt, rfl, tG, pr, fun a h => List.mem_append_left _ h, fun a h => List.mem_append_right _ h, fun a h => ?_⟩, fun cls d H2 Zr ln sh t2 xr => ?_⟩
                      · rcases List.mem_append.mp h with h | h
                        · exact ⟨fun w => rel1.zo a (zG a h) ⟨i, w⟩, rel1.zd a (zG a h)⟩
                        · exact ⟨lr i hal.1 a h, dr a h⟩
                      · have hkeep : ∀ b o, H1 b = some o → ¬ Owns O1 b → H2 b = some o := fun b o e n => ln.keep b o e fun w => n ⟨i, w⟩
                        have hal2 := hal.2
                        rw [Bool.or_eq_true] at hal2
                        rcases hal2 with hsh | hap
                        · obtain ⟨c1, c2, c3⟩ := call_more (F := Gt ++ Fr) ev1 rel1 ln.dom (fun a h => (List.mem_append.mp h).elim (fun h => .inl (zG a h)) (sr hsh a)) sh
                          have ev2 : Evo O Z H O1 (fun a => Z1 a ∨ Zr a) H2 := ev1.then hkeep ln.dom c3 fun b h => .inl (ev1.grow b h)
                          exact h2 cls d H2 O1 _ ev2 (lend_rel rel1 ln e4 ev0 (t2.mono fun _ h => .inr h) (fun _ h => .inl h) c1 c2) xr
                        · have ev2 : Evo O Z H O1 Z1 H2 := ev1.then hkeep ln.dom ev1.sh ev1.grow
                          exact h2 cls d H2 O1 Z1 ev2 (lend_rel rel1 ln e4 ev0 (clean_top hap t2) (fun _ h => h) rel1.zo fun a h => ln.dom a (rel1.zd a h)) xr
                    · cases e2'
                · cases h1
              · cases h1
            · cases h1
          · cases h1
        · cases h1
      · cases h1
    · rename_i x1 S1 e1
      cases h1
      exact hs.exc e1 rel h2
    · cases h1
end
end R

set_option Elab.async false
set_option linter.all false
set_option maxRecDepth 100000
set_option maxHeartbeats 2000000
/-! R9: the built-ins; isinstance; f-strings. -/
namespace R
open PySem PySem.Spec PyProof.Rows L2

/-! ### built-ins -/
def fLen : List RV → Option RV
  | [r] => match r.d with
    | .lst xs => some ⟨.N, .int xs.length⟩
    | .tup xs => some ⟨.N, .int xs.length⟩
    | .scr xs => some ⟨.N, .int xs.length⟩
    | .str s => if lenOk s.length then some ⟨.N, .int s.length⟩ else none
    | _ => none
  | _ => none
def fAbs : List RV → Option RV
  | [r] => match r.d with
    | .int i => some ⟨.N, .int (if i < 0 then -i else i)⟩
    | _ => none
  | _ => none
def fInt1 : List RV → Option RV
  | [r] => match r.d with
    | .int i => some ⟨.N, .int i⟩
    | .bl k => some ⟨.N, .int (if k then 1 else 0)⟩
    | _ => none
  | _ => none
def strIntOk (i : Int) : Bool := decide (i.natAbs.log2 < 1920)
def fStr1 : List RV → Option RV
  | [r] => match r.d with
    | .int i => if strIntOk i then some ⟨.N, .str (toString i)⟩ else none
    | .str s => some ⟨.N, .str s⟩
    | _ => none
  | _ => none
def fList1 : List RV → Option RV
  | [r] => match r.d with
    | .lst xs => some ⟨.N, .lst xs⟩
    | .tup xs => some ⟨.N, .lst xs⟩
    | .scr ns => some ⟨.N, .lst (ns.map D.int)⟩
    | _ => none
  | _ => none
def fTup1 : List RV → Option RV
  | [r] => match r.d with
    | .lst xs => some ⟨.N, .tup xs⟩
    | .tup xs => some ⟨.N, .tup xs⟩
    | .scr ns => some ⟨.N, .tup (ns.map D.int)⟩
    | _ => none
  | _ => none
def fMax2 : List RV → Option RV
  | [r, s] => match r.d, s.d with
    | .int i, .int j => some ⟨.N, .int (if j > i then j else i)⟩
    | _, _ => none
  | _ => none
def fMin2 : List RV → Option RV
  | [r, s] => match r.d, s.d with
    | .int i, .int j => some ⟨.N, .int (if j < i then j else i)⟩
    | _, _ => none
  | _ => none
def HasC (X : Cx) (u : Value) (f : List RV → Option RV) : Prop := ∃ r, CallR X u r ∧ CaS X f r
theorem RVs.one {K : PySem.W.Frag} {H H' : Hp} {O' : Own} {Z' : Sh} {r : RV} : ∀ {vs : List V}, RVs K H H' O' Z' [r] vs → ∃ v, vs = [v] ∧ Res K r.md r.d v H H' O' Z'
  | [v], h => ⟨v, rfl, h.1⟩
  | [], h => h.elim
  | _ :: _ :: _, h => h.2.elim
theorem RVs.two {K : PySem.W.Frag} {H H' : Hp} {O' : Own} {Z' : Sh} {r s : RV} : ∀ {vs : List V}, RVs K H H' O' Z' [r, s] vs → ∃ v u, vs = [v, u] ∧ Res K r.md r.d v H H' O' Z' ∧ Res K s.md s.d u H H' O' Z'
  | [v, u], h => ⟨v, u, rfl, h.1, h.2.1⟩
  | [], h => h.elim
  | [_], h => h.2.elim
  | _ :: _ :: _ :: _, h => h.2.2.elim
section
variable {X : Cx}
theorem has_len : HasC X (.builtin "len") fLen := by
  refine ⟨_, CallR.or call_len_seq call_len_str, fun rs res e en S σ H0 H O Z vs k rel rv Q hQ => ?_⟩
  unfold fLen at e
  split at e
  · rename_i r
    obtain ⟨v, rfl, q⟩ := rv.one
    obtain ⟨md, d⟩ := r
    obtain ⟨F, p⟩ := q.any
    dsimp only at e
    split at e
    · obtain ⟨a, vs, G, rfl, ha, ra, _⟩ := q.lst
      cases e
      exact .inl ⟨a, vs, rfl, .inl (SqL.of ha), hQ _ H .refl (.sc (by rw [ra.length]; rfl))⟩
    · obtain ⟨a, vs, G, rfl, ha, ra, _⟩ := q.tup
      cases e
      exact .inl ⟨a, vs, rfl, .inr ha, hQ _ H .refl (.sc (by rw [ra.length]; rfl))⟩
    · obtain ⟨a, rfl, ha⟩ := q.scr
      cases e
      exact .inl ⟨a, _, rfl, .inl ha, hQ _ H .refl (.sc (by rw [List.length_map]; rfl))⟩
    · split at e
      · rename_i hl
        cases e
        cases q.val rfl
        exact .inr ⟨_, rfl, len_of hl, hQ _ H .refl (.sc rfl)⟩
      · cases e
    · cases e
  · cases e
theorem has_abs : HasC X (.builtin "abs") fAbs := by
  refine ⟨_, call_abs, fun rs res e en S σ H0 H O Z vs k rel rv Q hQ => ?_⟩
  unfold fAbs at e
  split at e
  · rename_i r
    obtain ⟨v, rfl, q⟩ := rv.one
    obtain ⟨md, d⟩ := r
    dsimp only at e
    split at e
    · cases e
      cases q.val rfl
      exact ⟨_, rfl, hQ _ H .refl (.sc rfl)⟩
    · cases e
  · cases e
theorem has_int1 : HasC X (.type "int") fInt1 := by
  refine ⟨_, call_int1, fun rs res e en S σ H0 H O Z vs k rel rv Q hQ => ?_⟩
  unfold fInt1 at e
  split at e
  · rename_i r
    obtain ⟨v, rfl, q⟩ := rv.one
    obtain ⟨md, d⟩ := r
    dsimp only at e
    split at e
    · cases e
      cases q.val rfl
      exact .inl ⟨_, rfl, hQ _ H .refl (.sc rfl)⟩
    · cases e
      cases q.val rfl
      exact .inr ⟨_, rfl, hQ _ H .refl (.sc rfl)⟩
    · cases e
  · cases e
theorem has_str1 : HasC X (.type "str") fStr1 := by
  refine ⟨_, CallR.or call_str_int SkE.call_str_str, fun rs res e en S σ H0 H O Z vs k rel rv Q hQ => ?_⟩
  unfold fStr1 at e
  split at e
  · rename_i r
    obtain ⟨v, rfl, q⟩ := rv.one
    obtain ⟨md, d⟩ := r
    dsimp only at e
    split at e
    · split at e
      · rename_i hl
        cases e
        cases q.val rfl
        exact .inl ⟨_, rfl, of_decide_eq_true hl, hQ _ H .refl (.sc rfl)⟩
      · cases e
    · cases e
      cases q.val rfl
      exact .inr ⟨_, rfl, hQ _ H .refl (.sc rfl)⟩
    · cases e
  · cases e
theorem has_list1 : HasC X (.type "list") fList1 := by
  refine ⟨_, call_list_of, fun rs res e en S σ H0 H O Z vs k rel rv Q hQ => ?_⟩
  unfold fList1 at e
  split at e
  · rename_i r
    obtain ⟨v, rfl, q⟩ := rv.one
    obtain ⟨md, d⟩ := r
    dsimp only at e
    split at e
    · obtain ⟨a, vs, G, rfl, ha, ra, z⟩ := q.lst
      cases e
      exact ⟨a, vs, rfl, .inl (SqL.of ha), fun l hl => hQ _ _ (Ext.new hl) (Res.new_lst rel k hl ra z)⟩
    · obtain ⟨a, vs, G, rfl, ha, ra, z⟩ := q.tup
      cases e
      exact ⟨a, vs, rfl, .inr ha, fun l hl => hQ _ _ (Ext.new hl) (Res.new_lst rel k hl ra z)⟩
    · obtain ⟨a, rfl, ha⟩ := q.scr
      cases e
      exact ⟨a, _, rfl, .inl ha, fun l hl => hQ _ _ (Ext.new hl) (Res.new_lst rel k hl (reps_ints _) fun _ h => nomatch h)⟩
    · cases e
  · cases e
theorem has_tup1 : HasC X (.type "tuple") fTup1 := by
  refine ⟨_, call_tuple_of, fun rs res e en S σ H0 H O Z vs k rel rv Q hQ => ?_⟩
  unfold fTup1 at e
  split at e
  · rename_i r
    obtain ⟨v, rfl, q⟩ := rv.one
    obtain ⟨md, d⟩ := r
    dsimp only at e
    split at e
    · obtain ⟨a, vs, G, rfl, ha, ra, z⟩ := q.lst
      cases e
      exact ⟨a, vs, rfl, .inl ⟨SqL.of ha, fun l hl => hQ _ _ (Ext.new hl) (Res.new_tup hl ra z)⟩⟩
    · obtain ⟨a, vs, G, rfl, ha, ra, z⟩ := q.tup
      cases e
      exact ⟨a, vs, rfl, .inr ⟨ha, hQ _ H .refl (.of_flat (Rep.tupI ha ra) z rfl .N)⟩⟩
    · obtain ⟨a, rfl, ha⟩ := q.scr
      cases e
      exact ⟨a, _, rfl, .inl ⟨ha, fun l hl => hQ _ _ (Ext.new hl) (Res.new_tup hl (reps_ints _) fun _ h => nomatch h)⟩⟩
    · cases e
  · cases e
theorem has_max2 (hc : X.calm = true) : HasC X (.builtin "max") fMax2 := by
  refine ⟨_, call_max2 hc, fun rs res e en S σ H0 H O Z vs k rel rv Q hQ => ?_⟩
  unfold fMax2 at e
  split at e
  · rename_i r s
    obtain ⟨v, u, rfl, q1, q2⟩ := rv.two
    obtain ⟨m1, d1⟩ := r
    obtain ⟨m2, d2⟩ := s
    dsimp only at e
    split at e
    · cases e
      cases q1.val rfl; cases q2.val rfl
      exact ⟨_, _, rfl, hQ _ H .refl (.sc rfl)⟩
    · cases e
  · cases e
theorem has_min2 (hc : X.calm = true) : HasC X (.builtin "min") fMin2 := by
  refine ⟨_, call_min2 hc, fun rs res e en S σ H0 H O Z vs k rel rv Q hQ => ?_⟩
  unfold fMin2 at e
  split at e
  · rename_i r s
    obtain ⟨v, u, rfl, q1, q2⟩ := rv.two
    obtain ⟨m1, d1⟩ := r
    obtain ⟨m2, d2⟩ := s
    dsimp only at e
    split at e
    · cases e
      cases q1.val rfl; cases q2.val rfl
      exact ⟨_, _, rfl, hQ _ H .refl (.sc rfl)⟩
    · cases e
  · cases e
end

/-! ### isinstance -/
inductive Ty where
  | int | bool | str | tuple | list
def Ty.nm : Ty → String
  | .int => "int"
  | .bool => "bool"
  | .str => "str"
  | .tuple => "tuple"
  | .list => "list"
def Ty.ofName (x : Str) : Option Ty :=
  if x == ("int" : Str) then some .int else if x == ("bool" : Str) then some .bool else if x == ("str" : Str) then some .str else if x == ("tuple" : Str) then some .tuple else if x == ("list" : Str) then some .list else none
inductive TyK where
  | non | bl | int | str | tup | lst
def TyK.nm : TyK → String
  | .non => "NoneType"
  | .bl => "bool"
  | .int => "int"
  | .str => "str"
  | .tup => "tuple"
  | .lst => "list"
def D.tyk : D → TyK
  | .non => .non
  | .bl _ => .bl
  | .int _ => .int
  | .str _ => .str
  | .tup _ => .tup
  | .lst _ => .lst
  | .scr _ => .lst
def D.ty (d : D) : String := d.tyk.nm
def isiK : TyK → Ty → Bool
  | .int, .int => true
  | .bl, .int => true
  | .bl, .bool => true
  | .str, .str => true
  | .tup, .tuple => true
  | .lst, .list => true
  | _, _ => false
def isiB (d : D) (t : Ty) : Bool := isiK d.tyk t
theorem isi_kitK (k : TyK) (t : Ty) : kitB k.nm t.nm = some (isiK k t) := by
  cases k <;> cases t <;> decide +kernel
theorem isi_kit (d : D) (t : Ty) : kitB d.ty t.nm = some (isiB d t) := isi_kitK d.tyk t
theorem bool_builtin (t : Ty) : bootBuiltins (Str.ofString t.nm) = some (.type t.nm) := by
  cases t <;> decide +kernel
theorem ty_name {x : Str} {t : Ty} (h : Ty.ofName x = some t) : x = Str.ofString t.nm := by
  unfold Ty.ofName at h
  have key : ∀ (y : Str), (x == y) = true → x = y := fun y h => by simpa using h
  split at h
  · rename_i e; cases h; exact key _ e
  · split at h
    · rename_i e; cases h; exact key _ e
    · split at h
      · rename_i e; cases h; exact key _ e
      · split at h
        · rename_i e; cases h; exact key _ e
        · split at h
          · rename_i e; cases h; exact key _ e
          · cases h
theorem tyx_of {K : PySem.W.Frag} {H : Hp} {v : V} {d : D} {F : List Addr} (r : Rep K H v d F) : TyX K H v (.type d.ty) := by
  cases d with
  | non => cases (r.scE (u := .non) rfl).1; exact .base .non
  | bl b => cases (r.scE (u := .bl b) rfl).1; exact .base (.bl b)
  | int i => cases (r.scE (u := .int i) rfl).1; exact .base (.int i)
  | str s => cases (r.scE (u := .str s) rfl).1; exact .base (.str s)
  | tup xs =>
    obtain ⟨a, vs, rfl, ha, ra⟩ := r.tupE
    rcases ha with (ha | ⟨o, ha⟩) | ⟨o, its, n, hk, hc, _⟩
    · exact .base (.tup ha)
    · exact .fTuple ha
    · exact .kTuple hk hc
  | lst xs =>
    obtain ⟨a, vs, G, rfl, _, ha, ra⟩ := r.lstE
    exact .base (.lst ha)
  | scr xs =>
    obtain ⟨a, rfl, _, ha⟩ := r.scrE
    rcases ha with ⟨o, ha⟩ | ⟨o, its, n, hk, hc, _⟩
    · exact .base (.frz ha)
    · exact .kList hk hc
def fIsi (t : Ty) (r : RV) : Option RV := some ⟨.N, .bl (isiB r.d t)⟩
section
variable {cl : Cls} {X : Cx} {W : WX} {q q1 q2 q3 : Bool} {e a b c o : Expr} {es rest : List Expr} {m ma mb mc mo : M RV} {T : Tab} {N : List Str} {k n : Nat} {sc : Scope} {pos p2 apos p : Pos}
theorem SE.isi {x y : Str} {t : Ty} (ha : SE cl X W q a ma) (hx : x = ("isinstance" : Str)) (hy : Ty.ofName y = some t) (hgx : Gl X x) (hmx : X.mg x = none) (hgy : Gl X y) (hmy : X.mg y = none) (hst : notStar a = true) :
    SE cl X W q (.Call (.Name x p) [a, .Name y p2] [] pos) (mUn (fIsi t) ma) := by
  have ey := ty_name hy
  subst hx
  have py : PE X (.Name y p2) (tC (.ty t.nm)) := by
    refine pe_bltn hgy hmy (by rw [ey]; exact bool_builtin t) rfl ?_ ?_
    · rw [ey]; cases t <;> decide
    · rw [ey]; cases t <;> decide
  have pl : (backTo pos (starEach [Expr.Name y p2] X.env)).any (·.1) = false := rfl
  have pe := pe_callB (p := p) (pos := pos) call_isi hgx hmx (by decide +kernel) (pa_cons (WE.pe (X := X) (e := a)) (pa_cons py pa_nil rfl) (star_cons hst)) (by decide) (by decide) (star_cons hst) pl
  refine SE.un (r := fun x H Q => rIsi X.K [x, .ty t.nm] H Q) ha (fun r1 res e en S σ H0 H O Z x k rel q1 Q hQ => ?_) pe
  unfold fIsi at e
  cases e
  obtain ⟨F, r⟩ := q1.any
  exact ⟨x, .ty t.nm, _, _, isiB r1.d t, rfl, .ty _, tyx_of r, kit_ty (isi_kit r1.d t), hQ _ H .refl (.sc rfl)⟩
theorem SE.blt {x : Str} {id : String} {f : List RV → Option RV} {ms : M (List AV)} (hs : SC cl X W q (e :: es) ms) (hc : HasC X (.builtin id) f) (hg : Gl X x) (hm : X.mg x = none) (hv : bootBuiltins x = some (.builtin id)) (hn : x ≠ "__name__") (hd : (x == ("__debug__" : Str)) = false) (hst : notStar e = true) (hpl : es.all notStar = true) :
    SE cl X W q (.Call (.Name x p) (e :: es) [] pos) (mBlt f ms) := by
  obtain ⟨r, h1, h2⟩ := hc
  exact (RD.blt hs h2).of (pe_callB h1 hg hm hv WA.pa hn hd (star_cons hst) (plain_args hpl))
theorem SE.bltTy {x : Str} {id : String} {f : List RV → Option RV} {ms : M (List AV)} (hs : SC cl X W q (e :: es) ms) (hc : HasC X (.type id) f) (hg : Gl X x) (hm : X.mg x = none) (hv : bootBuiltins x = some (.type id)) (hn : x ≠ "__name__") (hd : (x == ("__debug__" : Str)) = false) (hst : notStar e = true) (hpl : es.all notStar = true) :
    SE cl X W q (.Call (.Name x p) (e :: es) [] pos) (mBlt f ms) := by
  obtain ⟨r, h1, h2⟩ := hc
  exact (RD.blt hs h2).of (pe_callTy h1 hg hm hv WA.pa hn hd (star_cons hst) (plain_args hpl))

/-! ### f-strings of texts and ints -/
def fFmt (r : RV) : Option RV := match r.d with
  | .str s => if lenOk s.length then some ⟨.N, .str s⟩ else none
  | .int i => if strIntOk i then some ⟨.N, .str (toString i)⟩ else none
  | _ => none
theorem SE.fmt (ha : SE cl X W q a ma) : SE cl X W q (.FormattedValue a (-1) none pos) (mUn fFmt ma) := by
  refine SE.un (r := fun x H Q => (∃ y : Str, x = .str y ∧ y.length ≤ sizeLine ∧ Q (.str y) H) ∨ ∃ i : Int, x = .int i ∧ i.natAbs.log2 < 1920 ∧ Q (.str (toString i)) H) ha (fun r1 res e en S σ H0 H O Z x k rel q1 Q hQ => ?_) (pe_fmt WE.pe)
  obtain ⟨m1, d1⟩ := r1
  unfold fFmt at e
  dsimp only at e
  split at e
  · split at e
    · rename_i hl
      cases e
      cases q1.val rfl
      exact .inl ⟨_, rfl, len_of hl, hQ _ H .refl (.sc rfl)⟩
    · cases e
  · split at e
    · rename_i hl
      cases e
      cases q1.val rfl
      exact .inr ⟨_, rfl, of_decide_eq_true hl, hQ _ H .refl (.sc rfl)⟩
    · cases e
  · cases e
/-- the parts, one behind the other -/
def jGo : List (M RV) → Str → M Str
  | [], acc => fun S => .ok acc S
  | m :: ms, acc => fun S => match m S with
    | .ok r S' => match r.d with
      | .str y => if lenOk (acc ++ y).length then jGo ms (acc ++ y) S' else .bad
      | _ => .bad
    | .exc x S' => .exc x S'
    | .bad => .bad
def mJoined (ms : List (M RV)) : M RV := fun S => match jGo ms Str.empty S with
  | .ok s S' => .ok ⟨.N, .str s⟩ S'
  | .exc x S' => .exc x S'
  | .bad => .bad
inductive SJ (cl : Cls) (X : Cx) (W : WX) (q : Bool) : List Expr → List (M RV) → Prop where
  | nil : SJ cl X W q [] []
  | cons {e m es ms} (h : SE cl X W q e m) (r : SJ cl X W q es ms) : SJ cl X W q (e :: es) (m :: ms)
theorem SJ.pj {ms : List (M RV)} (h : SJ cl X W q es ms) : PJ X es (es.map (WE X)) := by
  induction h with
  | nil => exact .nil
  | cons h _ ih => exact .cons WE.pe ih
theorem SJ.ok {ms : List (M RV)} (h : SJ cl X W q es ms) : ∀ {acc : Str} {S : State} {r : Str} {S' : State}, jGo ms acc S = .ok r S' → ∀ {en σ H O Z}, Rel X.K en S σ H O Z → ∀ {Q : Str → Hp → Prop}, (∀ H' O' Z', Evo O Z H O' Z' H' → (q = true → Ext H H') → Rel X.K en S' σ H' O' Z' → Q r H') → tJs (es.map (WE X)) acc σ H Q := by
  induction h with
  | nil =>
    intro acc S r S' h1 en σ H O Z rel Q h2
    cases h1
    exact h2 H O Z .refl (fun _ => .refl) rel
  | cons h _ ih =>
    intro acc S r S' h1 en σ H O Z rel Q h2
    unfold jGo at h1
    split at h1
    · rename_i r1 S1 e1
      split at h1
      · rename_i y ey
        split at h1
        · rename_i hl
          refine h.ok e1 rel fun v H1 O1 Z1 ev1 x1 rel1 res1 => ⟨y, res1.val (by rw [ey]; rfl), len_of hl, ?_⟩
          exact ih h1 rel1 fun H2 O2 Z2 ev2 x2 rel2 => h2 H2 O2 Z2 (ev1.trans ev2) (fun z => (x1 z).trans (x2 z)) rel2
        · cases h1
      · cases h1
    · cases h1
    · cases h1
theorem SJ.exc {ms : List (M RV)} (h : SJ cl X W q es ms) : ∀ {acc : Str} {S : State} {x : Exn} {S' : State}, jGo ms acc S = .exc x S' → ∀ {en σ H O Z}, Rel X.K en S σ H O Z → XPost cl X W en S' σ H O Z x → ∀ {Q : Str → Hp → Prop}, tJs (es.map (WE X)) acc σ H Q := by
  induction h with
  | nil =>
    intro acc S r S' h1
    cases h1
  | cons h _ ih =>
    intro acc S r S' h1 en σ H O Z rel h2 Q
    unfold jGo at h1
    split at h1
    · rename_i r1 S1 e1
      split at h1
      · rename_i y ey
        split at h1
        · rename_i hl
          refine h.ok e1 rel fun v H1 O1 Z1 ev1 x1 rel1 res1 => ⟨y, res1.val (by rw [ey]; rfl), len_of hl, ?_⟩
          exact ih h1 rel1 (h2.from ev1)
        · cases h1
      · cases h1
    · rename_i x1 S1 e1
      cases h1
      exact h.exc e1 rel h2
    · cases h1
theorem SE.joined {v1 v2 : Expr} {ms : List (M RV)} (h : SJ cl X W q (v1 :: v2 :: rest) ms) : SE cl X W q (.JoinedStr (v1 :: v2 :: rest) pos) (mJoined ms) := by
  have pe := pe_joined (pos := pos) h.pj
  refine ⟨fun {S res S'} h1 en σ H O Z rel Q h2 => WE.of pe ?_, fun {S x S'} h1 en σ H O Z rel h2 Q => WE.of pe ?_⟩
  · unfold mJoined at h1
    split at h1
    · rename_i s S1 e1
      cases h1
      exact h.ok e1 rel fun H1 O1 Z1 ev1 x1 rel1 => h2 _ H1 O1 Z1 ev1 x1 rel1 (.sc rfl)
    · cases h1
    · cases h1
  · unfold mJoined at h1
    split at h1
    · cases h1
    · rename_i x1 S1 e1
      cases h1
      exact h.exc e1 rel h2
    · cases h1
theorem SE.joined1 {v1 : Expr} (h : SE cl X W q v1 m) : SE cl X W q (.JoinedStr [v1] pos) m := RD.of h (pe_joined1 WE.pe)
end
end R

set_option Elab.async false
set_option linter.all false
set_option maxRecDepth 100000
set_option maxHeartbeats 2000000
/-! R10: slots that change; statements. -/
namespace R
open PySem PySem.Spec PyProof.Rows L2

/-! ### a slot put anew -/
def putO (O : Own) (i : Nat) (A : List Addr) : Own := fun j => if j = i then A else O j
theorem putO_same {O : Own} {i : Nat} {A : List Addr} : putO O i A i = A := by unfold putO; rw [if_pos rfl]
theorem putO_ne {O : Own} {i j : Nat} {A : List Addr} (h : j ≠ i) : putO O i A j = O j := by unfold putO; rw [if_neg h]
theorem owns_put {O : Own} {i : Nat} {A : List Addr} {a : Addr} (h : Owns (putO O i A) a) : a ∈ A ∨ ∃ j, j ≠ i ∧ a ∈ O j := by
  obtain ⟨j, h⟩ := h
  by_cases e : j = i
  · subst e; rw [putO_same] at h; exact .inl h
  · rw [putO_ne e] at h; exact .inr ⟨j, e, h⟩
def SlotFit (K : PySem.W.Frag) (en : Entry) (H : Hp) (Z : Sh) (s : Sl) (x : Option V) (A : List Addr) : Prop := match s with
  | .un => A = []
  | .own d => (∃ v, x = some v ∧ Top K H Z v d A) ∧ ∀ a ∈ A, en.H0 a = none
  | .frz d => A = [] ∧ ∃ v F, x = some v ∧ Rep K H v d F ∧ ∀ a ∈ F, Z a
  | .io _ => False
section
variable {K : PySem.W.Frag} {en : Entry} {S S' : State} {σ σ' : L2.St} {H H' H0 H1 H2 : Hp} {O O' O1 O2 : Own} {Z Z' Z1 Z2 : Sh} {md : Md} {d : D} {v : V} {i : Nat} {A : List Addr}
theorem Rel.put (rel : Rel K en S σ H O Z) (hi : i < S.length) (hio : ∀ d, S[i]? ≠ some (.io d)) {s : Sl} {x : Option V} (hs : SlotFit K en H Z s x A) (hA : ∀ a ∈ A, ¬ Z a ∧ ∀ j, j ≠ i → a ∉ O j) :
    Rel K en (S.set i s) (σ.set i x) H (putO O i A) Z := by
  have hi' : i < σ.length := by rw [← rel.len]; exact hi
  have other : ∀ j, j ≠ i → (S.set i s)[j]? = S[j]? := fun j hj => List.getElem?_set_ne (Ne.symm hj)
  have here : (S.set i s)[i]? = some s := List.getElem?_set_self hi
  have otherσ : ∀ j, j ≠ i → (σ.set i x)[j]? = σ[j]? := fun j hj => List.getElem?_set_ne (Ne.symm hj)
  have hereσ : (σ.set i x)[i]? = some x := List.getElem?_set_self hi'
  refine ⟨by rw [List.length_set, List.length_set]; exact rel.len, fun j d h => ?_, fun j d h => ?_, fun j d h => ?_, fun j h1 h2 => ?_, fun j k a h1 h2 => ?_, rel.dom, fun a h w => ?_, rel.zd⟩
  · by_cases hj : j = i
    · subst hj
      rw [here] at h
      cases h
      rw [hereσ, putO_same]
      obtain ⟨⟨v, e, t⟩, f⟩ := hs
      subst e
      exact ⟨⟨v, rfl, t⟩, f⟩
    · rw [other j hj] at h
      rw [otherσ j hj, putO_ne hj]
      exact rel.own j d h
  · by_cases hj : j = i
    · subst hj
      rw [here] at h
      cases h
      exact hs.elim
    · rw [other j hj] at h
      rw [otherσ j hj, putO_ne hj]
      exact rel.io j d h
  · by_cases hj : j = i
    · subst hj
      rw [here] at h
      cases h
      rw [hereσ]
      obtain ⟨_, v, F, e, r, z⟩ := hs
      subst e
      exact ⟨v, F, rfl, r, z⟩
    · rw [other j hj] at h
      rw [otherσ j hj]
      exact rel.frz j d h
  · by_cases hj : j = i
    · subst hj
      rw [here] at h1 h2
      rw [putO_same]
      cases s with
      | un => exact hs
      | own d => exact absurd rfl (h1 d)
      | frz d => exact hs.1
      | io d => exact hs.elim
    · rw [other j hj] at h1 h2
      rw [putO_ne hj]
      exact rel.non j h1 h2
  · by_cases hj : j = i
    · by_cases hk : k = i
      · rw [hj, hk]
      · subst hj
        rw [putO_same] at h1
        rw [putO_ne hk] at h2
        exact absurd h2 ((hA a h1).2 k hk)
    · rw [putO_ne hj] at h1
      by_cases hk : k = i
      · subst hk
        rw [putO_same] at h2
        exact absurd h1 ((hA a h2).2 j hj)
      · rw [putO_ne hk] at h2
        exact rel.dis j k a h1 h2
  · rcases owns_put w with q | ⟨j, hj, q⟩
    · exact (hA a q).1 h
    · exact rel.zo a h ⟨j, q⟩
theorem Evo.put (e : Evo O Z H O1 Z1 H1) (hA : ∀ a ∈ A, Owns O a ∨ H a = none) : Evo O Z H (putO O1 i A) Z1 H1 :=
  ⟨e.keep, e.dom, fun b h => by
    rcases owns_put h with q | ⟨j, _, q⟩
    · exact hA b q
    · exact e.own b ⟨j, q⟩, e.sh, e.grow⟩

/-- a value put into a slot -/
def setSl (S : State) (i : Nat) (r : RV) : Option State := match S[i]? with
  | none => none
  | some (.io _) => none
  | some _ => if isLst r.d then (match r.md with
      | .N => some (S.set i (.own r.d))
      | .Z => some (S.set i (.frz r.d))
      | .B => none) else some (S.set i (.frz r.d))
theorem set_ok {r : RV} (h : setSl S i r = some S') (ev : Evo O Z H O1 Z1 H1) (rel : Rel K en S σ H1 O1 Z1) (hd : ∀ b, H b = none → en.H0 b = none) (res : Res K r.md r.d v H H1 O1 Z1) :
    ∃ O2, Evo O Z H O2 Z1 H1 ∧ Rel K en S' (σ.set i (some v)) H1 O2 Z1 := by
  have hflat : ∀ {d : D}, (∃ F, Rep K H1 v d F ∧ ∀ a ∈ F, Z1 a) → i < S.length → (∀ d, S[i]? ≠ some (.io d)) → ∃ O2, Evo O Z H O2 Z1 H1 ∧ Rel K en (S.set i (.frz d)) (σ.set i (some v)) H1 O2 Z1 := by
    rintro d ⟨F, p, z⟩ hi hio
    exact ⟨putO O1 i [], ev.put (fun _ h => nomatch h), rel.put hi hio (s := .frz d) ⟨rfl, v, F, rfl, p, z⟩ fun _ h => nomatch h⟩
  obtain ⟨md, d⟩ := r
  unfold setSl at h
  split at h
  · cases h
  · cases h
  · rename_i s hio e
    have hi : i < S.length := (List.getElem?_eq_some_iff.mp e).1
    have hio' : ∀ d, S[i]? ≠ some (.io d) := fun d w => by
      rw [e] at w
      cases w
      exact hio d rfl
    split at h
    · rename_i hl
      cases md with
      | N =>
        cases h
        obtain ⟨A, t, n⟩ := res
        exact ⟨putO O1 i A, ev.put (fun a ha => .inr (n a ha).1), rel.put hi hio' (s := .own d) ⟨⟨v, rfl, t⟩, fun a ha => hd a (n a ha).1⟩ fun a ha => ⟨(n a ha).2.2, fun j _ w => (n a ha).2.1 ⟨j, w⟩⟩⟩
      | Z =>
        cases h
        exact hflat res hi hio'
      | B => cases h
    · rename_i hl
      cases h
      have hl' : isLst d = false := by cases q : isLst d <;> first | rfl | exact absurd q hl
      exact hflat (res.flatZ hl') hi hio'

/-- an own slot read for good: shared from now on -/
def frzSl (S : State) (i : Nat) : Option (D × State) := match S[i]? with
  | some (.own d) => some (d, S.set i (.frz d))
  | some (.frz d) => some (d, S)
  | some (.io d) => if isLst d then none else some (d, S)
  | _ => none
theorem frz_ok (h : frzSl S i = some (d, S')) (rel : Rel K en S σ H O Z) : ∃ O2 Z2 v F, Evo O Z H O2 Z2 H ∧ Rel K en S' σ H O2 Z2 ∧ σ[i]? = some (some v) ∧ Rep K H v d F ∧ ∀ a ∈ F, Z2 a := by
  unfold frzSl at h
  split at h
  · rename_i d' e
    cases h
    have hi : i < S.length := (List.getElem?_eq_some_iff.mp e).1
    obtain ⟨⟨v, ev, t⟩, f⟩ := rel.own i _ e
    have hσ : σ.set i (some v) = σ := by
      obtain ⟨hl, eq⟩ := List.getElem?_eq_some_iff.mp ev
      rw [← eq, List.set_getElem_self]
    have hmore : ∀ a, (Z a ∨ a ∈ O i) → ¬ Owns (putO O i []) a := fun a h w => by
      rcases owns_put w with q | ⟨j, hj, q⟩
      · cases q
      · rcases h with h | h
        · exact rel.zo a h ⟨j, q⟩
        · exact hj (rel.dis j i a q h)
    have hmd : ∀ a, (Z a ∨ a ∈ O i) → H a ≠ none := fun a h => by
      rcases h with h | h
      · exact rel.zd a h
      · exact rel.odom a ⟨i, h⟩
    have hi' : i < S.length := hi
    have hio : ∀ d, S[i]? ≠ some (.io d) := fun d w => by rw [e] at w; cases w
    have rel1 : Rel K en (S.set i .un) (σ.set i (some v)) H (putO O i []) Z := rel.put hi hio (s := .un) (x := some v) rfl fun _ h => nomatch h
    have rel2 : Rel K en (S.set i .un) (σ.set i (some v)) H (putO O i []) (fun a => Z a ∨ a ∈ O i) := rel1.more (fun _ h => .inl h) hmore hmd
    obtain ⟨F, p, z⟩ := t.rep
    have rel3 := rel2.put (i := i) (A := []) (s := .frz d) (x := some v) (by rw [List.length_set]; exact hi) (fun d w => by rw [List.getElem?_set_self hi] at w; cases w) ⟨rfl, v, F, rfl, p, z⟩ fun _ h => nomatch h
    rw [List.set_set, List.set_set, hσ] at rel3
    refine ⟨_, _, v, F, ?_, rel3, ev, p, z⟩
    refine ⟨fun _ _ h _ => h, fun _ h => h, fun b h => ?_, fun b h => ?_, fun _ h => .inl h⟩
    · rcases owns_put h with q | ⟨j, hj, q⟩
      · cases q
      · rw [putO_ne hj] at q
        exact .inl ⟨j, q⟩
    · rcases h with h | h
      · exact .inl h
      · exact .inr (.inl ⟨i, h⟩)
  · rename_i d' e
    cases h
    obtain ⟨v, F, ev, p, z⟩ := rel.frz i _ e
    exact ⟨O, Z, v, F, .refl, rel, ev, p, z⟩
  · rename_i d' e
    split at h
    · cases h
    · rename_i hl
      cases h
      have hl' : isLst d = false := by cases q : isLst d <;> first | rfl | exact absurd q hl
      obtain ⟨ev, t, _⟩ := rel.io i _ e
      obtain ⟨F, p, z⟩ := ((Top.notLst hl').mp t).2
      exact ⟨O, Z, _, F, .refl, rel, ev, p, z⟩
  · cases h
/-- an own slot given away -/
def relSl (S : State) (i : Nat) : Option (RV × State) := match S[i]? with
  | some (.own d) => some (⟨.N, d⟩, S.set i .un)
  | some (.frz d) => some (⟨.Z, d⟩, S)
  | some (.io d) => if isLst d then none else some (⟨.Z, d⟩, S)
  | _ => none
theorem rel_ok {r : RV} (h : relSl S i = some (r, S')) (rel : Rel K en S σ H O Z) : ∃ O2 σ' v, Evo O Z H O2 Z H ∧ Rel K en S' σ' H O2 Z ∧ σ[i]? = some (some v) ∧ Res K r.md r.d v en.H0 H O2 Z := by
  unfold relSl at h
  split at h
  · rename_i d' e
    cases h
    have hi : i < S.length := (List.getElem?_eq_some_iff.mp e).1
    obtain ⟨⟨v, ev, t⟩, f⟩ := rel.own i _ e
    have hio : ∀ d, S[i]? ≠ some (.io d) := fun d w => by rw [e] at w; cases w
    refine ⟨putO O i [], σ.set i none, v, ⟨fun _ _ h _ => h, fun _ h => h, fun b h => ?_, fun b h => .inl h, fun _ h => h⟩, rel.put hi hio (s := .un) rfl (fun _ h => nomatch h), ev, O i, t, fun a ha => ⟨f a ha, fun w => ?_, fun z => rel.zo a z ⟨i, ha⟩⟩⟩
    · rcases owns_put h with q | ⟨j, _, q⟩
      · cases q
      · exact .inl ⟨j, q⟩
    · rcases owns_put w with q | ⟨j, hj, q⟩
      · cases q
      · exact hj (rel.dis j i a q ha)
  · rename_i d' e
    cases h
    obtain ⟨v, F, ev, p, z⟩ := rel.frz i _ e
    exact ⟨O, σ, v, .refl, rel, ev, F, p, z⟩
  · rename_i d' e
    split at h
    · cases h
    · rename_i hl
      cases h
      have hl' : isLst d' = false := by cases q : isLst d' <;> first | rfl | exact absurd q hl
      obtain ⟨ev, t, _⟩ := rel.io i _ e
      obtain ⟨F, p, z⟩ := ((Top.notLst hl').mp t).2
      exact ⟨O, σ, _, .refl, rel, ev, F, p, z⟩
  · cases h
end

/-! ### targets -/
inductive Tg where
  | nm (i : Nat) | tp (ts : List Tg)
mutual
def Tg.g (K : PySem.W.Frag) : Tg → TG
  | .nm i => gName i
  | .tp ts => gTup K ts.length (gs K ts)
def gs (K : PySem.W.Frag) : List Tg → TGs
  | [] => gNil
  | t :: ts => gCons (t.g K) (gs K ts)
end
theorem wipe_get (σ : L2.St) : ∀ (vs : List Nat) (j : Nat), (wipe σ vs)[j]? = if j ∈ vs then (σ[j]?).map fun _ => none else σ[j]?
  | [], j => by simp [wipe]
  | v :: vs, j => by
    have ih := wipe_get σ vs j
    unfold wipe
    by_cases hv : v = j
    · subst hv
      rw [if_pos List.mem_cons_self]
      by_cases hl : v < σ.length
      · rw [List.getElem?_set_self (by rw [wipe_length]; exact hl), List.getElem?_eq_getElem hl]; rfl
      · rw [List.getElem?_eq_none (by rw [List.length_set, wipe_length]; omega), List.getElem?_eq_none (by omega)]; rfl
    · rw [List.getElem?_set_ne hv, ih]
      have : (j ∈ v :: vs) ↔ j ∈ vs := by rw [List.mem_cons]; exact ⟨fun h => h.resolve_left fun e => hv e.symm, .inr⟩
      by_cases hm : j ∈ vs
      · rw [if_pos hm, if_pos (this.mpr hm)]
      · rw [if_neg hm, if_neg fun h => hm (this.mp h)]
theorem wipe_set (σ : L2.St) {i : Nat} {x : Option V} {vs : List Nat} (h : i ∈ vs) : wipe (σ.set i x) vs = wipe σ vs := by
  apply List.ext_getElem?
  intro j
  rw [wipe_get, wipe_get]
  by_cases hj : j ∈ vs
  · rw [if_pos hj, if_pos hj]
    by_cases hi : i = j
    · subst hi
      by_cases hl : i < σ.length
      · rw [List.getElem?_set_self hl, List.getElem?_eq_getElem hl]; rfl
      · rw [List.getElem?_eq_none (by rw [List.length_set]; omega), List.getElem?_eq_none (by omega)]
    · rw [List.getElem?_set_ne hi]
  · rw [if_neg hj, if_neg hj, List.getElem?_set_ne fun e => hj (by rw [← e]; exact h)]
mutual
/-- the slots of a target are among vs -/
def Tg.within (vs : List Nat) : Tg → Bool
  | .nm i => decide (i ∈ vs)
  | .tp ts => withinS vs ts
def withinS (vs : List Nat) : List Tg → Bool
  | [] => true
  | t :: ts => t.within vs && withinS vs ts
end
mutual
def setT : Tg → State → RV → Option State
  | .nm i, S, r => setSl S i r
  | .tp ts, S, r => match r.d with
    | .tup ds => if ds.length == ts.length then setTs ts S ds else none
    | _ => none
def setTs : List Tg → State → List D → Option State
  | [], S, [] => some S
  | t :: ts, S, d :: ds => match setT t S ⟨.Z, d⟩ with
    | some S1 => setTs ts S1 ds
    | none => none
  | _, _, _ => none
end
section
variable {K : PySem.W.Frag} {en : Entry} {H H1 : Hp} {O : Own} {Z Z1 : Sh}
mutual
theorem setT_ok : ∀ (t : Tg) {S S' : State} {σ : L2.St} {O1 : Own} {r : RV} {v : V}, setT t S r = some S' → Evo O Z H O1 Z1 H1 → Rel K en S σ H1 O1 Z1 → (∀ b, H b = none → en.H0 b = none) → Res K r.md r.d v H H1 O1 Z1 →
    ∀ {Q : L2.St → Hp → Prop}, (∀ σ' O2, Evo O Z H O2 Z1 H1 → Rel K en S' σ' H1 O2 Z1 → (∀ vs, t.within vs = true → wipe σ' vs = wipe σ vs) → Q σ' H1) → t.g K v σ H1 Q
  | .nm i, S, S', σ, O1, r, v, h, ev, rel, hd, res, Q, k => by
    rw [setT] at h
    obtain ⟨O2, e2, r2⟩ := set_ok h ev rel hd res
    rw [Tg.g]
    exact k _ O2 e2 r2 fun vs h => wipe_set σ (of_decide_eq_true (by rw [Tg.within] at h; exact h))
  | .tp ts, S, S', σ, O1, r, v, h, ev, rel, hd, res, Q, k => by
    rw [setT] at h
    obtain ⟨md, d⟩ := r
    split at h
    · rename_i ds e
      split at h
      · rename_i hl
        dsimp only at e
        subst e
        obtain ⟨a, vs, G, rfl, hs, p, z⟩ := res.tup
        rw [Tg.g]
        exact ⟨a, vs, rfl, hs, by rw [p.length]; simpa using hl, setTs_ok ts h ev rel hd p z fun σ' O2 e2 r2 w => k σ' O2 e2 r2 fun vs h => w vs (by rw [Tg.within] at h; exact h)⟩
      · cases h
    · cases h
theorem setTs_ok : ∀ (ts : List Tg) {S S' : State} {σ : L2.St} {O1 : Own} {ds : List D} {vs : List V} {F : List Addr}, setTs ts S ds = some S' → Evo O Z H O1 Z1 H1 → Rel K en S σ H1 O1 Z1 → (∀ b, H b = none → en.H0 b = none) → Reps K H1 vs ds F → (∀ a ∈ F, Z1 a) →
    ∀ {Q : L2.St → Hp → Prop}, (∀ σ' O2, Evo O Z H O2 Z1 H1 → Rel K en S' σ' H1 O2 Z1 → (∀ vs, withinS vs ts = true → wipe σ' vs = wipe σ vs) → Q σ' H1) → gs K ts vs σ H1 Q
  | [], S, S', σ, O1, ds, vs, F, h, ev, rel, hd, p, z, Q, k => by
    cases ds with
    | cons d ds => rw [setTs] at h; cases h; all_goals nofun
    | nil =>
      rw [setTs] at h
      cases h
      cases p
      rw [gs]
      exact ⟨rfl, k σ O1 ev rel fun _ _ => rfl⟩
  | t :: ts, S, S', σ, O1, ds, vs, F, h, ev, rel, hd, p, z, Q, k => by
    cases ds with
    | nil => rw [setTs] at h; cases h; all_goals nofun
    | cons d ds =>
      rw [setTs] at h
      split at h
      · rename_i S1 e1
        cases vs with
        | nil => cases p
        | cons v vs =>
          obtain ⟨F1, F2, rfl, p1, p2⟩ := p.uncons
          rw [gs]
          refine ⟨v, vs, rfl, setT_ok t (r := ⟨.Z, d⟩) e1 ev rel hd ⟨F1, p1, fun a ha => z a (List.mem_append_left _ ha)⟩ fun σ2 O2 e2 r2 w2 => ?_⟩
          refine setTs_ok ts h e2 r2 hd p2 (fun a ha => z a (List.mem_append_right _ ha)) fun σ3 O3 e3 r3 w3 => k σ3 O3 e3 r3 fun us hu => ?_
          rw [withinS, Bool.and_eq_true] at hu
          rw [w3 us hu.2, w2 us hu.1]
      · cases h
end
end
end R

set_option Elab.async false
set_option linter.all false
set_option maxRecDepth 100000
set_option maxHeartbeats 2000000
/-! R11: statements. -/
namespace R
open PySem PySem.Spec PyProof.Rows L2

inductive Fl where
  | next | ret (r : RV) | brk | cont
/-- what is wanted behind a statement -/
def FlPost (X : Cx) (en : Entry) (E : Ends) (S' : State) (H : Hp) (O : Own) (Z : Sh) : Fl → Prop
  | .next => ∀ σ' H' O' Z', Evo O Z H O' Z' H' → Rel X.K en S' σ' H' O' Z' → E.nx σ' H'
  | .brk => ∀ σ' H' O' Z', Evo O Z H O' Z' H' → Rel X.K en S' σ' H' O' Z' → E.bk σ' H'
  | .cont => ∀ σ' H' O' Z', Evo O Z H O' Z' H' → Rel X.K en S' σ' H' O' Z' → E.ct σ' H'
  | .ret r => ∀ σ' v H' O' Z', Evo O Z H O' Z' H' → Rel X.K en S' σ' H' O' Z' → Res X.K r.md r.d v en.H0 H' O' Z' → E.rt v H'
def YPost (cl : Cls) (X : Cx) (W : WX) (en : Entry) (S' : State) (H : Hp) (O : Own) (Z : Sh) (x : Exn) : Prop :=
  ∀ cls d σ' H' O' Z', Evo O Z H O' Z' H' → Rel X.K en S' σ' H' O' Z' → XRep X.K cl x cls d H' → W cls d σ' H'
/-- a statement's reading -/
structure RS (cl : Cls) (X : Cx) (W : WX) (t : TS) (m : M Fl) : Prop where
  ok : ∀ {S f S'}, m S = .ok f S' → ∀ {en σ H O Z}, Rel X.K en S σ H O Z → ∀ {E : Ends}, FlPost X en E S' H O Z f → t E σ H
  exc : ∀ {S x S'}, m S = .exc x S' → ∀ {en σ H O Z}, Rel X.K en S σ H O Z → YPost cl X W en S' H O Z x → ∀ {E : Ends}, t E σ H
abbrev SS (cl : Cls) (X : Cx) (W : WX) (st : Stmt) (m : M Fl) : Prop := RS cl X W (WS X st) m
abbrev SSs (cl : Cls) (X : Cx) (W : WX) (st : List Stmt) (m : M Fl) : Prop := RS cl X W (WSs X st) m
section
variable {cl : Cls} {X : Cx} {W : WX} {q : Bool} {e c : Expr} {st : Stmt} {sts rest : List Stmt} {pos : Pos} {en : Entry} {E E' : Ends} {S S' S1 : State} {σ : L2.St} {H H1 : Hp} {O O1 : Own} {Z Z1 : Sh} {t u : TS} {m m1 m2 : M Fl} {ma : M RV} {te : TE}
theorem RS.ofS (h : RS cl X W t m) (p : PS X st t) : SS cl X W st m := ⟨fun h1 _ _ _ _ _ r _ h2 => WS.of p (h.ok h1 r h2), fun h1 _ _ _ _ _ r h2 _ => WS.of p (h.exc h1 r h2)⟩
theorem RS.ofSs (h : RS cl X W t m) (p : PSs X sts t) : SSs cl X W sts m := ⟨fun h1 _ _ _ _ _ r _ h2 => WSs.of p (h.ok h1 r h2), fun h1 _ _ _ _ _ r h2 _ => WSs.of p (h.exc h1 r h2)⟩
theorem RS.bad : RS cl X W t mBad := ⟨(fun h => nomatch h), (fun h => nomatch h)⟩
theorem FlPost.from {f : Fl} (h : FlPost X en E S' H O Z f) (ev : Evo O Z H O1 Z1 H1) : FlPost X en E S' H1 O1 Z1 f := by
  cases f with
  | next => exact fun σ' H' O' Z' e r => h σ' H' O' Z' (ev.trans e) r
  | brk => exact fun σ' H' O' Z' e r => h σ' H' O' Z' (ev.trans e) r
  | cont => exact fun σ' H' O' Z' e r => h σ' H' O' Z' (ev.trans e) r
  | ret r => exact fun σ' v H' O' Z' e r => h σ' v H' O' Z' (ev.trans e) r
theorem YPost.from {x : Exn} (h : YPost cl X W en S' H O Z x) (ev : Evo O Z H O1 Z1 H1) : YPost cl X W en S' H1 O1 Z1 x :=
  fun cls d σ' H' O' Z' e r xr => h cls d σ' H' O' Z' (ev.trans e) r xr
theorem YPost.at {x : Exn} (h : YPost cl X W en S' H O Z x) : XPost cl X W en S' σ H O Z x := fun cls d H' O' Z' e r xr => h cls d σ H' O' Z' e r xr
/-- the ends but the next are as they were -/
theorem FlPost.nx {f : Fl} (hf : f ≠ .next) (h : FlPost X en E S' H O Z f) {N : L2.St → Hp → Prop} : FlPost X en { E with nx := N } S' H O Z f := by
  cases f with
  | next => exact absurd rfl hf
  | _ => exact h
theorem Rel.hd (rel : Rel X.K en S σ H O Z) : ∀ b, H b = none → en.H0 b = none := fun b h => by
  cases q : en.H0 b with
  | none => rfl
  | some o => exact absurd h (rel.dom b (by rw [q]; exact fun z => nomatch z))

/-! ### one after another -/
def mNext : M Fl := fun S => .ok .next S
def mSeq (m1 m2 : M Fl) : M Fl := fun S => match m1 S with
  | .ok .next S1 => m2 S1
  | r => r
theorem SSs.nil : SSs cl X W [] mNext := by
  refine RS.ofSs (t := tNext) ⟨fun h1 en σ H O Z rel E h2 => ?_, fun h1 => nomatch h1⟩ pss_nil
  cases h1
  exact h2 σ H O Z .refl rel
theorem SSs.cons (h1 : SS cl X W st m1) (h2 : SSs cl X W rest m2) : SSs cl X W (st :: rest) (mSeq m1 m2) := by
  refine RS.ofSs (t := tSeq (WS X st) (WSs X rest)) ⟨fun {S f S'} e en σ H O Z rel E hp => ?_, fun {S x S'} e en σ H O Z rel hp E => ?_⟩ (pss_cons WS.ps WSs.pss)
  · unfold mSeq at e
    split at e
    · rename_i S1 e1
      exact h1.ok e1 rel fun σ1 H1 O1 Z1 ev1 r1 => h2.ok e r1 (hp.from ev1)
    · rename_i hne
      refine h1.ok e rel ?_
      by_cases hf : f = .next
      · subst hf
        exact absurd e (hne S')
      · exact hp.nx hf
  · unfold mSeq at e
    split at e
    · rename_i S1 e1
      exact h1.ok e1 rel fun σ1 H1 O1 Z1 ev1 r1 => h2.exc e r1 (hp.from ev1)
    · exact h1.exc e rel hp

/-! ### small ones -/
theorem SS.pass : SS cl X W (.Pass pos) mNext := by
  refine RS.ofS (t := tNext) ⟨fun h1 en σ H O Z rel E h2 => ?_, fun h1 => nomatch h1⟩ ps_pass
  cases h1
  exact h2 σ H O Z .refl rel
theorem SS.doc {x : Str} {j} {p : Pos} : SS cl X W (.Expr (.Constant (.str x) j p) pos) mNext := by
  refine RS.ofS (t := tNext) ⟨fun h1 en σ H O Z rel E h2 => ?_, fun h1 => nomatch h1⟩ ps_doc
  cases h1
  exact h2 σ H O Z .refl rel
def mFl (f : Fl) : M Fl := fun S => .ok f S
theorem SS.brk : SS cl X W (.Break pos) (mFl .brk) := by
  refine RS.ofS (t := tBreak) ⟨fun h1 en σ H O Z rel E h2 => ?_, fun h1 => nomatch h1⟩ ps_break
  cases h1
  exact h2 σ H O Z .refl rel
theorem SS.cont : SS cl X W (.Continue pos) (mFl .cont) := by
  refine RS.ofS (t := tCont) ⟨fun h1 en σ H O Z rel E h2 => ?_, fun h1 => nomatch h1⟩ ps_continue
  cases h1
  exact h2 σ H O Z .refl rel
def mDrop (ma : M RV) : M Fl := fun S => match ma S with
  | .ok _ S1 => .ok .next S1
  | .exc x S1 => .exc x S1
  | .bad => .bad
theorem SS.drop (h : SE cl X W q e ma) (hs : swapsWith e none pos.line X.env = pure false) : SS cl X W (.Expr e pos) (mDrop ma) := by
  refine RS.ofS (t := tDrop (WE X e)) ⟨fun {S f S'} h1 en σ H O Z rel E h2 => ?_, fun {S x S'} h1 en σ H O Z rel h2 E => ?_⟩ (ps_expr WE.pe hs)
  · unfold mDrop at h1
    split at h1
    · rename_i r S1 e1
      cases h1
      exact h.ok e1 rel fun v H1 O1 Z1 ev x rel1 _ => h2 σ H1 O1 Z1 ev rel1
    · cases h1
    · cases h1
  · unfold mDrop at h1
    split at h1
    · cases h1
    · rename_i x1 S1 e1
      cases h1
      exact h.exc e1 rel h2.at
    · cases h1
def mRet (ma : M RV) : M Fl := fun S => match ma S with
  | .ok r S1 => match settle r with
    | some r => .ok (.ret r) S1
    | none => .bad
  | .exc x S1 => .exc x S1
  | .bad => .bad
theorem SS.ret (h : SE cl X W q e ma) : SS cl X W (.Return (some e) pos) (mRet ma) := by
  refine RS.ofS (t := tRet (WE X e)) ⟨fun {S f S'} h1 en σ H O Z rel E h2 => ?_, fun {S x S'} h1 en σ H O Z rel h2 E => ?_⟩ (ps_ret WE.pe)
  · unfold mRet at h1
    split at h1
    · rename_i r S1 e1
      split at h1
      · rename_i r' e2
        cases h1
        exact h.ok e1 rel fun v H1 O1 Z1 ev x rel1 res => h2 σ v H1 O1 Z1 ev rel1 ((settle_ok e2 res).2.1.from rel.hd)
      · cases h1
    · cases h1
    · cases h1
  · unfold mRet at h1
    split at h1
    · split at h1 <;> cases h1
    · rename_i x1 S1 e1
      cases h1
      exact h.exc e1 rel h2.at
    · cases h1
/-- return of a name: the slot's list is given away -/
def mRetV (i : Nat) : M Fl := fun S => match relSl S i with
  | some (r, S1) => .ok (.ret r) S1
  | none => .bad
theorem SS.retV {i : Nat} (p : PE X e (tVar i)) : SS cl X W (.Return (some e) pos) (mRetV i) := by
  refine RS.ofS (t := tRet (tVar i)) ⟨fun {S f S'} h1 en σ H O Z rel E h2 => ?_, fun {S x S'} h1 => ?_⟩ (ps_ret p)
  · unfold mRetV at h1
    split at h1
    · rename_i r S1 e1
      cases h1
      obtain ⟨O2, σ', v, ev, rel', hv, res⟩ := rel_ok e1 rel
      exact ⟨v, hv, h2 σ' v H O2 Z ev rel' res⟩
    · cases h1
  · unfold mRetV at h1
    split at h1 <;> cases h1
theorem SS.retN : SS cl X W (.Return none pos) (mFl (.ret ⟨.N, .non⟩)) := by
  refine RS.ofS (t := tRetN) ⟨fun {S f S'} h1 en σ H O Z rel E h2 => ?_, fun h1 => nomatch h1⟩ ps_retN
  cases h1
  exact h2 σ .non H O Z .refl rel (.sc rfl)
def mIfS (mt : M Bool) (m1 m2 : M Fl) : M Fl := fun S => match mt S with
  | .ok true S1 => m1 S1
  | .ok false S1 => m2 S1
  | .exc x S1 => .exc x S1
  | .bad => .bad
theorem SS.ifS {mt : M Bool} {a b : List Stmt} (hc : ST cl X W q c mt) (h1 : SSs cl X W a m1) (h2 : SSs cl X W b m2) : SS cl X W (.If c a b pos) (mIfS mt m1 m2) := by
  refine RS.ofS (t := tIfS (WT X c) (WSs X a) (WSs X b)) ⟨fun {S f S'} e en σ H O Z rel E hp => ?_, fun {S x S'} e en σ H O Z rel hp E => ?_⟩ (ps_if WT.pt WSs.pss WSs.pss)
  · unfold mIfS at e
    split at e
    · rename_i S1 e1
      refine hc.ok e1 rel fun H1 O1 Z1 ev1 _ r1 => ?_
      rw [if_pos rfl]
      exact h1.ok e r1 (hp.from ev1)
    · rename_i S1 e1
      refine hc.ok e1 rel fun H1 O1 Z1 ev1 _ r1 => ?_
      rw [if_neg Bool.false_ne_true]
      exact h2.ok e r1 (hp.from ev1)
    · cases e
    · cases e
  · unfold mIfS at e
    split at e
    · rename_i S1 e1
      refine hc.ok e1 rel fun H1 O1 Z1 ev1 _ r1 => ?_
      rw [if_pos rfl]
      exact h1.exc e r1 (hp.from ev1)
    · rename_i S1 e1
      refine hc.ok e1 rel fun H1 O1 Z1 ev1 _ r1 => ?_
      rw [if_neg Bool.false_ne_true]
      exact h2.exc e r1 (hp.from ev1)
    · rename_i x1 S1 e1
      cases e
      exact hc.exc e1 rel hp.at
    · cases e

/-! ### assignments -/
def mAsg (t : Tg) (ma : M RV) : M Fl := fun S => match ma S with
  | .ok r S1 => match setT t S1 r with
    | some S2 => .ok .next S2
    | none => .bad
  | .exc x S1 => .exc x S1
  | .bad => .bad
theorem RS.asg {tg : Tg} (h : RD cl X W q te ma) : RS cl X W (tAsg te (tg.g X.K)) (mAsg tg ma) := by
  refine ⟨fun {S f S'} h1 en σ H O Z rel E h2 => ?_, fun {S x S'} h1 en σ H O Z rel h2 E => ?_⟩
  · unfold mAsg at h1
    split at h1
    · rename_i r S1 e1
      split at h1
      · rename_i S2 e2
        cases h1
        exact h.ok e1 rel fun v H1 O1 Z1 ev x rel1 res => setT_ok tg e2 ev rel1 rel.hd res fun σ' O2 ev2 rel2 _ => h2 σ' H1 O2 Z1 ev2 rel2
      · cases h1
    · cases h1
    · cases h1
  · unfold mAsg at h1
    split at h1
    · split at h1 <;> cases h1
    · rename_i x1 S1 e1
      cases h1
      exact h.exc e1 rel h2.at
    · cases h1
/-- a name's value put under another name: shared from now on -/
def mVarZ (i : Nat) : M RV := fun S => match frzSl S i with
  | some (d, S1) => .ok ⟨.Z, d⟩ S1
  | none => .bad
theorem SE.varZ {i : Nat} (p : PE X e (tVar i)) : SE cl X W true e (mVarZ i) := by
  refine RD.of (t := tVar i) ⟨fun {S r S'} h1 en σ H O Z rel Q h2 => ?_, fun {S x S'} h1 => ?_⟩ p
  · unfold mVarZ at h1
    split at h1
    · rename_i d S1 e1
      cases h1
      obtain ⟨O2, Z2, v, F, ev, rel', hv, p, z⟩ := frz_ok e1 rel
      exact ⟨v, hv, h2 v H O2 Z2 ev (fun _ => .refl) rel' ⟨F, p, z⟩⟩
    · cases h1
  · unfold mVarZ at h1
    split at h1 <;> cases h1
/-- name op= e, of ints -/
def mAug (i : Nat) (f : Int → Int → Int) (ma : M RV) : M Fl := fun S => match slotRV S i with
  | some ⟨_, .int a⟩ => match ma S with
    | .ok ⟨_, .int b⟩ S1 => match setSl S1 i ⟨.N, .int (f a b)⟩ with
      | some S2 => .ok .next S2
      | none => .bad
    | .ok _ _ => .bad
    | .exc x S1 => .exc x S1
    | .bad => .bad
  | _ => .bad
theorem RS.aug {i : Nat} {f : Int → Int → Int} (h : RD cl X W q te ma) : RS cl X W (tAug i te (ipI f)) (mAug i f ma) := by
  refine ⟨fun {S g S'} h1 en σ H O Z rel E h2 => ?_, fun {S x S'} h1 en σ H O Z rel h2 E => ?_⟩
  · unfold mAug at h1
    split at h1
    · rename_i md a e0
      obtain ⟨v, ev, res⟩ := slot_ok (H0 := H) rel e0
      split at h1
      · rename_i md1 b S1 e1
        split at h1
        · rename_i S2 e2
          cases h1
          cases res.val rfl
          refine ⟨_, ev, h.ok e1 rel fun w H1 O1 Z1 ev1 x rel1 res1 => ?_⟩
          cases res1.val rfl
          refine ⟨a, b, rfl, rfl, ?_⟩
          obtain ⟨O2, ev2, rel2⟩ := set_ok (v := .int (f a b)) e2 ev1 rel1 rel.hd (.sc rfl)
          exact h2 _ H1 O2 Z1 ev2 rel2
        · cases h1
      · cases h1
      · cases h1
      · cases h1
    · cases h1
  · unfold mAug at h1
    split at h1
    · rename_i md a e0
      obtain ⟨v, ev, res⟩ := slot_ok (H0 := H) rel e0
      split at h1
      · split at h1 <;> cases h1
      · cases h1
      · rename_i x1 S1 e1
        cases h1
        exact ⟨_, ev, h.exc e1 rel h2.at⟩
      · cases h1
    · cases h1
/-- a slot's list with new items -/
theorem relst {S : State} {i : Nat} {ds' : List D} {a : Addr} {xs xs' : List V} {G : List Addr} (rel : Rel X.K en S σ H O Z) (hS : lend S i (.lst ds') = some S') (hv : σ[i]? = some (some (.ref a))) (hO : O i = [a]) (ha : H a = some (.lst xs)) (p : Reps X.K H xs' ds' G) (z : ∀ g ∈ G, Z g) :
    Evo O Z H O Z (upd H a (.lst xs')) ∧ Rel X.K en S' σ (upd H a (.lst xs')) O Z := by
  have hown : Owns O a := ⟨i, by rw [hO]; exact List.mem_singleton.mpr rfl⟩
  have hne : ∀ b o, H b = some o → b ∉ O i → upd H a (.lst xs') b = some o := fun b o e n => by
    rw [upd_ne (fun w => n (by rw [w, hO]; exact List.mem_singleton.mpr rfl))]; exact e
  have hdom : ∀ b, H b ≠ none → upd H a (.lst xs') b ≠ none := fun b h => by
    by_cases w : b = a
    · subst w; rw [upd_same]; exact fun q => nomatch q
    · rw [upd_ne w]; exact h
  refine ⟨⟨fun b o e n => hne b o e fun w => n ⟨i, w⟩, hdom, fun _ h => .inl h, fun _ h => .inl h, fun _ h => h⟩, ?_⟩
  refine lend_rel rel ⟨hne, hdom⟩ hS hv ?_ (fun _ h => h) rel.zo fun b h => hdom b (rel.zd b h)
  refine ⟨a, xs', G, rfl, hO, upd_same, p.step (fun b => b = a) (fun b hb => ⟨xs, by rw [hb]; exact ha⟩) (fun b o e n => by rw [upd_ne n]; exact e) (fun g hg w => rel.zo g (z g hg) (by rw [w]; exact hown)), z⟩
theorem own_lst {S : State} {i : Nat} {ds : List D} {d0 : D} (rel : Rel X.K en S σ H O Z) (hS : lend S i d0 = some S') (hr : slotRV S i = some ⟨.B, .lst ds⟩) : ∃ a xs G, σ[i]? = some (some (.ref a)) ∧ O i = [a] ∧ H a = some (.lst xs) ∧ Reps X.K H xs ds G ∧ ∀ g ∈ G, Z g := by
  obtain ⟨d, v, e, hv, t⟩ := lend_own rel hS
  rw [hr] at e
  cases e
  obtain ⟨a, xs, G, rfl, hO, ha, p, z⟩ := t
  exact ⟨a, xs, G, hv, hO, ha, p, z⟩
/-- name[i] = e : the value, the list, the place -/
def mSetI (i : Nat) (ma mi : M RV) : M Fl := fun S => match ma S with
  | .ok r S1 => match settle r with
    | some r => match r.md, r.d with
      | .N, .lst _ => .bad
      | _, d => match slotRV S1 i with
        | some _ => match mi S1 with
          | .ok ⟨_, .int k⟩ S2 => match slotRV S2 i with
            | some ⟨.B, .lst ds⟩ => match ixN ds.length k with
              | some j => match lend S2 i (.lst (ds.set j d)) with
                | some S3 => .ok .next S3
                | none => .bad
              | none => .bad
            | _ => .bad
          | .ok _ _ => .bad
          | .exc x S2 => .exc x S2
          | .bad => .bad
        | none => .bad
    | none => .bad
  | .exc x S1 => .exc x S1
  | .bad => .bad
end
end R

set_option Elab.async false
set_option linter.all false
set_option maxRecDepth 100000
set_option maxHeartbeats 2000000
/-! R12: places of lists, methods of lists, loops. -/
namespace R
open PySem PySem.Spec PyProof.Rows L2

/-! ### name[i] = e -/
def mSetP (i : Nat) (ma mi : M RV) : M Fl := fun S => match ma S with
  | .ok r S1 => match settle r with
    | some r => match slotRV S1 i with
      | some _ => match mi S1 with
        | .ok ri S2 => match ri.d, slotRV S2 i with
          | .int k, some ⟨.B, .lst ds⟩ => match ixN ds.length k with
            | some j => match lend S2 i (.lst (ds.set j r.d)) with
              | some S3 => .ok .next S3
              | none => .bad
            | none => .bad
          | _, _ => .bad
        | .exc x S2 => .exc x S2
        | .bad => .bad
      | none => .bad
    | none => .bad
  | .exc x S1 => .exc x S1
  | .bad => .bad
section
variable {cl : Cls} {X : Cx} {W : WX} {q q1 q2 : Bool} {e c ie : Expr} {es : List Expr} {st : Stmt} {sts rest : List Stmt} {pos : Pos} {en : Entry} {E E' : Ends} {S S' S1 : State} {σ : L2.St} {H H1 : Hp} {O O1 : Own} {Z Z1 : Sh} {t u : TS} {m m1 m2 mb : M Fl} {ma mi : M RV} {te ti : TE}
theorem RS.setP {i : Nat} (ha : RD cl X W q1 te ma) (hi : RD cl X W q2 ti mi) : RS cl X W (tAsg te (gSub (tVar i) ti rSetL)) (mSetP i ma mi) := by
  refine ⟨fun {S f S'} h1 en σ H O Z rel E h2 => ?_, fun {S x S'} h1 en σ H O Z rel h2 E => ?_⟩
  · unfold mSetP at h1
    split at h1
    · rename_i r S1 e1
      split at h1
      · rename_i r' e2
        split at h1
        · rename_i r0 e3
          split at h1
          · rename_i ri S2 e4
            obtain ⟨md4, d4⟩ := ri
            split at h1
            · rename_i k ds ek er
              dsimp only at ek
              subst ek
              split at h1
              · rename_i j ej
                split at h1
                · rename_i S3 e6
                  cases h1
                  refine ha.ok e1 rel fun v H1 O1 Z1 ev1 x1 rel1 res1 => ?_
                  obtain ⟨_, res1', hB⟩ := settle_ok e2 res1
                  obtain ⟨Z2, F, ev2, rel2, p, z⟩ := res1'.share hB ev1 rel1
                  obtain ⟨v0, hv0, _⟩ := slot_ok (H0 := H) rel2 e3
                  refine ⟨v0, hv0, hi.ok e4 rel2 fun w H2 O2 Z3 ev3 x3 rel3 res3 => ?_⟩
                  cases res3.val rfl
                  obtain ⟨a, xs, G, hv, hO, hH, pG, zG⟩ := own_lst rel3 e6 er
                  rw [hv0] at hv
                  cases hv
                  obtain ⟨F', pF, zF⟩ := pG.set j (rel2.keep ev3 p z)
                  obtain ⟨ev4, rel4⟩ := relst rel3 e6 hv0 hO hH pF fun g hg => (zF g hg).elim (zG g) fun h => ev3.grow g (z g h)
                  exact ⟨a, xs, k, j, rfl, rfl, hH, by rw [pG.length]; exact ej, h2 σ _ O2 Z3 ((ev2.trans ev3).trans ev4) rel4⟩
                · cases h1
              · cases h1
            · cases h1
          · cases h1
          · cases h1
        · cases h1
      · cases h1
    · cases h1
    · cases h1
  · unfold mSetP at h1
    split at h1
    · rename_i r S1 e1
      split at h1
      · rename_i r' e2
        split at h1
        · rename_i r0 e3
          split at h1
          · split at h1
            · split at h1
              · split at h1 <;> cases h1
              · cases h1
            · cases h1
          · rename_i x2 S2 e4
            cases h1
            refine ha.ok e1 rel fun v H1 O1 Z1 ev1 x1 rel1 res1 => ?_
            obtain ⟨v0, hv0, _⟩ := slot_ok (H0 := H) rel1 e3
            exact ⟨v0, hv0, hi.exc e4 rel1 (h2.from ev1).at⟩
          · cases h1
        · cases h1
      · cases h1
    · rename_i x1 S1 e1
      cases h1
      exact ha.exc e1 rel h2.at
    · cases h1

/-! ### methods of a slot's list -/
def isL : RV → Bool
  | ⟨_, .lst _⟩ => true
  | _ => false
theorem isL_ty {i : Nat} {r : RV} (rel : Rel X.K en S σ H O Z) (h : slotRV S i = some r) (hl : isL r = true) : ∃ v, σ[i]? = some (some v) ∧ tyV X.K "list" v H := by
  obtain ⟨v, hv, res⟩ := slot_ok (H0 := H) rel h
  obtain ⟨md, d⟩ := r
  cases d <;> try cases hl
  obtain ⟨a, vs, G, rfl, ha, _⟩ := res.lst
  exact ⟨_, hv, .inl ⟨rfl, vs, .inl (.inl ha)⟩⟩
/-- what a method makes of the items and the (shared) arguments: the answer, the new items -/
abbrev LM := List D → List D → Option (D × List D)
/-- .. by values: r -/
def LmS (X : Cx) (f : LM) (r : V → List V → Hp → VK → Prop) : Prop :=
  ∀ (ds as : List D) (d : D) (ds' : List D), f ds as = some (d, ds') → ∀ (H : Hp) (a : Addr) (xs ws : List V) (G F : List Addr), H a = some (.lst xs) → Reps X.K H xs ds G → Reps X.K H ws as F → (∀ g ∈ F, g ≠ a) →
    ∃ (y : V) (xs' : List V) (Fy G' : List Addr), Rep X.K H y d Fy ∧ Reps X.K H xs' ds' G' ∧ (∀ g ∈ Fy, g ∈ G ∨ g ∈ F) ∧ (∀ g ∈ G', g ∈ G ∨ g ∈ F) ∧ ∀ Q : VK, Q y (upd H a (.lst xs')) → r (.ref a) ws H Q
def mLM (i : Nat) (f : LM) (ms : M (List D)) : M RV := fun S => match slotRV S i with
  | some r => if isL r then match ms S with
      | .ok as S1 => match slotRV S1 i with
        | some ⟨.B, .lst ds⟩ => match f ds as with
          | some (d, ds') => match lend S1 i (.lst ds') with
            | some S2 => .ok ⟨.Z, d⟩ S2
            | none => .bad
          | none => .bad
        | _ => .bad
      | .exc x S1 => .exc x S1
      | .bad => .bad
    else .bad
  | none => .bad
theorem RD.lm {i : Nat} {f : LM} {r : V → List V → Hp → VK → Prop} {ms : M (List D)} (hs : SB cl X W q es ms) (hf : LmS X f r) : RD cl X W false (tBM X.K "list" r (tVar i) (WA X es)) (mLM i f ms) := by
  refine ⟨fun {S res S'} h1 en σ H O Z rel Q h2 => ?_, fun {S x S'} h1 en σ H O Z rel h2 Q => ?_⟩
  · unfold mLM at h1
    split at h1
    · rename_i r0 e0
      split at h1
      · rename_i hl
        obtain ⟨v, hv, ty⟩ := isL_ty rel e0 hl
        split at h1
        · rename_i as S1 e1
          split at h1
          · rename_i ds er
            split at h1
            · rename_i d ds' ef
              split at h1
              · rename_i S2 e2
                cases h1
                refine ⟨v, hv, ty, hs.ok e1 rel fun ws F H1 O1 Z1 ev1 x1 rel1 p z => ?_⟩
                obtain ⟨a, xs, G, hv', hO, hH, pG, zG⟩ := own_lst rel1 e2 er
                rw [hv] at hv'
                cases hv'
                have ha : Owns O1 a := ⟨i, by rw [hO]; exact List.mem_singleton.mpr rfl⟩
                obtain ⟨y, xs', Fy, G', py, pG', zy, zG', k⟩ := hf ds as d ds' ef H1 a xs ws G F hH pG p fun g hg w => rel1.zo g (z g hg) (by rw [w]; exact ha)
                have zz : ∀ g, g ∈ G ∨ g ∈ F → Z1 g := fun g h => h.elim (zG g) (z g)
                obtain ⟨ev2, rel2⟩ := relst rel1 e2 hv hO hH pG' fun g hg => zz g (zG' g hg)
                exact k Q (h2 y _ O1 Z1 (ev1.trans ev2) (fun z => nomatch z) rel2 ⟨Fy, rel1.keep ev2 py fun g hg => zz g (zy g hg), fun g hg => zz g (zy g hg)⟩)
              · cases h1
            · cases h1
          · cases h1
        · cases h1
        · cases h1
      · cases h1
    · cases h1
  · unfold mLM at h1
    split at h1
    · rename_i r0 e0
      split at h1
      · rename_i hl
        obtain ⟨v, hv, ty⟩ := isL_ty rel e0 hl
        split at h1
        · split at h1
          · split at h1
            · split at h1 <;> cases h1
            · cases h1
          · cases h1
        · rename_i x1 S1 e1
          cases h1
          exact ⟨v, hv, ty, hs.exc e1 rel h2⟩
        · cases h1
      · cases h1
    · cases h1
def lmAppend : LM := fun ds as => match as with
  | [d] => if lenOk ds.length then some (.non, ds ++ [d]) else none
  | _ => none
theorem lm_append : LmS X lmAppend rAppend := by
  intro ds as d ds' h H a xs ws G F ha pG p _
  unfold lmAppend at h
  split at h
  · rename_i d1
    split at h
    · rename_i hl
      cases h
      cases ws with
      | nil => cases p
      | cons w ws =>
        obtain ⟨F1, F2, rfl, p1, p2⟩ := p.uncons
        cases p2
        refine ⟨.non, xs ++ [w], [], G ++ F1, .of rfl, pG.append p1, fun _ h => (nomatch h), fun g hg => (List.mem_append.mp hg).imp id fun h => List.mem_append_left _ h, fun Q k => ?_⟩
        refine ⟨a, xs, w, rfl, rfl, ha, ?_, k⟩
        rw [pG.length]
        unfold lenOk at hl
        have := of_decide_eq_true hl
        exact Nat.lt_of_le_of_lt this (by decide)
    · cases h
  · cases h
def lmExtend : LM := fun ds as => match as with
  | [.lst es] => if lenOk (ds.length + es.length) then some (.non, ds ++ es) else none
  | _ => none
theorem lm_extend : LmS X lmExtend rExtend := by
  intro ds as d ds' h H a xs ws G F ha pG p _
  unfold lmExtend at h
  split at h
  · rename_i es
    split at h
    · rename_i hl
      cases h
      cases ws with
      | nil => cases p
      | cons w ws =>
        obtain ⟨F1, F2, rfl, p1, p2⟩ := p.uncons
        cases p2
        obtain ⟨b, ys, G1, rfl, rfl, hb, pb⟩ := p1.lstE
        refine ⟨.non, xs ++ ys, [], G ++ G1, .of rfl, pG.append pb, fun _ h => (nomatch h), fun g hg => (List.mem_append.mp hg).imp id fun h => List.mem_append_left _ (List.mem_cons_of_mem _ h), fun Q k => ?_⟩
        refine ⟨a, b, xs, ys, rfl, rfl, ha, hb, ?_, k⟩
        rw [pG.length, pb.length]
        unfold lenOk at hl
        exact Nat.le_trans (of_decide_eq_true hl) (by decide)
    · cases h
  · cases h
/-- pop() -/
def lmPop : LM := fun ds as => match as with
  | [] => (ds[ds.length - 1]?).map fun d => (d, ds.dropLast)
  | _ => none
theorem Reps.dropLast {K : PySem.W.Frag} {H : Hp} {vs : List V} {ds : List D} {F : List Addr} (r : Reps K H vs ds F) : ∃ F', Reps K H vs.dropLast ds.dropLast F' ∧ ∀ a ∈ F', a ∈ F := by
  obtain ⟨F', p, z⟩ := r.erase (vs.length - 1)
  rw [List.eraseIdx_length_sub_one] at p
  rw [r.length, List.eraseIdx_length_sub_one] at p
  exact ⟨F', p, z⟩
theorem lm_pop : LmS X lmPop rPop := by
  intro ds as d ds' h H a xs ws G F ha pG p _
  unfold lmPop at h
  split at h
  · obtain ⟨d1, e, h⟩ := Option.map_eq_some_iff.mp h
    cases h
    cases p
    obtain ⟨v, F1, ev, p1, z1⟩ := pG.at e
    obtain ⟨F2, p2, z2⟩ := pG.dropLast
    exact ⟨v, xs.dropLast, F1, F2, p1, p2, fun g hg => .inl (z1 g hg), fun g hg => .inl (z2 g hg), fun Q k => ⟨a, xs, v, rfl, rfl, ha, by rw [pG.length]; exact ev, k⟩⟩
  · cases h
/-- pop(i) -/
def lmPopAt : LM := fun ds as => match as with
  | [.int i] => if -(2 ^ 62) ≤ i ∧ i < 2 ^ 62 then (seqIndex? i ds.length).bind fun k => (ds[k]?).map fun d => (d, ds.eraseIdx k) else none
  | _ => none
theorem lm_popAt : LmS X lmPopAt rPopAt := by
  intro ds as d ds' h H a xs ws G F ha pG p _
  unfold lmPopAt at h
  split at h
  · rename_i i
    split at h
    · rename_i hi
      obtain ⟨k, ek, h⟩ := Option.bind_eq_some_iff.mp h
      obtain ⟨d1, e, h⟩ := Option.map_eq_some_iff.mp h
      cases h
      cases ws with
      | nil => cases p
      | cons w ws =>
        obtain ⟨G1, G2, rfl, q1, q2⟩ := p.uncons
        cases q2
        obtain ⟨rfl, _⟩ := q1.scE rfl
        obtain ⟨v, F1, ev, p1, z1⟩ := pG.at e
        obtain ⟨F2, p2, z2⟩ := pG.erase k
        exact ⟨v, xs.eraseIdx k, F1, F2, p1, p2, fun g hg => .inl (z1 g hg), fun g hg => .inl (z2 g hg), fun Q kk => ⟨a, xs, i, k, v, rfl, rfl, ha, by omega, by omega, by rw [pG.length]; exact ek, ev, kk⟩⟩
    · cases h
  · cases h

/-! ### what is walked -/
def ItOk (K : PySem.W.Frag) (J : It) (ds : List D) (H : Hp) (O : Own) (Z : Sh) : Prop := ∃ (G : Hp → Prop) (Y : Nat → Hp → V → Hp → Prop), Walk J ds.length G Y ∧
  ∀ O2 Z2 H2, Evo O Z H O2 Z2 H2 → G H2 ∧ ∀ j x H', j < ds.length → Y j H2 x H' → Ext H2 H' ∧ ∃ d F, ds[j]? = some d ∧ Rep K H' x d F ∧ ∀ a ∈ F, Z2 a
structure SI (cl : Cls) (X : Cx) (W : WX) (wi : TI) (m : M (List D)) : Prop where
  ok : ∀ {S ds S'}, m S = .ok ds S' → ∀ {en σ H O Z}, Rel X.K en S σ H O Z → ∀ {R : It → Hp → Prop}, (∀ J H' O' Z', Evo O Z H O' Z' H' → Rel X.K en S' σ H' O' Z' → ItOk X.K J ds H' O' Z' → R J H') → wi σ H R
  exc : ∀ {S x S'}, m S = .exc x S' → ∀ {en σ H O Z}, Rel X.K en S σ H O Z → XPost cl X W en S' σ H O Z x → ∀ {R : It → Hp → Prop}, wi σ H R
theorem SI.bad {wi : TI} : SI cl X W wi mBad := ⟨(fun h => nomatch h), (fun h => nomatch h)⟩
/-- the items, shared -/
theorem itOk_of {J : It} {xs : List V} {ds : List D} {F : List Addr} {G : Hp → Prop} (w : Walk J xs.length G (YAt xs)) (rel : Rel X.K en S σ H O Z) (p : Reps X.K H xs ds F) (z : ∀ a ∈ F, Z a) (g : ∀ O2 Z2 H2, Evo O Z H O2 Z2 H2 → G H2) : ItOk X.K J ds H O Z := by
  refine ⟨G, YAt xs, by rw [← p.length]; exact w, fun O2 Z2 H2 ev => ⟨g O2 Z2 H2 ev, ?_⟩⟩
  rintro j x H' hj ⟨rfl, hx⟩
  refine ⟨.refl, ds[j], ?_⟩
  have q := rel.keep ev p z
  obtain ⟨v, F1, ev1, p1, z1⟩ := q.at (i := j) (d := ds[j]) (List.getElem?_eq_getElem hj)
  rw [hx] at ev1
  cases ev1
  exact ⟨F1, List.getElem?_eq_getElem hj, p1, fun a ha => ev.grow a (z a (z1 a ha))⟩
/-- a list -/
def iLstM (ma : M RV) : M (List D) := fun S => match ma S with
  | .ok r S1 => match settle r with
    | some r => match r.d with
      | .lst ds => .ok ds S1
      | .scr ns => .ok (ns.map D.int) S1
      | _ => .bad
    | none => .bad
  | .exc x S1 => .exc x S1
  | .bad => .bad
theorem SI.lst (h : RD cl X W q te ma) : SI cl X W (iList X.K te) (iLstM ma) := by
  refine ⟨fun {S ds S'} h1 en σ H O Z rel R h2 => ?_, fun {S x S'} h1 en σ H O Z rel h2 R => ?_⟩
  · unfold iLstM at h1
    split at h1
    · rename_i r S1 e1
      split at h1
      · rename_i r' e2
        obtain ⟨md, d⟩ := r'
        split at h1
        · rename_i ds e3
          dsimp only at e3
          subst e3
          cases h1
          refine h.ok e1 rel fun v H1 O1 Z1 ev1 x1 rel1 res1 => ?_
          obtain ⟨_, res1', hB⟩ := settle_ok e2 res1
          obtain ⟨Z2, F, ev2, rel2, p, z⟩ := res1'.share hB ev1 rel1
          obtain ⟨a, xs, G, rfl, rfl, ha, pG⟩ := p.lstE
          refine ⟨a, rfl, ⟨xs, .inl (.inl ha)⟩, h2 _ H1 O1 Z2 ev2 rel2 ?_⟩
          exact itOk_of walk_list rel2 pG (fun g hg => z g (List.mem_cons_of_mem _ hg)) fun O3 Z3 H3 ev3 => .inl (.inl (ev3.keep a _ ha (rel2.zo a (z a List.mem_cons_self))))
        · rename_i ns e3
          dsimp only at e3
          subst e3
          cases h1
          refine h.ok e1 rel fun v H1 O1 Z1 ev1 x1 rel1 res1 => ?_
          obtain ⟨_, res1', hB⟩ := settle_ok e2 res1
          obtain ⟨F, p, z⟩ := res1'.flatZ rfl
          obtain ⟨a, rfl, _, ha⟩ := p.scrE
          refine ⟨a, rfl, ⟨_, ha.sql⟩, h2 _ H1 O1 Z1 ev1 rel1 ?_⟩
          refine itOk_of walk_list rel1 (reps_ints ns) (fun g hg => nomatch hg) fun O3 Z3 H3 ev3 => ?_
          exact (scr_step (Owns O1) rel1.mut ev3.keep ha).sql
        · cases h1
      · cases h1
    · cases h1
    · cases h1
  · unfold iLstM at h1
    split at h1
    · split at h1
      · split at h1 <;> cases h1
      · cases h1
    · rename_i x1 S1 e1
      cases h1
      exact h.exc e1 rel h2
    · cases h1
def iTupM (ma : M RV) : M (List D) := fun S => match ma S with
  | .ok r S1 => match r.d with
    | .tup ds => .ok ds S1
    | _ => .bad
  | .exc x S1 => .exc x S1
  | .bad => .bad
theorem SI.tup (h : RD cl X W q te ma) : SI cl X W (iTup X.K te) (iTupM ma) := by
  refine ⟨fun {S ds S'} h1 en σ H O Z rel R h2 => ?_, fun {S x S'} h1 en σ H O Z rel h2 R => ?_⟩
  · unfold iTupM at h1
    split at h1
    · rename_i r S1 e1
      obtain ⟨md, d⟩ := r
      split at h1
      · rename_i ds e3
        dsimp only at e3
        subst e3
        cases h1
        refine h.ok e1 rel fun v H1 O1 Z1 ev1 x1 rel1 res1 => ?_
        obtain ⟨a, vs, G, rfl, ha, p, z⟩ := res1.tup
        refine ⟨a, rfl, ⟨vs, ha⟩, h2 _ H1 O1 Z1 ev1 rel1 ?_⟩
        exact itOk_of walk_tup rel1 p z fun O3 Z3 H3 ev3 => sqt_step (Owns O1) rel1.mut ev3.keep ha
      · cases h1
    · cases h1
    · cases h1
  · unfold iTupM at h1
    split at h1
    · split at h1 <;> cases h1
    · rename_i x1 S1 e1
      cases h1
      exact h.exc e1 rel h2
    · cases h1
/-- a text's signs -/
def signs (z : Str) : List D := z.cps.toList.map fun c => .str ⟨#[c]⟩
def iStrM (ma : M RV) : M (List D) := fun S => match ma S with
  | .ok r S1 => match r.d with
    | .str z => .ok (signs z) S1
    | _ => .bad
  | .exc x S1 => .exc x S1
  | .bad => .bad
theorem SI.str (h : RD cl X W q te ma) : SI cl X W (iStr te) (iStrM ma) := by
  refine ⟨fun {S ds S'} h1 en σ H O Z rel R h2 => ?_, fun {S x S'} h1 en σ H O Z rel h2 R => ?_⟩
  · unfold iStrM at h1
    split at h1
    · rename_i r S1 e1
      obtain ⟨md, d⟩ := r
      split at h1
      · rename_i z e3
        dsimp only at e3
        subst e3
        cases h1
        refine h.ok e1 rel fun v H1 O1 Z1 ev1 x1 rel1 res1 => ?_
        cases res1.val rfl
        refine ⟨z, rfl, h2 _ H1 O1 Z1 ev1 rel1 ⟨fun _ => True, (fun i H v H' => H' = H ∧ ∃ c, z.cps[i]? = some c ∧ v = .str ⟨#[c]⟩), ?_, fun O2 Z2 H2 ev => ⟨trivial, ?_⟩⟩⟩
        · have := walk_str (z := z)
          unfold signs
          rw [List.length_map, Array.length_toList]
          exact this
        · rintro j x H' hj ⟨rfl, cc, hc, rfl⟩
          refine ⟨.refl, .str ⟨#[cc]⟩, [], ?_, .of rfl, fun _ h => nomatch h⟩
          unfold signs
          rw [List.getElem?_map, Array.getElem?_toList, hc]; rfl
      · cases h1
    · cases h1
    · cases h1
  · unfold iStrM at h1
    split at h1
    · split at h1 <;> cases h1
    · rename_i x1 S1 e1
      cases h1
      exact h.exc e1 rel h2
    · cases h1
/-- range -/
def rangeD (lo : Int) (n : Nat) : List D := (List.range n).map fun i => .int (lo + (i : Nat))
def smallI (i : Int) : Bool := decide (-(2 ^ 62) ≤ i ∧ i < 2 ^ 62)
def iRngM (ms : M (List D)) : M (List D) := fun S => match ms S with
  | .ok [.int j] S1 => if smallI j then .ok (rangeD 0 j.toNat) S1 else .bad
  | .ok [.int i, .int j] S1 => if smallI i && smallI j then .ok (rangeD i (j - i).toNat) S1 else .bad
  | .ok _ _ => .bad
  | .exc x S1 => .exc x S1
  | .bad => .bad
theorem itOk_rng {lo : Int} {n : Nat} : ItOk X.K (Itr lo n) (rangeD lo n) H O Z := by
  refine ⟨fun _ => True, YFn fun i => .int (lo + i), ?_, fun O2 Z2 H2 ev => ⟨trivial, ?_⟩⟩
  · have := walk_range (lo := lo) (n := n)
    unfold rangeD
    rw [List.length_map, List.length_range]
    exact this
  · rintro j x H' hj ⟨rfl, rfl⟩
    unfold rangeD at hj
    rw [List.length_map, List.length_range] at hj
    refine ⟨.refl, .int (lo + (j : Nat)), [], ?_, .of rfl, fun _ h => nomatch h⟩
    unfold rangeD
    rw [List.getElem?_map, List.getElem?_range hj]; rfl
theorem RepsE.one {v : D} {u : V} {vs : List V} {F : List Addr} (p : Reps X.K H vs [v] F) (h : v.sc = some u) : vs = [u] := by
  cases vs with
  | nil => cases p
  | cons w ws =>
    obtain ⟨F1, F2, rfl, p1, p2⟩ := p.uncons
    cases p2
    rw [(p1.scE h).1]
theorem RepsE.two {v v' : D} {u u' : V} {vs : List V} {F : List Addr} (p : Reps X.K H vs [v, v'] F) (h : v.sc = some u) (h' : v'.sc = some u') : vs = [u, u'] := by
  cases vs with
  | nil => cases p
  | cons w ws =>
    obtain ⟨F1, F2, rfl, p1, p2⟩ := p.uncons
    rw [(p1.scE h).1, RepsE.one p2 h']
theorem small_of {i : Int} (h : smallI i = true) : -(2 ^ 62) ≤ i ∧ i < 2 ^ 62 := of_decide_eq_true h
theorem SI.rng1 {ms : M (List D)} (h : SB cl X W q [e] ms) : SI cl X W (iRng1 (WA X [e])) (fun S => match ms S with
    | .ok [.int j] S1 => if smallI j then .ok (rangeD 0 j.toNat) S1 else .bad
    | .ok _ _ => .bad
    | .exc x S1 => .exc x S1
    | .bad => .bad) := by
  refine ⟨fun {S ds S'} h1 en σ H O Z rel R h2 => ?_, fun {S x S'} h1 en σ H O Z rel h2 R => ?_⟩
  · split at h1
    · rename_i j S1 e1
      split at h1
      · rename_i hj
        cases h1
        exact h.ok e1 rel fun vs F H1 O1 Z1 ev1 x1 rel1 p z => ⟨j, RepsE.one p rfl, (small_of hj).1, (small_of hj).2, h2 _ H1 O1 Z1 ev1 rel1 itOk_rng⟩
      · cases h1
    · cases h1
    · cases h1
    · cases h1
  · split at h1
    · split at h1 <;> cases h1
    · cases h1
    · rename_i x1 S1 e1
      cases h1
      exact h.exc e1 rel h2
    · cases h1
theorem SI.rng2 {ms : M (List D)} {a b : Expr} (h : SB cl X W q [a, b] ms) : SI cl X W (iRng2 (WA X [a, b])) (fun S => match ms S with
    | .ok [.int i, .int j] S1 => if smallI i && smallI j then .ok (rangeD i (j - i).toNat) S1 else .bad
    | .ok _ _ => .bad
    | .exc x S1 => .exc x S1
    | .bad => .bad) := by
  refine ⟨fun {S ds S'} h1 en σ H O Z rel R h2 => ?_, fun {S x S'} h1 en σ H O Z rel h2 R => ?_⟩
  · split at h1
    · rename_i i j S1 e1
      split at h1
      · rename_i hj
        rw [Bool.and_eq_true] at hj
        cases h1
        exact h.ok e1 rel fun vs F H1 O1 Z1 ev1 x1 rel1 p z => ⟨i, j, RepsE.two p rfl rfl, ⟨(small_of hj.1).1, (small_of hj.1).2, (small_of hj.2).1, (small_of hj.2).2⟩, h2 _ H1 O1 Z1 ev1 rel1 itOk_rng⟩
      · cases h1
    · cases h1
    · cases h1
    · cases h1
  · split at h1
    · split at h1 <;> cases h1
    · cases h1
    · rename_i x1 S1 e1
      cases h1
      exact h.exc e1 rel h2
    · cases h1

/-! ### for -/
def OutPost (cl : Cls) (X : Cx) (W : WX) (en : Entry) (E : Ends) (H : Hp) (O : Own) (Z : Sh) : Out Fl → Prop
  | .ok f S' => FlPost X en E S' H O Z f
  | .exc x S' => YPost cl X W en S' H O Z x
  | .bad => False
theorem RS.run (h : RS cl X W t m) (rel : Rel X.K en S σ H O Z) (p : OutPost cl X W en E H O Z (m S)) : t E σ H := by
  cases e : m S with
  | ok f S' => rw [e] at p; exact h.ok e rel p
  | exc x S' => rw [e] at p; exact h.exc e rel p
  | bad => rw [e] at p; exact p.elim
theorem RS.mk' (h : ∀ {S en σ H O Z}, Rel X.K en S σ H O Z → ∀ {E : Ends}, OutPost cl X W en E H O Z (m S) → t E σ H) : RS cl X W t m :=
  ⟨fun e _ _ _ _ _ rel _ p => h rel (by rw [e]; exact p), fun e _ _ _ _ _ rel p _ => h rel (by rw [e]; exact p)⟩
theorem OutPost.from {r : Out Fl} (h : OutPost cl X W en E H O Z r) (ev : Evo O Z H O1 Z1 H1) : OutPost cl X W en E H1 O1 Z1 r := by
  cases r with
  | ok f S' => exact FlPost.from h ev
  | exc x S' => exact YPost.from h ev
  | bad => exact h
def forGo (tg : Tg) (mb : M Fl) : List D → M Fl
  | [], S => .ok .next S
  | d :: ds, S => match setT tg S ⟨.Z, d⟩ with
    | none => .bad
    | some S1 => match mb S1 with
      | .ok .next S2 => forGo tg mb ds S2
      | .ok .cont S2 => forGo tg mb ds S2
      | .ok .brk S2 => .ok .next S2
      | .ok (.ret r) S2 => .ok (.ret r) S2
      | .exc x S2 => .exc x S2
      | .bad => .bad
def mFor (tg : Tg) (mi : M (List D)) (mb : M Fl) : M Fl := fun S => match mi S with
  | .ok ds S1 => forGo tg mb ds S1
  | .exc x S1 => .exc x S1
  | .bad => .bad
theorem RS.for {tg : Tg} {wi : TI} {mi : M (List D)} (hi : SI cl X W wi mi) (hb : RS cl X W t mb) : RS cl X W (tFor wi (tg.g X.K) t) (mFor tg mi mb) := by
  refine RS.mk' fun {S en σ H O Z} rel {E} post => ?_
  unfold mFor at post
  cases e1 : mi S with
  | bad => rw [e1] at post; exact post.elim
  | exc x S1 => rw [e1] at post; exact hi.exc e1 rel (YPost.at post)
  | ok ds S1 =>
    rw [e1] at post
    dsimp only at post
    refine hi.ok e1 rel fun J H1 O1 Z1 ev1 rel1 it => ?_
    obtain ⟨G, Y, w, st⟩ := it
    have post1 := post.from ev1
    refine for_it w (fun j σ' H' => ∃ S' O' Z', Evo O1 Z1 H1 O' Z' H' ∧ Rel X.K en S' σ' H' O' Z' ∧ forGo tg mb (ds.drop j) S' = forGo tg mb ds S1) ⟨S1, O1, Z1, .refl, rel1, rfl⟩ (fun j σ' H' _ ⟨S', O', Z', ev, _⟩ => (st O' Z' H' ev).1) ?_ ?_
    · rintro j x σ' H' H'' hj ⟨S', O', Z', ev, relj, hr⟩ hy
      obtain ⟨xt, d, F, hd, p, z⟩ := (st O' Z' H' ev).2 j x H'' hj hy
      have hdrop : ds.drop j = d :: ds.drop (j + 1) := by
        rw [List.drop_eq_getElem_cons hj]
        rw [List.getElem?_eq_getElem hj] at hd
        cases hd; rfl
      rw [hdrop, forGo] at hr
      rw [← hr] at post1
      have relx := relj.ext xt
      have evx := ev.trans (.ext xt)
      cases e2 : setT tg S' ⟨.Z, d⟩ with
      | none => rw [e2] at post1; exact post1.elim
      | some S2 =>
        rw [e2] at post1 hr
        dsimp only at post1 hr
        refine setT_ok (en := en) (H := H'') (Z := Z') (O := O') tg e2 .refl relx relx.hd (r := ⟨.Z, d⟩) ⟨F, p, z⟩ fun σ2 O2 ev2 rel2 _ => ?_
        refine hb.run rel2 ?_
        have evy := evx.trans ev2
        have pf := post1.from evy
        cases e3 : mb S2 with
        | bad => rw [e3] at pf; exact pf
        | exc x S3 => rw [e3] at pf; exact pf
        | ok f S3 =>
          rw [e3] at pf hr
          cases f with
          | next => exact fun σ3 H3 O3 Z3 ev3 rel3 => ⟨S3, O3, Z3, evy.trans ev3, rel3, hr⟩
          | cont => exact fun σ3 H3 O3 Z3 ev3 rel3 => ⟨S3, O3, Z3, evy.trans ev3, rel3, hr⟩
          | brk => exact pf
          | ret r => exact pf
    · rintro σ' H' ⟨S', O', Z', ev, relj, hr⟩
      rw [List.drop_length, forGo] at hr
      rw [← hr] at post1
      exact post1 σ' H' O' Z' ev relj
/-! ### while -/
def whileGo (mc : M Bool) (mb : M Fl) : Nat → M Fl
  | 0, _ => .bad
  | n + 1, S => match mc S with
    | .ok true S1 => match mb S1 with
      | .ok .next S2 => whileGo mc mb n S2
      | .ok .cont S2 => whileGo mc mb n S2
      | .ok .brk S2 => .ok .next S2
      | .ok (.ret r) S2 => .ok (.ret r) S2
      | .exc x S2 => .exc x S2
      | .bad => .bad
    | .ok false S1 => .ok .next S1
    | .exc x S1 => .exc x S1
    | .bad => .bad
theorem RS.while {mc : M Bool} {n : Nat} (hc : ST cl X W q c mc) (hb : RS cl X W t mb) : RS cl X W (tWhile (WT X c) t) (whileGo mc mb n) := by
  refine RS.mk' fun {S en σ H O Z} rel {E} post => ?_
  refine ⟨fun m σ' H' => ∃ S' O' Z', Evo O Z H O' Z' H' ∧ Rel X.K en S' σ' H' O' Z' ∧ whileGo mc mb m S' = whileGo mc mb n S, ⟨n, S, O, Z, .refl, rel, rfl⟩, ?_⟩
  rintro m σ' H' ⟨S', O', Z', ev, rel', hr⟩
  rw [← hr] at post
  cases m with
  | zero => exact post.elim
  | succ m =>
    rw [whileGo] at post hr
    cases e1 : mc S' with
    | bad => rw [e1] at post; exact post.elim
    | exc x S1 => rw [e1] at post; exact hc.exc e1 rel' (YPost.at (YPost.from post ev))
    | ok b S1 =>
      rw [e1] at post hr
      refine hc.ok e1 rel' fun H1 O1 Z1 ev1 _ rel1 => ?_
      cases b with
      | false =>
        rw [if_neg Bool.false_ne_true]
        exact post σ' H1 O1 Z1 (ev.trans ev1) rel1
      | true =>
        rw [if_pos rfl]
        dsimp only at post hr
        refine ⟨fun σ2 H2 => ∃ S' O' Z', Evo O Z H O' Z' H2 ∧ Rel X.K en S' σ2 H2 O' Z' ∧ whileGo mc mb m S' = whileGo mc mb n S, fun σ2 H2 ⟨S2, O2, Z2, a, b, c⟩ => ⟨m, Nat.lt_succ_self m, S2, O2, Z2, a, b, c⟩, ?_⟩
        refine hb.run rel1 ?_
        have evy := ev.trans ev1
        have pf := OutPost.from (cl := cl) (W := W) post evy
        cases e3 : mb S1 with
        | bad => rw [e3] at pf; exact pf
        | exc x S3 => rw [e3] at pf; exact pf
        | ok f S3 =>
          rw [e3] at pf hr
          cases f with
          | next => exact fun σ3 H3 O3 Z3 ev3 rel3 => ⟨S3, O3, Z3, evy.trans ev3, rel3, hr⟩
          | cont => exact fun σ3 H3 O3 Z3 ev3 rel3 => ⟨S3, O3, Z3, evy.trans ev3, rel3, hr⟩
          | brk => exact pf
          | ret r => exact pf
end
end R

set_option Elab.async false
set_option linter.all false
set_option maxRecDepth 100000
set_option maxHeartbeats 2000000
/-! R13: list comprehensions. -/
namespace R
open PySem PySem.Spec PyProof.Rows L2

def okW (S : State) (vs : List Nat) : Bool := vs.all fun v => match S[v]? with
  | some (.io _) => false
  | some _ => true
  | none => false
def wipeS (S : State) : List Nat → State
  | [] => S
  | v :: vs => (wipeS S vs).set v .un
theorem wipeS_length (S : State) : ∀ vs : List Nat, (wipeS S vs).length = S.length
  | [] => rfl
  | v :: vs => by unfold wipeS; rw [List.length_set, wipeS_length S vs]
theorem wipeS_io {S : State} {i : Nat} {d : D} : ∀ {vs : List Nat}, (wipeS S vs)[i]? = some (.io d) → S[i]? = some (.io d)
  | [], h => h
  | v :: vs, h => by
    unfold wipeS at h
    by_cases hi : v = i
    · subst hi
      by_cases hv : v < (wipeS S vs).length
      · rw [List.getElem?_set_self hv] at h; cases h
      · rw [List.getElem?_eq_none (by simpa using hv)] at h; cases h
    · rw [List.getElem?_set_ne hi] at h
      exact wipeS_io h
section
variable {K : PySem.W.Frag} {en : Entry} {S S' : State} {σ σ' : L2.St} {H H' H1 : Hp} {O O' O1 : Own} {Z Z' Z1 : Sh}
theorem wipe_rel (rel : Rel K en S σ H O Z) : ∀ {vs : List Nat}, okW S vs = true → ∃ O2, Evo O Z H O2 Z H ∧ Rel K en (wipeS S vs) (wipe σ vs) H O2 Z
  | [], _ => ⟨O, .refl, rel⟩
  | v :: vs, h => by
    unfold okW at h
    rw [List.all_cons, Bool.and_eq_true] at h
    obtain ⟨O2, ev, r2⟩ := wipe_rel rel (vs := vs) h.2
    have hv : v < S.length := by
      by_cases q : v < S.length
      · exact q
      · have := h.1
        rw [List.getElem?_eq_none (by omega)] at this
        cases this
    have hio : ∀ d, (wipeS S vs)[v]? ≠ some (.io d) := fun d e => by
      have := h.1
      rw [wipeS_io e] at this
      cases this
    refine ⟨putO O2 v [], ev.put (fun _ h => nomatch h), ?_⟩
    unfold wipeS wipe
    exact r2.put (by rw [wipeS_length]; exact hv) hio (s := .un) rfl fun _ h => nomatch h
theorem wipe_idem (σ : L2.St) (vs : List Nat) : wipe (wipe σ vs) vs = wipe σ vs := by
  apply List.ext_getElem?
  intro j
  rw [wipe_get, wipe_get]
  by_cases hj : j ∈ vs
  · rw [if_pos hj, if_pos hj]
    cases σ[j]? <;> rfl
  · rw [if_neg hj, if_neg hj]
theorem unwipe_rel {vs : List Nat} (rel : Rel K en S (wipe σ vs) H O Z) : Rel K en S σ H O Z where
  len := by rw [rel.len, wipe_length]
  own := fun i d h => by
    obtain ⟨⟨v, a, b⟩, c⟩ := rel.own i d h
    exact ⟨⟨v, (wipe_some a).1, b⟩, c⟩
  io := fun i d h => by
    obtain ⟨a, b, c⟩ := rel.io i d h
    exact ⟨(wipe_some a).1, b, c⟩
  frz := fun i d h => by
    obtain ⟨v, F, a, b, c⟩ := rel.frz i d h
    exact ⟨v, F, (wipe_some a).1, b, c⟩
  non := rel.non
  dis := rel.dis
  dom := rel.dom
  zo := rel.zo
  zd := rel.zd
/-- a list that is nobody's written -/
theorem Rel.at_free {p : Addr} {xs ys : List V} (r : Rel K en S σ H O Z) (hp : H p = some (.lst xs)) (ho : ¬ Owns O p) (hz : ¬ Z p) : Rel K en S σ (upd H p (.lst ys)) O Z := by
  have hB : ∀ b, b = p → ∃ ys, H b = some (.lst ys) := fun b hb => ⟨xs, by rw [hb]; exact hp⟩
  have kp : ∀ b o, H b = some o → ¬ b = p → upd H p (.lst ys) b = some o := fun b o e n => by rw [upd_ne n]; exact e
  have dm : ∀ b, H b ≠ none → upd H p (.lst ys) b ≠ none := fun b h => by
    by_cases w : b = p
    · subst w; rw [upd_same]; exact fun q => nomatch q
    · rw [upd_ne w]; exact h
  exact {
    len := r.len
    own := fun i d h => by
      obtain ⟨⟨v, a, b⟩, c⟩ := r.own i d h
      exact ⟨⟨v, a, b.step (· = p) hB kp (fun g hg w => hz (w ▸ hg)) fun a ha w => ho ⟨i, w ▸ ha⟩⟩, c⟩
    io := fun i d h => by
      obtain ⟨a, b, c⟩ := r.io i d h
      exact ⟨a, b.step (· = p) hB kp (fun g hg w => hz (w ▸ hg)) fun a ha w => ho ⟨i, w ▸ ha⟩, c⟩
    frz := fun i d h => by
      obtain ⟨v, F, a, b, c⟩ := r.frz i d h
      exact ⟨v, F, a, b.step (· = p) hB kp fun a ha w => hz (w ▸ c a ha), c⟩
    non := r.non
    dis := r.dis
    dom := fun a h => dm a (r.dom a h)
    zo := r.zo
    zd := fun a h => dm a (r.zd a h) }
theorem Evo.at_free {p : Addr} {x : HO} (e : Evo O Z H O1 Z1 H1) (hp : H p = none) : Evo O Z H O1 Z1 (upd H1 p x) where
  keep := fun b o h n => by
    rw [upd_ne fun w => by rw [w, hp] at h; cases h]
    exact e.keep b o h n
  dom := fun b h => by
    by_cases w : b = p
    · subst w; rw [upd_same]; exact fun q => nomatch q
    · rw [upd_ne w]; exact e.dom b h
  own := e.own
  sh := e.sh
  grow := e.grow
end

/-- the answers of a comprehension's turns -/
def lcGo (vs : List Nat) (tg : Tg) (mt : M Bool) (me : M RV) : List D → M (List D)
  | [], S => .ok [] S
  | d :: ds, S => match setT tg S ⟨.Z, d⟩ with
    | none => .bad
    | some S1 => match mt S1 with
      | .ok true S2 => match me S2 with
        | .ok r S3 => match settle r with
          | some r => if okW S3 vs then match lcGo vs tg mt me ds (wipeS S3 vs) with
              | .ok out S4 => .ok (r.d :: out) S4
              | _ => .bad
            else .bad
          | none => .bad
        | _ => .bad
      | .ok false S2 => if okW S2 vs then lcGo vs tg mt me ds (wipeS S2 vs) else .bad
      | _ => .bad
def mLc (vs : List Nat) (tg : Tg) (mi : M (List D)) (mt : M Bool) (me : M RV) : M RV := fun S => match mi S with
  | .ok ds S1 => if okW S1 vs then match lcGo vs tg mt me ds (wipeS S1 vs) with
      | .ok out S2 => if lenOk out.length then .ok ⟨.N, .lst out⟩ S2 else .bad
      | _ => .bad
    else .bad
  | .exc x S1 => .exc x S1
  | .bad => .bad
/-- what the two readings within have: a run's answer, in whatever block -/
def TeOk (K : PySem.W.Frag) (te : TE) (m : M RV) : Prop := ∀ {S r S'}, m S = .ok r S' → ∀ {en σ H O Z}, Rel K en S σ H O Z → ∀ {Q : VK}, (∀ v H' O' Z', Evo O Z H O' Z' H' → Rel K en S' σ H' O' Z' → Res K r.md r.d v H H' O' Z' → Q v H') → te σ H Q
def TtOk (K : PySem.W.Frag) (tt : TT) (m : M Bool) : Prop := ∀ {S b S'}, m S = .ok b S' → ∀ {en σ H O Z}, Rel K en S σ H O Z → ∀ {Q : Bool → Hp → Prop}, (∀ H' O' Z', Evo O Z H O' Z' H' → Rel K en S' σ H' O' Z' → Q b H') → tt σ H Q
theorem tt_yes {K : PySem.W.Frag} : TtOk K tYes (fun S => .ok true S) := fun h _ _ _ _ _ rel _ k => by
  cases h
  exact k _ _ _ .refl rel
section
variable {cl : Cls} {X : Cx} {W : WX} {vs : List Nat} {tg : Tg} {wi : TI} {mi : M (List D)} {mt : M Bool} {me : M RV} {tt : TT} {te : TE}
theorem RD.lc (hi : SI cl X W wi mi) (ht : TtOk X.K tt mt) (he : TeOk X.K te me) (hw : tg.within vs = true) : RD cl X W false (tLc wi (tg.g X.K) tt te vs) (mLc vs tg mi mt me) := by
  refine ⟨fun {S res SE} h1 en σ H O Z rel Q h2 => ?_, fun {S x S'} h1 en σ H O Z rel h2 Q => ?_⟩
  · unfold mLc at h1
    split at h1
    · rename_i ds S1 e1
      split at h1
      · rename_i hw1
        split at h1
        · rename_i out S2 e2
          split at h1
          · rename_i hlen
            cases h1
            refine hi.ok e1 rel fun J H1 O1 Z1 ev1 rel1 it => ?_
            obtain ⟨G, Y, w, st⟩ := it
            intro p hp
            obtain ⟨O2, ev2, rel2⟩ := wipe_rel rel1 hw1
            have ev2' : Evo O1 Z1 H1 O2 Z1 (upd H1 p (.lst [])) := ev2.at_free hp
            have rel2' := rel2.ext (Ext.new (o := .lst []) hp)
            have hO1 : ¬ Owns O1 p := fun q => rel1.odom p q hp
            have hO2 : ¬ Owns O2 p := fun q => rel2.odom p q hp
            have hZ2 : ¬ Z1 p := fun q => rel1.zd p q hp
            have hH : H p = none := ev1.back p hp
            refine lc_it w (fun j H' => ∃ S' O' Z' acc ac F rest, Evo O1 Z1 H1 O' Z' H' ∧ Rel X.K en S' (wipe σ vs) H' O' Z' ∧ H' p = some (.lst acc) ∧ Reps X.K H' acc ac F ∧ (∀ g ∈ F, Z' g) ∧ ¬ Owns O' p ∧ ¬ Z' p ∧ lcGo vs tg mt me (ds.drop j) S' = .ok rest SE ∧ out = ac ++ rest)
              ⟨wipeS S1 vs, O2, Z1, [], [], [], out, ev2', rel2', upd_same, .nil, fun _ h => (nomatch h), hO2, hZ2, e2, rfl⟩ (fun j H' _ ⟨S', O', Z', acc, ac, F, rest, ev, _⟩ => (st O' Z' H' ev).1) ?_ ?_
            · rintro j x H' H'' hj ⟨S', O', Z', acc, ac, F, rest, ev, relj, hacc, pacc, zacc, hpo, hpz, hr, hout⟩ hy
              obtain ⟨xt, d, F', hd, pd, zd⟩ := (st O' Z' H' ev).2 j x H'' hj hy
              have hdrop : ds.drop j = d :: ds.drop (j + 1) := by
                rw [List.drop_eq_getElem_cons hj]
                rw [List.getElem?_eq_getElem hj] at hd
                cases hd; rfl
              rw [hdrop, lcGo] at hr
              have relx := relj.ext xt
              have evx := ev.trans (.ext xt)
              have haccx := xt p _ hacc
              have paccx := pacc.ext xt
              split at hr
              · cases hr
              · rename_i T1 e3
                refine setT_ok (en := en) (H := H'') (Z := Z') (O := O') tg e3 .refl relx relx.hd (r := ⟨.Z, d⟩) ⟨F', pd, zd⟩ fun σ2 O3 ev3 rel3 hws => ?_
                refine ⟨(hws vs hw).trans (wipe_idem σ vs), ?_⟩
                split at hr
                · rename_i T2 e4
                  refine ht e4 rel3 fun H3 O4 Z4 ev4 rel4 => ?_
                  rw [if_pos rfl]
                  split at hr
                  · rename_i r T3 e5
                    split at hr
                    · rename_i r' e6
                      split at hr
                      · rename_i hw3
                        split at hr
                        · rename_i rest' T4 e7
                          cases hr
                          refine he e5 rel4 fun y H5 O5 Z5 ev5 rel5 res5 => ?_
                          obtain ⟨_, res5', hB⟩ := settle_ok e6 res5
                          obtain ⟨Z6, Fy, ev6, rel6, py, zy⟩ := res5'.share hB ev5 rel5
                          have ev46 : Evo O' Z' H'' O5 Z6 H5 := (ev3.trans ev4).trans ev6
                          have hacc6 : H5 p = some (.lst acc) := ev46.keep p _ haccx hpo
                          have hpo6 : ¬ Owns O5 p := fun q => (ev46.own p q).elim hpo fun q => by rw [haccx] at q; cases q
                          have hpz6 : ¬ Z6 p := fun q => (ev46.sh p q).elim hpz fun q => q.elim hpo fun q => by rw [haccx] at q; cases q
                          have pacc6 := relx.keep ev46 paccx zacc
                          have pall := pacc6.append py
                          have zall : ∀ g ∈ F ++ Fy, Z6 g := fun g hg => (List.mem_append.mp hg).elim (fun h => ev46.grow g (zacc g h)) (zy g)
                          obtain ⟨O7, ev7, rel7⟩ := wipe_rel rel6 hw3
                          have hpo7 : ¬ Owns O7 p := fun q => (ev7.own p q).elim hpo6 fun q => by rw [hacc6] at q; cases q
                          refine ⟨acc, hacc6, ?_, wipeS T3 vs, O7, Z6, acc ++ [y], ac ++ [r'.d], F ++ Fy, rest', ?_, ?_, upd_same, ?_, zall, hpo7, hpz6, e7, ?_⟩
                          · rw [pacc.length]
                            have h3 := of_decide_eq_true hlen
                            rw [hout, List.length_append] at h3
                            exact Nat.lt_of_le_of_lt (Nat.le_trans (Nat.le_add_right _ _) h3) (by decide)
                          · exact ((evx.trans ev46).trans ev7).at_free hp
                          · have := rel7.at_free (ys := acc ++ [y]) hacc6 hpo7 hpz6
                            rw [hws vs hw, wipe_idem] at this
                            exact this
                          · exact pall.step (· = p) (fun b hb => ⟨acc, by rw [hb]; exact hacc6⟩) (fun b o e n => by rw [upd_ne n]; exact e) fun g hg e => hpz6 (e ▸ zall g hg)
                          · rw [hout, List.append_assoc]; rfl
                        · cases hr
                      · cases hr
                    · cases hr
                  · cases hr
                · rename_i T2 e4
                  refine ht e4 rel3 fun H3 O4 Z4 ev4 rel4 => ?_
                  rw [if_neg Bool.false_ne_true]
                  split at hr
                  · rename_i hw3
                    have ev46 : Evo O' Z' H'' O4 Z4 H3 := ev3.trans ev4
                    have hacc6 : H3 p = some (.lst acc) := ev46.keep p _ haccx hpo
                    have hpo6 : ¬ Owns O4 p := fun q => (ev46.own p q).elim hpo fun q => by rw [haccx] at q; cases q
                    have hpz6 : ¬ Z4 p := fun q => (ev46.sh p q).elim hpz fun q => q.elim hpo fun q => by rw [haccx] at q; cases q
                    obtain ⟨O7, ev7, rel7⟩ := wipe_rel rel4 hw3
                    have hpo7 : ¬ Owns O7 p := fun q => (ev7.own p q).elim hpo6 fun q => by rw [hacc6] at q; cases q
                    rw [hws vs hw, wipe_idem] at rel7
                    exact ⟨wipeS T2 vs, O7, Z4, acc, ac, F, rest, (evx.trans ev46).trans ev7, rel7, hacc6, relx.keep ev46 paccx zacc, fun g hg => ev46.grow g (zacc g hg), hpo7, hpz6, hr, hout⟩
                  · cases hr
                · cases hr
            · rintro H' ⟨S', O', Z', acc, ac, F, rest, ev, relj, hacc, pacc, zacc, hpo, hpz, hr, hout⟩
              rw [List.drop_length, lcGo] at hr
              cases hr
              rw [List.append_nil] at hout
              subst hout
              exact h2 (.ref p) H' O' Z' (ev1.trans ev) (fun z => nomatch z) (unwipe_rel relj) ⟨[p], ⟨p, acc, F, rfl, rfl, hacc, pacc, zacc⟩, fun a ha => by rw [List.mem_singleton.mp ha]; exact ⟨hH, hpo, hpz⟩⟩
          · cases h1
        · cases h1
      · cases h1
    · cases h1
    · cases h1
  · unfold mLc at h1
    split at h1
    · split at h1
      · split at h1
        · split at h1 <;> cases h1
        · cases h1
      · cases h1
    · rename_i x1 S1 e1
      cases h1
      exact hi.exc e1 rel h2
    · cases h1
end
end R

set_option Elab.async false
set_option linter.all false
set_option maxRecDepth 100000
set_option maxHeartbeats 2000000
/-! R14: the reading of an expression, computed (dE), and that it is right. -/
namespace R
open PySem PySem.Spec PyProof.Rows L2

structure Den where
  e : Scope → Expr → Bool × M RV
  t : Scope → Expr → Bool × M Bool
abbrev PM (α : Type) := Bool × M α
def pBad {α : Type} : PM α := (true, mBad)
def okName (x : Str) : Bool := !(x == ("__debug__" : Str)) && !(x == ("__classdict__" : Str))
def ixV (N : List Str) (sc : Scope) (x : Str) : Option Nat := if visB sc x && okName x then ix N x else none
def varOf (N : List Str) (sc : Scope) : Expr → Option Nat
  | .Name x _ => ixV N sc x
  | _ => none
def isG (sc : Scope) (x : Str) : Bool := decide (sc.names.lookup x = some .globalImplicit) && okName x
/-- an expression, shared from now on -/
def dZ (N : List Str) (D : Den) (sc : Scope) (e : Expr) : PM RV := match varOf N sc e with
  | some i => (true, mVarZ i)
  | none => D.e sc e
def dB (N : List Str) (D : Den) (sc : Scope) : List Expr → PM (List R.D)
  | [] => (true, mANil)
  | a :: es => if notStar a then ((dZ N D sc a).1 && (dB N D sc es).1, mACons (dZ N D sc a).2 (dB N D sc es).2) else pBad
def dC (N : List Str) (D : Den) (sc : Scope) : List Expr → PM (List AV)
  | [] => (true, cNil)
  | a :: es => if notStar a then (match varOf N sc a with
      | some i => ((dC N D sc es).1, cPl i (dC N D sc es).2)
      | none => ((D.e sc a).1 && (dC N D sc es).1, cRv (dC N D sc es).1 (D.e sc a).2 (dC N D sc es).2)) else pBad
def dAnd (D : Den) (sc : Scope) : List Expr → PM Bool
  | [] => pBad
  | [a] => D.t sc a
  | a :: es => ((D.t sc a).1 && (dAnd D sc es).1, tAndM (D.t sc a).2 (dAnd D sc es).2)
def dOr (D : Den) (sc : Scope) : List Expr → PM Bool
  | [] => pBad
  | [a] => D.t sc a
  | a :: es => ((D.t sc a).1 && (dOr D sc es).1, tOrM (D.t sc a).2 (dOr D sc es).2)
def vAnd (D : Den) (sc : Scope) : List Expr → PM RV
  | [] => pBad
  | [a] => D.e sc a
  | a :: es => ((D.e sc a).1 && (vAnd D sc es).1, mAndV (D.e sc a).2 (vAnd D sc es).2)
def vOr (D : Den) (sc : Scope) : List Expr → PM RV
  | [] => pBad
  | [a] => D.e sc a
  | a :: es => ((D.e sc a).1 && (vOr D sc es).1, mOrV (D.e sc a).2 (vOr D sc es).2)
def dOp (N : List Str) (D : Den) (sc : Scope) (f : RV → RV → Option RV) (a b : Expr) : PM RV := match varOf N sc a with
  | some i => ((D.e sc b).1, mOpV i f (D.e sc b).2)
  | none => ((D.e sc a).1 && (D.e sc b).1, mOp (D.e sc b).1 f (D.e sc a).2 (D.e sc b).2)
def dPart (D : Den) (sc : Scope) : Option Expr → PM (Option Int)
  | none => (true, mNoPart)
  | some a => ((D.e sc a).1, mPart (D.e sc a).2)
def dJs (D : Den) (sc : Scope) : List Expr → List (M RV)
  | [] => []
  | a :: es => (D.e sc a).2 :: dJs D sc es
def isSlice : Expr → Bool
  | .Slice _ _ _ _ => true
  | .Constant _ _ _ => false
  | .Name _ _ => false
  | .BinOp _ _ _ _ => false
  | .UnaryOp _ _ _ => false
  | .Call _ _ _ _ => false
  | .Subscript _ _ _ => false
  | _ => true
def plainBase : Expr → Bool
  | .Constant _ _ _ => true
  | .Name _ _ => true
  | .Subscript _ _ _ => true
  | .BinOp _ _ _ _ => true
  | .JoinedStr _ _ => true
  | _ => false
def bltTy (x : Str) : Option (String × (List RV → Option RV)) :=
  if x == ("int" : Str) then some ("int", fInt1) else if x == ("str" : Str) then some ("str", fStr1) else if x == ("list" : Str) then some ("list", fList1) else if x == ("tuple" : Str) then some ("tuple", fTup1) else none
def bltFn (x : Str) : Option (String × (List RV → Option RV)) :=
  if x == ("len" : Str) then some ("len", fLen) else if x == ("abs" : Str) then some ("abs", fAbs) else if x == ("max" : Str) then some ("max", fMax2) else if x == ("min" : Str) then some ("min", fMin2) else none
def isBlt (T : Tab) (x : Str) : Bool := match T.lookup x with
  | some .blt => true
  | _ => false
/-- f(..) -/
def dCall (T : Tab) (N : List Str) (D : Den) (sc : Scope) (x : Str) (es : List Expr) : PM RV :=
  if isG sc x && es.all notStar && !es.isEmpty then match T.lookup x with
    | some (.fn n g) => (false, mCall n g (dC N D sc es).2)
    | some .blt => match bltFn x with
      | some (_, f) => ((dC N D sc es).1, mBlt f (dC N D sc es).2)
      | none => match bltTy x with
        | some (_, f) => ((dC N D sc es).1, mBlt f (dC N D sc es).2)
        | none => if x == ("isinstance" : Str) then (match es with
            | [a, .Name y _] => match Ty.ofName y with
              | some t => if isG sc y && isBlt T y then ((D.e sc a).1, mUn (fIsi t) (D.e sc a).2) else pBad
              | none => pBad
            | _ => pBad) else pBad
    | _ => pBad
  else pBad
def lmOf (m : Str) : List Expr → Option LM
  | [_] => if m == ("append" : Str) then some lmAppend else if m == ("extend" : Str) then some lmExtend else if m == ("pop" : Str) then some lmPopAt else none
  | _ => none
/-- o.m(..) -/
def dMeth (T : Tab) (N : List Str) (D : Den) (sc : Scope) (o : Expr) (m : Str) (es : List Expr) : PM RV :=
  match es with
  | [b] => if notStar b && plainBase o then
      (if m == ("join" : Str) then ((D.e sc o).1 && (D.e sc b).1, mM1 fJoin (D.e sc o).2 (D.e sc b).2)
      else if m == ("split" : Str) then ((D.e sc o).1 && (D.e sc b).1, mM1 fSplit (D.e sc o).2 (D.e sc b).2)
      else match varOf N sc o, lmOf m es with
        | some i, some f => (false, mLM i f (dB N D sc es).2)
        | _, _ => pBad)
    else pBad
  | _ => pBad
def dE (T : Tab) (N : List Str) (D : Den) (sc : Scope) : Expr → PM RV
  | .Constant (.int i) _ _ => (true, mC (.int i))
  | .Constant (.bool b) _ _ => (true, mC (.bl b))
  | .Constant .none _ _ => (true, mC .non)
  | .Constant (.str s) _ _ => (true, mC (.str s))
  | .Name x _ => match ixV N sc x with
    | some i => (true, mVar i)
    | none => match T.lookup x with
      | some (.con d) => if isG sc x then (true, mC d) else pBad
      | _ => pBad
  | .BinOp a op b _ => dOp N D sc (bop op) a b
  | .UnaryOp .USub a _ => ((D.e sc a).1, mUn fNeg (D.e sc a).2)
  | .UnaryOp .Not a _ => ((D.e sc a).1, mNotV (D.e sc a).2)
  | .BoolOp .And es _ => vAnd D sc es
  | .BoolOp .Or es _ => vOr D sc es
  | .Compare a [op] [b] _ => if behindInMarks op b then pBad else dOp N D sc (cop op) a b
  | .Compare a [op, op'] [b, c] _ => if lastMarks [op, op'] [b, c] then pBad else ((D.e sc a).1 && ((D.e sc b).1 && (D.e sc c).1), mCh (D.e sc b).1 (D.e sc c).1 (cop op) (cop op') (D.e sc a).2 (D.e sc b).2 (D.e sc c).2)
  | .IfExp c a b _ => ((D.t sc c).1 && ((D.e sc a).1 && (D.e sc b).1), mIfE (D.t sc c).2 (D.e sc a).2 (D.e sc b).2)
  | .Call (.Name x _) es [] _ => dCall T N D sc x es
  | .Call (.Attribute o m apos) es [] pos => if apos.endLine == pos.line then dMeth T N D sc o m es else pBad
  | .Subscript a (.Slice lo hi none _) _ => ((D.e sc a).1 && ((dPart D sc lo).1 && (dPart D sc hi).1), mSl ((dPart D sc lo).1 && (dPart D sc hi).1) (D.e sc a).2 (dPart D sc lo).2 (dPart D sc hi).2)
  | .Subscript a b _ => if isSlice b then pBad else dOp N D sc fIdx a b
  | .Tuple es _ _ => ((dB N D sc es).1, mTup (dB N D sc es).2)
  | .List es _ => ((dB N D sc es).1, mLst (dB N D sc es).2)
  | .FormattedValue a (-1) none _ => ((D.e sc a).1, mUn fFmt (D.e sc a).2)
  | .JoinedStr [v] _ => D.e sc v
  | .JoinedStr (v1 :: v2 :: rest) _ => (false, mJoined (dJs D sc (v1 :: v2 :: rest)))
  | _ => pBad
def dT (N : List Str) (D : Den) (sc : Scope) : Expr → PM Bool
  | .BoolOp .And es _ => dAnd D sc es
  | .BoolOp .Or es _ => dOr D sc es
  | .UnaryOp .Not a _ => ((D.t sc a).1, tNotM (D.t sc a).2)
  | .Compare a [op] [b] _ => if behindInMarks op b then pBad else ((dOp N D sc (cop op) a b).1, tBool (dOp N D sc (cop op) a b).2)
  | .Compare a [op, op'] [b, c] _ => if lastMarks [op, op'] [b, c] then pBad else ((D.e sc a).1 && ((D.e sc b).1 && (D.e sc c).1), tBool (mCh (D.e sc b).1 (D.e sc c).1 (cop op) (cop op') (D.e sc a).2 (D.e sc b).2 (D.e sc c).2))
  | e => if plainT e then ((D.e sc e).1, tTrue (D.e sc e).2) else pBad

/-- it is right, in whatever context -/
structure DOk (T : Tab) (N : List Str) (D : Den) : Prop where
  e : ∀ (cl : Cls) (k : Nat) (sc : Scope) (X : Cx) (W : WX) (e : Expr), Good T cl N k sc X W → SE cl X W (D.e sc e).1 e (D.e sc e).2
  t : ∀ (cl : Cls) (k : Nat) (sc : Scope) (X : Cx) (W : WX) (e : Expr), Good T cl N k sc X W → SW cl X W (D.t sc e).1 e (D.t sc e).2 ∨ ST cl X W (D.t sc e).1 e (D.t sc e).2
section
variable {cl : Cls} {T : Tab} {N : List Str} {D : Den} {k : Nat} {sc : Scope} {X : Cx} {W : WX} {q : Bool} {t : TE} {m : M RV}
theorem RD.weak (h : RD cl X W q t m) : RD cl X W false t m := ⟨fun h1 _ _ _ _ _ rel _ k => h.ok h1 rel fun v H' O' Z' ev _ r s => k v H' O' Z' ev (fun z => nomatch z) r s, fun h1 _ _ _ _ _ rel x _ => h.exc h1 rel x⟩
theorem DOk.st (d : DOk T N D) (g : Good T cl N k sc X W) (e : Expr) : ST cl X W (D.t sc e).1 e (D.t sc e).2 := (d.t cl k sc X W e g).elim SW.st id
theorem ok_name {x : Str} (h : okName x = true) : (x == ("__debug__" : Str)) = false ∧ (x == ("__classdict__" : Str)) = false := by
  unfold okName at h
  rw [Bool.and_eq_true, Bool.not_eq_true', Bool.not_eq_true'] at h
  exact h
theorem pe_ixV (g : Good T cl N k sc X W) {x : Str} {i : Nat} {pos : Pos} (h : ixV N sc x = some i) : PE X (.Name x pos) (tVar i) := by
  unfold ixV at h
  split at h
  · rename_i hv
    rw [Bool.and_eq_true] at hv
    exact pe_slot g h hv.1 (ok_name hv.2).1 (ok_name hv.2).2
  · cases h
theorem pe_varOf (g : Good T cl N k sc X W) {e : Expr} {i : Nat} (h : varOf N sc e = some i) : PE X e (tVar i) := by
  unfold varOf at h
  split at h
  · exact pe_ixV g h
  · cases h
theorem isG_of {x : Str} (h : isG sc x = true) : sc.names.lookup x = some .globalImplicit ∧ (x == ("__debug__" : Str)) = false := by
  unfold isG at h
  rw [Bool.and_eq_true] at h
  exact ⟨of_decide_eq_true h.1, (ok_name h.2).1⟩
theorem gl_of (g : Good T cl N k sc X W) {x : Str} (h : isG sc x = true) : Gl X x := by
  show X.env.scope.names.lookup x = _
  rw [g.hsc]; exact (isG_of h).1
theorem dZ_ok (d : DOk T N D) (g : Good T cl N k sc X W) (e : Expr) : SE cl X W (dZ N D sc e).1 e (dZ N D sc e).2 := by
  unfold dZ
  split
  · rename_i i h
    exact SE.varZ (pe_varOf g h)
  · exact d.e cl k sc X W e g
theorem dB_ok (d : DOk T N D) (g : Good T cl N k sc X W) : ∀ es : List Expr, SB cl X W (dB N D sc es).1 es (dB N D sc es).2
  | [] => SB.nil
  | a :: es => by
    unfold dB
    split
    · rename_i h
      exact SB.cons (dZ_ok d g a) (dB_ok d g es) h
    · exact SB.bad
theorem dC_ok (d : DOk T N D) (g : Good T cl N k sc X W) : ∀ es : List Expr, SC cl X W (dC N D sc es).1 es (dC N D sc es).2
  | [] => SC.nil
  | a :: es => by
    unfold dC
    split
    · rename_i h
      split
      · rename_i i e
        exact SC.pl (pe_varOf g e) (dC_ok d g es) h
      · exact SC.rv (d.e cl k sc X W a g) (dC_ok d g es) h
    · exact ⟨(fun h => nomatch h), (fun h => nomatch h)⟩
theorem dAnd_ok (d : DOk T N D) (g : Good T cl N k sc X W) {pos : Pos} : ∀ es : List Expr, SW cl X W (dAnd D sc es).1 (.BoolOp .And es pos) (dAnd D sc es).2
  | [] => SW.bad
  | [a] => SW.and1 (d.st g a)
  | a :: b :: r => SW.and (d.st g a) (dAnd_ok d g (b :: r))
theorem dOr_ok (d : DOk T N D) (g : Good T cl N k sc X W) {pos : Pos} : ∀ es : List Expr, SW cl X W (dOr D sc es).1 (.BoolOp .Or es pos) (dOr D sc es).2
  | [] => SW.bad
  | [a] => SW.or1 (d.st g a)
  | a :: b :: r => SW.or (d.st g a) (dOr_ok d g (b :: r))
theorem vAnd_ok (d : DOk T N D) (g : Good T cl N k sc X W) {pos : Pos} : ∀ es : List Expr, SE cl X W (vAnd D sc es).1 (.BoolOp .And es pos) (vAnd D sc es).2
  | [] => SE.bad
  | [a] => SE.one (d.e cl k sc X W a g)
  | a :: b :: r => SE.andV (d.e cl k sc X W a g) (vAnd_ok d g (b :: r))
theorem vOr_ok (d : DOk T N D) (g : Good T cl N k sc X W) {pos : Pos} : ∀ es : List Expr, SE cl X W (vOr D sc es).1 (.BoolOp .Or es pos) (vOr D sc es).2
  | [] => SE.bad
  | [a] => SE.one (d.e cl k sc X W a g)
  | a :: b :: r => SE.orV (d.e cl k sc X W a g) (vOr_ok d g (b :: r))
/-- two operands, the rule by name -/
theorem dOp_ok (d : DOk T N D) (g : Good T cl N k sc X W) {f : RV → RV → Option RV} {r : R2} (hf : OpS X f r) {a b e : Expr} (p : ∀ {ta tb : TE}, PE X a ta → PE X b tb → PE X e (tOp r ta tb)) : SE cl X W (dOp N D sc f a b).1 e (dOp N D sc f a b).2 := by
  unfold dOp
  split
  · rename_i i h
    exact (RD.opV (d.e cl k sc X W b g) hf).of (p (pe_varOf g h) WE.pe)
  · exact (RD.op (d.e cl k sc X W a g) (d.e cl k sc X W b g) hf).of (p WE.pe WE.pe)
theorem dOp_test (d : DOk T N D) (g : Good T cl N k sc X W) {f : RV → RV → Option RV} {r : R2} (hf : OpS X f r) {a b e : Expr} (p : ∀ {ta tb : TE}, PE X a ta → PE X b tb → PT X e (tTest (tOp r ta tb))) : ST cl X W (dOp N D sc f a b).1 e (tBool (dOp N D sc f a b).2) := by
  unfold dOp
  split
  · rename_i i h
    exact ST.bool (RD.opV (d.e cl k sc X W b g) hf) (p (pe_varOf g h) WE.pe)
  · exact ST.bool (RD.op (d.e cl k sc X W a g) (d.e cl k sc X W b g) hf) (p WE.pe WE.pe)
theorem dPart_ok (d : DOk T N D) (g : Good T cl N k sc X W) : ∀ o : Option Expr, SO cl X W (dPart D sc o).1 o (dPart D sc o).2
  | none => SO.none
  | some a => SO.some (d.e cl k sc X W a g)
theorem dJs_ok (d : DOk T N D) (g : Good T cl N k sc X W) : ∀ es : List Expr, SJ cl X W false es (dJs D sc es)
  | [] => .nil
  | a :: es => .cons (RD.weak (d.e cl k sc X W a g)) (dJs_ok d g es)
theorem plainIx_of {b : Expr} (h : isSlice b = false) : PlainIx b := by
  intro o i
  cases b <;> first | rfl | cases h
theorem blt_none (g : Good T cl N k sc X W) {x : Str} (h : T.lookup x = some .blt) : X.mg x = none := g.tab _ _ h
theorem isBlt_of {x : Str} (h : isBlt T x = true) : T.lookup x = some .blt := by
  unfold isBlt at h
  split at h
  · assumption
  · cases h
theorem bltFn_ok (hc : X.calm = true) {x : Str} {id : String} {f : List RV → Option RV} (h : bltFn x = some (id, f)) : HasC X (.builtin id) f ∧ bootBuiltins x = some (.builtin id) ∧ x ≠ "__name__" := by
  unfold bltFn at h
  split at h
  · rename_i e; cases h
    have := eq_of_beq e; subst this
    exact ⟨has_len, by decide +kernel, by decide⟩
  · split at h
    · rename_i e; cases h
      have := eq_of_beq e; subst this
      exact ⟨has_abs, by decide +kernel, by decide⟩
    · split at h
      · rename_i e; cases h
        have := eq_of_beq e; subst this
        exact ⟨has_max2 hc, by decide +kernel, by decide⟩
      · split at h
        · rename_i e; cases h
          have := eq_of_beq e; subst this
          exact ⟨has_min2 hc, by decide +kernel, by decide⟩
        · cases h
theorem bltTy_ok {x : Str} {id : String} {f : List RV → Option RV} (h : bltTy x = some (id, f)) : HasC X (.type id) f ∧ bootBuiltins x = some (.type id) ∧ x ≠ "__name__" := by
  unfold bltTy at h
  split at h
  · rename_i e; cases h
    have := eq_of_beq e; subst this
    exact ⟨has_int1, by decide +kernel, by decide⟩
  · split at h
    · rename_i e; cases h
      have := eq_of_beq e; subst this
      exact ⟨has_str1, by decide +kernel, by decide⟩
    · split at h
      · rename_i e; cases h
        have := eq_of_beq e; subst this
        exact ⟨has_list1, by decide +kernel, by decide⟩
      · split at h
        · rename_i e; cases h
          have := eq_of_beq e; subst this
          exact ⟨has_tup1, by decide +kernel, by decide⟩
        · cases h
theorem all_tail {es : List Expr} {e : Expr} (h : (e :: es).all notStar = true) : notStar e = true ∧ es.all notStar = true := by
  rw [List.all_cons, Bool.and_eq_true] at h
  exact h
theorem dCall_ok (d : DOk T N D) (g : Good T cl N k sc X W) (x : Str) (es : List Expr) {p pos : Pos} : SE cl X W (dCall T N D sc x es).1 (.Call (.Name x p) es [] pos) (dCall T N D sc x es).2 := by
  unfold dCall
  split
  · rename_i hh
    rw [Bool.and_eq_true, Bool.and_eq_true] at hh
    obtain ⟨⟨hg, hst⟩, hne⟩ := hh
    cases es with
    | nil => cases hne
    | cons e es =>
      obtain ⟨h1, h2⟩ := all_tail hst
      split
      · rename_i n f hT
        exact SE.call g hT (isG_of hg).1 (isG_of hg).2 h1 h2 (dC_ok d g (e :: es))
      · rename_i hT
        split
        · rename_i f' hb
          obtain ⟨b1, b2, b3⟩ := bltFn_ok (X := X) g.calm hb
          exact SE.blt (dC_ok d g (e :: es)) b1 (gl_of g hg) (blt_none g hT) b2 b3 (isG_of hg).2 h1 h2
        · split
          · rename_i f' hb
            obtain ⟨b1, b2, b3⟩ := bltTy_ok (X := X) hb
            exact SE.bltTy (dC_ok d g (e :: es)) b1 (gl_of g hg) (blt_none g hT) b2 b3 (isG_of hg).2 h1 h2
          · split
            · rename_i hx
              split
              · rename_i a y p2 hes
                split
                · rename_i t ht
                  split
                  · rename_i hy
                    rw [Bool.and_eq_true] at hy
                    cases hes
                    exact SE.isi (d.e cl k sc X W _ g) (eq_of_beq hx) ht (gl_of g hg) (blt_none g hT) (gl_of g hy.1) (blt_none g (isBlt_of hy.2)) h1
                  · exact SE.bad
                · exact SE.bad
              · exact SE.bad
            · exact SE.bad
      · exact SE.bad
  · exact SE.bad
theorem base_of {o : Expr} {m : Str} {env : Env} (h : plainBase o = true) : attributeBase o m env (eval o env) = eval o env := by
  cases o <;> first | rfl | cases h
theorem MtM.toR {id : String} {r : V → List V → Hp → VK → Prop} (h : MtM X id r) : MtR X id r := h
theorem dMeth_ok (d : DOk T N D) (g : Good T cl N k sc X W) (o : Expr) (m : Str) (es : List Expr) {apos pos : Pos} (hl : (apos.endLine == pos.line) = true) : SE cl X W (dMeth T N D sc o m es).1 (.Call (.Attribute o m apos) es [] pos) (dMeth T N D sc o m es).2 := by
  unfold dMeth
  split
  · rename_i b
    split
    · rename_i hh
      rw [Bool.and_eq_true] at hh
      split
      · rename_i hm
        have := eq_of_beq hm
        subst this
        exact SE.m1 PySem.F.slot_str_join PySem.F.type_str_join mt_join join_ok (d.e cl k sc X W o g) (d.e cl k sc X W b g) hh.1 (base_of hh.2) hl
      · split
        · rename_i hm
          have := eq_of_beq hm
          subst this
          exact SE.m1 PySem.F.slot_str_split PySem.F.type_str_split mt_split split_ok (d.e cl k sc X W o g) (d.e cl k sc X W b g) hh.1 (base_of hh.2) hl
        · split
          · rename_i i f hi hf
            have pl : (backTo pos (starEach ([] : List Expr) X.env)).any (·.1) = false := rfl
            have hs : starEach [b] X.env = (false, eval b X.env) :: starEach [] X.env := star_cons hh.1
            have few : ((backTo pos (starEach [b] X.env)).all (fun x => !x.1) && (backToKw pos (keywordEach [] X.env)).all (fun x => x.1.isSome) && decide (([b] : List Expr).length + ([] : List Keyword).length + (if ([] : List Keyword).isEmpty then 0 else 1) < 30)) = true := by
              rw [hs]; rfl
            unfold lmOf at hf
            dsimp only at hf
            split at hf
            · rename_i hm
              have := eq_of_beq hm
              subst this
              cases hf
              exact (RD.lm (dB_ok d g [b]) lm_append).of (pe_bm PySem.F.plainAttrs_list PySem.F.slot_list_append PySem.F.type_list_append mt_append (pe_varOf g hi) WA.pa (base_of hh.2) few hl hs pl)
            · split at hf
              · rename_i hm
                have := eq_of_beq hm
                subst this
                cases hf
                exact (RD.lm (dB_ok d g [b]) lm_extend).of (pe_bm PySem.F.plainAttrs_list PySem.F.slot_list_extend PySem.F.type_list_extend mt_extend (pe_varOf g hi) WA.pa (base_of hh.2) few hl hs pl)
              · split at hf
                · rename_i hm
                  have := eq_of_beq hm
                  subst this
                  cases hf
                  exact (RD.lm (dB_ok d g [b]) lm_popAt).of (pe_bm PySem.F.plainAttrs_list PySem.F.slot_list_pop PySem.F.type_list_pop mt_popAt (pe_varOf g hi) WA.pa (base_of hh.2) few hl hs pl)
                · cases hf
          · exact SE.bad
    · exact SE.bad
  · exact SE.bad
end
end R

set_option Elab.async false
set_option linter.all false
set_option maxRecDepth 100000
set_option maxHeartbeats 2000000
/-! R15: targets, what is walked, comprehensions: computed; the whole of an expression (den). -/
namespace R
open PySem PySem.Spec PyProof.Rows L2

/-! ### targets -/
def locB (top : Bool) (sc : Scope) (x : Str) : Bool := match sc.names.lookup x with
  | some .local => true
  | some .cell => top
  | _ => false
def tgL (f : Expr → Option Tg) : List Expr → Option (List Tg)
  | [] => some []
  | e :: es => if notStar e then match f e, tgL f es with
      | some t, some ts => some (t :: ts)
      | _, _ => none
    else none
def tgOf (top : Bool) (N : List Str) (sc : Scope) : Nat → Expr → Option Tg
  | 0, _ => none
  | n + 1, .Name x _ => if locB top sc x then (ix N x).map .nm else none
  | n + 1, .Tuple es _ _ => (tgL (tgOf top N sc n) es).map .tp
  | _ + 1, _ => none
section
variable {cl : Cls} {T : Tab} {N : List Str} {D : Den} {k : Nat} {sc : Scope} {X : Cx} {W : WX} {q : Bool} {t : TE} {m : M RV}
theorem star_each {env : Env} : ∀ {es : List Expr}, es.all notStar = true → (assignEach es env).map (·.2) = es.map (fun e => assign e env) ∧ (assignEach es env).findIdx? (·.1) = none ∧ (assignEach es env).length = es.length
  | [], _ => ⟨rfl, rfl, rfl⟩
  | e :: es, h => by
    obtain ⟨h1, h2⟩ := all_tail h
    obtain ⟨a, b, c⟩ := star_each (env := env) h2
    have hs : assignEach (e :: es) env = (false, assign e env) :: assignEach es env := by
      cases e <;> first | rfl | cases h1
    rw [hs]
    refine ⟨by rw [List.map_cons, a]; rfl, ?_, by rw [List.length_cons, c]; rfl⟩
    rw [List.findIdx?_cons, b]; rfl
theorem tgL_star {f : Expr → Option Tg} : ∀ {es : List Expr} {ts : List Tg}, tgL f es = some ts → es.all notStar = true ∧ ts.length = es.length
  | [], ts, h => by cases h; exact ⟨rfl, rfl⟩
  | e :: es, ts, h => by
    unfold tgL at h
    split at h
    · rename_i hst
      split at h
      · rename_i t ts' h1 h2
        cases h
        obtain ⟨a, b⟩ := tgL_star h2
        exact ⟨by rw [List.all_cons, hst, a]; rfl, by rw [List.length_cons, b, List.length_cons]⟩
      · cases h
    · cases h
theorem pgs_of {f : Expr → Option Tg} (hf : ∀ e t, f e = some t → PG X e (t.g X.K)) : ∀ {es : List Expr} {ts : List Tg}, tgL f es = some ts → PGs X es (gs X.K ts)
  | [], ts, h => by
    cases h
    rw [gs]
    exact pgs_nil
  | e :: es, ts, h => by
    have hall := (tgL_star h).1
    obtain ⟨h1, h2⟩ := all_tail hall
    unfold tgL at h
    rw [if_pos h1] at h
    cases e1 : f e with
    | none => rw [e1] at h; cases h
    | some t =>
      cases e2 : tgL f es with
      | none => rw [e1, e2] at h; cases h
      | some ts' =>
        rw [e1, e2] at h
        cases h
        rw [gs]
        refine pgs_cons (hf e t e1) (pgs_of hf e2) ?_
        rw [(star_each hall).1, (star_each h2).1]; rfl
theorem pg_of {top : Bool} (g : Good T cl N k sc X W) (hs : top = true → ∀ x, sc.names.lookup x = some .cell → X.fn x = true) : ∀ (n : Nat) (e : Expr) (t : Tg), tgOf top N sc n e = some t → PG X e (t.g X.K)
  | 0, _, _, h => by cases h
  | n + 1, e, t, h => by
    cases e with
    | Name x p =>
      unfold tgOf at h
      split at h
      · rename_i hl
        obtain ⟨i, hi, rfl⟩ := Option.map_eq_some_iff.mp h
        unfold locB at hl
        have hN : X.N.Nodup := by rw [g.hN]; exact g.nd
        have hx := ix_get hi
        rw [Tg.g]
        split at hl
        · rename_i hk
          have hk' : X.env.scope.names.lookup x = some NameKind.local := by rw [g.hsc]; exact hk
          exact pg_name hN (by rw [g.hN]; exact hx) (.inl hk') (.inr hk')
        · rename_i hk
          have hk' : X.env.scope.names.lookup x = some NameKind.cell := by rw [g.hsc]; exact hk
          exact pg_name hN (by rw [g.hN]; exact hx) (.inr hk') (.inl (hs hl x hk))
        · cases hl
      · cases h
    | Tuple es kk p =>
      unfold tgOf at h
      obtain ⟨ts, hts, rfl⟩ := Option.map_eq_some_iff.mp h
      obtain ⟨ha, hl⟩ := tgL_star hts
      obtain ⟨_, s2, s3⟩ := star_each (env := X.env) ha
      rw [Tg.g]
      exact pg_tup g.calm (pgs_of (fun e t he => pg_of g hs n e t he) hts) (by rw [s3, hl]) s2
    | _ => unfold tgOf at h; cases h

/-! ### a list, a tuple or a text, walked -/
def iAny (K : PySem.W.Frag) (te : TE) : TI := fun σ H R => te σ H fun x H1 => (∃ a, x = .ref a ∧ (∃ xs, SqL K H1 a xs) ∧ R (Itl K a) H1) ∨ (∃ a, x = .ref a ∧ (∃ xs, SqT K H1 a xs) ∧ R (Itt K a) H1) ∨ ∃ z, x = .str z ∧ R (Its z) H1
theorem pi_any {tg e : Expr} {te : TE} (he : PE X e te) : PI X tg e (iAny X.K te) := by
  refine ⟨fun pins s σ H R I h => thn (he.run pins s σ H _ I h) fun v s1 ⟨x, H1, I1, r1, q1⟩ => ?_⟩
  have new : ∀ (o : Obj), FpOk X pins H1 s1.heap.objs.size ∧ Inv X pins σ H1 { s1 with heap := s1.heap.push o } := fun o =>
    ⟨I1.fpOk (Nat.le_refl _) (I1.hok.fresh (Nat.le_refl _)), I1.kept (t' := s1.toks) fun _ _ e => Heap.get?_push_of_some _ e⟩
  have one : ∀ (o : Obj) b, b ∈ [s1.heap.objs.size] → FpOk X pins H1 b := fun o b hb => by
    rw [List.mem_singleton.mp hb]; exact (new o).1
  rcases q1 with ⟨a, rfl, ⟨xs, hq⟩, q⟩ | ⟨a, rfl, ⟨xs, hq⟩, q⟩ | ⟨z, rfl, q⟩
  · cases r1
    obtain ⟨_, _, pl, _⟩ := I1.list hq
    exact wpAny_pyIter_list pl.isList ⟨_, [s1.heap.objs.size], _, _, H1, rfl, (new _).2, turn_list a _, ⟨_, Heap.get?_push_size _ rfl, rfl, rfl⟩, one default, q⟩
  · cases r1
    obtain ⟨its, _, pl, _⟩ := I1.tuple hq
    exact wpAny_pyIter_tuple (show s1.heap.IsTuple a its.toArray from pl) ⟨_, [s1.heap.objs.size], _, _, H1, rfl, (new _).2, turn_tuple a _, ⟨_, Heap.get?_push_size _ rfl, rfl, rfl⟩, one default, q⟩
  · obtain ⟨tk, rfl⟩ := r1
    cases hz : z.cps.all (· < 128) with
    | false => exact wpAny_pyIter_wide hz (pi_one (tk := s1.toks) I1 _ (turn_str _ z tk "str_iterator" (.inr rfl)) ⟨_, Heap.get?_push_size _ rfl, rfl, rfl⟩ q)
    | true => exact wpAny_pyIter_ascii hz (pi_one (tk := s1.toks) I1 _ (turn_str _ z tk "str_ascii_iterator" (.inl rfl)) ⟨_, Heap.get?_push_size _ rfl, rfl, rfl⟩ q)
def itemsOf : R.D → Option (List R.D)
  | .lst ds => some ds
  | .scr ns => some (ns.map .int)
  | .tup ds => some ds
  | .str z => some (signs z)
  | _ => none
def iAnyM (ma : M RV) : M (List R.D) := fun S => match ma S with
  | .ok r S1 => match settle r with
    | some r => match itemsOf r.d with
      | some ds => .ok ds S1
      | none => .bad
    | none => .bad
  | .exc x S1 => .exc x S1
  | .bad => .bad
theorem SI.any {te : TE} {ma : M RV} (h : RD cl X W q te ma) : SI cl X W (iAny X.K te) (iAnyM ma) := by
  refine ⟨fun {S ds S'} h1 en σ H O Z rel R h2 => ?_, fun {S x S'} h1 en σ H O Z rel h2 R => ?_⟩
  · unfold iAnyM at h1
    split at h1
    · rename_i r S1 e1
      split at h1
      · rename_i r' e2
        split at h1
        · rename_i ds' e3
          cases h1
          refine h.ok e1 rel fun v H1 O1 Z1 ev1 x1 rel1 res1 => ?_
          obtain ⟨_, res1', hB⟩ := settle_ok e2 res1
          obtain ⟨md, d⟩ := r'
          dsimp only at e3
          unfold itemsOf at e3
          split at e3
          · cases e3
            obtain ⟨Z2, F, ev2, rel2, p, z⟩ := res1'.share hB ev1 rel1
            obtain ⟨a, xs, G, rfl, rfl, ha, pG⟩ := p.lstE
            refine .inl ⟨a, rfl, ⟨xs, .inl (.inl ha)⟩, h2 _ H1 O1 Z2 ev2 rel2 ?_⟩
            exact itOk_of walk_list rel2 pG (fun g hg => z g (List.mem_cons_of_mem _ hg)) fun O3 Z3 H3 ev3 => .inl (.inl (ev3.keep a _ ha (rel2.zo a (z a List.mem_cons_self))))
          · rename_i ns _
            cases e3
            obtain ⟨F, p, z⟩ := res1'.flatZ rfl
            obtain ⟨a, rfl, _, ha⟩ := p.scrE
            refine .inl ⟨a, rfl, ⟨_, ha.sql⟩, h2 _ H1 O1 Z1 ev1 rel1 ?_⟩
            refine itOk_of walk_list rel1 (reps_ints ns) (fun g hg => nomatch hg) fun O3 Z3 H3 ev3 => ?_
            exact (scr_step (Owns O1) rel1.mut ev3.keep ha).sql
          · cases e3
            obtain ⟨a, vs, G, rfl, ha, p, z⟩ := res1'.tup
            refine .inr (.inl ⟨a, rfl, ⟨vs, ha⟩, h2 _ H1 O1 Z1 ev1 rel1 ?_⟩)
            exact itOk_of walk_tup rel1 p z fun O3 Z3 H3 ev3 => sqt_step (Owns O1) rel1.mut ev3.keep ha
          · rename_i z _
            cases e3
            cases res1'.val rfl
            refine .inr (.inr ⟨z, rfl, h2 _ H1 O1 Z1 ev1 rel1 ⟨fun _ => True, (fun i H v H' => H' = H ∧ ∃ c, z.cps[i]? = some c ∧ v = .str ⟨#[c]⟩), ?_, fun O2 Z2 H2 ev => ⟨trivial, ?_⟩⟩⟩)
            · have := walk_str (z := z)
              unfold signs
              rw [List.length_map, Array.length_toList]
              exact this
            · rintro j x H' hj ⟨rfl, cc, hc, rfl⟩
              refine ⟨.refl, .str ⟨#[cc]⟩, [], ?_, .of rfl, fun _ h => nomatch h⟩
              unfold signs
              rw [List.getElem?_map, Array.getElem?_toList, hc]; rfl
          · cases e3
        · cases h1
      · cases h1
    · cases h1
    · cases h1
  · unfold iAnyM at h1
    split at h1
    · split at h1
      · split at h1 <;> cases h1
      · cases h1
    · rename_i x1 S1 e1
      cases h1
      exact h.exc e1 rel h2
    · cases h1
/-- range's items -/
def iRng (ms : M (List R.D)) : M (List R.D) := fun S => match ms S with
  | .ok [.int j] S1 => if smallI j then .ok (rangeD 0 j.toNat) S1 else .bad
  | .ok [.int i, .int j] S1 => if smallI i && smallI j then .ok (rangeD i (j - i).toNat) S1 else .bad
  | .ok _ _ => .bad
  | .exc x S1 => .exc x S1
  | .bad => .bad
/-- three of them -/
def rangeD3 (i c : Int) (n : Nat) : List R.D := (List.range n).map fun t => .int (i + (t : Nat) * c)
def rngN (i j c : Int) : Nat := (Builtin.Range.rangeSize i j c).toNat
def rng3Ok (i j c : Int) : Bool := smallI i && smallI j && decide (c = -1)
def iRng1M (ms : M (List R.D)) : M (List R.D) := fun S => match ms S with
  | .ok [.int j] S1 => if smallI j then .ok (rangeD 0 j.toNat) S1 else .bad
  | .ok _ _ => .bad
  | .exc x S1 => .exc x S1
  | .bad => .bad
def iRng2M (ms : M (List R.D)) : M (List R.D) := fun S => match ms S with
  | .ok [.int i, .int j] S1 => if smallI i && smallI j then .ok (rangeD i (j - i).toNat) S1 else .bad
  | .ok _ _ => .bad
  | .exc x S1 => .exc x S1
  | .bad => .bad
end
def isTup : Expr → Bool
  | .Tuple _ _ _ => true
  | _ => false
def foldSet : Expr → Bool
  | .Set _ _ _ => false
  | _ => true
end R

set_option Elab.async false
set_option linter.all false
set_option maxRecDepth 100000
set_option maxHeartbeats 2000000
/-! R16: enumerate over a list or a tuple, from any count. -/
namespace R
open PySem PySem.Spec PyProof.Rows L2

section
variable {X : Cx} {pins : List (Addr × Obj)} {σ : L2.St} {H : Hp} {s : Shared} {a b : Addr} {xs : List V}
/-- what an iterator's own record is not: a written or a tracked sequence -/
theorem fp_neK (I : Inv X pins σ H s) (f : FpOk X pins H b) {o : Obj} (h : X.K.lookup a = some o) : b ≠ a := fun e => by
  subst e
  have hb := I.ok.mod.kin b o h
  rcases f.2.2.2.1 with q | q
  · exact I.ok.noex b o hb q
  · exact absurd (Nat.lt_of_lt_of_le (Heap.lt_size hb) I.ok.bsz) (Nat.not_lt.mpr q)
theorem fp_neL (I : Inv X pins σ H s) (f : FpOk X pins H b) (h : SqL X.K H a xs) : b ≠ a := by
  rcases h with h | ⟨o, _, _, hk, _⟩
  · rintro rfl
    rcases h with h | ⟨_, h⟩ <;> (rw [f.1] at h; cases h)
  · exact fp_neK I f hk
theorem fp_neT (I : Inv X pins σ H s) (f : FpOk X pins H b) (h : SqT X.K H a xs) : b ≠ a := by
  rcases h with h | ⟨o, _, _, hk, _⟩
  · rintro rfl
    rcases h with h | ⟨_, h⟩ <;> (rw [f.1] at h; cases h)
  · exact fp_neK I f hk
end
/-- a sequence that is walked (q: its items by the heap), its iterator's record (it) -/
structure SeqW (K : PySem.W.Frag) (q : Hp → List V → Prop) (it : Heap → Addr → Nat → Prop) : Prop where
  inj : ∀ {X : Cx} {pins : List (Addr × Obj)} {σ : L2.St} {H : Hp} {s : Shared} {xs ys : List V}, X.K = K → Inv X pins σ H s → q H xs → q H ys → xs = ys
  ob : ∀ {h : Heap} {i : Addr} {j : Nat}, it h i j → ∃ o, h.get? i = some o ∧ ∀ v, o.data ≠ .cell v
  move : ∀ {h h' : Heap} {i : Addr} {j : Nat}, it h i j → (∀ o, h.get? i = some o → h'.get? i = some o) → it h' i j
  dr : ∀ {X : Cx} {pins : List (Addr × Obj)} {σ : L2.St} {H : Hp} {s : Shared} {xs : List V} {i : Addr} {j : Nat}, X.K = K → X.calm = true → Inv X pins σ H s → FpOk X pins H i → q H xs → it s.heap i j →
    ∃ (fp : List Addr) (Pd : Nat → Value → Prop) (St : Nat → Heap → Prop), Draws X.prog X.w X.A.in1 i fp xs.length Pd St ∧ St j s.heap ∧ i ∈ fp ∧ (∀ b, FpOk X pins H b → b ≠ i → b ∉ fp) ∧ (∀ k v, Pd k v → ∃ x, xs[k]? = some x ∧ RelV x v) ∧ ∀ h k, St k h → it h i k
theorem vals_at {xs : List V} {its : List Value} (rv : Vals xs its) {k : Nat} {v : Value} (h : its.toArray[k]? = some v) : ∃ x, xs[k]? = some x ∧ RelV x v := by
  have hi : its[k]? = some v := by simpa using h
  have hk : k < xs.length := by
    rw [rv.length]
    exact (List.getElem?_eq_some_iff.mp hi).1
  obtain ⟨u, hu, ru⟩ := rv.get (List.getElem?_eq_getElem hk)
  rw [hi] at hu
  cases hu
  exact ⟨_, List.getElem?_eq_getElem hk, ru⟩
theorem seqw_list {K : PySem.W.Frag} {a : Addr} : SeqW K (fun H xs => SqL K H a xs) (fun h i j => h.IsListIter i a j) where
  inj := fun hK I h1 h2 => by subst hK; exact I.list_inj h1 h2
  ob := fun ⟨o, ho, hc, hd⟩ => ⟨o, ho, fun v q => by rw [hd] at q; cases q⟩
  move := fun h k => h.at k
  dr := fun {X pins σ H s xs i j} hK hc I fi hq hit => by
    subst hK
    obtain ⟨its, rv, p, _⟩ := I.list hq
    have hn : a ≠ i := (fp_neL I fi hq).symm
    have hl : its.toArray.size = xs.length := by
      have := rv.length
      simp only [List.size_toArray]; omega
    have D : Draws X.prog X.w X.A.in1 i [i, a] its.toArray.size (fun k v => its.toArray[k]? = some v) (fun k h => h.IsListIter i a k ∧ h.IsList a its.toArray) := Draws.list (A := X.A.in1) (show X.A.handled = none from I.ok.hd hc) i a hn its.toArray
    rw [hl] at D
    refine ⟨[i, a], _, _, D, ⟨hit, p.isList⟩, List.mem_cons_self, fun b fb hb hm => ?_, fun k v h => vals_at rv h, fun h k st => st.1⟩
    rcases List.mem_cons.mp hm with z | z
    · exact hb z
    · exact fp_neL I fb hq (List.mem_singleton.mp z)
theorem seqw_tup {K : PySem.W.Frag} {a : Addr} : SeqW K (fun H xs => SqT K H a xs) (fun h i j => h.IsTupleIter i a j) where
  inj := fun hK I h1 h2 => by subst hK; exact I.tuple_inj h1 h2
  ob := fun ⟨o, ho, hc, hd⟩ => ⟨o, ho, fun v q => by rw [hd] at q; cases q⟩
  move := fun h k => h.at k
  dr := fun {X pins σ H s xs i j} hK hc I fi hq hit => by
    subst hK
    obtain ⟨its, rv, p, _⟩ := I.tuple hq
    have hn : a ≠ i := (fp_neT I fi hq).symm
    have hl : its.toArray.size = xs.length := by
      have := rv.length
      simp only [List.size_toArray]; omega
    have D : Draws X.prog X.w X.A.in1 i [i, a] its.toArray.size (fun k v => its.toArray[k]? = some v) (fun k h => h.IsTupleIter i a k ∧ h.IsTuple a its.toArray) := Draws.tuple (A := X.A.in1) (show X.A.handled = none from I.ok.hd hc) i a hn its.toArray
    rw [hl] at D
    refine ⟨[i, a], _, _, D, ⟨hit, p⟩, List.mem_cons_self, fun b fb hb hm => ?_, fun k v h => vals_at rv h, fun h k st => st.1⟩
    rcases List.mem_cons.mp hm with z | z
    · exact hb z
    · exact fp_neT I fb hq (List.mem_singleton.mp z)
/-- a text's signs, as values -/
def signV (z : Str) : List V := z.cps.toList.map fun c => .str ⟨#[c]⟩
theorem seqw_str {K : PySem.W.Frag} {z : Str} {t : Tok} : SeqW K (fun _ xs => xs = signV z) (fun h i j => h.IsStrIter i (strIterType z) z t j) where
  inj := fun _ _ h1 h2 => h1.trans h2.symm
  ob := fun ⟨o, ho, hc, hd⟩ => ⟨o, ho, fun v q => by rw [hd] at q; cases q⟩
  move := fun ⟨o, ho, hc, hd⟩ k => ⟨o, k o ho, hc, hd⟩
  dr := fun {X pins σ H s xs i j} hK hc I fi hq hit => by
    subst hq
    have hl : z.cps.size = (signV z).length := by unfold signV; rw [List.length_map, Array.length_toList]
    have D : Draws X.prog X.w X.A.in1 i [i] z.cps.size (fun k v => ∃ c u, z.cps[k]? = some c ∧ v = .str ⟨#[c]⟩ u) (fun k h => h.IsStrIter i (strIterType z) z t k) := Draws.text (A := X.A.in1) (show X.A.handled = none from I.ok.hd hc) i z t
    rw [hl] at D
    refine ⟨[i], _, _, D, hit, List.mem_cons_self, fun b fb hb hm => hb (List.mem_singleton.mp hm), fun k v h => ?_, fun h k st => st⟩
    obtain ⟨c, u, h1, rfl⟩ := h
    refine ⟨.str ⟨#[c]⟩, ?_, ⟨u, rfl⟩⟩
    unfold signV
    rw [List.getElem?_map, Array.getElem?_toList, h1]; rfl
/-- the pairs (c + i, the i-th) -/
def Itec (q : Hp → List V → Prop) (c : Int) : It :=
  ⟨fun i H => ∃ (xs : List V) (x : V), q H xs ∧ xs[i]? = some x, fun i H v H' => ∃ T x, v = .ref T ∧ H T = none ∧ H' = upd H T (.tup [.int (c + (i : Nat)), x]) ∧ ∀ xs, q H xs → xs[i]? = some x, fun i H => ∃ xs : List V, q H xs ∧ xs.length = i⟩
/-- the count and the sequence's own iterator stand at turn i -/
def EnumAt (it : Heap → Addr → Nat → Prop) (c : Int) (e i : Addr) (j : Nat) (h : Heap) : Prop := (∃ old, IsEnum h e i (c + (j : Nat)) old) ∧ it h i j ∧ e ≠ i
section
variable {P : Program} {w : World} {K : PySem.W.Frag} {q : Hp → List V → Prop} {it : Heap → Addr → Nat → Prop}
theorem in2 {e i : Addr} : i ∈ [e, i] := List.mem_cons_of_mem _ (List.mem_singleton.mpr rfl)
theorem turn_ec (S : SeqW K q it) {elts : List Expr} {kk : Nat} {tpos : Pos} (c : Int) (e i : Addr) : Turn P w K (.Tuple elts kk tpos) (Itec q c) [e, i] e (EnumAt it c e i) where
  mem := List.mem_cons_self
  obj := fun j h ⟨⟨old, he⟩, hi, _⟩ b hb => by
    rcases List.mem_cons.mp hb with rfl | hb
    · exact ⟨_, he, fun v z => nomatch z⟩
    · rw [List.mem_singleton.mp hb]; exact S.ob hi
  keep := fun j h h' ⟨⟨old, he⟩, hi, hne⟩ k => ⟨⟨old, k e List.mem_cons_self _ he⟩, S.move hi (k i in2), hne⟩
  item := by
    intro X hP hw hK hc j pins s σ H E I hf ⟨⟨old, he⟩, hi, hne⟩ ⟨xs, x, hq, hx⟩
    subst hP hw
    obtain ⟨fp, Pd, St, D, st, him, hout, hv, back⟩ := S.dr hK hc I (hf i in2) hq hi
    have hlt : j < xs.length := (List.getElem?_eq_some_iff.mp hx).1
    have hel : e < s.heap.objs.size := Heap.lt_size he
    have hil : i < s.heap.objs.size := by obtain ⟨o, ho, _⟩ := S.ob hi; exact Heap.lt_size ho
    refine wpAny_pyNext_enum_itemC D he st hlt hne (hout e (hf e List.mem_cons_self) hne) fun x' h' tk hx' ho st' hT hsz hk => ⟨_, rfl, ?_⟩
    obtain ⟨y, hy, ru⟩ := hv j x' hx'
    rw [hx] at hy
    cases hy
    have hi' := back h' (j + 1) st'
    refine wpAny_letOwnedTupleGo_enum (s := { s with heap := h', toks := tk + 1 }) ho fun h2 he2 sb => ?_
    have hT2 : h2.get? s.heap.objs.size = some { cls := .type "tuple", data := .seq #[.int (c + (j : Nat)) tk, x'] } := (sb.2 _ (Nat.ne_of_gt hel)).trans hT
    have new : ObjOk X.prog X.w (upd H s.heap.objs.size (.tup [.int (c + (j : Nat)), x])) h2 s.heap.objs.size (.tup [.int (c + (j : Nat)), x]) :=
      ⟨by show 2 ≤ sizeLine; decide, [.int (c + (j : Nat)) tk, x'], .cons ⟨_, rfl⟩ (.cons ru .nil), ⟨_, hT2, rfl, _, rfl⟩⟩
    have I1 : Inv X pins σ (upd H s.heap.objs.size (.tup [.int (c + (j : Nat)), x])) { s with heap := h2, toks := tk + 1 } :=
      I.turnedNew (ch := [e, i]) (fun b ob hb z => (sb.2 b fun y => hb (by rw [y]; exact List.mem_cons_self)).trans (hk b ob (fun y => hb (by rw [y]; exact List.mem_cons_self)) (fun y => hb (by rw [y]; exact in2)) z)) hf (Nat.le_refl _) new
    refine ⟨.ref s.heap.objs.size, _, I1, rfl, ⟨_, x, rfl, I.hok.fresh (Nat.le_refl _), rfl, fun ys hy => by rw [S.inj hK I hy hq]; exact hx⟩, ⟨⟨x', ?_⟩, S.move hi' fun o z => (sb.2 i (Ne.symm hne)).trans z, hne⟩, fun b hb => ?_⟩
    · have e1 : c + ((j + 1 : Nat) : Int) = c + (j : Nat) + 1 := by omega
      rw [e1]; exact he2
    · rw [upd_ne]
      · exact (hf b hb).1
      · rcases List.mem_cons.mp hb with z | z
        · rw [z]; exact Nat.ne_of_lt hel
        · rw [List.mem_singleton.mp z]; exact Nat.ne_of_lt hil
  done := by
    intro X hP hw hK hc j pins s σ H E I hf ⟨⟨old, he⟩, hi, hne⟩ ⟨xs, hq, hx⟩
    subst hP hw hx
    obtain ⟨f0, f1, f2, f3, f4, f5⟩ := hf i in2
    obtain ⟨fp, Pd, St, D, st, _⟩ := S.dr hK hc I (hf i in2) hq hi
    exact wpAny_pyNext_enum_endD D he st fun h' eb => ⟨rfl, I.turned (t' := s.toks) (fun b o hb z => eb b o hb z) f0 f1 f3 f4 f5⟩
  self := fun A j s Q E ⟨⟨_, he⟩, _⟩ h => wpAny_pyIter_enum he h
end

/-! ### what can be walked, by its value -/
/-- x is a list, a tuple or a text; q tells its items -/
def Walkable (K : PySem.W.Frag) (x : V) (q : Hp → List V → Prop) : Prop :=
  (∃ a, x = .ref a ∧ q = fun H xs => SqL K H a xs) ∨ (∃ a, x = .ref a ∧ q = fun H xs => SqT K H a xs) ∨ ∃ z, x = .str z ∧ q = fun _ xs => xs = signV z
theorem walkable {X : Cx} {pins : List (Addr × Obj)} {σ : L2.St} {H : Hp} {s : Shared} {x : V} {u : Value} {q : Hp → List V → Prop} {xs : List V} (w : Walkable X.K x q) (I : Inv X pins σ H s) (r : RelV x u) (hq : q H xs) :
    ∃ (o : Obj) (Hh : Heap → Prop) (it : Heap → Addr → Nat → Prop), Begins u o Hh ∧ Hh s.heap ∧ SeqW X.K q it ∧ ∀ h' i, h'.get? i = some o → it h' i 0 := by
  rcases w with ⟨a, rfl, rfl⟩ | ⟨a, rfl, rfl⟩ | ⟨z, rfl, rfl⟩
  · cases r
    obtain ⟨its, _, pl, _⟩ := I.list hq
    exact ⟨_, _, _, begins_list a its.toArray, pl.isList, seqw_list, fun h' i e => ⟨_, e, rfl, rfl⟩⟩
  · cases r
    obtain ⟨its, _, pl, _⟩ := I.tuple hq
    exact ⟨_, _, _, begins_tuple a its.toArray, pl, seqw_tup, fun h' i e => ⟨_, e, rfl, rfl⟩⟩
  · obtain ⟨t, rfl⟩ := r
    exact ⟨_, _, _, begins_text z t, trivial, seqw_str (t := t), fun h' i e => ⟨_, e, rfl, rfl⟩⟩
/-- enumerate(v, c) -/
def iEc (K : PySem.W.Frag) (ta : TA) : TI := fun σ H R => ta σ H fun vs H1 => ∃ (x : V) (q : Hp → List V → Prop) (xs : List V) (c : Int), (vs = [x, .int c] ∧ -(2 ^ 62) ≤ c ∧ c < 2 ^ 62) ∧ Walkable K x q ∧ q H1 xs ∧ R (Itec q c) H1
/-- enumerate(v) -/
def iEc1 (K : PySem.W.Frag) (ta : TA) : TI := fun σ H R => ta σ H fun vs H1 => ∃ (x : V) (q : Hp → List V → Prop) (xs : List V), vs = [x] ∧ Walkable K x q ∧ q H1 xs ∧ R (Itec q 0) H1
section
variable {X : Cx} {elts : List Expr} {kk : Nat} {tpos p pos : Pos} {e e2 : Expr} {ta : TA}
/-- an enumerate object just made, walked -/
theorem enum_it {pins : List (Addr × Obj)} {σ : L2.St} {H : Hp} {s1 : Shared} {R : It → Hp → Prop} {q : Hp → List V → Prop} {it : Heap → Addr → Nat → Prop} (S : SeqW X.K q it) {c : Int} {h' : Heap} (I1 : Inv X pins σ H s1)
    (he : IsEnum h' (s1.heap.objs.size + 1) s1.heap.objs.size c .none) (hit : it h' s1.heap.objs.size 0) (hk : ∀ b o, s1.heap.get? b = some o → h'.get? b = some o) (r : R (Itec q c) H) :
    PIE X pins σ (.Tuple elts kk tpos) R (.ref (s1.heap.objs.size + 1)) { s1 with heap := h' } := by
  refine ⟨s1.heap.objs.size + 1, [s1.heap.objs.size + 1, s1.heap.objs.size], _, _, H, rfl, I1.kept (t' := s1.toks) hk, turn_ec S c (s1.heap.objs.size + 1) s1.heap.objs.size, ⟨⟨.none, ?_⟩, hit, Nat.succ_ne_self _⟩, fun b hb => ?_, r⟩
  · have e1 : c + ((0 : Nat) : Int) = c := by simp
    rw [e1]; exact he
  · have hle : s1.heap.objs.size ≤ b := by
      rcases List.mem_cons.mp hb with z | z
      · rw [z]; exact Nat.le_add_right _ _
      · rw [List.mem_singleton.mp z]; exact Nat.le_refl _
    exact I1.fpOk hle (I1.hok.fresh hle)
theorem pi_ec (hg : Gl X "enumerate") (hm : X.mg "enumerate" = none) (ha : PA X [e, e2] ta) (hs : starEach [e, e2] X.env = (false, eval e X.env) :: starEach [e2] X.env) (hpl : (backTo pos (starEach [e2] X.env)).any (·.1) = false) :
    PI X (.Tuple elts kk tpos) (.Call (.Name "enumerate" p) [e, e2] [] pos) (iEc X.K ta) := by
  refine ⟨fun pins s σ H R I h => ?_⟩
  refine Call_ (ld_blt I hg hm boot_enumerate (PyProof.Rows.callWith_type1 (thn (ha.run pos pins s σ H _ I h) fun us s1 ⟨vs, H1, I1, r1, q1⟩ => ?_) hs hpl))
  obtain ⟨x, q, xs, c, ⟨rfl, hc1, hc2⟩, hw, hq, r⟩ := q1
  cases r1 with
  | cons rx rr =>
    cases rr with
    | cons r' rr =>
      cases rr
      obtain ⟨t, rfl⟩ := r'
      obtain ⟨o, Hh, it, B, hH, S, h0⟩ := walkable hw I1 rx hq
      exact enum_begins B hH (by omega) (by omega) fun h' he hit hsz hk => wpAny_pyIter_enum he (enum_it S I1 he (h0 _ _ hit) hk r)
set_option maxHeartbeats 2000000 in
/-- enumerate.__new__ of what can be walked, without a count -/
theorem enum_new1 {v : Value} {o : Obj} {Hh : Heap → Prop} (B : Begins v o Hh) :
    Meets (Builtin.«enumerate.__new__» ⟨[.type "enumerate", v], []⟩) (fun _ R s => Hh s.heap ∧
      R (.ok (.ret (.ref (s.heap.push o).objs.size))) { s with heap := (s.heap.push o).push { cls := .type "enumerate", data := .fields #[.none, .bool false, .ref s.heap.objs.size, rawInt 0, .none, .none] } }) :=
  .of_wp fun P w A R s hs => by
    obtain ⟨hp, g, d, tk, os⟩ := s
    obtain ⟨hB, hR⟩ := hs
    have sub := sub_enumerate
    have go : ∀ {A' : Around} {E : Value → Shared → Prop} {Q : Value → Shared → Prop}, Q (.ref hp.objs.size) ⟨hp.push o, g, d, tk, os⟩ → wpAny (model P w) A' (pyIter v) Q E ⟨hp, g, d, tk, os⟩ :=
      fun q => B.iter P w _ _ ⟨hp, g, d, tk, os⟩ _ hB q
    wp_walk using go
    refine wpAny_stack_any fun st => wpAny_pure ?_
    split
    · rename_i cc _ _ _ _ _
      cases hcc : (cc == Value.type "enumerate") <;>
        (wp_walk using go
         exact ⟨_, rfl, hR⟩)
    · wp_walk using go
      exact ⟨_, rfl, hR⟩
theorem enum_begins1 {P : Program} {w : World} {A : Around} {E : Value → Shared → Prop} {s : Shared} {v : Value} {o : Obj} {Hh : Heap → Prop} {Q : Value → Shared → Prop} (B : Begins v o Hh) (h1 : Hh s.heap)
    (h : ∀ h', IsEnum h' (s.heap.objs.size + 1) s.heap.objs.size 0 .none → h'.get? s.heap.objs.size = some o → (∀ b o, s.heap.get? b = some o → h'.get? b = some o) → Q (.ref (s.heap.objs.size + 1)) { s with heap := h' }) :
    wpAny (model P w) A (call (.type "enumerate") [v]) Q E s := by
  have hz : (s.heap.push o).objs.size = s.heap.objs.size + 1 := Heap.size_push ..
  refine callType_new F.called_enumerate (by decide) (F.typeCall_enumerate_1 _) (F.newCall_enumerate_1 _) (fun obj => F.args_object_init_2 obj _) F.entry_enumerate_new (enum_new1 B) ⟨h1, ?_⟩
  have he := Heap.get?_push_size (s.heap.push o) (o := { cls := .type "enumerate", data := .fields #[.none, .bool false, .ref s.heap.objs.size, rawInt 0, .none, .none] }) rfl
  show _ ∧ _
  rw [hz] at he ⊢
  exact ⟨⟨_, he, rfl⟩, h _ he (Heap.get?_push_of_some _ (Heap.get?_push_size _ B.free)) fun b o x => Heap.get?_push_of_some _ (Heap.get?_push_of_some _ x)⟩
theorem pi_ec1 (hg : Gl X "enumerate") (hm : X.mg "enumerate" = none) (ha : PA X [e] ta) (hs : starEach [e] X.env = [(false, eval e X.env)]) :
    PI X (.Tuple elts kk tpos) (.Call (.Name "enumerate" p) [e] [] pos) (iEc1 X.K ta) := by
  refine ⟨fun pins s σ H R I h => ?_⟩
  refine Call_ (ld_blt I hg hm boot_enumerate (PyProof.Rows.callWith_type1 (thn (ha.run pos pins s σ H _ I h) fun us s1 ⟨vs, H1, I1, r1, q1⟩ => ?_) hs rfl))
  obtain ⟨x, q, xs, rfl, hw, hq, r⟩ := q1
  cases r1 with
  | cons rx rr =>
    cases rr
    obtain ⟨o, Hh, it, B, hH, S, h0⟩ := walkable hw I1 rx hq
    exact enum_begins1 B hH fun h' he hit hk => wpAny_pyIter_enum he (enum_it S I1 he (h0 _ _ hit) hk r)
end
end R

set_option Elab.async false
set_option linter.all false
set_option maxRecDepth 100000
set_option maxHeartbeats 2000000
/-! R16Z: zip over two sequences of any kind. -/
namespace R
open PySem PySem.Spec PyProof.Rows L2

def Itzz (q1 q2 : Hp → List V → Prop) : It :=
  ⟨fun i H => ∃ (xs ys : List V) (x y : V), q1 H xs ∧ q2 H ys ∧ xs[i]? = some x ∧ ys[i]? = some y,
    fun i H v H' => ∃ T x y, v = .ref T ∧ H T = none ∧ H' = upd H T (.tup [x, y]) ∧ (∀ xs, q1 H xs → xs[i]? = some x) ∧ ∀ ys, q2 H ys → ys[i]? = some y,
    fun i H => ∃ xs ys : List V, q1 H xs ∧ q2 H ys ∧ i = min xs.length ys.length⟩
/-- the five records lie apart -/
structure Ap5 (z TI TO i1 i2 : Addr) : Prop where
  a1 : TI ≠ z
  a2 : TO ≠ z
  a3 : TI ≠ TO
  a4 : TI ≠ i1
  a5 : TI ≠ i2
  a6 : z ≠ i1
  a7 : z ≠ i2
  a8 : TO ≠ i1
  a9 : TO ≠ i2
  a10 : i1 ≠ i2
def ZipAt (it1 it2 : Heap → Addr → Nat → Prop) (z TI TO i1 i2 : Addr) (j : Nat) (h : Heap) : Prop :=
  IsZip h z TI TO .none ∧ IsTupOf2 h TI (.ref i1) (.ref i2) ∧ (∃ a b, IsTupOf2 h TO a b) ∧ it1 h i1 j ∧ it2 h i2 j
section
variable {P : Program} {w : World} {K : PySem.W.Frag} {q1 q2 : Hp → List V → Prop} {it1 it2 : Heap → Addr → Nat → Prop} {z TI TO i1 i2 : Addr}
theorem in5 {c : Addr} (h : c ∈ [z, TI, TO, i1, i2]) : c = z ∨ c = TI ∨ c = TO ∨ c = i1 ∨ c = i2 := by simpa using h
theorem turn_zz (S1 : SeqW K q1 it1) (S2 : SeqW K q2 it2) (A : Ap5 z TI TO i1 i2) {elts : List Expr} {kk : Nat} {tpos : Pos} : Turn P w K (.Tuple elts kk tpos) (Itzz q1 q2) [z, TI, TO, i1, i2] z (ZipAt it1 it2 z TI TO i1 i2) where
  mem := List.mem_cons_self
  obj := fun j h ⟨hz, hTI, ⟨_, _, hTO⟩, h1, h2⟩ b hb => by
    rcases in5 hb with e | e | e | e | e <;> subst e
    · exact ⟨_, hz, fun v q => nomatch q⟩
    · exact ⟨_, hTI, fun v q => nomatch q⟩
    · exact ⟨_, hTO, fun v q => nomatch q⟩
    · exact S1.ob h1
    · exact S2.ob h2
  keep := fun j h h' ⟨hz, hTI, ⟨a, b, hTO⟩, h1, h2⟩ k =>
    ⟨k z (by simp) _ hz, k TI (by simp) _ hTI, ⟨a, b, k TO (by simp) _ hTO⟩, S1.move h1 fun o e => k i1 (by simp) o e, S2.move h2 fun o e => k i2 (by simp) o e⟩
  item := by
    intro X hP hw hK hc j pins s σ H E I hf ⟨hz, hTI, ⟨_, _, hTO⟩, h1, h2⟩ ⟨xs, ys, x, y, hq1, hq2, hx, hy⟩
    subst hP hw
    have fz := hf z (by simp)
    have fT := hf TO (by simp)
    have f1 := hf i1 (by simp)
    have f2 := hf i2 (by simp)
    obtain ⟨fp1, P1, St1, D1, st1, m1, out1, v1, back1⟩ := S1.dr hK hc I f1 hq1 h1
    obtain ⟨fp2, P2, St2, D2, st2, m2, out2, v2, back2⟩ := S2.dr hK hc I f2 hq2 h2
    have sep : ZipSep2 z TI TO i1 i2 fp1 fp2 := ⟨A.a1, A.a2, A.a3, A.a4, m1, out1 z fz A.a6, out1 TO fT A.a8, A.a5, m2, out2 z fz A.a7, out2 TO fT A.a9, out2 i1 f1 A.a10, out1 i2 f2 (Ne.symm A.a10)⟩
    have hzl : z < s.heap.objs.size := Heap.lt_size hz
    refine wpAny_pyNext_zipD2_item sep D1 D2 hz hTI hTO st1 st2 (List.getElem?_eq_some_iff.mp hx).1 (List.getElem?_eq_some_iff.mp hy).1 fun x1 x2 h' tk y1 y2 z' TO' d1 d2 hT hsz hk => ⟨_, rfl, ?_⟩
    obtain ⟨x', ex, r1⟩ := v1 j x1 y1
    rw [hx] at ex
    cases ex
    obtain ⟨y', ey, r2⟩ := v2 j x2 y2
    rw [hy] at ey
    cases ey
    have k1 := back1 h' (j + 1) d1
    have k2 := back2 h' (j + 1) d2
    refine wpAny_letOwnedTupleGo_zip (s := { s with heap := h', toks := tk }) z' fun h3 z3 sb => ?_
    have hT2 : h3.get? s.heap.objs.size = some { cls := .type "tuple", data := .seq #[x1, x2] } := (sb.2 _ (Nat.ne_of_gt hzl)).trans hT
    have new : ObjOk X.prog X.w (upd H s.heap.objs.size (.tup [x, y])) h3 s.heap.objs.size (.tup [x, y]) :=
      ⟨by show 2 ≤ sizeLine; decide, [x1, x2], .cons r1 (.cons r2 .nil), ⟨_, hT2, rfl, _, rfl⟩⟩
    have I1 : Inv X pins σ (upd H s.heap.objs.size (.tup [x, y])) { s with heap := h3, toks := tk } :=
      I.turnedNew (t' := tk) (ch := [z, TI, TO, i1, i2]) (fun c o hb e => (sb.2 c fun y => hb (by simp [y])).trans (hk c o (fun y => hb (by simp [y])) (fun y => hb (by simp [y])) (fun y => hb (by simp [y])) (fun y => hb (by simp [y])) e)) hf (Nat.le_refl _) new
    refine ⟨.ref s.heap.objs.size, _, I1, rfl, ⟨_, x, y, rfl, I.hok.fresh (Nat.le_refl _), rfl, fun l hl => by rw [S1.inj hK I hl hq1]; exact hx, fun l hl => by rw [S2.inj hK I hl hq2]; exact hy⟩, ⟨z3, ?_, ⟨x1, x2, ?_⟩, ?_, ?_⟩, fun c hcm => ?_⟩
    · exact (sb.2 _ A.a1).trans (hk _ _ A.a1 A.a3 A.a4 A.a5 hTI)
    · exact (sb.2 _ A.a2).trans TO'
    · exact S1.move k1 fun o e => (sb.2 _ (Ne.symm A.a6)).trans e
    · exact S2.move k2 fun o e => (sb.2 _ (Ne.symm A.a7)).trans e
    · have hlt : c < s.heap.objs.size := by
        rcases in5 hcm with e | e | e | e | e <;> subst e
        · exact hzl
        · exact Heap.lt_size hTI
        · exact Heap.lt_size hTO
        · obtain ⟨_, e1, _⟩ := S1.ob h1; exact Heap.lt_size e1
        · obtain ⟨_, e2, _⟩ := S2.ob h2; exact Heap.lt_size e2
      rw [upd_ne (Nat.ne_of_lt hlt)]
      exact (hf c hcm).1
  done := by
    intro X hP hw hK hc j pins s σ H E I hf ⟨hz, hTI, ⟨_, _, hTO⟩, h1, h2⟩ ⟨xs, ys, hq1, hq2, hj⟩
    subst hP hw
    have fz := hf z (by simp)
    have fT := hf TO (by simp)
    have f1 := hf i1 (by simp)
    have f2 := hf i2 (by simp)
    obtain ⟨fp1, P1, St1, D1, st1, m1, out1, _⟩ := S1.dr hK hc I f1 hq1 h1
    obtain ⟨fp2, P2, St2, D2, st2, m2, out2, _⟩ := S2.dr hK hc I f2 hq2 h2
    have sep : ZipSep2 z TI TO i1 i2 fp1 fp2 := ⟨A.a1, A.a2, A.a3, A.a4, m1, out1 z fz A.a6, out1 TO fT A.a8, A.a5, m2, out2 z fz A.a7, out2 TO fT A.a9, out2 i1 f1 A.a10, out1 i2 f2 (Ne.symm A.a10)⟩
    exact wpAny_pyNext_zipD2_end sep D1 D2 hz hTI hTO st1 st2 (by omega) (by omega) (by omega) fun h' tk hk => ⟨rfl, I.turnedL (t' := tk) (ch := [z, TI, TO, i1, i2]) (fun c o hb e =>
      hk c o (fun y => hb (by simp [y])) (fun y => hb (by simp [y])) (fun y => hb (by simp [y])) (fun y => hb (by simp [y])) e) hf⟩
  self := fun A' j s Q E ⟨hz, _⟩ h => wpAny_pyIter_zip hz h
end
/-- zip(v, u) -/
def iZz (K : PySem.W.Frag) (ta : TA) : TI := fun σ H R => ta σ H fun vs H1 => ∃ (x y : V) (q1 q2 : Hp → List V → Prop) (xs ys : List V), vs = [x, y] ∧ Walkable K x q1 ∧ Walkable K y q2 ∧ q1 H1 xs ∧ q2 H1 ys ∧ R (Itzz q1 q2) H1
theorem pi_zz {X : Cx} {elts : List Expr} {kk : Nat} {tpos p pos : Pos} {e e2 : Expr} {ta : TA} (hg : Gl X "zip") (hm : X.mg "zip" = none) (ha : PA X [e, e2] ta) (hs : starEach [e, e2] X.env = (false, eval e X.env) :: starEach [e2] X.env) (hpl : (backTo pos (starEach [e2] X.env)).any (·.1) = false) :
    PI X (.Tuple elts kk tpos) (.Call (.Name "zip" p) [e, e2] [] pos) (iZz X.K ta) := by
  refine ⟨fun pins s σ H R I h => ?_⟩
  refine Call_ (ld_blt I hg hm PyProof.Rows.boot_zip (PyProof.Rows.callWith_type1 (thn (ha.run pos pins s σ H _ I h) fun us s1 ⟨vs, H1, I1, r1, q1⟩ => ?_) hs hpl))
  obtain ⟨x, y, q1, q2, xs, ys, rfl, w1, w2, hq1, hq2, r⟩ := q1
  cases r1 with
  | cons rx rr =>
    cases rr with
    | cons ry rr =>
      cases rr
      obtain ⟨o1, Hh1, it1, B1, hH1, S1, k1⟩ := walkable w1 I1 rx hq1
      obtain ⟨o2, Hh2, it2, B2, hH2, S2, k2⟩ := walkable w2 I1 ry hq2
      refine zip_begins2 B1 B2 hH1 hH2 fun h' hz hTI hTO g1 g2 hsz hk => wpAny_pyIter_zip hz ?_
      refine ⟨s1.heap.objs.size + 4, _, _, _, H1, rfl, I1.kept (t' := s1.toks) hk, turn_zz S1 S2 (TI := s1.heap.objs.size + 2) (TO := s1.heap.objs.size + 3) (i1 := s1.heap.objs.size) (i2 := s1.heap.objs.size + 1) ?_, ⟨hz, hTI, ⟨_, _, hTO⟩, k1 _ _ g1, k2 _ _ g2⟩, fun c hc => ?_, r⟩
      · constructor <;> (intro e; have : ∀ a b : Nat, a = b → (a : Nat) = b := fun _ _ h => h; have := this _ _ e; omega)
      · have hle : s1.heap.objs.size ≤ c := by
          rcases in5 hc with e | e | e | e | e <;> (rw [e]; first | exact Nat.le_refl _ | exact Nat.le_add_right _ _)
        exact I1.fpOk hle (I1.hok.fresh hle)
end R

set_option Elab.async false
set_option linter.all false
set_option maxRecDepth 100000
set_option maxHeartbeats 2000000
/-! R17: what is walked, comprehensions, the whole of an expression (den), and that it is right. -/
namespace R
open PySem PySem.Spec PyProof.Rows L2

/-! ### enumerate -/
def enumD : Int → List R.D → List R.D
  | _, [] => []
  | c, d :: ds => .tup [.int c, d] :: enumD (c + 1) ds
theorem enumD_get : ∀ (c : Int) (ds : List R.D) (j : Nat), (enumD c ds)[j]? = (ds[j]?).map fun d => R.D.tup [.int (c + (j : Nat)), d]
  | _, [], _ => rfl
  | c, d :: ds, 0 => by simp [enumD]
  | c, d :: ds, j + 1 => by
    rw [enumD, List.getElem?_cons_succ, enumD_get (c + 1) ds j, List.getElem?_cons_succ]
    have : c + 1 + (j : Int) = c + ((j + 1 : Nat) : Int) := by omega
    rw [this]
theorem enumD_length : ∀ (c : Int) (ds : List R.D), (enumD c ds).length = ds.length
  | _, [] => rfl
  | c, d :: ds => by rw [enumD, List.length_cons, List.length_cons, enumD_length (c + 1) ds]
section
variable {cl : Cls} {X : Cx} {W : WX} {q q1 q2 : Bool} {en : Entry} {S : State} {σ : L2.St} {H : Hp} {O : Own} {Z : Sh} {e e2 : Expr}
theorem itOk_enum {J : It} {c : Int} {xs : List V} {ds : List R.D} {F : List Addr} {G : Hp → Prop} (w : Walk J xs.length G (YPair (fun i => some (.int (c + (i : Nat)))) (fun i => xs[i]?))) (rel : Rel X.K en S σ H O Z) (p : Reps X.K H xs ds F) (z : ∀ a ∈ F, Z a) (g : ∀ O2 Z2 H2, Evo O Z H O2 Z2 H2 → G H2) : ItOk X.K J (enumD c ds) H O Z := by
  refine ⟨G, YPair (fun i => some (.int (c + (i : Nat)))) (fun i => xs[i]?), by rw [enumD_length, ← p.length]; exact w, fun O2 Z2 H2 ev => ⟨g O2 Z2 H2 ev, ?_⟩⟩
  rintro j x H' hj ⟨T, u, y, rfl, hT, rfl, hu, hy⟩
  cases hu
  rw [enumD_length] at hj
  have q := rel.keep ev p z
  obtain ⟨v, F1, ev1, p1, z1⟩ := q.at (i := j) (d := ds[j]) (List.getElem?_eq_getElem hj)
  dsimp only at hy
  rw [hy] at ev1
  cases ev1
  refine ⟨Ext.new hT, .tup [.int (c + (j : Nat)), ds[j]], F1, ?_, ?_, fun a ha => ev.grow a (z a (z1 a ha))⟩
  · rw [enumD_get, List.getElem?_eq_getElem hj]; rfl
  · exact Rep.tupI (SqT.of upd_same) (.sc rfl (p1.ext (Ext.new hT)))
theorem walk_ec {q : Hp → List V → Prop} {c : Int} {xs : List V} : Walk (Itec q c) xs.length (fun H => q H xs) (YPair (fun i => some (.int (c + (i : Nat)))) (fun i => xs[i]?)) := by
  refine ⟨fun i _ hi h => ⟨xs, xs[i], h, List.getElem?_eq_getElem hi⟩, fun _ h => ⟨xs, h, rfl⟩, fun i H v H' _ h y => ?_⟩
  obtain ⟨T, x, h1, h2, h3, h4⟩ := y
  exact ⟨T, .int (c + (i : Nat)), x, h1, h2, h3, rfl, h4 xs h⟩
/-- shared data that can be walked -/
theorem walk_rep {v : V} {d : R.D} {ds : List R.D} {F : List Addr} (rel : Rel X.K en S σ H O Z) (p : Rep X.K H v d F) (z : ∀ a ∈ F, Z a) (h : itemsOf d = some ds) :
    ∃ (q : Hp → List V → Prop) (xs : List V) (G : List Addr), Walkable X.K v q ∧ q H xs ∧ Reps X.K H xs ds G ∧ (∀ a ∈ G, Z a) ∧ ∀ O3 Z3 H3, Evo O Z H O3 Z3 H3 → q H3 xs := by
  unfold itemsOf at h
  split at h
  · cases h
    obtain ⟨a, xs, G, rfl, rfl, ha, pG⟩ := p.lstE
    exact ⟨_, xs, G, .inl ⟨a, rfl, rfl⟩, .inl (.inl ha), pG, fun g hg => z g (List.mem_cons_of_mem _ hg), fun O3 Z3 H3 ev => .inl (.inl (ev.keep a _ ha (rel.zo a (z a List.mem_cons_self))))⟩
  · rename_i ns
    cases h
    obtain ⟨a, rfl, _, ha⟩ := p.scrE
    exact ⟨_, _, [], .inl ⟨a, rfl, rfl⟩, ha.sql, reps_ints ns, fun _ h => (nomatch h), fun O3 Z3 H3 ev => (scr_step (Owns O) rel.mut ev.keep ha).sql⟩
  · cases h
    obtain ⟨a, xs, rfl, ha, pG⟩ := p.tupE
    exact ⟨_, xs, F, .inr (.inl ⟨a, rfl, rfl⟩), ha, pG, z, fun O3 Z3 H3 ev => sqt_step (Owns O) rel.mut ev.keep ha⟩
  · rename_i x
    cases h
    obtain ⟨rfl, _⟩ := p.scE (u := .str x) rfl
    refine ⟨_, signV x, [], .inr (.inr ⟨x, rfl, rfl⟩), rfl, ?_, fun _ h => (nomatch h), fun _ _ _ _ => rfl⟩
    unfold signV R.signs
    generalize x.cps.toList = l
    induction l with
    | nil => exact .nil
    | cons c l ih => exact .sc rfl ih
  · cases h
/-- enumerate(v, c) -/
def iEnM (ms : M (List R.D)) : M (List R.D) := fun S => match ms S with
  | .ok [d, .int c] S1 => match itemsOf d with
    | some ds => if smallI c then .ok (enumD c ds) S1 else .bad
    | none => .bad
  | .ok _ _ => .bad
  | .exc x S1 => .exc x S1
  | .bad => .bad
theorem SI.ec {ms : M (List R.D)} (h : SB cl X W q [e, e2] ms) : SI cl X W (iEc X.K (WA X [e, e2])) (iEnM ms) := by
  refine ⟨fun {S ds S'} h1 en σ H O Z rel R h2 => ?_, fun {S x S'} h1 en σ H O Z rel h2 R => ?_⟩
  · unfold iEnM at h1
    split at h1
    · rename_i d0 c S1 e1
      split at h1
      · rename_i ds0 e0
        split at h1
        · rename_i hc
          cases h1
          refine h.ok e1 rel fun vs F H1 O1 Z1 ev1 x1 rel1 p z => ?_
          cases vs with
          | nil => cases p
          | cons v vs =>
            obtain ⟨F1, F2, rfl, p1, p2⟩ := p.uncons
            have hv := RepsE.one p2 (u := .int c) rfl
            subst hv
            obtain ⟨qq, xs, G, hw, hq, pG, zG, st⟩ := walk_rep rel1 p1 (fun a ha => z a (List.mem_append_left _ ha)) e0
            exact ⟨v, qq, xs, c, ⟨rfl, (small_of hc).1, (small_of hc).2⟩, hw, hq, h2 _ H1 O1 Z1 ev1 rel1 (itOk_enum walk_ec rel1 pG zG st)⟩
        · cases h1
      · cases h1
    · cases h1
    · cases h1
    · cases h1
  · unfold iEnM at h1
    split at h1
    · split at h1
      · split at h1 <;> cases h1
      · cases h1
    · cases h1
    · rename_i x1 S1 e1
      cases h1
      exact h.exc e1 rel h2
    · cases h1
/-- enumerate(v) -/
def iEn1M (ms : M (List R.D)) : M (List R.D) := fun S => match ms S with
  | .ok [d] S1 => match itemsOf d with
    | some ds => .ok (enumD 0 ds) S1
    | none => .bad
  | .ok _ _ => .bad
  | .exc x S1 => .exc x S1
  | .bad => .bad
theorem SI.en1 {ms : M (List R.D)} (h : SB cl X W q [e] ms) : SI cl X W (iEc1 X.K (WA X [e])) (iEn1M ms) := by
  refine ⟨fun {S ds S'} h1 en σ H O Z rel R h2 => ?_, fun {S x S'} h1 en σ H O Z rel h2 R => ?_⟩
  · unfold iEn1M at h1
    split at h1
    · rename_i d0 S1 e1
      split at h1
      · rename_i ds0 e0
        cases h1
        refine h.ok e1 rel fun vs F H1 O1 Z1 ev1 x1 rel1 p z => ?_
        cases vs with
        | nil => cases p
        | cons v vs =>
          obtain ⟨F1, F2, rfl, p1, p2⟩ := p.uncons
          cases p2
          obtain ⟨qq, xs, G, hw, hq, pG, zG, st⟩ := walk_rep rel1 p1 (fun a ha => z a (List.mem_append_left _ ha)) e0
          exact ⟨v, qq, xs, rfl, hw, hq, h2 _ H1 O1 Z1 ev1 rel1 (itOk_enum walk_ec rel1 pG zG st)⟩
      · cases h1
    · cases h1
    · cases h1
    · cases h1
  · unfold iEn1M at h1
    split at h1
    · split at h1 <;> cases h1
    · cases h1
    · rename_i x1 S1 e1
      cases h1
      exact h.exc e1 rel h2
    · cases h1
/-! ### zip -/
def zipD : List R.D → List R.D → List R.D
  | x :: xs, y :: ys => .tup [x, y] :: zipD xs ys
  | _, _ => []
theorem zipD_length : ∀ xs ys : List R.D, (zipD xs ys).length = min xs.length ys.length
  | [], ys => by cases ys <;> simp [zipD]
  | x :: xs, [] => by simp [zipD]
  | x :: xs, y :: ys => by rw [zipD, List.length_cons, zipD_length xs ys, List.length_cons, List.length_cons]; omega
theorem zipD_get : ∀ (xs ys : List R.D) (j : Nat) (x y : R.D), xs[j]? = some x → ys[j]? = some y → (zipD xs ys)[j]? = some (.tup [x, y])
  | [], _, _, _, _, h, _ => by cases h
  | _ :: _, [], _, _, _, _, h => by cases h
  | a :: xs, b :: ys, 0, x, y, h1, h2 => by cases h1; cases h2; rfl
  | a :: xs, b :: ys, j + 1, x, y, h1, h2 => by
    rw [zipD, List.getElem?_cons_succ]
    exact zipD_get xs ys j x y h1 h2
theorem walk_zz {q1 q2 : Hp → List V → Prop} {xs ys : List V} : Walk (Itzz q1 q2) (min xs.length ys.length) (fun H => q1 H xs ∧ q2 H ys) (YPair (fun i => xs[i]?) (fun i => ys[i]?)) := by
  refine ⟨fun i _ hi h => ?_, fun _ h => ⟨xs, ys, h.1, h.2, rfl⟩, fun i H v H' _ h y => ?_⟩
  · have h1 : i < xs.length := by omega
    have h2 : i < ys.length := by omega
    exact ⟨xs, ys, xs[i], ys[i], h.1, h.2, List.getElem?_eq_getElem h1, List.getElem?_eq_getElem h2⟩
  · obtain ⟨T, x, u, h1, h2, h3, h4, h5⟩ := y
    exact ⟨T, x, u, h1, h2, h3, h4 xs h.1, h5 ys h.2⟩
def iZipM (ms : M (List R.D)) : M (List R.D) := fun S => match ms S with
  | .ok [d, d'] S1 => match itemsOf d, itemsOf d' with
    | some ds, some ds' => .ok (zipD ds ds') S1
    | _, _ => .bad
  | .ok _ _ => .bad
  | .exc x S1 => .exc x S1
  | .bad => .bad
theorem SI.zz {ms : M (List R.D)} (h : SB cl X W q [e, e2] ms) : SI cl X W (iZz X.K (WA X [e, e2])) (iZipM ms) := by
  refine ⟨fun {S ds S'} h1 en σ H O Z rel R h2 => ?_, fun {S x S'} h1 en σ H O Z rel h2 R => ?_⟩
  · unfold iZipM at h1
    split at h1
    · rename_i d1 d2 S1 e1
      split at h1
      · rename_i ds1 ds2 i1 i2
        cases h1
        refine h.ok e1 rel fun vs F H1 O1 Z1 ev1 x1 rel1 p z => ?_
        cases vs with
        | nil => cases p
        | cons v vs =>
          obtain ⟨F1, F2, rfl, p1, p2⟩ := p.uncons
          cases vs with
          | nil => cases p2
          | cons u vs =>
            obtain ⟨F3, F4, rfl, p3, p4⟩ := p2.uncons
            cases p4
            obtain ⟨qa, xs, G, hw, hq, pG, zG, st⟩ := walk_rep rel1 p1 (fun a ha => z a (List.mem_append_left _ ha)) i1
            obtain ⟨qb, ys, G', hw', hq', pG', zG', st'⟩ := walk_rep rel1 p3 (fun a ha => z a (List.mem_append_right _ (List.mem_append_left _ ha))) i2
            refine ⟨v, u, qa, qb, xs, ys, rfl, hw, hw', hq, hq', h2 _ H1 O1 Z1 ev1 rel1 ?_⟩
            refine ⟨fun H => qa H xs ∧ qb H ys, YPair (fun i => xs[i]?) (fun i => ys[i]?), by rw [zipD_length, ← pG.length, ← pG'.length]; exact walk_zz, fun O2 Z2 H2 ev => ⟨⟨st O2 Z2 H2 ev, st' O2 Z2 H2 ev⟩, ?_⟩⟩
            rintro j x H' hj ⟨T, a, b, rfl, hT, rfl, ha, hb⟩
            rw [zipD_length] at hj
            have hj1 : j < ds1.length := by omega
            have hj2 : j < ds2.length := by omega
            obtain ⟨va, Fa, ea, pa, za⟩ := (rel1.keep ev pG zG).at (i := j) (d := ds1[j]) (List.getElem?_eq_getElem hj1)
            obtain ⟨vb, Fb, eb, pb, zb⟩ := (rel1.keep ev pG' zG').at (i := j) (d := ds2[j]) (List.getElem?_eq_getElem hj2)
            dsimp only at ha hb
            rw [ha] at ea
            cases ea
            rw [hb] at eb
            cases eb
            refine ⟨Ext.new hT, _, Fa ++ Fb, zipD_get ds1 ds2 j _ _ (List.getElem?_eq_getElem hj1) (List.getElem?_eq_getElem hj2), Rep.tupI (SqT.of upd_same) ((pa.ext (Ext.new hT)).cons (pb.ext (Ext.new hT))), fun g hg => ?_⟩
            rcases List.mem_append.mp hg with hg | hg
            · exact ev.grow g (zG g (za g hg))
            · exact ev.grow g (zG' g (zb g hg))
      · cases h1
    · cases h1
    · cases h1
    · cases h1
  · unfold iZipM at h1
    split at h1
    · split at h1 <;> cases h1
    · cases h1
    · rename_i x1 S1 e1
      cases h1
      exact h.exc e1 rel h2
    · cases h1
end
/-- range, enumerate by name -/
def dIc (T : Tab) (N : List Str) (D : Den) (sc : Scope) (tg : Expr) (x : Str) (es : List Expr) : PM (List R.D) :=
  if isG sc x && isBlt T x && es.all notStar then
    (if x == ("range" : Str) then (match es with
      | [a] => ((dB N D sc [a]).1, iRng1M (dB N D sc [a]).2)
      | [a, b] => ((dB N D sc [a, b]).1, iRng2M (dB N D sc [a, b]).2)
      | _ => pBad)
    else if x == ("enumerate" : Str) then (if isTup tg then match es with
      | [a] => ((dB N D sc [a]).1, iEn1M (dB N D sc [a]).2)
      | [a, b] => ((dB N D sc [a, b]).1, iEnM (dB N D sc [a, b]).2)
      | _ => pBad
      else pBad)
    else if x == ("zip" : Str) then (if isTup tg then match es with
      | [a, b] => ((dB N D sc [a, b]).1, iZipM (dB N D sc [a, b]).2)
      | _ => pBad
      else pBad)
    else pBad)
  else pBad
def isIc (T : Tab) (x : Str) : Bool := isBlt T x && (x == ("range" : Str) || x == ("enumerate" : Str) || x == ("zip" : Str))
/-- what is walked, by its form -/
def dI (T : Tab) (N : List Str) (D : Den) (sc : Scope) (tg : Expr) (e : Expr) : PM (List R.D) := match e with
  | .Call (.Name x _) es [] _ => if isIc T x then dIc T N D sc tg x es else ((D.e sc e).1, iAnyM (D.e sc e).2)
  | _ => ((dZ N D sc e).1, iAnyM (dZ N D sc e).2)
section
variable {cl : Cls} {T : Tab} {N : List Str} {D : Den} {k : Nat} {sc : Scope} {X : Cx} {W : WX}
theorem SI.ofBad {tg e : Expr} : ∃ wi, PI X tg e wi ∧ SI cl X W wi mBad := ⟨_, pi_any WE.pe, SI.bad⟩
theorem dIc_ok (d : DOk T N D) (g : Good T cl N k sc X W) (tg : Expr) (x : Str) (es : List Expr) {p pos : Pos} : ∃ wi, PI X tg (.Call (.Name x p) es [] pos) wi ∧ SI cl X W wi (dIc T N D sc tg x es).2 := by
  unfold dIc
  split
  · rename_i hh
    rw [Bool.and_eq_true, Bool.and_eq_true] at hh
    obtain ⟨⟨hg, hb⟩, hst⟩ := hh
    have gl := gl_of g hg
    have hm := blt_none g (isBlt_of hb)
    split
    · rename_i hx
      have := eq_of_beq hx
      subst this
      split
      · rename_i a
        have hs := (all_tail hst).1
        exact ⟨_, pi_range1 gl hm WA.pa (star_cons hs), SI.rng1 (dB_ok d g [a])⟩
      · rename_i a b
        have h1 := all_tail hst
        have h2 := (all_tail h1.2).1
        refine ⟨_, pi_range2 gl hm WA.pa ?_ (star_cons h2), SI.rng2 (dB_ok d g [a, b])⟩
        rw [star_cons h1.1, star_cons h2]; rfl
      · exact SI.ofBad
    · split
      · rename_i hx
        have := eq_of_beq hx
        subst this
        split
        · rename_i ht
          obtain ⟨els, kk, tp, rfl⟩ : ∃ els kk tp, tg = .Tuple els kk tp := by
            cases tg <;> first | exact ⟨_, _, _, rfl⟩ | cases ht
          split
          · rename_i a
            have hs := (all_tail hst).1
            exact ⟨_, pi_ec1 gl hm WA.pa (star_cons hs), SI.en1 (dB_ok d g [a])⟩
          · rename_i a b
            have h1 := all_tail hst
            have h2 := (all_tail h1.2).1
            exact ⟨_, pi_ec gl hm WA.pa (star_cons h1.1) (by rw [star_cons h2]; rfl), SI.ec (dB_ok d g [a, b])⟩
          · exact SI.ofBad
        · exact SI.ofBad
      · split
        · rename_i hx
          have := eq_of_beq hx
          subst this
          split
          · rename_i ht
            obtain ⟨els, kk, tp, rfl⟩ : ∃ els kk tp, tg = .Tuple els kk tp := by
              cases tg <;> first | exact ⟨_, _, _, rfl⟩ | cases ht
            split
            · rename_i a b
              have h1 := all_tail hst
              have h2 := (all_tail h1.2).1
              exact ⟨_, pi_zz gl hm WA.pa (star_cons h1.1) (by rw [star_cons h2]; rfl), SI.zz (dB_ok d g [a, b])⟩
            · exact SI.ofBad
          · exact SI.ofBad
        · exact SI.ofBad
  · exact SI.ofBad
theorem dI_ok (d : DOk T N D) (g : Good T cl N k sc X W) (tg e : Expr) : ∃ wi, PI X tg e wi ∧ SI cl X W wi (dI T N D sc tg e).2 := by
  unfold dI
  split
  · split
    · exact dIc_ok d g tg _ _
    · exact ⟨_, pi_any WE.pe, SI.any (d.e cl k sc X W _ g)⟩
  · exact ⟨_, pi_any WE.pe, SI.any (dZ_ok d g e)⟩

/-! ### comprehensions -/
/-- the block's scope -/
def reSc (scope sc : Scope) : Scope := { scope with names := scope.names.map fun (n, k) => if (k == .free && sc.kind == .function && sc.names.lookup n == some .cell) then (n, .cell) else (n, k) }
def ownOf (N : List Str) : List (Str × NameKind) → List (Str × Nat)
  | [] => []
  | (y, .local) :: r => match ix N y with
    | some i => (y, i) :: ownOf N r
    | none => ownOf N r
  | (y, .cell) :: r => match ix N y with
    | some i => (y, i) :: ownOf N r
    | none => ownOf N r
  | _ :: r => ownOf N r
def dIfs (D : Den) (sc : Scope) : List Expr → Option (M Bool)
  | [] => some fun S => .ok true S
  | [c] => some (D.t sc c).2
  | _ => none
def dLc (T : Tab) (N : List Str) (D : Den) (sc : Scope) (elt tg iter : Expr) (ifs : List Expr) (scope : Scope) : M RV :=
  if blkC N sc scope (ownOf N scope.names) && foldSet iter then match tgOf false N (reSc scope sc) 4 tg, dIfs D (reSc scope sc) ifs with
    | some t, some mt => if t.within ((ownOf N scope.names).map (·.2)) then mLc ((ownOf N scope.names).map (·.2)) t (dI T N D sc tg iter).2 mt (D.e (reSc scope sc) elt).2 else mBad
    | _, _ => mBad
  else mBad
theorem Good.blk (g : Good T cl N k sc X W) (s : Shared) (H : Hp) (scope : Scope) (clo : List (Str × Addr)) (C : Addr) (fp : List Addr) : Good T cl N k (reSc scope sc) (X.blk s H scope (compEnvC scope clo C X.env) fp) (fun _ _ _ _ => False) where
  hN := g.hN
  nd := g.nd
  hsc := by rw [← g.hsc]; rfl
  calm := g.calm
  tab := g.tab
  room := g.room
  tk := takes0
theorem fold_of {e : Expr} {env : Env} (h : foldSet e = true) (x : Value) : foldedSetIterable e env x = pure x := by
  cases e <;> first | rfl | cases h
/-- what a comprehension's rules want, and the reading -/
theorem dLc_ok (d : DOk T N D) (g : Good T cl N k sc X W) {elt tg iter : Expr} {ifs : List Expr} {scope : Scope} {pos : Pos} :
    dLc T N D sc elt tg iter ifs scope = mBad ∨ ∃ (own : List (Str × Nat)) (wi : TI) (t : Tg) (tt : TT) (te : TE), BlkOk X.N X.env.scope scope own ∧ PI X tg iter wi ∧ (∀ (s : Shared) (H : Hp) (C : Addr) (cl : List (Str × Addr)) (fp : List Addr), PG (X.blk s H scope (compEnvC scope cl C X.env) fp) tg (t.g X.K)) ∧
      (∀ (s : Shared) (H : Hp) (C : Addr) (cl : List (Str × Addr)) (fp : List Addr), PTs (X.blk s H scope (compEnvC scope cl C X.env) fp) ifs tt) ∧ (∀ (s : Shared) (H : Hp) (C : Addr) (cl : List (Str × Addr)) (fp : List Addr), PE (X.blk s H scope (compEnvC scope cl C X.env) fp) elt te) ∧ foldSet iter = true ∧
      RD cl X W false (tLc wi (t.g X.K) tt te (own.map (·.2))) (dLc T N D sc elt tg iter ifs scope) := by
  unfold dLc
  split
  · rename_i hh
    rw [Bool.and_eq_true] at hh
    split
    · rename_i t mt ht hm
      split
      · rename_i hw
        obtain ⟨wi, pi, si⟩ := dI_ok d g tg iter
        have hte : TeOk X.K (fun σ H Q => ∀ (s : Shared) (Hs : Hp) (C : Addr) (clo : List (Str × Addr)) (fp : List Addr), WE (X.blk s Hs scope (compEnvC scope clo C X.env) fp) elt σ H Q) (D.e (reSc scope sc) elt).2 := fun h en σ H O Z rel Q kk s Hs C clo fp =>
          (d.e cl k _ _ _ elt (g.blk s Hs scope clo C fp)).ok h rel fun v H' O' Z' ev _ r' res => kk v H' O' Z' ev r' res
        have htt : ∃ tt, (∀ (s : Shared) (H : Hp) (C : Addr) (cl : List (Str × Addr)) (fp : List Addr), PTs (X.blk s H scope (compEnvC scope cl C X.env) fp) ifs tt) ∧ TtOk X.K tt mt := by
          unfold dIfs at hm
          split at hm
          · cases hm
            exact ⟨tYes, fun _ _ _ _ _ => pts_nil, tt_yes⟩
          · rename_i c
            cases hm
            refine ⟨fun σ H Q => ∀ (s : Shared) (Hs : Hp) (C : Addr) (clo : List (Str × Addr)) (fp : List Addr), WT (X.blk s Hs scope (compEnvC scope clo C X.env) fp) c σ H Q, fun s Hs C clo fp => pts_one ⟨fun pins s' σ H Q I h => h s Hs C clo fp pins s' I⟩, fun h en σ H O Z rel Q kk s Hs C clo fp => ?_⟩
            exact (d.st (g.blk s Hs scope clo C fp) c).ok h rel fun H' O' Z' ev _ r' => kk H' O' Z' ev r'
          · cases hm
        obtain ⟨tt, ptt, ott⟩ := htt
        refine .inr ⟨ownOf N scope.names, wi, t, tt, _, ?_, pi, fun s Hs C clo fp => ?_, ptt, fun s Hs C clo fp => ⟨fun pins s' σ H Q I h => h s Hs C clo fp pins s' I⟩, hh.2, RD.lc si ott hte hw⟩
        · rw [g.hN, g.hsc]; exact blkOk_by hh.1
        · exact pg_of (top := false) (g.blk s Hs scope clo C fp) (fun h => absurd h Bool.false_ne_true) 4 tg t ht
      · exact .inl rfl
    · exact .inl rfl
  · exact .inl rfl

/-! ### the whole -/
def dEL (T : Tab) (N : List Str) (D : Den) (sc : Scope) : Expr → PM RV
  | .ListComp elt [⟨tg, iter, ifs, 0⟩] scope _ => (false, dLc T N D sc elt tg iter ifs scope)
  | e => dE T N D sc e
def stepD (T : Tab) (N : List Str) (D : Den) : Den := ⟨dEL T N D, dT N D⟩
def den (T : Tab) (N : List Str) : Nat → Den
  | 0 => ⟨fun _ _ => pBad, fun _ _ => pBad⟩
  | n + 1 => stepD T N (den T N n)
theorem hu64 (g : Good T cl N k sc X W) : X.A.units + 64 < cLine := g.room.units
theorem nomarks {op : CmpOp} {b : Expr} (h : ¬ behindInMarks op b = true) : behindInMarks op b = false := by
  cases q : behindInMarks op b <;> first | rfl | exact absurd q h
theorem dE_ok (d : DOk T N D) (g : Good T cl N k sc X W) (e : Expr) : SE cl X W (dE T N D sc e).1 e (dE T N D sc e).2 := by
  unfold dE
  split
  · exact SE.const rfl pe_int
  · exact SE.const rfl pe_bl
  · exact SE.const rfl pe_non
  · exact SE.const rfl pe_str
  · split
    · rename_i h
      exact SE.var (pe_ixV g h)
    · split
      · rename_i hT
        split
        · rename_i hg
          exact SE.glob g hT (isG_of hg).1 (isG_of hg).2
        · exact SE.bad
      · exact SE.bad
  · rename_i a op b pos
    obtain ⟨r, ho, hf⟩ := bop_ok (X := X) op
    exact dOp_ok d g hf fun pa pb => pe_op ho pa pb
  · exact SE.neg (d.e cl k sc X W _ g)
  · exact SE.notV (d.e cl k sc X W _ g)
  · exact vAnd_ok d g _
  · exact vOr_ok d g _
  · rename_i a op b pos
    split
    · exact SE.bad
    · rename_i hm
      obtain ⟨r, ho, hf⟩ := cop_ok (X := X) (hu64 g) op
      exact dOp_ok d g hf fun pa pb => pe_cmpR ho pa pb (nomarks hm)
  · rename_i a op op' b c pos
    split
    · exact SE.bad
    · rename_i hm
      obtain ⟨r, ho, hf⟩ := cop_ok (X := X) (hu64 g) op
      obtain ⟨r', ho', hf'⟩ := cop_ok (X := X) (hu64 g) op'
      exact (RD.chain (d.e cl k sc X W a g) (d.e cl k sc X W b g) (d.e cl k sc X W c g) hf hf').of (pe_chain ho ho' WE.pe WE.pe WE.pe (by
        cases q : lastMarks [op, op'] [b, c] <;> first | rfl | exact absurd q hm))
  · exact SE.ifE (d.st g _) (d.e cl k sc X W _ g) (d.e cl k sc X W _ g)
  · exact dCall_ok d g _ _
  · split
    · rename_i hl
      exact dMeth_ok d g _ _ _ hl
    · exact SE.bad
  · exact SE.slice (d.e cl k sc X W _ g) (dPart_ok d g _) (dPart_ok d g _)
  · split
    · exact SE.bad
    · rename_i hs
      obtain ⟨r, hr, hf⟩ := idx_ok (X := X)
      exact dOp_ok d g hf fun pa pb => pe_ix hr pa pb (plainIx_of (by simpa using hs))
  · exact SE.tup (dB_ok d g _)
  · exact SE.lst (dB_ok d g _)
  · exact SE.fmt (d.e cl k sc X W _ g)
  · exact SE.joined1 (d.e cl k sc X W _ g)
  · exact SE.joined (dJs_ok d g _)
  · exact SE.bad
theorem dT_ok (d : DOk T N D) (g : Good T cl N k sc X W) (e : Expr) : SW cl X W (dT N D sc e).1 e (dT N D sc e).2 ∨ ST cl X W (dT N D sc e).1 e (dT N D sc e).2 := by
  unfold dT
  split
  · exact .inl (dAnd_ok d g _)
  · exact .inl (dOr_ok d g _)
  · exact .inr (ST.not (d.st g _))
  · rename_i a op b pos
    split
    · exact .inr ST.bad
    · rename_i hm
      obtain ⟨r, ho, hf⟩ := cop_ok (X := X) (hu64 g) op
      exact .inr (dOp_test d g hf fun pa pb => pt_cmpR ho pa pb (nomarks hm))
  · rename_i a op op' b c pos
    split
    · exact .inr ST.bad
    · rename_i hm
      obtain ⟨r, ho, hf⟩ := cop_ok (X := X) (hu64 g) op
      obtain ⟨r', ho', hf'⟩ := cop_ok (X := X) (hu64 g) op'
      exact .inr (ST.bool (RD.chain (d.e cl k sc X W a g) (d.e cl k sc X W b g) (d.e cl k sc X W c g) hf hf') (pt_chain ho ho' WE.pe WE.pe WE.pe (by
        cases q : lastMarks [op, op'] [b, c] <;> first | rfl | exact absurd q hm)))
  · split
    · rename_i hp
      exact .inr (ST.truth (d.e cl k sc X W _ g) hp)
    · exact .inr ST.bad
theorem nd_of (g : Good T cl N k sc X W) : X.N.Nodup := by rw [g.hN]; exact g.nd
theorem dEL_ok (d : DOk T N D) (g : Good T cl N k sc X W) (e : Expr) : SE cl X W (dEL T N D sc e).1 e (dEL T N D sc e).2 := by
  unfold dEL
  split
  · rename_i elt tg iter ifs scope pos
    rcases dLc_ok d g (elt := elt) (tg := tg) (iter := iter) (ifs := ifs) (scope := scope) (pos := pos) with h | ⟨own, wi, t, tt, te, ok, pi, pg, pt, pe, hf, rd⟩
    · rw [h]; exact SE.bad
    · exact rd.of (pe_lc g.calm (nd_of g) pi ok pg pt pe (fold_of hf))
  · exact dE_ok d g e
theorem den_ok (T : Tab) (N : List Str) : ∀ n, DOk T N (den T N n)
  | 0 => ⟨fun _ _ _ _ _ _ _ => SE.bad, fun _ _ _ _ _ _ _ => .inr ST.bad⟩
  | n + 1 => ⟨fun _ _ _ _ _ e g => dEL_ok (den_ok T N n) g e, fun _ _ _ _ _ e g => dT_ok (den_ok T N n) g e⟩
end
end R

set_option Elab.async false
set_option linter.all false
set_option maxRecDepth 100000
set_option maxHeartbeats 2000000
/-! R18: statements computed (dS), a def (fsem), the law's end. -/
namespace R
open PySem PySem.Spec PyProof.Rows L2

def notComp : Expr → Bool
  | .ListComp _ _ _ _ => false
  | .SetComp _ _ _ _ => false
  | .DictComp _ _ _ _ _ => false
  | _ => true
theorem sw_no {e : Expr} {tg : Option Expr} {l : Nat} {env : Env} (h : notComp e = true) : swapsWith e tg l env = pure false := by
  cases e <;> first | rfl | cases h
theorem sw_cell {e : Expr} {x : Str} {p : Pos} {l : Nat} {env : Env} (h : env.scope.names.lookup x = some .cell) : swapsWith e (some (.Name x p)) l env = pure false := by
  have hk : env.kindOf x = some .cell := h
  have hq : (NameKind.cell == NameKind.local) = false := rfl
  cases e <;> first
    | rfl
    | (unfold swapsWith
       simp only [hk]
       simp [hq])
def whileN : Nat := 1000000000
structure GoodS (T : Tab) (cl : Cls) (N : List Str) (k : Nat) (sc : Scope) (X : Cx) (W : WX) : Prop extends Good T cl N k sc X W where
  st : ∀ x, sc.names.lookup x = some .cell → X.fn x = true
  pass : PassesOwn (model X.prog X.w) X.A X.env X.xe
  kind : sc.kind = .function
/-- name = v -/
def dSet (T : Tab) (N : List Str) (D : Den) (sc : Scope) (x : Str) (px : Pos) (v : Expr) : M Fl :=
  if locB true sc x then match ix N x with
    | some i => match v with
      | .ListComp elt [⟨tg, iter, ifs, 0⟩] scope vpos =>
        if decide (sc.names.lookup x = some .cell) then mAsg (.nm i) (dLc T N D sc elt tg iter ifs scope)
        else if (px.line == vpos.line) && !(scope.names.any fun (n, k) => n == x && (k == .local || k == .cell)) then mAsg (.nm i) (dLc T N D sc elt tg iter ifs scope)
        else mBad
      | v => if notComp v then mAsg (.nm i) (dZ N D sc v).2 else mBad
    | none => mBad
  else mBad
/-- a, b = v -/
def dUnp (N : List Str) (D : Den) (sc : Scope) (tg v : Expr) : M Fl :=
  if notComp v && !isTup v && isTup tg then match tgOf true N sc 4 tg with
    | some t => mAsg t (D.e sc v).2
    | none => mBad
  else mBad
/-- o[i] = v -/
def dPut (N : List Str) (D : Den) (sc : Scope) (o i v : Expr) : M Fl := match varOf N sc o with
  | some j => if isSlice i then mBad else mSetP j (dZ N D sc v).2 (D.e sc i).2
  | none => mBad
def augF : Operator → Option (Int → Int → Int)
  | .Add => some fun a b => a + b
  | .Sub => some fun a b => a - b
  | _ => none
def dAug (N : List Str) (D : Den) (sc : Scope) (x : Str) (op : Operator) (v : Expr) : M Fl :=
  if locB true sc x then match ix N x, augF op with
    | some i, some f => mAug i f (D.e sc v).2
    | _, _ => mBad
  else mBad
def dSs (f : Stmt → M Fl) : List Stmt → M Fl
  | [] => mNext
  | st :: r => mSeq (f st) (dSs f r)
def dS (T : Tab) (N : List Str) (D : Den) (sc : Scope) : Nat → Stmt → M Fl
  | 0, _ => mBad
  | _ + 1, .Pass _ => mNext
  | _ + 1, .Break _ => mFl .brk
  | _ + 1, .Continue _ => mFl .cont
  | _ + 1, .Expr (.Constant (.str _) _ _) _ => mNext
  | _ + 1, .Expr e _ => if notComp e then mDrop (D.e sc e).2 else mBad
  | _ + 1, .Return none _ => mFl (.ret ⟨.N, .non⟩)
  | _ + 1, .Return (some e) _ => match varOf N sc e with
    | some i => mRetV i
    | none => mRet (D.e sc e).2
  | _ + 1, .Assign [.Name x px] v _ => dSet T N D sc x px v
  | _ + 1, .Assign [.Tuple es kk p] v _ => dUnp N D sc (.Tuple es kk p) v
  | _ + 1, .Assign [.Subscript o i _] v _ => dPut N D sc o i v
  | _ + 1, .AugAssign (.Name x _) op v _ => dAug N D sc x op v
  | n + 1, .If c a b _ => mIfS (D.t sc c).2 (dSs (dS T N D sc n) a) (dSs (dS T N D sc n) b)
  | n + 1, .While c body [] _ => whileGo (D.t sc c).2 (dSs (dS T N D sc n) body) whileN
  | n + 1, .For tg iter body [] _ => if foldSet iter then match tgOf true N sc 4 tg with
      | some t => mFor t (dI T N D sc tg iter).2 (dSs (dS T N D sc n) body)
      | none => mBad
    else mBad
  | _ + 1, _ => mBad
section
variable {cl : Cls} {T : Tab} {N : List Str} {D : Den} {k : Nat} {sc : Scope} {X : Cx} {W : WX}
theorem pg_ofS (g : GoodS T cl N k sc X W) {n : Nat} {e : Expr} {t : Tg} (h : tgOf true N sc n e = some t) : PG X e (t.g X.K) := pg_of g.toGood (fun _ => g.st) n e t h
theorem loc_of (g : Good T cl N k sc X W) {x : Str} (h : locB true sc x = true) : Loc X.env.scope x := by
  unfold locB at h
  unfold L2.Loc
  rw [g.hsc]
  split at h
  · exact .inl (by assumption)
  · exact .inr (by assumption)
  · cases h
theorem st_of (g : GoodS T cl N k sc X W) {x : Str} (h : locB true sc x = true) : X.fn x = true ∨ X.env.scope.names.lookup x = some .local := by
  rcases loc_of g.toGood h with q | q
  · exact .inr q
  · rw [g.hsc] at q; exact .inl (g.st x q)
theorem dSet_ok (d : DOk T N D) (g : GoodS T cl N k sc X W) {x : Str} {px pos : Pos} {v : Expr} : SS cl X W (.Assign [.Name x px] v pos) (dSet T N D sc x px v) := by
  have hN := nd_of g.toGood
  unfold dSet
  split
  · rename_i hl
    split
    · rename_i i hi
      have hx : X.N[i]? = some x := by rw [g.hN]; exact ix_get hi
      split
      · rename_i elt tg iter ifs scope vpos
        rcases dLc_ok d g.toGood (elt := elt) (tg := tg) (iter := iter) (ifs := ifs) (scope := scope) (pos := vpos) with h | ⟨own, wi, t, tt, te, ok, pi, pg, pt, pe, hf, rd⟩
        · rw [h]
          have : (mAsg (.nm i) mBad : M Fl) = mBad := rfl
          rw [this]
          split
          · exact RS.bad
          · split <;> exact RS.bad
        · have asg := RS.asg (tg := .nm i) rd
          rw [Tg.g] at asg
          split
          · rename_i hc
            have hc' : X.env.scope.names.lookup x = some .cell := by rw [g.hsc]; exact of_decide_eq_true hc
            exact asg.ofS (ps_set hN hx (loc_of g.toGood hl) (pe_lc g.calm hN pi ok pg pt pe (fold_of hf)) (sw_cell hc') (st_of g hl))
          · rename_i hc
            split
            · rename_i hq
              rw [Bool.and_eq_true, Bool.not_eq_true'] at hq
              have hloc : X.env.scope.names.lookup x = some .local := by
                rcases loc_of g.toGood hl with q | q
                · exact q
                · rw [g.hsc] at q
                  exact absurd (decide_eq_true q) hc
              refine asg.ofS (ps_setLc g.calm hN hx hloc (sw_true ?_ hloc hq.1 hq.2) pi ok pg pt pe (fold_of hf))
              rw [g.hsc]; exact g.kind
            · exact RS.bad
      · split
        · rename_i hv
          have asg := RS.asg (tg := .nm i) (dZ_ok d g.toGood v)
          rw [Tg.g] at asg
          exact asg.ofS (ps_set hN hx (loc_of g.toGood hl) WE.pe (sw_no hv) (st_of g hl))
        · exact RS.bad
    · exact RS.bad
  · exact RS.bad
theorem dUnp_ok (d : DOk T N D) (g : GoodS T cl N k sc X W) {pos : Pos} {tg v : Expr} : SS cl X W (.Assign [tg] v pos) (dUnp N D sc tg v) := by
  unfold dUnp
  split
  · rename_i hh
    rw [Bool.and_eq_true, Bool.and_eq_true, Bool.not_eq_true'] at hh
    split
    · rename_i t ht
      refine (RS.asg (tg := t) (d.e cl k sc X W v g.toGood)).ofS (ps_asg WE.pe (pg_ofS g ht) (sw_no hh.1.1) ?_ ?_)
      · obtain ⟨⟨_, h2⟩, h3⟩ := hh
        cases tg with
        | Tuple es kk p => cases v <;> first | rfl | cases h2
        | _ => cases h3
      · obtain ⟨_, h3⟩ := hh
        cases tg with
        | Tuple es kk p => rfl
        | _ => cases h3
    · exact RS.bad
  · exact RS.bad
theorem dPut_ok (d : DOk T N D) (g : GoodS T cl N k sc X W) {pos p : Pos} {o i v : Expr} : SS cl X W (.Assign [.Subscript o i p] v pos) (dPut N D sc o i v) := by
  unfold dPut
  split
  · rename_i j hj
    split
    · exact RS.bad
    · rename_i hsl
      have ha : ∀ w : Value, assign (.Subscript o i p) X.env w = (do
          let ov ← holding [w] (eval o X.env)
          let iv ← holding [w, ov] (eval i X.env)
          standAt p
          holding [w, ov, iv] (setItem ov iv w)
          release [w, ov, iv] []) := by
        intro w
        cases i <;> first | rfl | exact absurd rfl hsl
      refine (RS.setP (i := j) (dZ_ok d g.toGood v) (d.e cl k sc X W i g.toGood)).ofS (ps_asg WE.pe (pg_sub (pe_varOf g.toGood hj) WE.pe set_list ha) ?_ ?_ rfl)
      · cases v <;> rfl
      · cases v <;> rfl
  · exact RS.bad
theorem dAug_ok (d : DOk T N D) (g : GoodS T cl N k sc X W) {pos p : Pos} {x : Str} {op : Operator} {v : Expr} : SS cl X W (.AugAssign (.Name x p) op v pos) (dAug N D sc x op v) := by
  unfold dAug
  split
  · rename_i hl
    split
    · rename_i i f hi hf
      have hx : X.N[i]? = some x := by rw [g.hN]; exact ix_get hi
      have hop : PIp X op (ipI f) := by
        unfold augF at hf
        split at hf
        · cases hf; exact ip_add
        · cases hf; exact ip_sub
        · cases hf
      exact (RS.aug (d.e cl k sc X W v g.toGood)).ofS (ps_aug (nd_of g.toGood) hx (loc_of g.toGood hl) WE.pe hop (st_of g hl))
    · exact RS.bad
  · exact RS.bad
theorem dSs_ok {f : Stmt → M Fl} (h : ∀ st, SS cl X W st (f st)) : ∀ sts : List Stmt, SSs cl X W sts (dSs f sts)
  | [] => SSs.nil
  | st :: r => SSs.cons (h st) (dSs_ok h r)
theorem dS_ok (d : DOk T N D) (g : GoodS T cl N k sc X W) : ∀ (n : Nat) (st : Stmt), SS cl X W st (dS T N D sc n st)
  | 0, _ => RS.bad
  | n + 1, st => by
    have ih := dS_ok d g n
    unfold dS
    split
    · rename_i heq; cases heq
    · exact SS.pass
    · exact SS.brk
    · exact SS.cont
    · exact SS.doc
    · split
      · rename_i hc
        exact SS.drop (d.e cl k sc X W _ g.toGood) (sw_no hc)
      · exact RS.bad
    · exact SS.retN
    · split
      · rename_i h
        exact SS.retV (pe_varOf g.toGood h)
      · exact SS.ret (d.e cl k sc X W _ g.toGood)
    · exact dSet_ok d g
    · exact dUnp_ok d g
    · exact dPut_ok d g
    · exact dAug_ok d g
    · rename_i heq
      cases heq
      exact SS.ifS (d.st g.toGood _) (dSs_ok ih _) (dSs_ok ih _)
    · rename_i heq
      cases heq
      exact (RS.while (d.st g.toGood _) (dSs_ok ih _)).ofS (ps_while g.pass WT.pt WSs.pss)
    · rename_i heq
      cases heq
      split
      · rename_i hf
        split
        · rename_i t ht
          obtain ⟨wi, pi, si⟩ := dI_ok d g.toGood _ _
          exact (RS.for si (dSs_ok ih _)).ofS (ps_for g.pass g.calm pi (pg_ofS g ht) WSs.pss (fold_of hf))
        · exact RS.bad
      · exact RS.bad
    · exact RS.bad
end
end R

set_option Elab.async false
set_option linter.all false
set_option maxRecDepth 100000
set_option maxHeartbeats 2000000
/-! R19: a def by data (fsem) and its promise; the module's table; the law's end. -/
namespace R
open PySem PySem.Spec PyProof.Rows L2

def startS (io : Bool) (ds : List R.D) (nn : Nat) : State := (match io, ds with
  | true, d :: r => .io d :: r.map .frz
  | _, ds => ds.map .frz) ++ List.replicate (nn - ds.length) .un
def ioOf (io : Bool) (S : State) : Option (Option R.D) := if io then (match (S[0]? : Option Sl) with
  | some (.io d) => some (some d)
  | _ => none) else some none
def fin (io : Bool) : Out Fl → FRes
  | .ok (.ret r) S' => match ioOf io S' with
    | some o => .ret r.md r.d o
    | none => .bad
  | .ok .next S' => match ioOf io S' with
    | some o => .ret .N .non o
    | none => .bad
  | .exc x S' => match ioOf io S' with
    | some o => .exc x o
    | none => .bad
  | _ => .bad
def fsem (io : Bool) (nn : Nat) (body : M Fl) : FSem := fun ds => fin io (body (startS io ds nn))

section
variable {K : PySem.W.Frag} {H : Hp} {N : List Str} {vs : List V} {ds : List R.D} {F : List Addr}
theorem start_get {i : Nat} {v : V} (h : vs[i]? = some v) : (L2.start N vs)[i]? = some (some v) := by
  unfold L2.start
  have hi : i < vs.length := (List.getElem?_eq_some_iff.mp h).1
  rw [List.getElem?_append_left (by rw [List.length_map]; exact hi), List.getElem?_map, h]; rfl
theorem start_len (h : vs.length ≤ N.length) : (L2.start N vs).length = N.length := by
  unfold L2.start
  rw [List.length_append, List.length_map, List.length_replicate]; omega
theorem repl_un {n i : Nat} {s : Sl} (h : (List.replicate n Sl.un)[i]? = some s) : s = .un := by
  obtain ⟨hi, e⟩ := List.getElem?_eq_some_iff.mp h
  rw [List.getElem_replicate] at e
  exact e.symm
/-- the entry, nothing lent -/
theorem rel_start (p : Reps K H vs ds F) (hl : vs.length ≤ N.length) {v0 : V} : Rel K ⟨H, v0, []⟩ (startS false ds N.length) (L2.start N vs) H noOwn (fun a => a ∈ F) where
  len := by
    rw [start_len hl]
    unfold startS
    rw [List.length_append, List.length_map, List.length_replicate]
    have := p.length
    omega
  own := fun i d h => by
    exfalso
    unfold startS at h
    by_cases hi : i < ds.length
    · rw [List.getElem?_append_left (by rw [List.length_map]; exact hi), List.getElem?_map] at h
      cases q : ds[i]? with
      | none => rw [q] at h; cases h
      | some x => rw [q] at h; cases h
    · rw [List.getElem?_append_right (by rw [List.length_map]; omega)] at h
      cases repl_un h
  io := fun i d h => by
    exfalso
    unfold startS at h
    by_cases hi : i < ds.length
    · rw [List.getElem?_append_left (by rw [List.length_map]; exact hi), List.getElem?_map] at h
      cases q : ds[i]? with
      | none => rw [q] at h; cases h
      | some x => rw [q] at h; cases h
    · rw [List.getElem?_append_right (by rw [List.length_map]; omega)] at h
      cases repl_un h
  frz := fun i d h => by
    unfold startS at h
    by_cases hi : i < ds.length
    · rw [List.getElem?_append_left (by rw [List.length_map]; exact hi), List.getElem?_map] at h
      cases q : ds[i]? with
      | none => rw [q] at h; cases h
      | some x =>
        rw [q] at h
        cases h
        obtain ⟨v, F1, ev, r1, z⟩ := p.at q
        exact ⟨v, F1, start_get ev, r1, z⟩
    · rw [List.getElem?_append_right (by rw [List.length_map]; omega)] at h
      cases repl_un h
  non := fun _ _ _ => rfl
  dis := fun _ _ _ h => nomatch h
  dom := fun _ h => h
  zo := fun _ _ h => owns_no h
  zd := fun a h => p.dom a h
/-- the entry, the first one lent -/
theorem rel_startL {v0 : V} {vr : List V} {A0 : List Addr} (p : ArgsL K v0 vr ds F A0 H) (hl : (v0 :: vr).length ≤ N.length) : Rel K ⟨H, v0, A0⟩ (startS true ds N.length) (L2.start N (v0 :: vr)) H (oneOwn A0) (fun a => a ∈ F) := by
  obtain ⟨d0, dr, Fr, G, rfl, t, p, zG, zr, zF⟩ := p
  have shape : startS true (d0 :: dr) N.length = .io d0 :: (dr.map .frz ++ List.replicate (N.length - (d0 :: dr).length) .un) := rfl
  have pl := p.length
  have other : ∀ {j : Nat} {s : Sl}, (startS true (d0 :: dr) N.length)[j + 1]? = some s → (∃ d, s = .frz d ∧ dr[j]? = some d) ∨ s = .un := fun {j s} h => by
    rw [shape, List.getElem?_cons_succ] at h
    by_cases hi : j < dr.length
    · rw [List.getElem?_append_left (by rw [List.length_map]; exact hi), List.getElem?_map] at h
      cases q : dr[j]? with
      | none => rw [q] at h; cases h
      | some x => rw [q] at h; cases h; exact .inl ⟨x, rfl, rfl⟩
    · rw [List.getElem?_append_right (by rw [List.length_map]; omega)] at h
      exact .inr (repl_un h)
  refine ⟨?_, fun i d h => ?_, fun i d h => ?_, fun i d h => ?_, fun i h1 h2 => ?_, fun i j a h1 h2 => ?_, fun _ h => h, fun a h w => (zF a h).1 (owns_one.mp w), fun a h => (zF a h).2⟩
  · rw [start_len hl, shape, List.length_cons, List.length_append, List.length_map, List.length_replicate]
    rw [List.length_cons] at hl ⊢
    omega
  · cases i with
    | zero => rw [shape] at h; cases h
    | succ j => rcases other h with ⟨d, e, _⟩ | e <;> cases e
  · cases i with
    | zero =>
      rw [shape] at h
      cases h
      exact ⟨start_get rfl, t.mono zG, rfl⟩
    | succ j => rcases other h with ⟨d, e, _⟩ | e <;> cases e
  · cases i with
    | zero => rw [shape] at h; cases h
    | succ j =>
      rcases other h with ⟨d', e, q⟩ | e
      · cases e
        obtain ⟨v, F1, ev, r1, z⟩ := p.at q
        exact ⟨v, F1, start_get (by rw [List.getElem?_cons_succ]; exact ev), r1, fun a ha => zr a (z a ha)⟩
      · cases e
  · cases i with
    | zero => exact absurd rfl (h2 d0)
    | succ j => rfl
  · cases i with
    | zero =>
      cases j with
      | zero => rfl
      | succ j => cases h2
    | succ i => cases h1
end

/-! ### the table -/
def TabOk (P : Program) (w : World) (K : PySem.W.Frag) (mg : Str → Option Value) (base : Heap) (cl : Cls) (k : Nat) (T : Tab) : Prop :=
  ∀ X : Cx, X.prog = P → X.w = w → X.K = K → X.mg = mg → X.base = base → ∀ x gv, T.lookup x = some gv → GvOk X cl k x gv
section
variable {P : Program} {w : World} {K : PySem.W.Frag} {mg : Str → Option Value} {base : Heap} {cl : Cls} {k : Nat} {T : Tab} {x : Str}
theorem TabOk.nil : TabOk P w K mg base cl k [] := fun _ _ _ _ _ _ _ _ h => nomatch h
theorem TabOk.add {gv : GV} (h : ∀ X : Cx, X.prog = P → X.w = w → X.K = K → X.mg = mg → X.base = base → GvOk X cl k x gv) (t : TabOk P w K mg base cl k T) : TabOk P w K mg base cl k ((x, gv) :: T) := fun X a b c d e y g hy => by
  rw [List.lookup_cons] at hy
  split at hy
  · rename_i q
    cases hy
    rw [eq_of_beq q]
    exact h X a b c d e
  · exact t X a b c d e y g hy
theorem TabOk.mono {j : Nat} (t : TabOk P w K mg base cl k T) (h : k ≤ j) : TabOk P w K mg base cl j T := fun X a b c d e y g hy => by
  have := t X a b c d e y g hy
  cases g with
  | fn n g =>
    obtain ⟨f, fd, ps, F, q⟩ := this
    exact ⟨f, fd, ps, F.mono h, q⟩
  | con d => exact this
  | blt => exact this
  | cls c => exact this
theorem TabOk.blt (h : mg x = none) (t : TabOk P w K mg base cl k T) : TabOk P w K mg base cl k ((x, .blt) :: T) := t.add fun X _ _ _ d _ => by
  show X.mg x = none
  rw [d]; exact h
theorem TabOk.con {d : R.D} {u : Value} {v : V} (hs : d.sc = some v) (h : mg x = some u) (r : RelV v u) (t : TabOk P w K mg base cl k T) : TabOk P w K mg base cl k ((x, .con d) :: T) := t.add fun X _ _ _ e _ => ⟨u, v, hs, by rw [e]; exact h, r⟩
theorem TabOk.fn {n : Nat} {g : FSem} {f : Addr} {fd : FuncData} {ps : List Str} (F : FnOk P w K mg base (L2.CX P w) k f fd ps (spOf K cl n g)) (h : mg x = some (.ref f)) (kp : PySem.W.keepIn K (.ref f) = true) (b : Binds K fd ps []) (t : TabOk P w K mg base cl k T) : TabOk P w K mg base cl k ((x, .fn n g) :: T) := t.add fun X h1 h2 h3 h4 h5 => by
  subst h1 h2 h3 h4 h5
  exact ⟨f, fd, ps, F, h, kp, b⟩

/-! ### a def -/
/-- what a def does, computed -/
def fnD (T : Tab) (N : List Str) (io : Bool) (st : Stmt) : FSem := fsem io N.length (dSs (dS T N (den T N 12) (defScope st) 12) (defBody st))
theorem res_own {md : Md} {d : R.D} {v : V} {H H' : Hp} {O O' : Own} {Z : Sh} (r : Res K md d v H H' O Z) (h : ∀ a, Owns O' a → Owns O a) : Res K md d v H H' O' Z := by
  cases md with
  | N =>
    obtain ⟨A, t, n⟩ := r
    exact ⟨A, t, fun a ha => ⟨(n a ha).1, fun q => (n a ha).2.1 (h a q), (n a ha).2.2⟩⟩
  | Z => exact r
  | B => exact r
theorem fn_ok {x qual : Str} {st : Stmt} {f : Addr} {fd : FuncData} {N ps : List Str} (io : Bool) (Fn : Fun K x qual st f fd) (S : FnScope N ps (defScope st)) (tab : TabOk P w K mg base cl k T) : FnOk P w K mg base (L2.CX P w) (k + 1) f fd ps (spOf K cl ps.length (fnD T N io st)) := by
  refine Fun.okX Fn S (fun vs H Q E h => h.1) fun cdv A outer s H vs Q E hr h => ?_
  generalize hX : cxOf (L2.CX P w) P w K mg base N qual (defScope st) f cdv A outer s H E = X
  have hb : ∀ (W : WX), GoodS T cl N k (defScope st) X W → SSs cl X W (defBody st) (dSs (dS T N (den T N 12) (defScope st) 12) (defBody st)) := fun W g => dSs_ok (dS_ok (den_ok T N 12) g 12) _
  have tk : Takes X (fun cls d _ H => E cls d H) := by
    subst hX
    exact takes_of (E := E) rfl rfl rfl rfl
  have G : GoodS T cl N k (defScope st) X (fun cls d _ H => E cls d H) := by
    refine ⟨⟨?_, S.nd, ?_, ?_, fun y gv hy => tab X ?_ ?_ ?_ ?_ ?_ y gv hy, ?_, tk⟩, fun _ _ => ?_, ?_, S.kind⟩
    all_goals subst hX
    all_goals first | rfl | exact hr | exact passes_of (X := cxOf (L2.CX P w) P w K mg base N qual (defScope st) f cdv A outer s H E) rfl
  have hK : X.K = K := by subst hX; rfl
  refine ⟨WSs X (defBody st), WSs.pss, ?_⟩
  have run := hb _ G
  obtain ⟨hlen, ds, F, hsp⟩ := h
  have hN : vs.length ≤ N.length := by
    have := congrArg List.length S.pre
    rw [List.length_take] at this
    omega
  unfold fnD fsem at hsp
  generalize hm : dSs (dS T N (den T N 12) (defScope st) 12) (defBody st) = m at run hsp
  subst hK
  cases io with
  | false =>
    have hio : ∀ S', ioOf false S' = some none := fun _ => rfl
    have fl : ∀ {H' : Hp} {O' : Own} {Z' : Sh}, Evo noOwn (fun a => a ∈ F) H O' Z' H' → (∀ a, Z' a → H' a ≠ none) → Ext H H' ∧ ShOf F [] H H' Z' := fun ev hz =>
      ⟨fun b o e => ev.keep b o e owns_no, fun a h => (ev.sh a h).elim .inl fun q => q.elim (fun w => absurd w owns_no) .inr, hz, fun _ _ h => nomatch h⟩
    cases e : m (startS false ds N.length) with
    | bad => rw [e] at hsp; exact hsp.elim
    | exc x S' =>
      rw [e] at hsp
      obtain ⟨p, kk⟩ := hsp
      refine run.exc e (rel_start (v0 := .non) p hN) fun cls d σ' H' O' Z' ev rel xr => ?_
      exact kk cls d H' (fl ev rel.zd).1 xr
    | ok fl1 S' =>
      rw [e] at hsp
      cases fl1 with
      | brk => exact hsp.elim
      | cont => exact hsp.elim
      | next =>
        obtain ⟨p, kk⟩ := hsp
        refine run.ok e (rel_start (v0 := .non) p hN) fun σ' H' O' Z' ev rel => ?_
        exact kk .non H' Z' (fl ev rel.zd).1 (fl ev rel.zd).2 (.sc rfl)
      | ret r =>
        obtain ⟨p, kk⟩ := hsp
        refine run.ok e (rel_start (v0 := .non) p hN) fun σ' v H' O' Z' ev rel res => ?_
        exact kk v H' Z' (fl ev rel.zd).1 (fl ev rel.zd).2 (res_own res fun a h => absurd h owns_no)
  | true =>
    have fl : ∀ {S' : State} {σ' : L2.St} {H' : Hp} {O' : Own} {Z' : Sh} {v0 : V} {A0 : List Addr} {d0 : R.D}, S'[0]? = some (.io d0) → Evo (oneOwn A0) (fun a => a ∈ F) H O' Z' H' → Rel X.K ⟨H, v0, A0⟩ S' σ' H' O' Z' →
        Lent A0 H H' ∧ ShOf F A0 H H' Z' ∧ Top X.K H' Z' v0 d0 A0 ∧ ∀ a, Owns (oneOwn A0) a → Owns O' a := fun {S' σ' H' O' Z' v0 A0 d0} h0 ev rel => by
      obtain ⟨_, t, e⟩ := rel.io 0 d0 h0
      have e' : O' 0 = A0 := e
      rw [e'] at t
      have ow : ∀ a, a ∈ A0 → Owns O' a := fun a h => ⟨0, by rw [e']; exact h⟩
      refine ⟨⟨fun b o q n => ev.keep b o q fun w => n (owns_one.mp w), ev.dom⟩, ⟨fun a h => ?_, rel.zd, fun a h w => rel.zo a h (ow a w)⟩, t, fun a h => ow a (owns_one.mp h)⟩
      rcases ev.sh a h with q | q | q
      · exact .inl q
      · exact absurd (ow a (owns_one.mp q)) (rel.zo a h)
      · exact .inr q
    have hio : ∀ {S' : State} {o : Option R.D}, ioOf true S' = some o → ∃ d0, o = some d0 ∧ S'[0]? = some (.io d0) := fun {S' o} h => by
      unfold ioOf at h
      rw [if_pos rfl] at h
      split at h
      · rename_i d0 q
        cases h
        exact ⟨d0, rfl, q⟩
      · cases h
    unfold fin at hsp
    cases e : m (startS true ds N.length) with
    | bad => rw [e] at hsp; exact hsp.elim
    | exc x S' =>
      rw [e] at hsp
      dsimp only at hsp
      cases q : ioOf true S' with
      | none => rw [q] at hsp; exact hsp.elim
      | some o =>
        rw [q] at hsp
        obtain ⟨d0, rfl, h0⟩ := hio q
        obtain ⟨v0, vr, A0, rfl, p, kk⟩ := hsp
        refine run.exc e (rel_startL p hN) fun cls d σ' H' O' Z' ev rel xr => ?_
        obtain ⟨a1, a2, a3, _⟩ := fl h0 ev rel
        exact kk cls d H' Z' a1 a2 a3 xr
    | ok fl1 S' =>
      rw [e] at hsp
      cases fl1 with
      | brk => exact hsp.elim
      | cont => exact hsp.elim
      | next =>
        dsimp only at hsp
        cases q : ioOf true S' with
        | none => rw [q] at hsp; exact hsp.elim
        | some o =>
          rw [q] at hsp
          obtain ⟨d0, rfl, h0⟩ := hio q
          obtain ⟨v0, vr, A0, rfl, p, kk⟩ := hsp
          refine run.ok e (rel_startL p hN) fun σ' H' O' Z' ev rel => ?_
          obtain ⟨a1, a2, a3, _⟩ := fl h0 ev rel
          exact kk .non H' Z' a1 a2 a3 (.sc rfl)
      | ret r =>
        dsimp only at hsp
        cases q : ioOf true S' with
        | none => rw [q] at hsp; exact hsp.elim
        | some o =>
          rw [q] at hsp
          obtain ⟨d0, rfl, h0⟩ := hio q
          obtain ⟨v0, vr, A0, rfl, p, kk⟩ := hsp
          refine run.ok e (rel_startL p hN) fun σ' v H' O' Z' ev rel res => ?_
          obtain ⟨a1, a2, a3, a4⟩ := fl h0 ev rel
          exact kk v H' Z' a1 a2 a3 (res_own res a4)
end
/-- a law: it answers True whatever the script -/
def LawSem (n : Nat) (g : FSem) : Prop := ∀ ns : List Int, ns.length ≤ n → (∀ z ∈ ns, Builtin.Int.intBits z ≤ 1048576) → ∃ md, g [.scr ns] = .ret md (.bl true) none
theorem scr_of {K : PySem.W.Frag} {H : Hp} {a : Addr} {xs : List V} (hO : Only H) (h : SqL K H a xs) : ScrAt K H a xs := by
  rcases h with (h | h) | h
  · rcases hO a with q | ⟨o, ys, q⟩
    · rw [h] at q; cases q
    · rw [h] at q; cases q
  · exact .inl h
  · exact .inr h
theorem law_sp {K : PySem.W.Frag} {cl : Cls} {n : Nat} {g : FSem} (L : LawSem n g) {H : Hp} {a : Addr} {ns : List Int} (hl : ns.length ≤ n) (hb : ∀ z ∈ ns, Builtin.Int.intBits z ≤ 1048576) (hO : Only H) (hS : SqL K H a (ns.map V.int)) :
    spOf K cl 1 g [.ref a] H (fun v _ => v = .bl true) fun _ _ _ => False := by
  obtain ⟨md, e⟩ := L ns hl hb
  refine ⟨rfl, [.scr ns], [], ?_⟩
  rw [e]
  exact ⟨Reps.scr (scr_of hO hS) .nil, fun v H' Zr x sh res => res.val rfl⟩
end R

set_option Elab.async false
set_option linter.all false
set_option maxRecDepth 100000
set_option maxHeartbeats 2000000
/-! R20: evaluation, rule by rule (a combinator unfolds only where its state stands open). -/
namespace R
open PySem PySem.Spec PyProof.Rows L2

theorem ev_mC (d : R.D) {s : Sl} {S : State} : mC d (s :: S) = (.ok ⟨.N, d⟩ (s :: S)) := rfl
theorem ev_mVar (i : Nat) {s : Sl} {S : State} : mVar i (s :: S) = (match slotRV (s :: S) i with
  | some r => .ok r (s :: S)
  | none => .bad) := rfl
theorem ev_mVarZ (i : Nat) {s : Sl} {S : State} : mVarZ i (s :: S) = (match frzSl (s :: S) i with
  | some (d, S1) => .ok ⟨.Z, d⟩ S1
  | none => .bad) := rfl
theorem ev_mOp (q2 : Bool) (f : RV → RV → Option RV) (ma mb : M RV) {s : Sl} {S : State} : mOp q2 f ma mb (s :: S) = (match ma (s :: S) with
  | .ok r1 S1 => match hold q2 r1 with
    | some r1 => match mb S1 with
      | .ok r2 S2 => match f r1 r2 with
        | some r => .ok r S2
        | none => .bad
      | .exc x S2 => .exc x S2
      | .bad => .bad
    | none => .bad
  | .exc x S1 => .exc x S1
  | .bad => .bad) := rfl
theorem ev_mOpV (i : Nat) (f : RV → RV → Option RV) (mb : M RV) {s : Sl} {S : State} : mOpV i f mb (s :: S) = (match slotRV (s :: S) i with
  | none => .bad
  | some _ => match mb (s :: S) with
    | .ok r2 S2 => match slotRV S2 i with
      | some r1 => match f r1 r2 with
        | some r => .ok r S2
        | none => .bad
      | none => .bad
    | .exc x S2 => .exc x S2
    | .bad => .bad) := rfl
theorem ev_mUn (f : RV → Option RV) (ma : M RV) {s : Sl} {S : State} : mUn f ma (s :: S) = (match ma (s :: S) with
  | .ok r1 S1 => match f r1 with
    | some r => .ok r S1
    | none => .bad
  | .exc x S1 => .exc x S1
  | .bad => .bad) := rfl
theorem ev_mANil  {s : Sl} {S : State} : mANil  (s :: S) = (.ok [] (s :: S)) := rfl
theorem ev_mACons (ma : M RV) (ms : M (List R.D)) {s : Sl} {S : State} : mACons ma ms (s :: S) = (match ma (s :: S) with
  | .ok r1 S1 => match settle r1 with
    | some r1 => match ms S1 with
      | .ok ds S2 => .ok (r1.d :: ds) S2
      | .exc x S2 => .exc x S2
      | .bad => .bad
    | none => .bad
  | .exc x S1 => .exc x S1
  | .bad => .bad) := rfl
theorem ev_mTup (ms : M (List R.D)) {s : Sl} {S : State} : mTup ms (s :: S) = (match ms (s :: S) with
  | .ok r S' => if lenOk r.length then .ok ⟨.N, .tup r⟩ S' else .bad
  | .exc x S' => .exc x S'
  | .bad => .bad) := rfl
theorem ev_mLst (ms : M (List R.D)) {s : Sl} {S : State} : mLst ms (s :: S) = (match ms (s :: S) with
  | .ok r S' => if lenOk r.length then .ok ⟨.N, .lst r⟩ S' else .bad
  | .exc x S' => .exc x S'
  | .bad => .bad) := rfl
theorem ev_mNoPart  {s : Sl} {S : State} : mNoPart  (s :: S) = (.ok none (s :: S)) := rfl
theorem ev_mPart (ma : M RV) {s : Sl} {S : State} : mPart ma (s :: S) = (match ma (s :: S) with
  | .ok r S' => match r.d with
    | .int i => .ok (some i) S'
    | _ => .bad
  | _ => .bad) := rfl
theorem ev_mSl (q : Bool) (ma : M RV) (ml mh : M (Option Int)) {s : Sl} {S : State} : mSl q ma ml mh (s :: S) = (match ma (s :: S) with
  | .ok r1 S1 => match hold q r1 with
    | some r1 => match ml S1 with
      | .ok lo S2 => match mh S2 with
        | .ok hi S3 => match fSl r1 lo hi with
          | some r => .ok r S3
          | none => .bad
        | _ => .bad
      | _ => .bad
    | none => .bad
  | .exc x S1 => .exc x S1
  | .bad => .bad) := rfl
theorem ev_tTrue (ma : M RV) {s : Sl} {S : State} : tTrue ma (s :: S) = (match ma (s :: S) with
  | .ok r S' => match truD r.d with
    | some b => .ok b S'
    | none => .bad
  | .exc x S' => .exc x S'
  | .bad => .bad) := rfl
theorem ev_tBool (ma : M RV) {s : Sl} {S : State} : tBool ma (s :: S) = (match ma (s :: S) with
  | .ok r S' => match r.d with
    | .bl b => .ok b S'
    | _ => .bad
  | .exc x S' => .exc x S'
  | .bad => .bad) := rfl
theorem ev_mCh (q2 q3 : Bool) (f f' : RV → RV → Option RV) (ma mb mc : M RV) {s : Sl} {S : State} : mCh q2 q3 f f' ma mb mc (s :: S) = (match ma (s :: S) with
  | .ok r1 S1 => match settle r1 with
    | some r1 => match mb S1 with
      | .ok r2 S2 => match settle r2 with
        | some r2 => match f r1 r2 with
          | some ⟨_, .bl true⟩ => match mc S2 with
            | .ok r3 S3 => match f' r2 r3 with
              | some r => .ok r S3
              | none => .bad
            | .exc x S3 => .exc x S3
            | .bad => .bad
          | some ⟨_, .bl false⟩ => .ok ⟨.N, .bl false⟩ S2
          | _ => .bad
        | none => .bad
      | .exc x S2 => .exc x S2
      | .bad => .bad
    | none => .bad
  | .exc x S1 => .exc x S1
  | .bad => .bad) := rfl
theorem ev_tAndM (ta tb : M Bool) {s : Sl} {S : State} : tAndM ta tb (s :: S) = (match ta (s :: S) with
  | .ok b S1 => if b then tb S1 else .ok false S1
  | .exc x S1 => .exc x S1
  | .bad => .bad) := rfl
theorem ev_tOrM (ta tb : M Bool) {s : Sl} {S : State} : tOrM ta tb (s :: S) = (match ta (s :: S) with
  | .ok b S1 => if b then .ok true S1 else tb S1
  | .exc x S1 => .exc x S1
  | .bad => .bad) := rfl
theorem ev_tNotM (ta : M Bool) {s : Sl} {S : State} : tNotM ta (s :: S) = (match ta (s :: S) with
  | .ok b S1 => .ok (!b) S1
  | .exc x S1 => .exc x S1
  | .bad => .bad) := rfl
theorem ev_mIfE (tc : M Bool) (ma mb : M RV) {s : Sl} {S : State} : mIfE tc ma mb (s :: S) = (match tc (s :: S) with
  | .ok b S1 => if b then ma S1 else mb S1
  | .exc x S1 => .exc x S1
  | .bad => .bad) := rfl
theorem ev_mAndV (ma mb : M RV) {s : Sl} {S : State} : mAndV ma mb (s :: S) = (match ma (s :: S) with
  | .ok r S1 => match r.d with
    | .bl b => if b then mb S1 else .ok ⟨.N, .bl false⟩ S1
    | _ => .bad
  | .exc x S1 => .exc x S1
  | .bad => .bad) := rfl
theorem ev_mOrV (ma mb : M RV) {s : Sl} {S : State} : mOrV ma mb (s :: S) = (match ma (s :: S) with
  | .ok r S1 => match r.d with
    | .bl b => if b then .ok ⟨.N, .bl true⟩ S1 else mb S1
    | _ => .bad
  | .exc x S1 => .exc x S1
  | .bad => .bad) := rfl
theorem ev_mNotV (ma : M RV) {s : Sl} {S : State} : mNotV ma (s :: S) = (match ma (s :: S) with
  | .ok r S1 => match truD r.d with
    | some b => .ok ⟨.N, .bl (!b)⟩ S1
    | none => .bad
  | .exc x S1 => .exc x S1
  | .bad => .bad) := rfl
theorem ev_cNil  {s : Sl} {S : State} : cNil  (s :: S) = (.ok [] (s :: S)) := rfl
theorem ev_cPl (i : Nat) (ms : M (List AV)) {s : Sl} {S : State} : cPl i ms (s :: S) = (match slotRV (s :: S) i with
  | some _ => match ms (s :: S) with
    | .ok r S' => .ok (.pl i :: r) S'
    | .exc x S' => .exc x S'
    | .bad => .bad
  | none => .bad) := rfl
theorem ev_cRv (q2 : Bool) (ma : M RV) (ms : M (List AV)) {s : Sl} {S : State} : cRv q2 ma ms (s :: S) = (match ma (s :: S) with
  | .ok r1 S1 => match hold q2 r1 with
    | some r1 => match ms S1 with
      | .ok r S' => .ok (.rv r1 :: r) S'
      | .exc x S' => .exc x S'
      | .bad => .bad
    | none => .bad
  | .exc x S1 => .exc x S1
  | .bad => .bad) := rfl
theorem ev_mBlt (f : List RV → Option RV) (ms : M (List AV)) {s : Sl} {S : State} : mBlt f ms (s :: S) = (match ms (s :: S) with
  | .ok as S' => match avRVs S' as with
    | some rs => match f rs with
      | some r => .ok r S'
      | none => .bad
    | none => .bad
  | .exc x S' => .exc x S'
  | .bad => .bad) := rfl
theorem ev_mM1 (f : Str → RV → Option RV) (mo mb : M RV) {s : Sl} {S : State} : mM1 f mo mb (s :: S) = (match mo (s :: S) with
  | .ok r1 S1 => match r1.d with
    | .str z => match mb S1 with
      | .ok r2 S2 => match f z r2 with
        | some r => .ok r S2
        | none => .bad
      | .exc x S2 => .exc x S2
      | .bad => .bad
    | _ => .bad
  | .exc x S1 => .exc x S1
  | .bad => .bad) := rfl
theorem ev_mCall (n : Nat) (g : FSem) (ms : M (List AV)) {s : Sl} {S : State} : mCall n g ms (s :: S) = (match ms (s :: S) with
  | .ok as S' => if as.length == n then match avRVs S' as with
    | some rs => match g (rs.map (·.d)) with
      | .ret md d none => if as.all (shareOk S') || apart md d then .ok ⟨md, d⟩ S' else .bad
      | .ret md d (some d0) => match as with
        | .pl i :: ar => if ar.all (okLent i) && (ar.all (shareOk S') || (apart md d && clean d0)) then match lend S' i d0 with
          | some S'' => .ok ⟨md, d⟩ S''
          | none => .bad
          else .bad
        | _ => .bad
      | .exc x none => .exc x S'
      | .exc x (some d0) => match as with
        | .pl i :: ar => if ar.all (okLent i) && (ar.all (shareOk S') || clean d0) then match lend S' i d0 with
          | some S'' => .exc x S''
          | none => .bad
          else .bad
        | _ => .bad
      | .bad => .bad
    | none => .bad
    else .bad
  | .exc x S' => .exc x S'
  | .bad => .bad) := rfl
theorem ev_mNext  {s : Sl} {S : State} : mNext  (s :: S) = (.ok .next (s :: S)) := rfl
theorem ev_mSeq (m1 m2 : M Fl) {s : Sl} {S : State} : mSeq m1 m2 (s :: S) = (match m1 (s :: S) with
  | .ok .next S1 => m2 S1
  | r => r) := rfl
theorem ev_mFl (f : Fl) {s : Sl} {S : State} : mFl f (s :: S) = (.ok f (s :: S)) := rfl
theorem ev_mDrop (ma : M RV) {s : Sl} {S : State} : mDrop ma (s :: S) = (match ma (s :: S) with
  | .ok _ S1 => .ok .next S1
  | .exc x S1 => .exc x S1
  | .bad => .bad) := rfl
theorem ev_mRet (ma : M RV) {s : Sl} {S : State} : mRet ma (s :: S) = (match ma (s :: S) with
  | .ok r S1 => match settle r with
    | some r => .ok (.ret r) S1
    | none => .bad
  | .exc x S1 => .exc x S1
  | .bad => .bad) := rfl
theorem ev_mRetV (i : Nat) {s : Sl} {S : State} : mRetV i (s :: S) = (match relSl (s :: S) i with
  | some (r, S1) => .ok (.ret r) S1
  | none => .bad) := rfl
theorem ev_mIfS (mt : M Bool) (m1 m2 : M Fl) {s : Sl} {S : State} : mIfS mt m1 m2 (s :: S) = (match mt (s :: S) with
  | .ok true S1 => m1 S1
  | .ok false S1 => m2 S1
  | .exc x S1 => .exc x S1
  | .bad => .bad) := rfl
theorem ev_mAsg (t : Tg) (ma : M RV) {s : Sl} {S : State} : mAsg t ma (s :: S) = (match ma (s :: S) with
  | .ok r S1 => match setT t S1 r with
    | some S2 => .ok .next S2
    | none => .bad
  | .exc x S1 => .exc x S1
  | .bad => .bad) := rfl
theorem ev_mAug (i : Nat) (f : Int → Int → Int) (ma : M RV) {s : Sl} {S : State} : mAug i f ma (s :: S) = (match slotRV (s :: S) i with
  | some ⟨_, .int a⟩ => match ma (s :: S) with
    | .ok ⟨_, .int b⟩ S1 => match setSl S1 i ⟨.N, .int (f a b)⟩ with
      | some S2 => .ok .next S2
      | none => .bad
    | .ok _ _ => .bad
    | .exc x S1 => .exc x S1
    | .bad => .bad
  | _ => .bad) := rfl
theorem ev_mSetP (i : Nat) (ma mi : M RV) {s : Sl} {S : State} : mSetP i ma mi (s :: S) = (match ma (s :: S) with
  | .ok r S1 => match settle r with
    | some r => match slotRV S1 i with
      | some _ => match mi S1 with
        | .ok ri S2 => match ri.d, slotRV S2 i with
          | .int k, some ⟨.B, .lst ds⟩ => match ixN ds.length k with
            | some j => match lend S2 i (.lst (ds.set j r.d)) with
              | some S3 => .ok .next S3
              | none => .bad
            | none => .bad
          | _, _ => .bad
        | .exc x S2 => .exc x S2
        | .bad => .bad
      | none => .bad
    | none => .bad
  | .exc x S1 => .exc x S1
  | .bad => .bad) := rfl
theorem ev_mLM (i : Nat) (f : LM) (ms : M (List R.D)) {s : Sl} {S : State} : mLM i f ms (s :: S) = (match slotRV (s :: S) i with
  | some r => if isL r then match ms (s :: S) with
      | .ok as S1 => match slotRV S1 i with
        | some ⟨.B, .lst ds⟩ => match f ds as with
          | some (d, ds') => match lend S1 i (.lst ds') with
            | some S2 => .ok ⟨.Z, d⟩ S2
            | none => .bad
          | none => .bad
        | _ => .bad
      | .exc x S1 => .exc x S1
      | .bad => .bad
    else .bad
  | none => .bad) := rfl
theorem ev_iAnyM (ma : M RV) {s : Sl} {S : State} : iAnyM ma (s :: S) = (match ma (s :: S) with
  | .ok r S1 => match settle r with
    | some r => match itemsOf r.d with
      | some ds => .ok ds S1
      | none => .bad
    | none => .bad
  | .exc x S1 => .exc x S1
  | .bad => .bad) := rfl
theorem ev_iRng1M (ms : M (List R.D)) {s : Sl} {S : State} : iRng1M ms (s :: S) = (match ms (s :: S) with
  | .ok [.int j] S1 => if smallI j then .ok (rangeD 0 j.toNat) S1 else .bad
  | .ok _ _ => .bad
  | .exc x S1 => .exc x S1
  | .bad => .bad) := rfl
theorem ev_iRng2M (ms : M (List R.D)) {s : Sl} {S : State} : iRng2M ms (s :: S) = (match ms (s :: S) with
  | .ok [.int i, .int j] S1 => if smallI i && smallI j then .ok (rangeD i (j - i).toNat) S1 else .bad
  | .ok _ _ => .bad
  | .exc x S1 => .exc x S1
  | .bad => .bad) := rfl
theorem ev_iEn1M (ms : M (List R.D)) {s : Sl} {S : State} : iEn1M ms (s :: S) = (match ms (s :: S) with
  | .ok [d] S1 => match itemsOf d with
    | some ds => .ok (enumD 0 ds) S1
    | none => .bad
  | .ok _ _ => .bad
  | .exc x S1 => .exc x S1
  | .bad => .bad) := rfl
theorem ev_iEnM (ms : M (List R.D)) {s : Sl} {S : State} : iEnM ms (s :: S) = (match ms (s :: S) with
  | .ok [d, .int c] S1 => match itemsOf d with
    | some ds => if smallI c then .ok (enumD c ds) S1 else .bad
    | none => .bad
  | .ok _ _ => .bad
  | .exc x S1 => .exc x S1
  | .bad => .bad) := rfl
theorem ev_iZipM (ms : M (List R.D)) {s : Sl} {S : State} : iZipM ms (s :: S) = (match ms (s :: S) with
  | .ok [d, d'] S1 => match itemsOf d, itemsOf d' with
    | some ds, some ds' => .ok (zipD ds ds') S1
    | _, _ => .bad
  | .ok _ _ => .bad
  | .exc x S1 => .exc x S1
  | .bad => .bad) := rfl
theorem ev_mFor (tg : Tg) (mi : M (List R.D)) (mb : M Fl) {s : Sl} {S : State} : mFor tg mi mb (s :: S) = (match mi (s :: S) with
  | .ok ds S1 => forGo tg mb ds S1
  | .exc x S1 => .exc x S1
  | .bad => .bad) := rfl
theorem ev_mLc (vs : List Nat) (tg : Tg) (mi : M (List R.D)) (mt : M Bool) (me : M RV) {s : Sl} {S : State} : mLc vs tg mi mt me (s :: S) = (match mi (s :: S) with
  | .ok ds S1 => if okW S1 vs then match lcGo vs tg mt me ds (wipeS S1 vs) with
      | .ok out S2 => if lenOk out.length then .ok ⟨.N, .lst out⟩ S2 else .bad
      | _ => .bad
    else .bad
  | .exc x S1 => .exc x S1
  | .bad => .bad) := rfl
theorem ev_mJoined (ms : List (M RV)) {s : Sl} {S : State} : mJoined ms (s :: S) = (match jGo ms Str.empty (s :: S) with
  | .ok s S' => .ok ⟨.N, .str s⟩ S'
  | .exc x S' => .exc x S'
  | .bad => .bad) := rfl
/-- the mode of what is held and can't be a list -/
def hmd (q : Bool) : Md → Md
  | .B => if q then .B else .Z
  | m => m
section
variable {s : Sl} {S S' : State} {i : Nat} {md md' : Md} {d e : R.D} {xs ys : List R.D} {a b : Int} {x y : Str} {q : Bool} {r : RV} {ts : List Tg} {t : Tg} {p : Bool}
theorem ev_slotRV : slotRV (s :: S) i = (match (s :: S)[i]? with
  | some (.own d) => some ⟨.B, d⟩
  | some (.io d) => some ⟨.B, d⟩
  | some (.frz d) => some ⟨.Z, d⟩
  | _ => none) := rfl
theorem ev_frzSl : frzSl (s :: S) i = (match (s :: S)[i]? with
  | some (.own d) => some (d, (s :: S).set i (.frz d))
  | some (.frz d) => some (d, s :: S)
  | some (.io d) => if isLst d then none else some (d, s :: S)
  | _ => none) := rfl
theorem ev_relSl : relSl (s :: S) i = (match (s :: S)[i]? with
  | some (.own d) => some (⟨.N, d⟩, (s :: S).set i .un)
  | some (.frz d) => some (⟨.Z, d⟩, s :: S)
  | some (.io d) => if isLst d then none else some (⟨.Z, d⟩, s :: S)
  | _ => none) := rfl
theorem ev_setSl : setSl (s :: S) i r = (match (s :: S)[i]? with
  | none => none
  | some (.io _) => none
  | some _ => if isLst r.d then (match r.md with
      | .N => some ((s :: S).set i (.own r.d))
      | .Z => some ((s :: S).set i (.frz r.d))
      | .B => none) else some ((s :: S).set i (.frz r.d))) := rfl
theorem ev_lend : lend (s :: S) i d = (match (s :: S)[i]? with
  | some (.own _) => some ((s :: S).set i (.own d))
  | some (.io _) => some ((s :: S).set i (.io d))
  | _ => none) := rfl
theorem ev_setT_nm : setT (.nm i) S r = setSl S i r := by rw [setT]
theorem ev_setT_tp : setT (.tp ts) S ⟨md, .tup xs⟩ = if xs.length == ts.length then setTs ts S xs else none := by rw [setT]
theorem ev_setTs_nil : setTs [] S [] = some S := by rw [setTs]
theorem ev_setTs_cons : setTs (t :: ts) S (d :: xs) = (match setT t S ⟨.Z, d⟩ with
  | some S1 => setTs ts S1 xs
  | none => none) := by
  rw [setTs]
  all_goals (cases setT t S ⟨.Z, d⟩ <;> rfl)
theorem ev_hold_N : hold q ⟨.N, d⟩ = some ⟨.N, d⟩ := rfl
theorem ev_hold_Z : hold q ⟨.Z, d⟩ = some ⟨.Z, d⟩ := rfl
theorem ev_hold_B : hold q ⟨.B, d⟩ = if q then some ⟨.B, d⟩ else if isLst d then none else some ⟨.Z, d⟩ := rfl
theorem ev_settle_N : R.settle ⟨.N, d⟩ = some ⟨.N, d⟩ := rfl
theorem ev_settle_Z : R.settle ⟨.Z, d⟩ = some ⟨.Z, d⟩ := rfl
theorem ev_settle_B : R.settle ⟨.B, d⟩ = if isLst d then none else some ⟨.Z, d⟩ := rfl
theorem ev_isLst_lst : isLst (.lst xs) = true := rfl
theorem ev_isLst_tup : isLst (.tup xs) = false := rfl
theorem ev_isLst_int : isLst (.int a) = false := rfl
theorem ev_isLst_bl : isLst (.bl p) = false := rfl
theorem ev_isLst_str : isLst (.str x) = false := rfl
theorem ev_isLst_non : isLst .non = false := rfl
theorem ev_isLst_scr {ns : List Int} : isLst (.scr ns) = false := rfl
theorem ev_idx_lst : fIdx ⟨md, .lst xs⟩ ⟨md', .int a⟩ = (L2.atI xs a).map fun d => ⟨.Z, d⟩ := rfl
theorem ev_idx_tup : fIdx ⟨md, .tup xs⟩ ⟨md', .int a⟩ = (L2.atI xs a).map fun d => ⟨.Z, d⟩ := rfl
theorem ev_idx_scr {ns : List Int} : fIdx ⟨md, .scr ns⟩ ⟨md', .int a⟩ = (L2.atI ns a).map fun n => ⟨.N, .int n⟩ := rfl
theorem ev_idx_str : fIdx ⟨md, .str x⟩ ⟨md', .int a⟩ = if lenOk x.length then (L2.atI x.cps.toList a).map fun c => ⟨.N, .str ⟨#[c]⟩⟩ else none := rfl
theorem ev_neg : fNeg ⟨md, .int a⟩ = some ⟨.N, .int (-a)⟩ := rfl
theorem ev_add_int : bop .Add ⟨md, .int a⟩ ⟨md', .int b⟩ = some ⟨.N, .int (a + b)⟩ := rfl
theorem ev_sub_int : bop .Sub ⟨md, .int a⟩ ⟨md', .int b⟩ = some ⟨.N, .int (a - b)⟩ := rfl
theorem ev_mul_int : bop .Mult ⟨md, .int a⟩ ⟨md', .int b⟩ = if mulOk a b then some ⟨.N, .int (a * b)⟩ else none := rfl
theorem ev_div_int : bop .FloorDiv ⟨md, .int a⟩ ⟨md', .int b⟩ = if divOk b then some ⟨.N, .int (a / b)⟩ else none := rfl
theorem ev_mod_int : bop .Mod ⟨md, .int a⟩ ⟨md', .int b⟩ = if decide (0 < b) then some ⟨.N, .int (a % b)⟩ else none := rfl
theorem ev_pow_int : bop .Pow ⟨md, .int a⟩ ⟨md', .int b⟩ = if powOk a b then some ⟨.N, .int (a ^ b.toNat)⟩ else none := rfl
theorem ev_add_str : bop .Add ⟨md, .str x⟩ ⟨md', .str y⟩ = if lenOk (x.length + y.length) then some ⟨.N, .str (x ++ y)⟩ else none := rfl
theorem ev_add_tup : bop .Add ⟨md, .tup xs⟩ ⟨md', .tup ys⟩ = if lenOk (xs.length + ys.length) then some ⟨.N, .tup (xs ++ ys)⟩ else none := rfl
theorem ev_add_lst : bop .Add ⟨md, .lst xs⟩ ⟨md', .lst ys⟩ = if lenOk (xs.length + ys.length) then some ⟨.N, .lst (xs ++ ys)⟩ else none := rfl
theorem ev_eq_int : cop .Eq ⟨md, .int a⟩ ⟨md', .int b⟩ = some ⟨.N, .bl (decide (a = b))⟩ := by
  show some (RV.mk .N (.bl (false ^^ decide (V.int a = V.int b)))) = _
  rw [Bool.false_xor, dec_int]
  by_cases h : a = b <;> simp [h]
theorem ev_ne_int : cop .NotEq ⟨md, .int a⟩ ⟨md', .int b⟩ = some ⟨.N, .bl (decide (a ≠ b))⟩ := by
  show some (RV.mk .N (.bl (true ^^ decide (V.int a = V.int b)))) = _
  rw [Bool.true_xor, dec_int]
  by_cases h : a = b <;> simp [h]
theorem ev_eq_str : cop .Eq ⟨md, .str x⟩ ⟨md', .str y⟩ = some ⟨.N, .bl (decide (x = y))⟩ := by
  show some (RV.mk .N (.bl (false ^^ decide (V.str x = V.str y)))) = _
  rw [Bool.false_xor]
  by_cases h : x = y <;> simp [h]
theorem ev_ne_str : cop .NotEq ⟨md, .str x⟩ ⟨md', .str y⟩ = some ⟨.N, .bl (decide (x ≠ y))⟩ := by
  show some (RV.mk .N (.bl (true ^^ decide (V.str x = V.str y)))) = _
  rw [Bool.true_xor]
  by_cases h : x = y <;> simp [h]
theorem ev_lt : cop .Lt ⟨md, .int a⟩ ⟨md', .int b⟩ = some ⟨.N, .bl (decide (a < b))⟩ := rfl
theorem ev_le : cop .LtE ⟨md, .int a⟩ ⟨md', .int b⟩ = some ⟨.N, .bl (decide (a ≤ b))⟩ := rfl
theorem ev_gt : cop .Gt ⟨md, .int a⟩ ⟨md', .int b⟩ = some ⟨.N, .bl (decide (b < a))⟩ := rfl
theorem ev_ge : cop .GtE ⟨md, .int a⟩ ⟨md', .int b⟩ = some ⟨.N, .bl (decide (b ≤ a))⟩ := rfl
theorem ev_is : cop .Is ⟨md, d⟩ ⟨md', .non⟩ = some ⟨.N, .bl (isNone d)⟩ := by
  show some (RV.mk .N (.bl (false ^^ isNone d))) = _
  rw [Bool.false_xor]
theorem ev_isNot : cop .IsNot ⟨md, d⟩ ⟨md', .non⟩ = some ⟨.N, .bl (!isNone d)⟩ := by
  show some (RV.mk .N (.bl (true ^^ isNone d))) = _
  rw [Bool.true_xor]
theorem ev_none_tup : isNone (.tup xs) = false := rfl
theorem ev_none_lst : isNone (.lst xs) = false := rfl
theorem ev_none_int : isNone (.int a) = false := rfl
theorem ev_none_str : isNone (.str x) = false := rfl
theorem ev_none_non : isNone .non = true := rfl
theorem ev_len_lst : fLen [⟨md, .lst xs⟩] = some ⟨.N, .int xs.length⟩ := rfl
theorem ev_len_tup : fLen [⟨md, .tup xs⟩] = some ⟨.N, .int xs.length⟩ := rfl
theorem ev_len_scr {ns : List Int} : fLen [⟨md, .scr ns⟩] = some ⟨.N, .int ns.length⟩ := rfl
theorem ev_len_str : fLen [⟨md, .str x⟩] = if lenOk x.length then some ⟨.N, .int x.length⟩ else none := rfl
theorem ev_abs : fAbs [⟨md, .int a⟩] = some ⟨.N, .int (if a < 0 then -a else a)⟩ := rfl
theorem ev_int1 : fInt1 [⟨md, .int a⟩] = some ⟨.N, .int a⟩ := rfl
theorem ev_str_int : fStr1 [⟨md, .int a⟩] = if strIntOk a then some ⟨.N, .str (toString a)⟩ else none := rfl
theorem ev_str_str : fStr1 [⟨md, .str x⟩] = some ⟨.N, .str x⟩ := rfl
theorem ev_list_lst : fList1 [⟨md, .lst xs⟩] = some ⟨.N, .lst xs⟩ := rfl
theorem ev_list_tup : fList1 [⟨md, .tup xs⟩] = some ⟨.N, .lst xs⟩ := rfl
theorem ev_tup_lst : fTup1 [⟨md, .lst xs⟩] = some ⟨.N, .tup xs⟩ := rfl
theorem ev_tup_tup : fTup1 [⟨md, .tup xs⟩] = some ⟨.N, .tup xs⟩ := rfl
theorem ev_fmt_str : fFmt ⟨md, .str x⟩ = if lenOk x.length then some ⟨.N, .str x⟩ else none := rfl
theorem ev_fmt_int : fFmt ⟨md, .int a⟩ = if strIntOk a then some ⟨.N, .str (toString a)⟩ else none := rfl
theorem ev_sl_lst {lo hi : Option Int} : fSl ⟨md, .lst xs⟩ lo hi = some ⟨.N, .lst (cutD xs lo hi)⟩ := rfl
theorem ev_sl_tup {lo hi : Option Int} : fSl ⟨md, .tup xs⟩ lo hi = some ⟨.N, .tup (cutD xs lo hi)⟩ := rfl
theorem ev_sl_scr {ns : List Int} {lo hi : Option Int} : fSl ⟨md, .scr ns⟩ lo hi = some ⟨.N, .lst ((cutD ns lo hi).map R.D.int)⟩ := rfl
theorem ev_split : fSplit x ⟨md, .str y⟩ = if !(y.length == 0) && lenOk (x.length + 2) then some ⟨.N, .lst ((Txt.split x y).map R.D.str)⟩ else none := rfl
theorem ev_join : fJoin x ⟨md, .lst xs⟩ = (match strsOf xs with
  | some ys => if joinOk x ys then some ⟨.N, .str (Txt.join x ys)⟩ else none
  | none => none) := rfl
theorem ev_tru_bl : truD (.bl p) = some p := rfl
theorem ev_tru_int : truD (.int a) = some (a != 0) := rfl
theorem ev_tru_non : truD .non = some false := rfl
theorem ev_tru_lst : truD (.lst xs) = some (!xs.isEmpty) := rfl
theorem ev_tru_tup : truD (.tup xs) = some (!xs.isEmpty) := rfl
theorem ev_avRVs_nil : avRVs S [] = some [] := rfl
theorem ev_avRVs_pl {as : List AV} : avRVs (s :: S) (.pl i :: as) = (match slotRV (s :: S) i, avRVs (s :: S) as with
  | some r, some rs => some (r :: rs)
  | _, _ => none) := rfl
theorem ev_avRVs_rv {as : List AV} : avRVs (s :: S) (.rv r :: as) = (match avRVs (s :: S) as with
  | some rs => some (r :: rs)
  | none => none) := by
  show (match some r, avRVs (s :: S) as with
    | some r, some rs => some (r :: rs)
    | _, _ => none) = _
  cases avRVs (s :: S) as <;> rfl
theorem ev_share_pl : shareOk (s :: S) (.pl i) = (match slotRV (s :: S) i with
  | some r => (match r.md with
    | .B => !isLst r.d
    | _ => true)
  | none => true) := rfl
theorem ev_share_N : shareOk S (.rv ⟨.N, d⟩) = true := rfl
theorem ev_share_Z : shareOk S (.rv ⟨.Z, d⟩) = true := rfl
theorem ev_share_B : shareOk S (.rv ⟨.B, d⟩) = !isLst d := rfl
theorem ev_lent_pl {j : Nat} : okLent i (.pl j) = (j != i) := rfl
theorem ev_lent_N : okLent i (.rv ⟨.N, d⟩) = true := rfl
theorem ev_lent_Z : okLent i (.rv ⟨.Z, d⟩) = true := rfl
theorem ev_lent_B : okLent i (.rv ⟨.B, d⟩) = !isLst d := rfl
theorem ev_fin_ret : fin p (.ok (.ret r) S') = (match ioOf p S' with
  | some o => .ret r.md r.d o
  | none => .bad) := rfl
theorem ev_fin_next : fin p (.ok .next S') = (match ioOf p S' with
  | some o => .ret .N .non o
  | none => .bad) := rfl
theorem ev_io_t : ioOf true (.io d :: S) = some (some d) := rfl
theorem ev_io_f : ioOf false S = some none := rfl
theorem ev_jGo_nil : jGo [] x S = .ok x S := rfl
theorem ev_jGo_cons {m : M RV} {ms : List (M RV)} : jGo (m :: ms) x (s :: S) = (match m (s :: S) with
  | .ok r S' => match r.d with
    | .str y => if lenOk (x ++ y).length then jGo ms (x ++ y) S' else .bad
    | _ => .bad
  | .exc e S' => .exc e S'
  | .bad => .bad) := rfl
theorem ev_isi {t : Ty} : fIsi t ⟨md, d⟩ = some ⟨.N, .bl (isiB d t)⟩ := rfl
theorem ev_hold_t : hold true r = some r := by
  obtain ⟨md, d⟩ := r
  cases md <;> rfl
theorem ev_hold_fint : hold q ⟨md, .int a⟩ = some ⟨hmd q md, .int a⟩ := by cases md <;> cases q <;> rfl
theorem ev_hold_fstr : hold q ⟨md, .str x⟩ = some ⟨hmd q md, .str x⟩ := by cases md <;> cases q <;> rfl
theorem ev_hold_ftup : hold q ⟨md, .tup xs⟩ = some ⟨hmd q md, .tup xs⟩ := by cases md <;> cases q <;> rfl
theorem ev_hold_fbl : hold q ⟨md, .bl p⟩ = some ⟨hmd q md, .bl p⟩ := by cases md <;> cases q <;> rfl
theorem ev_settle_int : R.settle ⟨md, .int a⟩ = some ⟨hmd false md, .int a⟩ := by cases md <;> rfl
theorem ev_settle_str : R.settle ⟨md, .str x⟩ = some ⟨hmd false md, .str x⟩ := by cases md <;> rfl
theorem ev_settle_tup : R.settle ⟨md, .tup xs⟩ = some ⟨hmd false md, .tup xs⟩ := by cases md <;> rfl
theorem ev_settle_bl : R.settle ⟨md, .bl p⟩ = some ⟨hmd false md, .bl p⟩ := by cases md <;> rfl
theorem ev_settle_non : R.settle ⟨md, .non⟩ = some ⟨hmd false md, .non⟩ := by cases md <;> rfl
theorem ev_share_int : shareOk S (.rv ⟨md, .int a⟩) = true := by cases md <;> rfl
theorem ev_share_str : shareOk S (.rv ⟨md, .str x⟩) = true := by cases md <;> rfl
theorem ev_share_tup : shareOk S (.rv ⟨md, .tup xs⟩) = true := by cases md <;> rfl
theorem ev_lent_int : okLent i (.rv ⟨md, .int a⟩) = true := by cases md <;> rfl
theorem ev_lent_str : okLent i (.rv ⟨md, .str x⟩) = true := by cases md <;> rfl
theorem ev_lent_tup : okLent i (.rv ⟨md, .tup xs⟩) = true := by cases md <;> rfl
end

end R

set_option Elab.async false
set_option linter.all false
set_option maxRecDepth 100000
set_option maxHeartbeats 2000000
/-! R21: loops and comprehensions evaluated, small facts of data. -/
namespace R
open PySem PySem.Spec PyProof.Rows L2

/-! ### loops -/
theorem forGo_inv {tg : Tg} {mb : M Fl} (I : Nat → State → Prop) : ∀ (ds : List R.D) (j : Nat) (S : State), I j S → (∀ i d S, ds[i]? = some d → I (j + i) S → ∃ S1 S2, setT tg S ⟨.Z, d⟩ = some S1 ∧ (mb S1 = .ok .next S2 ∨ mb S1 = .ok .cont S2) ∧ I (j + i + 1) S2) → ∃ S', forGo tg mb ds S = .ok .next S' ∧ I (j + ds.length) S'
  | [], j, S, h, _ => ⟨S, rfl, h⟩
  | d :: ds, j, S, h, st => by
    obtain ⟨S1, S2, e1, e2, h2⟩ := st 0 d S rfl h
    obtain ⟨S', e3, h3⟩ := forGo_inv I ds (j + 1) S2 h2 fun i d' S'' hi hI => by
      have := st (i + 1) d' S'' (by simpa using hi) (by rw [Nat.add_right_comm] at hI; exact hI)
      rw [Nat.add_right_comm j 1 i]; exact this
    refine ⟨S', ?_, by rw [List.length_cons, Nat.add_comm ds.length 1, ← Nat.add_assoc]; exact h3⟩
    rw [forGo, e1]
    rcases e2 with e2 | e2 <;> (dsimp only; rw [e2]; exact e3)
/-- a search: it returns r at the first item that fails p -/
theorem forGo_all {tg : Tg} {mb : M Fl} (I : Nat → State → Prop) (p : R.D → Bool) (r : RV) : ∀ (ds : List R.D) (j : Nat) (S : State), I j S → (∀ i d S, ds[i]? = some d → I (j + i) S → ∃ S1 S2, setT tg S ⟨.Z, d⟩ = some S1 ∧ ((p d = true ∧ mb S1 = .ok .next S2 ∧ I (j + i + 1) S2) ∨ (p d = false ∧ mb S1 = .ok (.ret r) S2))) →
    ∃ S', (ds.all p = true ∧ forGo tg mb ds S = .ok .next S' ∧ I (j + ds.length) S') ∨ (ds.all p = false ∧ forGo tg mb ds S = .ok (.ret r) S')
  | [], j, S, h, _ => ⟨S, .inl ⟨rfl, rfl, h⟩⟩
  | d :: ds, j, S, h, st => by
    obtain ⟨S1, S2, e1, e2⟩ := st 0 d S rfl h
    rcases e2 with ⟨hp, e2, h2⟩ | ⟨hp, e2⟩
    · obtain ⟨S', e3⟩ := forGo_all I p r ds (j + 1) S2 h2 fun i d' S'' hi hI => by
        have := st (i + 1) d' S'' (by simpa using hi) (by rw [Nat.add_right_comm] at hI; exact hI)
        rw [Nat.add_right_comm j 1 i]; exact this
      refine ⟨S', ?_⟩
      have hf : forGo tg mb (d :: ds) S = forGo tg mb ds S2 := by
        rw [forGo, e1]; dsimp only; rw [e2]
      rw [List.all_cons, hp, Bool.true_and, hf, List.length_cons, Nat.add_comm ds.length 1, ← Nat.add_assoc]
      exact e3
    · refine ⟨S2, .inr ⟨by rw [List.all_cons, hp]; rfl, ?_⟩⟩
      rw [forGo, e1]; dsimp only; rw [e2]
inductive All2 (P : R.D → R.D → Prop) : List R.D → List R.D → Prop where
  | nil : All2 P [] []
  | cons {d e ds es} : P d e → All2 P ds es → All2 P (d :: ds) (e :: es)
theorem All2.len {P : R.D → R.D → Prop} {ds es : List R.D} (h : All2 P ds es) : es.length = ds.length := by
  induction h with
  | nil => rfl
  | cons _ _ ih => rw [List.length_cons, ih, List.length_cons]
theorem lcGo_all {vs : List Nat} {tg : Tg} {mt : M Bool} {me : M RV} (I : State → Prop) (P : R.D → R.D → Prop) : ∀ (ds : List R.D) (S : State), I S → (∀ d ∈ ds, ∀ S, I S → ∃ S1 S2 r S3 r', setT tg S ⟨.Z, d⟩ = some S1 ∧ mt S1 = .ok true S2 ∧ me S2 = .ok r S3 ∧ R.settle r = some r' ∧ okW S3 vs = true ∧ P d r'.d ∧ I (wipeS S3 vs)) →
    ∃ out S', lcGo vs tg mt me ds S = .ok out S' ∧ I S' ∧ All2 P ds out
  | [], S, h, _ => ⟨[], S, rfl, h, .nil⟩
  | d :: ds, S, h, st => by
    obtain ⟨S1, S2, r, S3, r', e1, e2, e3, e4, e5, p, h3⟩ := st d List.mem_cons_self S h
    obtain ⟨out, S', e6, h6, f6⟩ := lcGo_all I P ds (wipeS S3 vs) h3 fun d' hd => st d' (List.mem_cons_of_mem _ hd)
    refine ⟨r'.d :: out, S', ?_, h6, .cons p f6⟩
    rw [lcGo, e1]
    dsimp only
    rw [e2]
    dsimp only
    rw [e3]
    dsimp only
    rw [e4]
    dsimp only
    rw [if_pos e5, e6]
theorem lcGo_map {α : Type} {vs : List Nat} {tg : Tg} {mt : M Bool} {me : M RV} (f h : α → R.D) (S0 : State) : ∀ (as : List α), (∀ a ∈ as, ∃ S1 S2 r S3 r', setT tg S0 ⟨.Z, h a⟩ = some S1 ∧ mt S1 = .ok true S2 ∧ me S2 = .ok r S3 ∧ R.settle r = some r' ∧ okW S3 vs = true ∧ r'.d = f a ∧ wipeS S3 vs = S0) →
    lcGo vs tg mt me (as.map h) S0 = .ok (as.map f) S0
  | [], _ => rfl
  | a :: as, st => by
    obtain ⟨S1, S2, r, S3, r', e1, e2, e3, e4, e5, e6, e7⟩ := st a List.mem_cons_self
    have ih := lcGo_map f h S0 as fun a ha => st a (List.mem_cons_of_mem _ ha)
    rw [List.map_cons, lcGo, e1]
    dsimp only
    rw [e2]
    dsimp only
    rw [e3]
    dsimp only
    rw [e4]
    dsimp only
    rw [if_pos e5, e7, ih]
    dsimp only
    rw [e6]; rfl
/-- with a test -/
theorem lcGo_filter {α : Type} {vs : List Nat} {tg : Tg} {mt : M Bool} {me : M RV} (f h : α → R.D) (p : α → Bool) (S0 : State) : ∀ (as : List α), (∀ a ∈ as, ∃ S1 S2, setT tg S0 ⟨.Z, h a⟩ = some S1 ∧ mt S1 = .ok (p a) S2 ∧ (p a = false → okW S2 vs = true ∧ wipeS S2 vs = S0) ∧ (p a = true → ∃ r S3 r', me S2 = .ok r S3 ∧ R.settle r = some r' ∧ okW S3 vs = true ∧ r'.d = f a ∧ wipeS S3 vs = S0)) →
    lcGo vs tg mt me (as.map h) S0 = .ok ((as.filter p).map f) S0
  | [], _ => rfl
  | a :: as, st => by
    obtain ⟨S1, S2, e1, e2, hf, ht⟩ := st a List.mem_cons_self
    have ih := lcGo_filter f h p S0 as fun a ha => st a (List.mem_cons_of_mem _ ha)
    rw [List.map_cons, lcGo, e1]
    dsimp only
    rw [e2]
    cases hp : p a with
    | false =>
      obtain ⟨e5, e7⟩ := hf hp
      dsimp only
      rw [if_pos e5, e7, ih, List.filter_cons, hp]; rfl
    | true =>
      obtain ⟨r, S3, r', e3, e4, e5, e6, e7⟩ := ht hp
      dsimp only
      rw [e3]
      dsimp only
      rw [e4]
      dsimp only
      rw [if_pos e5, e7, ih, List.filter_cons, hp]
      dsimp only
      rw [e6]; rfl

/-! ### places -/
section
variable {α : Type} {x0 x1 x2 x3 x4 : α} {l : List α}
theorem at0 : L2.atI (x0 :: l) 0 = some x0 := by unfold L2.atI ixN; simp
theorem at1 : L2.atI (x0 :: x1 :: l) 1 = some x1 := by
  unfold L2.atI ixN
  rw [if_pos (by decide), if_pos (by simp only [List.length_cons]; omega)]; rfl
theorem at2 : L2.atI (x0 :: x1 :: x2 :: l) 2 = some x2 := by
  unfold L2.atI ixN
  rw [if_pos (by decide), if_pos (by simp only [List.length_cons]; omega)]; rfl
theorem at3 : L2.atI (x0 :: x1 :: x2 :: x3 :: l) 3 = some x3 := by
  unfold L2.atI ixN
  rw [if_pos (by decide), if_pos (by simp only [List.length_cons]; omega)]; rfl
theorem at4 : L2.atI (x0 :: x1 :: x2 :: x3 :: x4 :: l) 4 = some x4 := by
  unfold L2.atI ixN
  rw [if_pos (by decide), if_pos (by simp only [List.length_cons]; omega)]; rfl
theorem ix0 : ixN 5 0 = some 0 := by decide
theorem ix1 : ixN 5 1 = some 1 := by decide
theorem ix2 : ixN 5 2 = some 2 := by decide
theorem ix3 : ixN 5 3 = some 3 := by decide
theorem ix4 : ixN 5 4 = some 4 := by decide
theorem ixN_of {n : Nat} {i : Int} (h0 : 0 ≤ i) (h1 : i < n) : ixN n i = some i.toNat := by
  unfold ixN
  rw [if_pos h0, if_pos h1]
theorem atI_of {xs : List α} {i : Int} {x : α} (h0 : 0 ≤ i) (h : xs[i.toNat]? = some x) : L2.atI xs i = some x := by
  have h1 := (List.getElem?_eq_some_iff.mp h).1
  unfold L2.atI
  rw [ixN_of h0 (by omega)]
  exact h
theorem at_nat {xs : List α} {j : Nat} {x : α} (h : xs[j]? = some x) : L2.atI xs (j : Nat) = some x := atI_of (by omega) (by rw [Int.toNat_natCast]; exact h)
theorem at_m1 (xs : List α) (x : α) : L2.atI (xs ++ [x]) (-1) = some x := by
  unfold L2.atI ixN
  rw [if_neg (by decide), if_pos (by simp only [List.length_append, List.length_cons, List.length_nil]; omega)]
  have : ((-1 : Int) + ((xs ++ [x]).length : Nat)).toNat = xs.length := by simp only [List.length_append, List.length_cons, List.length_nil]; omega
  show (xs ++ [x])[((-1 : Int) + ((xs ++ [x]).length : Nat)).toNat]? = _
  rw [this, List.getElem?_append_right (Nat.le_refl _), Nat.sub_self]; rfl
theorem cut_m1 (xs : List α) (x : α) : R.cutD (xs ++ [x]) none (some (-1)) = xs := by
  unfold R.cutD
  have e1 : HT.sIx (xs ++ [x]).length 0 none = 0 := rfl
  have e2 : HT.sIx (xs ++ [x]).length (xs ++ [x]).length (some (-1)) = xs.length := by
    show (if (-1 : Int) < 0 then ((-1 : Int) + (((xs ++ [x]).length : Nat) : Int)).toNat else min (-1 : Int).toNat (xs ++ [x]).length) = _
    rw [if_pos (by decide)]
    simp only [List.length_append, List.length_cons, List.length_nil]
    omega
  rw [e1, e2, List.drop_zero, Nat.sub_zero, List.take_left']
  rfl
theorem cut_map {β : Type} (f : α → β) (xs : List α) (lo hi : Option Int) : R.cutD (xs.map f) lo hi = (R.cutD xs lo hi).map f := by
  unfold R.cutD
  rw [List.length_map, List.map_take, List.map_drop]
theorem cut_len (xs : List α) (lo hi : Option Int) : (R.cutD xs lo hi).length ≤ xs.length := by
  unfold R.cutD
  rw [List.length_take, List.length_drop]
  omega
end
/-- a slot that may be set -/
def NI (s : Sl) : Prop := s = .un ∨ ∃ d, s = .frz d
theorem rangeD_get {lo : Int} {n j : Nat} {d : R.D} (h : (rangeD lo n)[j]? = some d) : j < n ∧ d = .int (lo + (j : Nat)) := by
  unfold rangeD at h
  rw [List.getElem?_map] at h
  by_cases hj : j < n
  · rw [List.getElem?_range hj] at h
    cases h
    exact ⟨hj, rfl⟩
  · rw [List.getElem?_eq_none (by rw [List.length_range]; omega)] at h
    cases h
theorem rangeD_len (lo : Int) (n : Nat) : (rangeD lo n).length = n := by
  unfold rangeD
  rw [List.length_map, List.length_range]

/-! ### bounds -/
theorem lenOk_of {n : Nat} (h : n ≤ 1000) : lenOk n = true := decide_eq_true (Nat.le_trans h (by decide))
theorem smallN (n : Nat) (h : n ≤ 1000) : smallI (n : Nat) = true := by
  have e : (2 : Int) ^ 62 = 4611686018427387904 := by decide
  unfold smallI
  rw [e]
  exact decide_eq_true ⟨by omega, by omega⟩
theorem smallZ (i : Int) (h0 : 0 ≤ i) (h : i ≤ 1000) : smallI i = true := by
  have := smallN i.toNat (by omega)
  have e : ((i.toNat : Nat) : Int) = i := by omega
  rw [e] at this; exact this
theorem mulK {a b : Int} (h : -(2 ^ 64) < b ∧ b < 2 ^ 64) : mulOk a b = true := by
  unfold mulOk
  rw [decide_eq_true h, Bool.or_true]
theorem mulK' {a b : Int} (h : -(2 ^ 64) < a ∧ a < 2 ^ 64) : mulOk a b = true := by
  unfold mulOk
  rw [decide_eq_true h, Bool.true_or]

/-! ### texts as lists of signs -/
theorem sEmpty : Str.empty = SX.S [] := rfl
theorem sNo : Str.ofString "" = SX.S [] := by decide
theorem sEq (a b : List Nat) : (SX.S a = SX.S b) = (a = b) := propext ⟨SX.S_inj, fun h => by rw [h]⟩
theorem strsOf_map {α : Type} (f : α → Str) : ∀ as : List α, strsOf (as.map fun a => R.D.str (f a)) = some (as.map f)
  | [] => rfl
  | a :: as => by
    show (strsOf (as.map fun a => R.D.str (f a))).map (f a :: ·) = _
    rw [strsOf_map f as]; rfl
theorem joinL_nil : ∀ l : List (List Nat), TL.joinL [] l = l.flatten
  | [] => rfl
  | [p] => by simp [TL.joinL]
  | p :: q :: r => by rw [TL.joinL, joinL_nil (q :: r)]; rfl
theorem join_nil (l : List (List Nat)) : Txt.join (SX.S []) (l.map SX.S) = SX.S l.flatten := by rw [SX.join_S, joinL_nil]
theorem join_sum_nil (l : List (List Nat)) (h : l.flatten.length ≤ 100000) : joinOk (SX.S []) (l.map SX.S) = true := by
  unfold joinOk
  have e : (SX.S []).length = 0 := rfl
  rw [e, SX.lens, Nat.mul_zero, Nat.add_zero]
  have : (l.map (·.length)).sum = l.flatten.length := by rw [List.length_flatten]
  rw [this]
  exact decide_eq_true (Nat.le_trans h (by decide))
/-- ''.join of texts -/
theorem join_of {α : Type} (f : α → List Nat) (as : List α) (h : (as.map f).flatten.length ≤ 100000) (md : Md) : fJoin (SX.S []) ⟨md, .lst (as.map fun a => .str (SX.S (f a)))⟩ = some ⟨.N, .str (SX.S (as.map f).flatten)⟩ := by
  have so := strsOf_map (fun a => SX.S (f a)) as
  have e : (as.map fun a => SX.S (f a)) = (as.map f).map SX.S := by rw [List.map_map]; rfl
  show (match strsOf (as.map fun a => R.D.str (SX.S (f a))) with
    | some ys => if joinOk (SX.S []) ys then some (RV.mk .N (.str (Txt.join (SX.S []) ys))) else none
    | none => none) = _
  rw [so, e]
  dsimp only
  rw [if_pos (join_sum_nil _ h), join_nil]
theorem sing_flat (cs : List Nat) : (cs.map fun c => [c]).flatten = cs := by
  induction cs with
  | nil => rfl
  | cons c cs ih => rw [List.map_cons, List.flatten_cons, ih]; rfl
theorem flat_map {α : Type} (f : α → Nat) (as : List α) : (as.map fun a => [f a]).flatten = as.map f := by
  induction as with
  | nil => rfl
  | cons c cs ih => rw [List.map_cons, List.flatten_cons, ih]; rfl
theorem strOk_of {l : List Nat} (h : ∀ c ∈ l, c < 1114112) : PyData.strOk (SX.S l) = true := by
  unfold PyData.strOk
  rw [← Array.all_toList]
  exact List.all_eq_true.mpr fun c hc => decide_eq_true (h c hc)

/-! ### the same data -/
theorem ne_same {d : R.D} (h : shp 60 d = true) (hs : d.sc = none) (md md' : Md) : cop .NotEq ⟨md, d⟩ ⟨md', d⟩ = some ⟨.N, .bl false⟩ := by
  show fEq true _ _ = _
  unfold fEq eqOk eqB
  dsimp only
  rw [hs]
  dsimp only
  rw [h, Bool.and_self, if_pos rfl, PySem.SeqAt.eqv_refl _ (shp_of h).1]; rfl
theorem eq_same {d : R.D} (h : shp 60 d = true) (hs : d.sc = none) (md md' : Md) : cop .Eq ⟨md, d⟩ ⟨md', d⟩ = some ⟨.N, .bl true⟩ := by
  show fEq false _ _ = _
  unfold fEq eqOk eqB
  dsimp only
  rw [hs]
  dsimp only
  rw [h, Bool.and_self, if_pos rfl, PySem.SeqAt.eqv_refl _ (shp_of h).1]; rfl
theorem eq_bl {md md' : Md} (a b : Bool) : cop .Eq ⟨md, .bl a⟩ ⟨md', .bl b⟩ = some ⟨.N, .bl (decide (a = b))⟩ := by
  cases a <;> cases b <;> rfl
theorem ap_str (md : Md) (x : Str) : apart md (.str x) = true := by cases md <;> rfl
theorem ap_bl (md : Md) (x : Bool) : apart md (.bl x) = true := by cases md <;> rfl
theorem ap_int (md : Md) (x : Int) : apart md (.int x) = true := by cases md <;> rfl
theorem pure_ints (es : List Int) : pureL (es.map R.D.int) = true := by
  induction es with
  | nil => rfl
  | cons e es ih => rw [List.map_cons, pureL, ih]; rfl
theorem ap_ints (md : Md) (es : List Int) : apart md (.tup (es.map R.D.int)) = true := by
  have h := pure_ints es
  cases md <;> (unfold apart clean; simp [R.D.pure, h, isLst])
theorem is_s (z : Str) : isiB (.str z) .str = true := rfl
theorem is_i (i : Int) : isiB (.int i) .int = true := rfl
theorem is_ib (i : Int) : isiB (.int i) .bool = false := rfl
theorem is_b (b : Bool) : isiB (.bl b) .bool = true := rfl
theorem is_t (xs : List R.D) : isiB (.tup xs) .tuple = true := rfl
theorem is_l (xs : List R.D) : isiB (.lst xs) .list = true := rfl
/-- x in a text -/
theorem in_str {md md' : Md} (c : Nat) (z : Str) : cop .In ⟨md, .str ⟨#[c]⟩⟩ ⟨md', .str z⟩ = some ⟨.N, .bl (decide (c ∈ z.cps.toList))⟩ := by
  show some (RV.mk .N (.bl (false ^^ decide (c ∈ z.cps.toList)))) = _
  rw [Bool.false_xor]
theorem notIn_str {md md' : Md} (c : Nat) (z : Str) : cop .NotIn ⟨md, .str ⟨#[c]⟩⟩ ⟨md', .str z⟩ = some ⟨.N, .bl (!decide (c ∈ z.cps.toList))⟩ := by
  show some (RV.mk .N (.bl (true ^^ decide (c ∈ z.cps.toList)))) = _
  rw [Bool.true_xor]
/-- a sign of a text by its place -/
theorem idx_S {md md' : Md} {l : List Nat} {i : Int} {c : Nat} (hl : l.length ≤ 1000) (h0 : 0 ≤ i) (h : l[i.toNat]? = some c) : fIdx ⟨md, .str (SX.S l)⟩ ⟨md', .int i⟩ = some ⟨.N, .str (SX.S [c])⟩ := by
  show (if lenOk (SX.S l).length then (L2.atI (SX.S l).cps.toList i).map fun c => RV.mk .N (.str ⟨#[c]⟩) else none) = _
  rw [SX.S_len, if_pos (lenOk_of hl)]
  have : (SX.S l).cps.toList = l := rfl
  rw [this, atI_of h0 h]; rfl
end R

set_option Elab.async false
set_option linter.all false
set_option maxRecDepth 100000
set_option maxHeartbeats 2000000
namespace K02
open PySem PySem.Spec PyProof.Rows L2 R
abbrev pw := PySem.Challenge.pw_redolots_k02_twice_is_once
def topS (i : Nat) : Stmt := pw.main.body.getD i (.Pass ⟨0, 0, 0, 0⟩)
/-! ### check_image -/
abbrev s_check_image : Stmt := topS 9
def N_check_image : List Str := ["image", "block", "entry"]
def T_check_image : Tab := [("enumerate", .blt), ("isinstance", .blt), ("tuple", .blt), ("MOST_BLOCKS", .con (.int 12)), ("len", .blt), ("int", .blt), ("EMPTY", .con (.int (-1))), ("MOST_VALUE", .con (.int 999))]
theorem sc_check_image : FnScope N_check_image ["image"] (defScope s_check_image) := ⟨rfl, rfl, rfl, by decide +kernel, rfl, by decide +kernel, by decide +kernel⟩
def m_check_image : M Fl := (mSeq (mIfS (tOrM (tNotM (tTrue (mUn (fIsi .tuple) (mVar 0)))) (tNotM (tBool (mCh true true (cop .LtE) (cop .LtE) (mC (.int 1)) (mBlt fLen (cPl 0 cNil)) (mC (.int 12)))))) (mSeq mBad mNext) mNext) (mSeq (mFor (.tp [(.nm 1), (.nm 2)]) (iEn1M (mACons (mVarZ 0) mANil)) (mSeq (mIfS (tOrM (tNotM (tTrue (mUn (fIsi .int) (mVar 2)))) (tNotM (tBool (mCh true true (cop .LtE) (cop .LtE) (mC (.int (-1))) (mVar 2) (mC (.int 999)))))) (mSeq mBad mNext) mNext) mNext)) mNext))
def g_check_image : FSem := fsem false 3 m_check_image
theorem e_check_image : fnD T_check_image N_check_image false s_check_image = g_check_image := by kernel_rfl
/-! ### entry_sign -/
abbrev s_entry_sign : Stmt := topS 10
def N_entry_sign : List Str := ["entry"]
def T_entry_sign : Tab := [("EMPTY", .con (.int (-1))), ("str", .blt), ("VALUES_PER_KIND", .con (.int 100))]
theorem sc_entry_sign : FnScope N_entry_sign ["entry"] (defScope s_entry_sign) := ⟨rfl, rfl, rfl, by decide +kernel, rfl, by decide +kernel, by decide +kernel⟩
def m_entry_sign : M Fl := (mSeq (mIfS (tBool (mOpV 0 (cop .Eq) (mC (.int (-1))))) (mSeq (mRet (mC (.str "."))) mNext) mNext) (mSeq (mRet (mBlt fStr1 (cRv true (mOpV 0 (bop .FloorDiv) (mC (.int 100))) cNil))) mNext))
def g_entry_sign : FSem := fsem false 1 m_entry_sign
theorem e_entry_sign : fnD T_entry_sign N_entry_sign false s_entry_sign = g_entry_sign := by kernel_rfl
/-! ### look -/
abbrev s_look : Stmt := topS 11
def N_look : List Str := ["image", "entry"]
def T_look : Tab := [("check_image", .fn 1 g_check_image), ("entry_sign", .fn 1 g_entry_sign)]
theorem sc_look : FnScope N_look ["image"] (defScope s_look) := ⟨rfl, rfl, rfl, by decide +kernel, rfl, by decide +kernel, by decide +kernel⟩
def m_look : M Fl := (mSeq (mDrop (mCall 1 g_check_image (cPl 0 cNil))) (mSeq (mRet (mM1 fJoin (mC (.str "")) (mLc [1] (.nm 1) (iAnyM (mVarZ 0)) (fun S => .ok true S) (mCall 1 g_entry_sign (cPl 1 cNil))))) mNext))
def g_look : FSem := fsem false 2 m_look
theorem e_look : fnD T_look N_look false s_look = g_look := by kernel_rfl
/-! ### has_guard_signs -/
abbrev s_has_guard_signs : Stmt := topS 15
def N_has_guard_signs : List Str := ["guard", "sign"]
def T_has_guard_signs : Tab := [("GUARD_SIGNS", .con (.str ".*-0123456789"))]
theorem sc_has_guard_signs : FnScope N_has_guard_signs ["guard"] (defScope s_has_guard_signs) := ⟨rfl, rfl, rfl, by decide +kernel, rfl, by decide +kernel, by decide +kernel⟩
def m_has_guard_signs : M Fl := (mSeq (mFor (.nm 1) (iAnyM (mVarZ 0)) (mSeq (mIfS (tBool (mOpV 1 (cop .NotIn) (mC (.str ".*-0123456789")))) (mSeq (mRet (mC (.bl false))) mNext) mNext) mNext)) (mSeq (mRet (mC (.bl true))) mNext))
def g_has_guard_signs : FSem := fsem false 2 m_has_guard_signs
theorem e_has_guard_signs : fnD T_has_guard_signs N_has_guard_signs false s_has_guard_signs = g_has_guard_signs := by kernel_rfl
/-! ### is_index -/
abbrev s_is_index : Stmt := topS 16
def N_is_index : List Str := ["number", "blocks"]
def T_is_index : Tab := [("isinstance", .blt), ("int", .blt)]
theorem sc_is_index : FnScope N_is_index ["number", "blocks"] (defScope s_is_index) := ⟨rfl, rfl, rfl, by decide +kernel, rfl, by decide +kernel, by decide +kernel⟩
def m_is_index : M Fl := (mSeq (mRet (mAndV (mUn (fIsi .int) (mVar 0)) (mCh true true (cop .LtE) (cop .Lt) (mC (.int 0)) (mVar 0) (mVar 1)))) mNext)
def g_is_index : FSem := fsem false 2 m_is_index
theorem e_is_index : fnD T_is_index N_is_index false s_is_index = g_is_index := by kernel_rfl
/-! ### is_guard -/
abbrev s_is_guard : Stmt := topS 17
def N_is_guard : List Str := ["guard", "blocks"]
def T_is_guard : Tab := [("isinstance", .blt), ("str", .blt), ("has_guard_signs", .fn 1 g_has_guard_signs), ("len", .blt)]
theorem sc_is_guard : FnScope N_is_guard ["guard", "blocks"] (defScope s_is_guard) := ⟨rfl, rfl, rfl, by decide +kernel, rfl, by decide +kernel, by decide +kernel⟩
def m_is_guard : M Fl := (mSeq (mIfS (tNotM (tTrue (mUn (fIsi .str) (mVar 0)))) (mSeq (mRet (mC (.bl false))) mNext) mNext) (mSeq (mIfS (tBool (mOpV 0 (cop .Eq) (mC (.str "")))) (mSeq (mRet (mC (.bl true))) mNext) mNext) (mSeq (mRet (mAndV (mOp true (cop .Eq) (mBlt fLen (cPl 0 cNil)) (mVar 1)) (mCall 1 g_has_guard_signs (cPl 0 cNil)))) mNext)))
def g_is_guard : FSem := fsem false 2 m_is_guard
theorem e_is_guard : fnD T_is_guard N_is_guard false s_is_guard = g_is_guard := by kernel_rfl
/-! ### check_line -/
abbrev s_check_line : Stmt := topS 18
def N_check_line : List Str := ["line", "blocks", "op", "target", "source", "guard"]
def T_check_line : Tab := [("isinstance", .blt), ("tuple", .blt), ("len", .blt), ("is_index", .fn 2 g_is_index), ("is_guard", .fn 2 g_is_guard), ("int", .blt), ("EMPTY", .con (.int (-1)))]
theorem sc_check_line : FnScope N_check_line ["line", "blocks"] (defScope s_check_line) := ⟨rfl, rfl, rfl, by decide +kernel, rfl, by decide +kernel, by decide +kernel⟩
def m_check_line : M Fl := (mSeq (mIfS (tOrM (tNotM (tTrue (mUn (fIsi .tuple) (mVar 0)))) (tBool (mOp true (cop .NotEq) (mBlt fLen (cPl 0 cNil)) (mC (.int 4))))) (mSeq (mRet (mC (.bl false))) mNext) mNext) (mSeq (mAsg (.tp [(.nm 2), (.nm 3), (.nm 4), (.nm 5)]) (mVar 0)) (mSeq (mIfS (tOrM (tNotM (tTrue (mCall 2 g_is_index (cPl 3 (cPl 1 cNil))))) (tNotM (tTrue (mCall 2 g_is_guard (cPl 5 (cPl 1 cNil)))))) (mSeq (mRet (mC (.bl false))) mNext) mNext) (mSeq (mIfS (tBool (mOpV 2 (cop .Eq) (mC (.str "clear")))) (mSeq (mRet (mAndV (mUn (fIsi .int) (mVar 4)) (mOpV 4 (cop .Eq) (mC (.int (-1)))))) mNext) mNext) (mSeq (mIfS (tOrM (tBool (mOpV 2 (cop .Eq) (mC (.str "copy")))) (tBool (mOpV 2 (cop .Eq) (mC (.str "move"))))) (mSeq (mRet (mAndV (mCall 2 g_is_index (cPl 4 (cPl 1 cNil))) (mOpV 4 (cop .NotEq) (mVar 3)))) mNext) mNext) (mSeq (mRet (mC (.bl false))) mNext))))))
def g_check_line : FSem := fsem false 6 m_check_line
theorem e_check_line : fnD T_check_line N_check_line false s_check_line = g_check_line := by kernel_rfl
/-! ### check_script -/
abbrev s_check_script : Stmt := topS 19
def N_check_script : List Str := ["script", "image", "at", "line"]
def T_check_script : Tab := [("check_image", .fn 1 g_check_image), ("enumerate", .blt), ("MOST_LINES", .con (.int 60)), ("isinstance", .blt), ("list", .blt), ("len", .blt), ("check_line", .fn 2 g_check_line)]
theorem sc_check_script : FnScope N_check_script ["script", "image"] (defScope s_check_script) := ⟨rfl, rfl, rfl, by decide +kernel, rfl, by decide +kernel, by decide +kernel⟩
def m_check_script : M Fl := (mSeq (mDrop (mCall 1 g_check_image (cPl 1 cNil))) (mSeq (mIfS (tOrM (tNotM (tTrue (mUn (fIsi .list) (mVar 0)))) (tBool (mOp true (cop .Gt) (mBlt fLen (cPl 0 cNil)) (mC (.int 60))))) (mSeq mBad mNext) mNext) (mSeq (mFor (.tp [(.nm 2), (.nm 3)]) (iEn1M (mACons (mVarZ 0) mANil)) (mSeq (mIfS (tNotM (tTrue (mCall 2 g_check_line (cPl 3 (cRv true (mBlt fLen (cPl 1 cNil)) cNil))))) (mSeq mBad mNext) mNext) mNext)) mNext)))
def g_check_script : FSem := fsem false 4 m_check_script
theorem e_check_script : fnD T_check_script N_check_script false s_check_script = g_check_script := by kernel_rfl
/-! ### sign_matches -/
abbrev s_sign_matches : Stmt := topS 20
def N_sign_matches : List Str := ["sign", "seen"]
def T_sign_matches : Tab := []
theorem sc_sign_matches : FnScope N_sign_matches ["sign", "seen"] (defScope s_sign_matches) := ⟨rfl, rfl, rfl, by decide +kernel, rfl, by decide +kernel, by decide +kernel⟩
def m_sign_matches : M Fl := (mSeq (mIfS (tBool (mOpV 0 (cop .Eq) (mC (.str "-")))) (mSeq (mRet (mC (.bl true))) mNext) mNext) (mSeq (mIfS (tBool (mOpV 0 (cop .Eq) (mC (.str "*")))) (mSeq (mRet (mOpV 1 (cop .NotEq) (mC (.str ".")))) mNext) mNext) (mSeq (mRet (mOpV 0 (cop .Eq) (mVar 1))) mNext)))
def g_sign_matches : FSem := fsem false 2 m_sign_matches
theorem e_sign_matches : fnD T_sign_matches N_sign_matches false s_sign_matches = g_sign_matches := by kernel_rfl
/-! ### matches -/
abbrev s_matches : Stmt := topS 21
def N_matches : List Str := ["guard", "view", "sign", "seen"]
def T_matches : Tab := [("zip", .blt), ("sign_matches", .fn 2 g_sign_matches)]
theorem sc_matches : FnScope N_matches ["guard", "view"] (defScope s_matches) := ⟨rfl, rfl, rfl, by decide +kernel, rfl, by decide +kernel, by decide +kernel⟩
def m_matches : M Fl := (mSeq (mFor (.tp [(.nm 2), (.nm 3)]) (iZipM (mACons (mVarZ 0) (mACons (mVarZ 1) mANil))) (mSeq (mIfS (tNotM (tTrue (mCall 2 g_sign_matches (cPl 2 (cPl 3 cNil))))) (mSeq (mRet (mC (.bl false))) mNext) mNext) mNext)) (mSeq (mRet (mC (.bl true))) mNext))
def g_matches : FSem := fsem false 4 m_matches
theorem e_matches : fnD T_matches N_matches false s_matches = g_matches := by kernel_rfl
/-! ### fires -/
abbrev s_fires : Stmt := topS 22
def N_fires : List Str := ["line", "view", "op", "_", "source", "guard"]
def T_fires : Tab := [("matches", .fn 2 g_matches)]
theorem sc_fires : FnScope N_fires ["line", "view"] (defScope s_fires) := ⟨rfl, rfl, rfl, by decide +kernel, rfl, by decide +kernel, by decide +kernel⟩
def m_fires : M Fl := (mSeq (mAsg (.tp [(.nm 2), (.nm 3), (.nm 4), (.nm 5)]) (mVar 0)) (mSeq (mIfS (tAndM (tBool (mOpV 2 (cop .NotEq) (mC (.str "clear")))) (tBool (mOp true (cop .Eq) (mOpV 1 fIdx (mVar 4)) (mC (.str "."))))) (mSeq (mRet (mC (.bl false))) mNext) mNext) (mSeq (mRet (mCall 2 g_matches (cPl 5 (cPl 1 cNil)))) mNext)))
def g_fires : FSem := fsem false 6 m_fires
theorem e_fires : fnD T_fires N_fires false s_fires = g_fires := by kernel_rfl
/-! ### own_sources -/
abbrev s_own_sources : Stmt := topS 23
def N_own_sources : List Str := ["view", "block", "sign"]
def T_own_sources : Tab := [("tuple", .blt), ("EMPTY", .con (.int (-1))), ("enumerate", .blt)]
theorem sc_own_sources : FnScope N_own_sources ["view"] (defScope s_own_sources) := ⟨rfl, rfl, rfl, by decide +kernel, rfl, by decide +kernel, by decide +kernel⟩
def m_own_sources : M Fl := (mSeq (mRet (mBlt fTup1 (cRv true (mLc [1, 2] (.tp [(.nm 1), (.nm 2)]) (iEn1M (mACons (mVarZ 0) mANil)) (fun S => .ok true S) (mIfE (tBool (mOpV 2 (cop .Eq) (mC (.str ".")))) (mC (.int (-1))) (mVar 1))) cNil))) mNext)
def g_own_sources : FSem := fsem false 3 m_own_sources
theorem e_own_sources : fnD T_own_sources N_own_sources false s_own_sources = g_own_sources := by kernel_rfl
/-! ### sources -/
abbrev s_sources : Stmt := topS 24
def N_sources : List Str := ["line", "view", "origin", "op", "target", "source", "_"]
def T_sources : Tab := [("list", .blt), ("EMPTY", .con (.int (-1))), ("tuple", .blt), ("fires", .fn 2 g_fires), ("own_sources", .fn 1 g_own_sources)]
theorem sc_sources : FnScope N_sources ["line", "view"] (defScope s_sources) := ⟨rfl, rfl, rfl, by decide +kernel, rfl, by decide +kernel, by decide +kernel⟩
def m_sources : M Fl := (mSeq (mIfS (tNotM (tTrue (mCall 2 g_fires (cPl 0 (cPl 1 cNil))))) (mSeq (mRet (mCall 1 g_own_sources (cPl 1 cNil))) mNext) mNext) (mSeq (mAsg (.tp [(.nm 3), (.nm 4), (.nm 5), (.nm 6)]) (mVar 0)) (mSeq (mAsg (.nm 2) (mBlt fList1 (cRv true (mCall 1 g_own_sources (cPl 1 cNil)) cNil))) (mSeq (mIfS (tBool (mOpV 3 (cop .Eq) (mC (.str "clear")))) (mSeq (mSetP 2 (mC (.int (-1))) (mVar 4)) (mSeq (mRet (mBlt fTup1 (cPl 2 cNil))) mNext)) mNext) (mSeq (mSetP 2 (mVarZ 5) (mVar 4)) (mSeq (mIfS (tBool (mOpV 3 (cop .Eq) (mC (.str "move")))) (mSeq (mSetP 2 (mC (.int (-1))) (mVar 5)) mNext) mNext) (mSeq (mRet (mBlt fTup1 (cPl 2 cNil))) mNext)))))))
def g_sources : FSem := fsem false 7 m_sources
theorem e_sources : fnD T_sources N_sources false s_sources = g_sources := by kernel_rfl
/-! ### image_from -/
abbrev s_image_from : Stmt := topS 25
def N_image_from : List Str := ["origin", "image", "block"]
def T_image_from : Tab := [("tuple", .blt), ("EMPTY", .con (.int (-1)))]
theorem sc_image_from : FnScope N_image_from ["origin", "image"] (defScope s_image_from) := ⟨rfl, rfl, rfl, by decide +kernel, rfl, by decide +kernel, by decide +kernel⟩
def m_image_from : M Fl := (mSeq (mRet (mBlt fTup1 (cRv true (mLc [2] (.nm 2) (iAnyM (mVarZ 0)) (fun S => .ok true S) (mIfE (tBool (mOpV 2 (cop .Eq) (mC (.int (-1))))) (mC (.int (-1))) (mOpV 1 fIdx (mVar 2)))) cNil))) mNext)
def g_image_from : FSem := fsem false 3 m_image_from
theorem e_image_from : fnD T_image_from N_image_from false s_image_from = g_image_from := by kernel_rfl
/-! ### apply_line -/
abbrev s_apply_line : Stmt := topS 26
def N_apply_line : List Str := ["line", "image"]
def T_apply_line : Tab := [("image_from", .fn 2 g_image_from), ("sources", .fn 2 g_sources), ("look", .fn 1 g_look)]
theorem sc_apply_line : FnScope N_apply_line ["line", "image"] (defScope s_apply_line) := ⟨rfl, rfl, rfl, by decide +kernel, rfl, by decide +kernel, by decide +kernel⟩
def m_apply_line : M Fl := (mSeq (mRet (mCall 2 g_image_from (cRv true (mCall 2 g_sources (cPl 0 (cRv true (mCall 1 g_look (cPl 1 cNil)) cNil))) (cPl 1 cNil)))) mNext)
def g_apply_line : FSem := fsem false 2 m_apply_line
theorem e_apply_line : fnD T_apply_line N_apply_line false s_apply_line = g_apply_line := by kernel_rfl
/-! ### look_after -/
abbrev s_look_after : Stmt := topS 27
def N_look_after : List Str := ["line", "view", "block"]
def T_look_after : Tab := [("EMPTY", .con (.int (-1))), ("sources", .fn 2 g_sources)]
theorem sc_look_after : FnScope N_look_after ["line", "view"] (defScope s_look_after) := ⟨rfl, rfl, rfl, by decide +kernel, rfl, by decide +kernel, by decide +kernel⟩
def m_look_after : M Fl := (mSeq (mRet (mM1 fJoin (mC (.str "")) (mLc [2] (.nm 2) (iAnyM (mCall 2 g_sources (cPl 0 (cPl 1 cNil)))) (fun S => .ok true S) (mIfE (tBool (mOpV 2 (cop .Eq) (mC (.int (-1))))) (mC (.str ".")) (mOpV 1 fIdx (mVar 2)))))) mNext)
def g_look_after : FSem := fsem false 3 m_look_after
theorem e_look_after : fnD T_look_after N_look_after false s_look_after = g_look_after := by kernel_rfl
/-! ### images -/
abbrev s_images : Stmt := topS 29
def N_images : List Str := ["script", "image", "current", "result", "line"]
def T_images : Tab := [("check_script", .fn 2 g_check_script), ("apply_line", .fn 2 g_apply_line)]
theorem sc_images : FnScope N_images ["script", "image"] (defScope s_images) := ⟨rfl, rfl, rfl, by decide +kernel, rfl, by decide +kernel, by decide +kernel⟩
def m_images : M Fl := (mSeq (mDrop (mCall 2 g_check_script (cPl 0 (cPl 1 cNil)))) (mSeq (mAsg (.nm 2) (mVarZ 1)) (mSeq (mAsg (.nm 3) (mLst (mACons (mVarZ 2) mANil))) (mSeq (mFor (.nm 4) (iAnyM (mVarZ 0)) (mSeq (mAsg (.nm 2) (mCall 2 g_apply_line (cPl 4 (cPl 2 cNil)))) (mSeq (mDrop (mLM 3 lmAppend (mACons (mVarZ 2) mANil))) mNext))) (mSeq (mRetV 3) mNext)))))
def g_images : FSem := fsem false 5 m_images
theorem e_images : fnD T_images N_images false s_images = g_images := by kernel_rfl
/-! ### plain_run -/
abbrev s_plain_run : Stmt := topS 30
def N_plain_run : List Str := ["script", "image"]
def T_plain_run : Tab := [("images", .fn 2 g_images)]
theorem sc_plain_run : FnScope N_plain_run ["script", "image"] (defScope s_plain_run) := ⟨rfl, rfl, rfl, by decide +kernel, rfl, by decide +kernel, by decide +kernel⟩
def m_plain_run : M Fl := (mSeq (mRet (mOp true fIdx (mCall 2 g_images (cPl 0 (cPl 1 cNil))) (mUn fNeg (mC (.int 1))))) mNext)
def g_plain_run : FSem := fsem false 2 m_plain_run
theorem e_plain_run : fnD T_plain_run N_plain_run false s_plain_run = g_plain_run := by kernel_rfl
/-! ### flow -/
abbrev s_flow : Stmt := topS 31
def N_flow : List Str := ["script", "view", "current", "origin", "line"]
def T_flow : Tab := [("own_sources", .fn 1 g_own_sources), ("image_from", .fn 2 g_image_from), ("look_after", .fn 2 g_look_after), ("sources", .fn 2 g_sources)]
theorem sc_flow : FnScope N_flow ["script", "view"] (defScope s_flow) := ⟨rfl, rfl, rfl, by decide +kernel, rfl, by decide +kernel, by decide +kernel⟩
def m_flow : M Fl := (mSeq (mAsg (.nm 2) (mVarZ 1)) (mSeq (mAsg (.nm 3) (mCall 1 g_own_sources (cPl 1 cNil))) (mSeq (mFor (.nm 4) (iAnyM (mVarZ 0)) (mSeq (mAsg (.nm 3) (mCall 2 g_image_from (cRv true (mCall 2 g_sources (cPl 4 (cPl 2 cNil))) (cPl 3 cNil)))) (mSeq (mAsg (.nm 2) (mCall 2 g_look_after (cPl 4 (cPl 2 cNil)))) mNext))) (mSeq (mRetV 3) mNext))))
def g_flow : FSem := fsem false 5 m_flow
theorem e_flow : fnD T_flow N_flow false s_flow = g_flow := by kernel_rfl
/-! ### _law_bag -/
abbrev s_law_bag : Stmt := topS 33
def N_law_bag : List Str := ["_law_script", "_law_cell"]
def T_law_bag : Tab := [("int", .blt)]
theorem sc_law_bag : FnScope N_law_bag ["_law_script"] (defScope s_law_bag) := ⟨rfl, rfl, rfl, by decide +kernel, rfl, by decide +kernel, by decide +kernel⟩
def m_law_bag : M Fl := (mSeq (mRet (mLst (mACons (mLc [1] (.nm 1) (iAnyM (mSl true (mVar 0) mNoPart (mPart (mC (.int 63))))) (fun S => .ok true S) (mBlt fInt1 (cPl 1 cNil))) (mACons (mC (.int 0)) (mACons (mC (.int 0)) (mACons (mC (.int 376)) (mACons (mC (.int 0)) mANil))))))) mNext)
def g_law_bag : FSem := fsem false 2 m_law_bag
theorem e_law_bag : fnD T_law_bag N_law_bag false s_law_bag = g_law_bag := by kernel_rfl
/-! ### _law_draw -/
abbrev s_law_draw : Stmt := topS 34
def N_law_draw : List Str := ["_law_bag_here", "_law_many", "_law_one", "_law_two", "_law_three", "_law_cell", "_law_digit"]
def T_law_draw : Tab := [("int", .blt), ("len", .blt), ("abs", .blt)]
theorem sc_law_draw : FnScope N_law_draw ["_law_bag_here", "_law_many"] (defScope s_law_draw) := ⟨rfl, rfl, rfl, by decide +kernel, rfl, by decide +kernel, by decide +kernel⟩
def m_law_draw : M Fl := (mSeq (mSetP 0 (mOp true (bop .Add) (mOpV 0 fIdx (mC (.int 4))) (mC (.int 1))) (mC (.int 4))) (mSeq (mIfS (tAndM (tBool (mOp true (cop .Eq) (mOpV 0 fIdx (mC (.int 2))) (mC (.int 0)))) (tBool (mOp true (cop .Lt) (mOpV 0 fIdx (mC (.int 1))) (mBlt fLen (cRv true (mOpV 0 fIdx (mC (.int 0))) cNil))))) (mSeq (mAsg (.nm 5) (mOp true fIdx (mOpV 0 fIdx (mC (.int 0))) (mOpV 0 fIdx (mC (.int 1))))) (mSeq (mSetP 0 (mOp true (bop .Add) (mOpV 0 fIdx (mC (.int 1))) (mC (.int 1))) (mC (.int 1))) (mSeq (mIfS (tBool (mOp true (cop .GtE) (mBlt fAbs (cPl 5 cNil)) (mOp true (bop .Pow) (mC (.int 10)) (mC (.int 18))))) (mSeq (mSetP 0 (mBlt fAbs (cPl 5 cNil)) (mC (.int 2))) mNext) (mSeq (mSetP 0 (mOp true (bop .Mod) (mBlt fInt1 (cRv true (mOp true (bop .Add) (mOp true (bop .Add) (mOp true (bop .Mult) (mOpV 0 fIdx (mC (.int 3))) (mC (.int 48271))) (mOpV 5 (bop .Mult) (mC (.int 69621)))) (mC (.int 7919))) cNil)) (mC (.int 2147483647))) (mC (.int 3))) mNext)) mNext))) mNext) (mSeq (mIfS (tBool (mOp true (cop .Gt) (mOpV 0 fIdx (mC (.int 2))) (mC (.int 0)))) (mSeq (mAsg (.nm 6) (mOp true (bop .Mod) (mBlt fInt1 (cRv true (mOpV 0 fIdx (mC (.int 2))) cNil)) (mVar 1))) (mSeq (mSetP 0 (mOp true (bop .FloorDiv) (mBlt fInt1 (cRv true (mOpV 0 fIdx (mC (.int 2))) cNil)) (mVar 1)) (mC (.int 2))) (mSeq (mRetV 6) mNext))) mNext) (mSeq (mAsg (.nm 2) (mOp true (bop .Mod) (mBlt fInt1 (cRv true (mOp true (bop .Add) (mOpV 0 fIdx (mC (.int 3))) (mOp true (bop .Mult) (mOpV 0 fIdx (mC (.int 4))) (mC (.int 7368787)))) cNil)) (mC (.int 2147483647)))) (mSeq (mAsg (.nm 3) (mOp true (bop .Mod) (mBlt fInt1 (cRv true (mOp true (bop .Add) (mOpV 2 (bop .Mult) (mVar 2)) (mC (.int 40503))) cNil)) (mC (.int 2147483629)))) (mSeq (mAsg (.nm 4) (mOp true (bop .Mod) (mBlt fInt1 (cRv true (mOp true (bop .Add) (mOp true (bop .Add) (mOpV 3 (bop .Mult) (mC (.int 69621))) (mOpV 3 (bop .FloorDiv) (mC (.int 32768)))) (mOpV 0 fIdx (mC (.int 4)))) cNil)) (mC (.int 1000000007)))) (mSeq (mRet (mOp true (bop .Mod) (mOpV 4 (bop .FloorDiv) (mC (.int 16))) (mVar 1))) mNext)))))))
def g_law_draw : FSem := fsem true 7 m_law_draw
theorem e_law_draw : fnD T_law_draw N_law_draw true s_law_draw = g_law_draw := by kernel_rfl
/-! ### _law_image -/
abbrev s_law_image : Stmt := topS 35
def N_law_image : List Str := ["_law_bag_here", "_law_n", "_law_kinds", "_law_rests", "_law_hollow", "_law_entries", "_law_k", "_law_entry"]
def T_law_image : Tab := [("_law_draw", .fn 2 g_law_draw), ("range", .blt), ("tuple", .blt)]
theorem sc_law_image : FnScope N_law_image ["_law_bag_here", "_law_n"] (defScope s_law_image) := ⟨rfl, rfl, rfl, by decide +kernel, rfl, by decide +kernel, by decide +kernel⟩
def m_law_image : M Fl := (mSeq (mAsg (.nm 2) (mOp false fIdx (mLst (mACons (mC (.int 10)) (mACons (mC (.int 2)) (mACons (mC (.int 1)) mANil)))) (mCall 2 g_law_draw (cPl 0 (cRv true (mC (.int 3)) cNil))))) (mSeq (mAsg (.nm 3) (mOp false fIdx (mLst (mACons (mC (.int 100)) (mACons (mC (.int 2)) (mACons (mC (.int 100)) mANil)))) (mCall 2 g_law_draw (cPl 0 (cRv true (mC (.int 3)) cNil))))) (mSeq (mAsg (.nm 4) (mCall 2 g_law_draw (cPl 0 (cRv true (mC (.int 4)) cNil)))) (mSeq (mAsg (.nm 5) (mLst mANil)) (mSeq (mFor (.nm 6) (iRng1M (mACons (mVarZ 1) mANil)) (mSeq (mAsg (.nm 7) (mOp false (bop .Add) (mOp false (bop .Mult) (mC (.int 100)) (mCall 2 g_law_draw (cPl 0 (cPl 2 cNil)))) (mCall 2 g_law_draw (cPl 0 (cPl 3 cNil))))) (mSeq (mIfS (tBool (mOp true (cop .Lt) (mCall 2 g_law_draw (cPl 0 (cRv true (mC (.int 4)) cNil))) (mVar 4))) (mSeq (mAsg (.nm 7) (mUn fNeg (mC (.int 1)))) mNext) mNext) (mSeq (mDrop (mLM 5 lmAppend (mACons (mVarZ 7) mANil))) mNext)))) (mSeq (mRet (mBlt fTup1 (cPl 5 cNil))) mNext))))))
def g_law_image : FSem := fsem true 8 m_law_image
theorem e_law_image : fnD T_law_image N_law_image true s_law_image = g_law_image := by kernel_rfl
/-! ### _law_view -/
abbrev s_law_view : Stmt := topS 36
def N_law_view : List Str := ["_law_image_here", "_law_entry"]
def T_law_view : Tab := [("str", .blt)]
theorem sc_law_view : FnScope N_law_view ["_law_image_here"] (defScope s_law_view) := ⟨rfl, rfl, rfl, by decide +kernel, rfl, by decide +kernel, by decide +kernel⟩
def m_law_view : M Fl := (mSeq (mRet (mM1 fJoin (mC (.str "")) (mLc [1] (.nm 1) (iAnyM (mVarZ 0)) (fun S => .ok true S) (mIfE (tBool (mOpV 1 (cop .Eq) (mUn fNeg (mC (.int 1))))) (mC (.str ".")) (mBlt fStr1 (cRv true (mOpV 1 (bop .FloorDiv) (mC (.int 100))) cNil)))))) mNext)
def g_law_view : FSem := fsem false 2 m_law_view
theorem e_law_view : fnD T_law_view N_law_view false s_law_view = g_law_view := by kernel_rfl
/-! ### _law_guard -/
abbrev s_law_guard : Stmt := topS 37
def N_law_guard : List Str := ["_law_bag_here", "_law_n", "_law_view_here", "_law_way", "_law_signs", "_law_k", "_law_sign", "_law_spot"]
def T_law_guard : Tab := [("_law_draw", .fn 2 g_law_draw), ("range", .blt)]
theorem sc_law_guard : FnScope N_law_guard ["_law_bag_here", "_law_n", "_law_view_here"] (defScope s_law_guard) := ⟨rfl, rfl, rfl, by decide +kernel, rfl, by decide +kernel, by decide +kernel⟩
def m_law_guard : M Fl := (mSeq (mAsg (.nm 3) (mCall 2 g_law_draw (cPl 0 (cRv true (mC (.int 5)) cNil)))) (mSeq (mIfS (tBool (mOpV 3 (cop .Eq) (mC (.int 0)))) (mSeq (mRet (mC (.str ""))) mNext) mNext) (mSeq (mAsg (.nm 4) (mLst mANil)) (mSeq (mFor (.nm 5) (iRng1M (mACons (mVarZ 1) mANil)) (mSeq (mAsg (.nm 6) (mC (.str "."))) (mSeq (mIfS (tBool (mOp true (cop .NotEq) (mOpV 2 fIdx (mVar 5)) (mC (.str ".")))) (mSeq (mAsg (.nm 6) (mOp false fIdx (mLst (mACons (mC (.str "*")) (mACons (mOpV 2 fIdx (mVar 5)) mANil))) (mCall 2 g_law_draw (cPl 0 (cRv true (mC (.int 2)) cNil))))) mNext) mNext) (mSeq (mDrop (mLM 4 lmAppend (mACons (mOp false fIdx (mLst (mACons (mC (.str "-")) (mACons (mVarZ 6) mANil))) (mCall 2 g_law_draw (cPl 0 (cRv true (mC (.int 2)) cNil)))) mANil))) mNext)))) (mSeq (mIfS (tBool (mOpV 3 (cop .Eq) (mC (.int 3)))) (mSeq (mAsg (.nm 7) (mCall 2 g_law_draw (cPl 0 (cPl 1 cNil)))) (mSeq (mSetP 4 (mOp false fIdx (mC (.str ".*-0123456789")) (mCall 2 g_law_draw (cPl 0 (cRv true (mC (.int 13)) cNil)))) (mVar 7)) mNext)) mNext) (mSeq (mIfS (tBool (mOpV 3 (cop .Eq) (mC (.int 4)))) (mSeq (mAsg (.nm 4) (mLc [5] (.nm 5) (iRng1M (mACons (mVarZ 1) mANil)) (fun S => .ok true S) (mOp false fIdx (mC (.str ".*-0123456789")) (mCall 2 g_law_draw (cPl 0 (cRv true (mC (.int 13)) cNil)))))) mNext) mNext) (mSeq (mRet (mM1 fJoin (mC (.str "")) (mVar 4))) mNext)))))))
def g_law_guard : FSem := fsem true 8 m_law_guard
theorem e_law_guard : fnD T_law_guard N_law_guard true s_law_guard = g_law_guard := by kernel_rfl
/-! ### _law_row -/
abbrev s_law_row : Stmt := topS 38
def N_law_row : List Str := ["_law_bag_here", "_law_n", "_law_view_here", "_law_word", "_law_target", "_law_origin", "_law_filled", "_law_k"]
def T_law_row : Tab := [("_law_draw", .fn 2 g_law_draw), ("_law_guard", .fn 3 g_law_guard), ("int", .blt), ("range", .blt), ("len", .blt)]
theorem sc_law_row : FnScope N_law_row ["_law_bag_here", "_law_n", "_law_view_here"] (defScope s_law_row) := ⟨rfl, rfl, rfl, by decide +kernel, rfl, by decide +kernel, by decide +kernel⟩
def m_law_row : M Fl := (mSeq (mAsg (.nm 3) (mOp false fIdx (mLst (mACons (mC (.str "copy")) (mACons (mC (.str "move")) (mACons (mC (.str "clear")) (mACons (mC (.str "copy")) mANil))))) (mCall 2 g_law_draw (cPl 0 (cRv true (mC (.int 4)) cNil))))) (mSeq (mIfS (tBool (mOpV 1 (cop .Eq) (mC (.int 1)))) (mSeq (mAsg (.nm 3) (mC (.str "clear"))) mNext) mNext) (mSeq (mAsg (.nm 4) (mCall 2 g_law_draw (cPl 0 (cPl 1 cNil)))) (mSeq (mAsg (.nm 5) (mUn fNeg (mC (.int 1)))) (mSeq (mIfS (tBool (mOpV 3 (cop .NotEq) (mC (.str "clear")))) (mSeq (mAsg (.nm 5) (mOp true (bop .Mod) (mBlt fInt1 (cRv true (mOp false (bop .Add) (mOpV 4 (bop .Add) (mC (.int 1))) (mCall 2 g_law_draw (cPl 0 (cRv true (mOpV 1 (bop .Sub) (mC (.int 1))) cNil)))) cNil)) (mVar 1))) (mSeq (mAsg (.nm 6) (mLc [7] (.nm 7) (iRng1M (mACons (mVarZ 1) mANil)) (tAndM (tBool (mOpV 7 (cop .NotEq) (mVar 4))) (tBool (mOp true (cop .NotEq) (mOpV 2 fIdx (mVar 7)) (mC (.str "."))))) (mVar 7))) (mSeq (mIfS (tAndM (tBool (mOpV 6 (cop .NotEq) (mLst mANil))) (tBool (mOp true (cop .Gt) (mCall 2 g_law_draw (cPl 0 (cRv true (mC (.int 3)) cNil))) (mC (.int 0))))) (mSeq (mAsg (.nm 5) (mOpV 6 fIdx (mCall 2 g_law_draw (cPl 0 (cRv true (mBlt fLen (cPl 6 cNil)) cNil))))) mNext) mNext) mNext))) mNext) (mSeq (mRet (mTup (mACons (mVarZ 3) (mACons (mVarZ 4) (mACons (mVarZ 5) (mACons (mCall 3 g_law_guard (cPl 0 (cPl 1 (cPl 2 cNil)))) mANil)))))) mNext))))))
def g_law_row : FSem := fsem true 8 m_law_row
theorem e_law_row : fnD T_law_row N_law_row true s_law_row = g_law_row := by kernel_rfl
/-! ### _law_fits -/
abbrev s_law_fits : Stmt := topS 39
def N_law_fits : List Str := ["_law_guard_here", "_law_view_here", "_law_k"]
def T_law_fits : Tab := [("range", .blt), ("len", .blt)]
theorem sc_law_fits : FnScope N_law_fits ["_law_guard_here", "_law_view_here"] (defScope s_law_fits) := ⟨rfl, rfl, rfl, by decide +kernel, rfl, by decide +kernel, by decide +kernel⟩
def m_law_fits : M Fl := (mSeq (mFor (.nm 2) (iRng1M (mACons (mBlt fLen (cPl 0 cNil)) mANil)) (mSeq (mIfS (tAndM (tBool (mOp true (cop .Eq) (mOpV 0 fIdx (mVar 2)) (mC (.str ".")))) (tBool (mOp true (cop .NotEq) (mOpV 1 fIdx (mVar 2)) (mC (.str "."))))) (mSeq (mRet (mC (.bl false))) mNext) mNext) (mSeq (mIfS (tAndM (tBool (mOp true (cop .Eq) (mOpV 0 fIdx (mVar 2)) (mC (.str "*")))) (tBool (mOp true (cop .Eq) (mOpV 1 fIdx (mVar 2)) (mC (.str "."))))) (mSeq (mRet (mC (.bl false))) mNext) mNext) (mSeq (mIfS (tAndM (tBool (mOp true (cop .In) (mOpV 0 fIdx (mVar 2)) (mC (.str "0123456789")))) (tBool (mOp true (cop .NotEq) (mOpV 1 fIdx (mVar 2)) (mOpV 0 fIdx (mVar 2))))) (mSeq (mRet (mC (.bl false))) mNext) mNext) mNext)))) (mSeq (mRet (mC (.bl true))) mNext))
def g_law_fits : FSem := fsem false 3 m_law_fits
theorem e_law_fits : fnD T_law_fits N_law_fits false s_law_fits = g_law_fits := by kernel_rfl
/-! ### _law_works -/
abbrev s_law_works : Stmt := topS 40
def N_law_works : List Str := ["_law_row_here", "_law_view_here"]
def T_law_works : Tab := [("_law_fits", .fn 2 g_law_fits)]
theorem sc_law_works : FnScope N_law_works ["_law_row_here", "_law_view_here"] (defScope s_law_works) := ⟨rfl, rfl, rfl, by decide +kernel, rfl, by decide +kernel, by decide +kernel⟩
def m_law_works : M Fl := (mSeq (mRet (mAndV (mCall 2 g_law_fits (cRv true (mOpV 0 fIdx (mC (.int 3))) (cPl 1 cNil))) (mOrV (mOp true (cop .Eq) (mOpV 0 fIdx (mC (.int 0))) (mC (.str "clear"))) (mOp true (cop .NotEq) (mOpV 1 fIdx (mOpV 0 fIdx (mC (.int 2)))) (mC (.str ".")))))) mNext)
def g_law_works : FSem := fsem false 2 m_law_works
theorem e_law_works : fnD T_law_works N_law_works false s_law_works = g_law_works := by kernel_rfl
/-! ### _law_origins -/
abbrev s_law_origins : Stmt := topS 41
def N_law_origins : List Str := ["_law_row_here", "_law_view_here", "_law_held", "_law_k"]
def T_law_origins : Tab := [("_law_works", .fn 2 g_law_works), ("tuple", .blt), ("range", .blt), ("len", .blt)]
theorem sc_law_origins : FnScope N_law_origins ["_law_row_here", "_law_view_here"] (defScope s_law_origins) := ⟨rfl, rfl, rfl, by decide +kernel, rfl, by decide +kernel, by decide +kernel⟩
def m_law_origins : M Fl := (mSeq (mAsg (.nm 2) (mLc [3] (.nm 3) (iRng1M (mACons (mBlt fLen (cPl 1 cNil)) mANil)) (fun S => .ok true S) (mIfE (tBool (mOp true (cop .NotEq) (mOpV 1 fIdx (mVar 3)) (mC (.str ".")))) (mVar 3) (mUn fNeg (mC (.int 1)))))) (mSeq (mIfS (tTrue (mCall 2 g_law_works (cPl 0 (cPl 1 cNil)))) (mSeq (mSetP 2 (mOpV 0 fIdx (mC (.int 2))) (mOpV 0 fIdx (mC (.int 1)))) (mSeq (mIfS (tBool (mOp true (cop .Eq) (mOpV 0 fIdx (mC (.int 0))) (mC (.str "move")))) (mSeq (mSetP 2 (mUn fNeg (mC (.int 1))) (mOpV 0 fIdx (mC (.int 2)))) mNext) mNext) mNext)) mNext) (mSeq (mRet (mBlt fTup1 (cPl 2 cNil))) mNext)))
def g_law_origins : FSem := fsem false 4 m_law_origins
theorem e_law_origins : fnD T_law_origins N_law_origins false s_law_origins = g_law_origins := by kernel_rfl
/-! ### _law_carried -/
abbrev s_law_carried : Stmt := topS 42
def N_law_carried : List Str := ["_law_held", "_law_entries", "_law_k"]
def T_law_carried : Tab := [("tuple", .blt)]
theorem sc_law_carried : FnScope N_law_carried ["_law_held", "_law_entries"] (defScope s_law_carried) := ⟨rfl, rfl, rfl, by decide +kernel, rfl, by decide +kernel, by decide +kernel⟩
def m_law_carried : M Fl := (mSeq (mRet (mBlt fTup1 (cRv true (mLc [2] (.nm 2) (iAnyM (mVarZ 0)) (fun S => .ok true S) (mIfE (tBool (mOpV 2 (cop .GtE) (mC (.int 0)))) (mOpV 1 fIdx (mVar 2)) (mUn fNeg (mC (.int 1))))) cNil))) mNext)
def g_law_carried : FSem := fsem false 3 m_law_carried
theorem e_law_carried : fnD T_law_carried N_law_carried false s_law_carried = g_law_carried := by kernel_rfl
/-! ### _law_is_whole -/
abbrev s_law_is_whole : Stmt := topS 43
def N_law_is_whole : List Str := ["_law_told"]
def T_law_is_whole : Tab := [("isinstance", .blt), ("int", .blt), ("bool", .blt)]
theorem sc_law_is_whole : FnScope N_law_is_whole ["_law_told"] (defScope s_law_is_whole) := ⟨rfl, rfl, rfl, by decide +kernel, rfl, by decide +kernel, by decide +kernel⟩
def m_law_is_whole : M Fl := (mSeq (mRet (mAndV (mUn (fIsi .int) (mVar 0)) (mNotV (mUn (fIsi .bool) (mVar 0))))) mNext)
def g_law_is_whole : FSem := fsem false 1 m_law_is_whole
theorem e_law_is_whole : fnD T_law_is_whole N_law_is_whole false s_law_is_whole = g_law_is_whole := by kernel_rfl
/-! ### _law_same -/
abbrev s_law_same : Stmt := topS 44
def N_law_same : List Str := ["_law_told", "_law_due", "_law_k"]
def T_law_same : Tab := [("range", .blt), ("len", .blt), ("isinstance", .blt), ("tuple", .blt), ("_law_is_whole", .fn 1 g_law_is_whole)]
theorem sc_law_same : FnScope N_law_same ["_law_told", "_law_due"] (defScope s_law_same) := ⟨rfl, rfl, rfl, by decide +kernel, rfl, by decide +kernel, by decide +kernel⟩
def m_law_same : M Fl := (mSeq (mIfS (tOrM (tNotM (tTrue (mUn (fIsi .tuple) (mVar 0)))) (tBool (mOp true (cop .NotEq) (mBlt fLen (cPl 0 cNil)) (mBlt fLen (cPl 1 cNil))))) (mSeq (mRet (mC (.bl false))) mNext) mNext) (mSeq (mFor (.nm 2) (iRng1M (mACons (mBlt fLen (cPl 1 cNil)) mANil)) (mSeq (mIfS (tOrM (tNotM (tTrue (mCall 1 g_law_is_whole (cRv true (mOpV 0 fIdx (mVar 2)) cNil)))) (tBool (mOp true (cop .NotEq) (mOpV 0 fIdx (mVar 2)) (mOpV 1 fIdx (mVar 2))))) (mSeq (mRet (mC (.bl false))) mNext) mNext) mNext)) (mSeq (mRet (mC (.bl true))) mNext)))
def g_law_same : FSem := fsem false 3 m_law_same
theorem e_law_same : fnD T_law_same N_law_same false s_law_same = g_law_same := by kernel_rfl
/-! ### _law_size -/
abbrev s_law_size : Stmt := topS 45
def N_law_size : List Str := ["_law_bag_here", "_law_size_here"]
def T_law_size : Tab := [("_law_draw", .fn 2 g_law_draw)]
theorem sc_law_size : FnScope N_law_size ["_law_bag_here"] (defScope s_law_size) := ⟨rfl, rfl, rfl, by decide +kernel, rfl, by decide +kernel, by decide +kernel⟩
def m_law_size : M Fl := (mSeq (mAsg (.nm 1) (mCall 2 g_law_draw (cPl 0 (cRv true (mC (.int 7)) cNil)))) (mSeq (mIfS (tBool (mOp true (cop .Eq) (mCall 2 g_law_draw (cPl 0 (cRv true (mC (.int 6)) cNil))) (mC (.int 1)))) (mSeq (mAsg (.nm 1) (mOp false (bop .Add) (mC (.int 20)) (mCall 2 g_law_draw (cPl 0 (cRv true (mC (.int 41)) cNil))))) mNext) mNext) (mSeq (mRetV 1) mNext)))
def g_law_size : FSem := fsem true 2 m_law_size
theorem e_law_size : fnD T_law_size N_law_size true s_law_size = g_law_size := by kernel_rfl
/-! ### _law_count -/
abbrev s_law_count : Stmt := topS 46
def N_law_count : List Str := ["_law_bag_here", "_law_room", "_law_count_here"]
def T_law_count : Tab := [("min", .blt), ("_law_draw", .fn 2 g_law_draw)]
theorem sc_law_count : FnScope N_law_count ["_law_bag_here", "_law_room"] (defScope s_law_count) := ⟨rfl, rfl, rfl, by decide +kernel, rfl, by decide +kernel, by decide +kernel⟩
def m_law_count : M Fl := (mSeq (mAsg (.nm 2) (mOp false (bop .Add) (mC (.int 1)) (mCall 2 g_law_draw (cPl 0 (cRv true (mC (.int 4)) cNil))))) (mSeq (mIfS (tBool (mOp true (cop .Eq) (mCall 2 g_law_draw (cPl 0 (cRv true (mC (.int 8)) cNil))) (mC (.int 1)))) (mSeq (mAsg (.nm 2) (mOp false (bop .Add) (mC (.int 1)) (mCall 2 g_law_draw (cPl 0 (cRv true (mC (.int 60)) cNil))))) mNext) mNext) (mSeq (mRet (mBlt fMin2 (cPl 2 (cPl 1 cNil)))) mNext)))
def g_law_count : FSem := fsem true 3 m_law_count
theorem e_law_count : fnD T_law_count N_law_count true s_law_count = g_law_count := by kernel_rfl
/-! ### _law_twice -/
abbrev s_law_twice : Stmt := topS 47
def N_law_twice : List Str := ["_law_row_here", "_law_image_here", "_law_view_here", "_law_held", "_law_after", "_law_behind", "_law_again"]
def T_law_twice : Tab := [("_law_view", .fn 1 g_law_view), ("_law_origins", .fn 2 g_law_origins), ("_law_carried", .fn 2 g_law_carried), ("look_after", .fn 2 g_look_after), ("sources", .fn 2 g_sources), ("_law_same", .fn 2 g_law_same), ("isinstance", .blt), ("str", .blt), ("apply_line", .fn 2 g_apply_line)]
theorem sc_law_twice : FnScope N_law_twice ["_law_row_here", "_law_image_here"] (defScope s_law_twice) := ⟨rfl, rfl, rfl, by decide +kernel, rfl, by decide +kernel, by decide +kernel⟩
def m_law_twice : M Fl := (mSeq (mAsg (.nm 2) (mCall 1 g_law_view (cPl 1 cNil))) (mSeq (mAsg (.nm 3) (mCall 2 g_law_origins (cPl 0 (cPl 2 cNil)))) (mSeq (mAsg (.nm 4) (mCall 2 g_law_carried (cPl 3 (cPl 1 cNil)))) (mSeq (mIfS (tOrM (tNotM (tTrue (mCall 2 g_law_same (cRv true (mCall 2 g_apply_line (cPl 0 (cPl 1 cNil))) (cPl 4 cNil))))) (tNotM (tTrue (mCall 2 g_law_same (cRv true (mCall 2 g_apply_line (cPl 0 (cPl 4 cNil))) (cPl 4 cNil)))))) (mSeq (mRet (mC (.bl false))) mNext) mNext) (mSeq (mAsg (.nm 5) (mCall 2 g_look_after (cPl 0 (cPl 2 cNil)))) (mSeq (mIfS (tOrM (tNotM (tTrue (mUn (fIsi .str) (mVar 5)))) (tBool (mOpV 5 (cop .NotEq) (mCall 1 g_law_view (cPl 4 cNil))))) (mSeq (mRet (mC (.bl false))) mNext) mNext) (mSeq (mAsg (.nm 6) (mCall 2 g_sources (cPl 0 (cPl 5 cNil)))) (mSeq (mIfS (tOrM (tNotM (tTrue (mCall 2 g_law_same (cRv true (mCall 2 g_sources (cPl 0 (cPl 2 cNil))) (cPl 3 cNil))))) (tNotM (tTrue (mCall 2 g_law_same (cPl 6 (cRv true (mCall 2 g_law_origins (cPl 0 (cPl 5 cNil))) cNil)))))) (mSeq (mRet (mC (.bl false))) mNext) mNext) (mSeq (mRet (mCall 2 g_law_same (cRv true (mCall 2 g_law_carried (cPl 6 (cPl 3 cNil))) (cPl 3 cNil)))) mNext)))))))))
def g_law_twice : FSem := fsem false 7 m_law_twice
theorem e_law_twice : fnD T_law_twice N_law_twice false s_law_twice = g_law_twice := by kernel_rfl
/-! ### _law_same_list -/
abbrev s_law_same_list : Stmt := topS 48
def N_law_same_list : List Str := ["_law_told", "_law_due", "_law_k"]
def T_law_same_list : Tab := [("range", .blt), ("len", .blt), ("isinstance", .blt), ("list", .blt), ("_law_same", .fn 2 g_law_same)]
theorem sc_law_same_list : FnScope N_law_same_list ["_law_told", "_law_due"] (defScope s_law_same_list) := ⟨rfl, rfl, rfl, by decide +kernel, rfl, by decide +kernel, by decide +kernel⟩
def m_law_same_list : M Fl := (mSeq (mIfS (tOrM (tNotM (tTrue (mUn (fIsi .list) (mVar 0)))) (tBool (mOp true (cop .NotEq) (mBlt fLen (cPl 0 cNil)) (mBlt fLen (cPl 1 cNil))))) (mSeq (mRet (mC (.bl false))) mNext) mNext) (mSeq (mFor (.nm 2) (iRng1M (mACons (mBlt fLen (cPl 1 cNil)) mANil)) (mSeq (mIfS (tNotM (tTrue (mCall 2 g_law_same (cRv true (mOpV 0 fIdx (mVar 2)) (cRv true (mOpV 1 fIdx (mVar 2)) cNil))))) (mSeq (mRet (mC (.bl false))) mNext) mNext) mNext)) (mSeq (mRet (mC (.bl true))) mNext)))
def g_law_same_list : FSem := fsem false 3 m_law_same_list
theorem e_law_same_list : fnD T_law_same_list N_law_same_list false s_law_same_list = g_law_same_list := by kernel_rfl
/-! ### law -/
abbrev s_law : Stmt := topS 49
def N_law : List Str := ["_law_script", "_law_bag_here", "_law_n", "_law_image_here", "_law_stand", "_law_whole", "_law_shorter", "_law_longer", "_law_path", "_law_turn", "_law_view_here", "_law_rows", "_law_row_here", "_law_count_here", "_law_held", "_law_k"]
def T_law : Tab := [("_law_bag", .fn 1 g_law_bag), ("_law_image", .fn 2 g_law_image), ("tuple", .blt), ("range", .blt), ("_law_view", .fn 1 g_law_view), ("_law_draw", .fn 2 g_law_draw), ("_law_size", .fn 1 g_law_size), ("_law_row", .fn 3 g_law_row), ("_law_count", .fn 2 g_law_count), ("_law_same_list", .fn 2 g_law_same_list), ("_law_origins", .fn 2 g_law_origins), ("_law_carried", .fn 2 g_law_carried), ("images", .fn 2 g_images), ("_law_same", .fn 2 g_law_same), ("len", .blt), ("_law_twice", .fn 2 g_law_twice), ("list", .blt), ("plain_run", .fn 2 g_plain_run), ("flow", .fn 2 g_flow)]
theorem sc_law : FnScope N_law ["_law_script"] (defScope s_law) := ⟨rfl, rfl, rfl, by decide +kernel, rfl, by decide +kernel, by decide +kernel⟩
def m_law : M Fl := (mSeq (mAsg (.nm 1) (mCall 1 g_law_bag (cPl 0 cNil))) (mSeq (mAsg (.nm 2) (mOp false (bop .Add) (mC (.int 1)) (mCall 2 g_law_draw (cPl 1 (cRv true (mC (.int 12)) cNil))))) (mSeq (mAsg (.nm 3) (mCall 2 g_law_image (cPl 1 (cPl 2 cNil)))) (mSeq (mAsg (.nm 4) (mVarZ 3)) (mSeq (mAsg (.nm 5) (mBlt fTup1 (cRv true (mLc [15] (.nm 15) (iRng1M (mACons (mVarZ 2) mANil)) (fun S => .ok true S) (mIfE (tBool (mOp true (cop .NotEq) (mOpV 3 fIdx (mVar 15)) (mUn fNeg (mC (.int 1))))) (mVar 15) (mUn fNeg (mC (.int 1))))) cNil))) (mSeq (mAsg (.nm 6) (mLst mANil)) (mSeq (mAsg (.nm 7) (mLst mANil)) (mSeq (mAsg (.nm 8) (mLst (mACons (mVarZ 3) mANil))) (mSeq (mFor (.nm 9) (iRng1M (mACons (mCall 1 g_law_size (cPl 1 cNil)) mANil)) (mSeq (mAsg (.nm 12) (mCall 3 g_law_row (cPl 1 (cPl 2 (cRv true (mCall 1 g_law_view (cPl 4 cNil)) cNil))))) (mSeq (mAsg (.nm 13) (mCall 2 g_law_count (cPl 1 (cRv true (mOp true (bop .Sub) (mC (.int 60)) (mBlt fLen (cPl 7 cNil))) cNil)))) (mSeq (mIfS (tBool (mOpV 13 (cop .Gt) (mC (.int 0)))) (mSeq (mIfS (tNotM (tTrue (mCall 2 g_law_twice (cPl 12 (cPl 4 cNil))))) (mSeq (mRet (mC (.bl false))) mNext) mNext) (mSeq (mAsg (.nm 14) (mCall 2 g_law_origins (cPl 12 (cRv true (mCall 1 g_law_view (cPl 4 cNil)) cNil)))) (mSeq (mAsg (.nm 4) (mCall 2 g_law_carried (cPl 14 (cPl 4 cNil)))) (mSeq (mAsg (.nm 5) (mCall 2 g_law_carried (cPl 14 (cPl 5 cNil)))) (mSeq (mDrop (mLM 6 lmAppend (mACons (mVarZ 12) mANil))) (mSeq (mDrop (mLM 7 lmExtend (mACons (mOp true (bop .Mult) (mLst (mACons (mVarZ 12) mANil)) (mVar 13)) mANil))) (mSeq (mDrop (mLM 8 lmExtend (mACons (mOp true (bop .Mult) (mLst (mACons (mVarZ 4) mANil)) (mVar 13)) mANil))) mNext))))))) mNext) mNext)))) (mSeq (mIfS (tNotM (tTrue (mCall 2 g_law_same_list (cRv true (mCall 2 g_images (cRv true (mBlt fList1 (cPl 7 cNil)) (cPl 3 cNil))) (cPl 8 cNil))))) (mSeq (mRet (mC (.bl false))) mNext) mNext) (mSeq (mAsg (.nm 10) (mCall 1 g_law_view (cPl 3 cNil))) (mSeq (mFor (.nm 11) (iAnyM (mLst (mACons (mVarZ 7) (mACons (mVarZ 6) mANil)))) (mSeq (mIfS (tNotM (tTrue (mCall 2 g_law_same (cRv true (mCall 2 g_plain_run (cRv true (mBlt fList1 (cPl 11 cNil)) (cPl 3 cNil))) (cPl 4 cNil))))) (mSeq (mRet (mC (.bl false))) mNext) mNext) (mSeq (mIfS (tNotM (tTrue (mCall 2 g_law_same (cRv true (mCall 2 g_flow (cRv true (mBlt fList1 (cPl 11 cNil)) (cPl 10 cNil))) (cPl 5 cNil))))) (mSeq (mRet (mC (.bl false))) mNext) mNext) mNext))) (mSeq (mRet (mC (.bl true))) mNext)))))))))))))
def g_law : FSem := fsem false 16 m_law
theorem e_law : fnD T_law N_law false s_law = g_law := by kernel_rfl
end K02

set_option Elab.async false
set_option linter.all false
set_option maxRecDepth 100000
set_option maxHeartbeats 2000000
namespace K02
open PySem PySem.Spec PyProof.Rows L2 R

/-! ### the bag -/
def bagD (cs : List Int) (i a s c : Int) : R.D := .lst [.lst (cs.map .int), .int i, .int a, .int s, .int c]
theorem atI_cells {cs : List Int} {i : Int} (h0 : 0 ≤ i) (h1 : i < cs.length) : ∃ z, L2.atI (cs.map R.D.int) i = some (.int z) := by
  unfold L2.atI ixN
  rw [if_pos h0, List.length_map, if_pos h1]
  refine ⟨cs[i.toNat]'(by omega), ?_⟩
  simp [show i.toNat < cs.length by omega]
theorem draw_ok (cs : List Int) (i a s c : Int) (m : Int) (hi : 0 ≤ i) (hm : 0 < m) (hm2 : m < 1000) : ∃ i' a' s' c' md r, g_law_draw [bagD cs i a s c, .int m] = .ret md (.int r) (some (bagD cs i' a' s' c')) ∧ 0 ≤ i' ∧ 0 ≤ r ∧ r < m := by
  have st : g_law_draw [bagD cs i a s c, .int m] = fin true (m_law_draw [.io (bagD cs i a s c), .frz (.int m), .un, .un, .un, .un, .un]) := rfl
  rw [st]
  unfold m_law_draw bagD
  have hd : divOk m = true := decide_eq_true (by omega)
  have hm0 : m ≠ 0 := by omega
  have r1 : ∀ x : Int, 0 ≤ x % m ∧ x % m < m := fun x => ⟨Int.emod_nonneg x hm0, Int.emod_lt_of_pos x hm⟩
  have k1 : ∀ x : Int, mulOk x 7368787 = true := fun x => mulK (by decide)
  have k2 : ∀ x : Int, mulOk x 69621 = true := fun x => mulK (by decide)
  have k3 : ∀ x : Int, mulOk x 48271 = true := fun x => mulK (by decide)
  have k4 : ∀ x y : Int, mulOk (x % 2147483647) y = true := fun x y => mulK' (by
    have h1 := Int.emod_nonneg x (show (2147483647 : Int) ≠ 0 by decide)
    have h2 := Int.emod_lt_of_pos x (show (0 : Int) < 2147483647 by decide)
    omega)
  have k5 : divOk 32768 = true := by decide
  have k6 : divOk 16 = true := by decide
  have k7 : powOk 10 18 = true := by decide
  by_cases h1 : a = 0 ∧ i < cs.length
  · obtain ⟨rfl, h1⟩ := h1
    obtain ⟨z, hz⟩ := atI_cells (cs := cs) hi h1
    by_cases h4 : 1000000000000000000 ≤ (if z < 0 then -z else z)
    · have h5 : 0 < (if z < 0 then -z else z) := by omega
      have h6 : (if z < 0 then -z else z) ≠ 0 := by omega
      simp [R.ev_mC, R.ev_mVar, R.ev_mVarZ, R.ev_mOp, R.ev_mOpV, R.ev_mUn, R.ev_mANil, R.ev_mACons, R.ev_mTup, R.ev_mLst, R.ev_mNoPart, R.ev_mPart, R.ev_mSl, R.ev_tTrue, R.ev_tBool, R.ev_mCh, R.ev_tAndM, R.ev_tOrM, R.ev_tNotM, R.ev_mIfE, R.ev_mAndV, R.ev_mOrV, R.ev_mNotV, R.ev_cNil, R.ev_cPl, R.ev_cRv, R.ev_mBlt, R.ev_mM1, R.ev_mCall, R.ev_mNext, R.ev_mSeq, R.ev_mFl, R.ev_mDrop, R.ev_mRet, R.ev_mRetV, R.ev_mIfS, R.ev_mAsg, R.ev_mAug, R.ev_mSetP, R.ev_mLM, R.ev_iAnyM, R.ev_iRng1M, R.ev_iRng2M, R.ev_iEn1M, R.ev_iEnM, R.ev_iZipM, R.ev_mFor, R.ev_mLc, R.ev_mJoined, R.ev_slotRV, R.ev_frzSl, R.ev_relSl, R.ev_setSl, R.ev_lend, R.ev_setT_nm, R.ev_setT_tp, R.ev_setTs_nil, R.ev_setTs_cons, R.ev_hold_N, R.ev_hold_Z, R.ev_hold_B, R.ev_settle_N, R.ev_settle_Z, R.ev_settle_B, R.ev_isLst_lst, R.ev_isLst_tup, R.ev_isLst_int, R.ev_isLst_bl, R.ev_isLst_str, R.ev_isLst_non, R.ev_isLst_scr, R.ev_idx_lst, R.ev_idx_tup, R.ev_idx_scr, R.ev_idx_str, R.ev_neg, R.ev_add_int, R.ev_sub_int, R.ev_mul_int, R.ev_div_int, R.ev_mod_int, R.ev_pow_int, R.ev_add_str, R.ev_add_tup, R.ev_add_lst, R.ev_eq_int, R.ev_ne_int, R.ev_eq_str, R.ev_ne_str, R.ev_lt, R.ev_le, R.ev_gt, R.ev_ge, R.ev_is, R.ev_isNot, R.ev_none_tup, R.ev_none_lst, R.ev_none_int, R.ev_none_str, R.ev_none_non, R.ev_len_lst, R.ev_len_tup, R.ev_len_scr, R.ev_len_str, R.ev_abs, R.ev_int1, R.ev_str_int, R.ev_str_str, R.ev_list_lst, R.ev_list_tup, R.ev_tup_lst, R.ev_tup_tup, R.ev_fmt_str, R.ev_fmt_int, R.ev_sl_lst, R.ev_sl_tup, R.ev_sl_scr, R.ev_split, R.ev_join, R.ev_tru_bl, R.ev_tru_int, R.ev_tru_non, R.ev_tru_lst, R.ev_tru_tup, R.ev_avRVs_nil, R.ev_avRVs_pl, R.ev_avRVs_rv, R.ev_share_pl, R.ev_share_N, R.ev_share_Z, R.ev_share_B, R.ev_lent_pl, R.ev_lent_N, R.ev_lent_Z, R.ev_lent_B, R.ev_fin_ret, R.ev_fin_next, R.ev_io_t, R.ev_io_f, R.ev_jGo_nil, R.ev_jGo_cons, R.ev_isi, R.ev_hold_t, R.ev_hold_fint, R.ev_hold_fstr, R.ev_hold_ftup, R.ev_hold_fbl, R.ev_settle_int, R.ev_settle_str, R.ev_settle_tup, R.ev_settle_bl, R.ev_settle_non, R.ev_share_int, R.ev_share_str, R.ev_share_tup, R.ev_lent_int, R.ev_lent_str, R.ev_lent_tup, R.hmd, at0, at1, at2, at3, at4, ix0, ix1, ix2, ix3, ix4, hz, h1, hd, hm, k7, h4, h5, h6]
      exact ⟨_, _, _, _, _, _, ⟨rfl, rfl, rfl, rfl, rfl, rfl⟩, by omega, r1 _⟩
    · simp [R.ev_mC, R.ev_mVar, R.ev_mVarZ, R.ev_mOp, R.ev_mOpV, R.ev_mUn, R.ev_mANil, R.ev_mACons, R.ev_mTup, R.ev_mLst, R.ev_mNoPart, R.ev_mPart, R.ev_mSl, R.ev_tTrue, R.ev_tBool, R.ev_mCh, R.ev_tAndM, R.ev_tOrM, R.ev_tNotM, R.ev_mIfE, R.ev_mAndV, R.ev_mOrV, R.ev_mNotV, R.ev_cNil, R.ev_cPl, R.ev_cRv, R.ev_mBlt, R.ev_mM1, R.ev_mCall, R.ev_mNext, R.ev_mSeq, R.ev_mFl, R.ev_mDrop, R.ev_mRet, R.ev_mRetV, R.ev_mIfS, R.ev_mAsg, R.ev_mAug, R.ev_mSetP, R.ev_mLM, R.ev_iAnyM, R.ev_iRng1M, R.ev_iRng2M, R.ev_iEn1M, R.ev_iEnM, R.ev_iZipM, R.ev_mFor, R.ev_mLc, R.ev_mJoined, R.ev_slotRV, R.ev_frzSl, R.ev_relSl, R.ev_setSl, R.ev_lend, R.ev_setT_nm, R.ev_setT_tp, R.ev_setTs_nil, R.ev_setTs_cons, R.ev_hold_N, R.ev_hold_Z, R.ev_hold_B, R.ev_settle_N, R.ev_settle_Z, R.ev_settle_B, R.ev_isLst_lst, R.ev_isLst_tup, R.ev_isLst_int, R.ev_isLst_bl, R.ev_isLst_str, R.ev_isLst_non, R.ev_isLst_scr, R.ev_idx_lst, R.ev_idx_tup, R.ev_idx_scr, R.ev_idx_str, R.ev_neg, R.ev_add_int, R.ev_sub_int, R.ev_mul_int, R.ev_div_int, R.ev_mod_int, R.ev_pow_int, R.ev_add_str, R.ev_add_tup, R.ev_add_lst, R.ev_eq_int, R.ev_ne_int, R.ev_eq_str, R.ev_ne_str, R.ev_lt, R.ev_le, R.ev_gt, R.ev_ge, R.ev_is, R.ev_isNot, R.ev_none_tup, R.ev_none_lst, R.ev_none_int, R.ev_none_str, R.ev_none_non, R.ev_len_lst, R.ev_len_tup, R.ev_len_scr, R.ev_len_str, R.ev_abs, R.ev_int1, R.ev_str_int, R.ev_str_str, R.ev_list_lst, R.ev_list_tup, R.ev_tup_lst, R.ev_tup_tup, R.ev_fmt_str, R.ev_fmt_int, R.ev_sl_lst, R.ev_sl_tup, R.ev_sl_scr, R.ev_split, R.ev_join, R.ev_tru_bl, R.ev_tru_int, R.ev_tru_non, R.ev_tru_lst, R.ev_tru_tup, R.ev_avRVs_nil, R.ev_avRVs_pl, R.ev_avRVs_rv, R.ev_share_pl, R.ev_share_N, R.ev_share_Z, R.ev_share_B, R.ev_lent_pl, R.ev_lent_N, R.ev_lent_Z, R.ev_lent_B, R.ev_fin_ret, R.ev_fin_next, R.ev_io_t, R.ev_io_f, R.ev_jGo_nil, R.ev_jGo_cons, R.ev_isi, R.ev_hold_t, R.ev_hold_fint, R.ev_hold_fstr, R.ev_hold_ftup, R.ev_hold_fbl, R.ev_settle_int, R.ev_settle_str, R.ev_settle_tup, R.ev_settle_bl, R.ev_settle_non, R.ev_share_int, R.ev_share_str, R.ev_share_tup, R.ev_lent_int, R.ev_lent_str, R.ev_lent_tup, R.hmd, at0, at1, at2, at3, at4, ix0, ix1, ix2, ix3, ix4, hz, h1, hd, hm, k1, k2, k3, k4, k5, k6, k7, h4]
      exact ⟨_, _, _, _, _, _, ⟨rfl, rfl, rfl, rfl, rfl, rfl⟩, by omega, r1 _⟩
  · by_cases h2 : 0 < a
    · have h3 : a ≠ 0 := by omega
      simp [R.ev_mC, R.ev_mVar, R.ev_mVarZ, R.ev_mOp, R.ev_mOpV, R.ev_mUn, R.ev_mANil, R.ev_mACons, R.ev_mTup, R.ev_mLst, R.ev_mNoPart, R.ev_mPart, R.ev_mSl, R.ev_tTrue, R.ev_tBool, R.ev_mCh, R.ev_tAndM, R.ev_tOrM, R.ev_tNotM, R.ev_mIfE, R.ev_mAndV, R.ev_mOrV, R.ev_mNotV, R.ev_cNil, R.ev_cPl, R.ev_cRv, R.ev_mBlt, R.ev_mM1, R.ev_mCall, R.ev_mNext, R.ev_mSeq, R.ev_mFl, R.ev_mDrop, R.ev_mRet, R.ev_mRetV, R.ev_mIfS, R.ev_mAsg, R.ev_mAug, R.ev_mSetP, R.ev_mLM, R.ev_iAnyM, R.ev_iRng1M, R.ev_iRng2M, R.ev_iEn1M, R.ev_iEnM, R.ev_iZipM, R.ev_mFor, R.ev_mLc, R.ev_mJoined, R.ev_slotRV, R.ev_frzSl, R.ev_relSl, R.ev_setSl, R.ev_lend, R.ev_setT_nm, R.ev_setT_tp, R.ev_setTs_nil, R.ev_setTs_cons, R.ev_hold_N, R.ev_hold_Z, R.ev_hold_B, R.ev_settle_N, R.ev_settle_Z, R.ev_settle_B, R.ev_isLst_lst, R.ev_isLst_tup, R.ev_isLst_int, R.ev_isLst_bl, R.ev_isLst_str, R.ev_isLst_non, R.ev_isLst_scr, R.ev_idx_lst, R.ev_idx_tup, R.ev_idx_scr, R.ev_idx_str, R.ev_neg, R.ev_add_int, R.ev_sub_int, R.ev_mul_int, R.ev_div_int, R.ev_mod_int, R.ev_pow_int, R.ev_add_str, R.ev_add_tup, R.ev_add_lst, R.ev_eq_int, R.ev_ne_int, R.ev_eq_str, R.ev_ne_str, R.ev_lt, R.ev_le, R.ev_gt, R.ev_ge, R.ev_is, R.ev_isNot, R.ev_none_tup, R.ev_none_lst, R.ev_none_int, R.ev_none_str, R.ev_none_non, R.ev_len_lst, R.ev_len_tup, R.ev_len_scr, R.ev_len_str, R.ev_abs, R.ev_int1, R.ev_str_int, R.ev_str_str, R.ev_list_lst, R.ev_list_tup, R.ev_tup_lst, R.ev_tup_tup, R.ev_fmt_str, R.ev_fmt_int, R.ev_sl_lst, R.ev_sl_tup, R.ev_sl_scr, R.ev_split, R.ev_join, R.ev_tru_bl, R.ev_tru_int, R.ev_tru_non, R.ev_tru_lst, R.ev_tru_tup, R.ev_avRVs_nil, R.ev_avRVs_pl, R.ev_avRVs_rv, R.ev_share_pl, R.ev_share_N, R.ev_share_Z, R.ev_share_B, R.ev_lent_pl, R.ev_lent_N, R.ev_lent_Z, R.ev_lent_B, R.ev_fin_ret, R.ev_fin_next, R.ev_io_t, R.ev_io_f, R.ev_jGo_nil, R.ev_jGo_cons, R.ev_isi, R.ev_hold_t, R.ev_hold_fint, R.ev_hold_fstr, R.ev_hold_ftup, R.ev_hold_fbl, R.ev_settle_int, R.ev_settle_str, R.ev_settle_tup, R.ev_settle_bl, R.ev_settle_non, R.ev_share_int, R.ev_share_str, R.ev_share_tup, R.ev_lent_int, R.ev_lent_str, R.ev_lent_tup, R.hmd, at0, at1, at2, at3, at4, ix0, ix1, ix2, ix3, ix4, h2, h3, hd, hm]
      exact ⟨_, _, _, _, _, _, ⟨rfl, rfl, rfl, rfl, rfl, rfl⟩, by omega, r1 _⟩
    · by_cases h3 : a = 0
      · subst h3
        have h4 : ¬ i < cs.length := fun h => h1 ⟨rfl, h⟩
        simp [R.ev_mC, R.ev_mVar, R.ev_mVarZ, R.ev_mOp, R.ev_mOpV, R.ev_mUn, R.ev_mANil, R.ev_mACons, R.ev_mTup, R.ev_mLst, R.ev_mNoPart, R.ev_mPart, R.ev_mSl, R.ev_tTrue, R.ev_tBool, R.ev_mCh, R.ev_tAndM, R.ev_tOrM, R.ev_tNotM, R.ev_mIfE, R.ev_mAndV, R.ev_mOrV, R.ev_mNotV, R.ev_cNil, R.ev_cPl, R.ev_cRv, R.ev_mBlt, R.ev_mM1, R.ev_mCall, R.ev_mNext, R.ev_mSeq, R.ev_mFl, R.ev_mDrop, R.ev_mRet, R.ev_mRetV, R.ev_mIfS, R.ev_mAsg, R.ev_mAug, R.ev_mSetP, R.ev_mLM, R.ev_iAnyM, R.ev_iRng1M, R.ev_iRng2M, R.ev_iEn1M, R.ev_iEnM, R.ev_iZipM, R.ev_mFor, R.ev_mLc, R.ev_mJoined, R.ev_slotRV, R.ev_frzSl, R.ev_relSl, R.ev_setSl, R.ev_lend, R.ev_setT_nm, R.ev_setT_tp, R.ev_setTs_nil, R.ev_setTs_cons, R.ev_hold_N, R.ev_hold_Z, R.ev_hold_B, R.ev_settle_N, R.ev_settle_Z, R.ev_settle_B, R.ev_isLst_lst, R.ev_isLst_tup, R.ev_isLst_int, R.ev_isLst_bl, R.ev_isLst_str, R.ev_isLst_non, R.ev_isLst_scr, R.ev_idx_lst, R.ev_idx_tup, R.ev_idx_scr, R.ev_idx_str, R.ev_neg, R.ev_add_int, R.ev_sub_int, R.ev_mul_int, R.ev_div_int, R.ev_mod_int, R.ev_pow_int, R.ev_add_str, R.ev_add_tup, R.ev_add_lst, R.ev_eq_int, R.ev_ne_int, R.ev_eq_str, R.ev_ne_str, R.ev_lt, R.ev_le, R.ev_gt, R.ev_ge, R.ev_is, R.ev_isNot, R.ev_none_tup, R.ev_none_lst, R.ev_none_int, R.ev_none_str, R.ev_none_non, R.ev_len_lst, R.ev_len_tup, R.ev_len_scr, R.ev_len_str, R.ev_abs, R.ev_int1, R.ev_str_int, R.ev_str_str, R.ev_list_lst, R.ev_list_tup, R.ev_tup_lst, R.ev_tup_tup, R.ev_fmt_str, R.ev_fmt_int, R.ev_sl_lst, R.ev_sl_tup, R.ev_sl_scr, R.ev_split, R.ev_join, R.ev_tru_bl, R.ev_tru_int, R.ev_tru_non, R.ev_tru_lst, R.ev_tru_tup, R.ev_avRVs_nil, R.ev_avRVs_pl, R.ev_avRVs_rv, R.ev_share_pl, R.ev_share_N, R.ev_share_Z, R.ev_share_B, R.ev_lent_pl, R.ev_lent_N, R.ev_lent_Z, R.ev_lent_B, R.ev_fin_ret, R.ev_fin_next, R.ev_io_t, R.ev_io_f, R.ev_jGo_nil, R.ev_jGo_cons, R.ev_isi, R.ev_hold_t, R.ev_hold_fint, R.ev_hold_fstr, R.ev_hold_ftup, R.ev_hold_fbl, R.ev_settle_int, R.ev_settle_str, R.ev_settle_tup, R.ev_settle_bl, R.ev_settle_non, R.ev_share_int, R.ev_share_str, R.ev_share_tup, R.ev_lent_int, R.ev_lent_str, R.ev_lent_tup, R.hmd, at0, at1, at2, at3, at4, ix0, ix1, ix2, ix3, ix4, hd, hm, h4, k1, k2, k3, k4, k5, k6]
        exact ⟨_, _, _, _, _, _, ⟨rfl, rfl, rfl, rfl, rfl, rfl⟩, by omega, r1 _⟩
      · simp [R.ev_mC, R.ev_mVar, R.ev_mVarZ, R.ev_mOp, R.ev_mOpV, R.ev_mUn, R.ev_mANil, R.ev_mACons, R.ev_mTup, R.ev_mLst, R.ev_mNoPart, R.ev_mPart, R.ev_mSl, R.ev_tTrue, R.ev_tBool, R.ev_mCh, R.ev_tAndM, R.ev_tOrM, R.ev_tNotM, R.ev_mIfE, R.ev_mAndV, R.ev_mOrV, R.ev_mNotV, R.ev_cNil, R.ev_cPl, R.ev_cRv, R.ev_mBlt, R.ev_mM1, R.ev_mCall, R.ev_mNext, R.ev_mSeq, R.ev_mFl, R.ev_mDrop, R.ev_mRet, R.ev_mRetV, R.ev_mIfS, R.ev_mAsg, R.ev_mAug, R.ev_mSetP, R.ev_mLM, R.ev_iAnyM, R.ev_iRng1M, R.ev_iRng2M, R.ev_iEn1M, R.ev_iEnM, R.ev_iZipM, R.ev_mFor, R.ev_mLc, R.ev_mJoined, R.ev_slotRV, R.ev_frzSl, R.ev_relSl, R.ev_setSl, R.ev_lend, R.ev_setT_nm, R.ev_setT_tp, R.ev_setTs_nil, R.ev_setTs_cons, R.ev_hold_N, R.ev_hold_Z, R.ev_hold_B, R.ev_settle_N, R.ev_settle_Z, R.ev_settle_B, R.ev_isLst_lst, R.ev_isLst_tup, R.ev_isLst_int, R.ev_isLst_bl, R.ev_isLst_str, R.ev_isLst_non, R.ev_isLst_scr, R.ev_idx_lst, R.ev_idx_tup, R.ev_idx_scr, R.ev_idx_str, R.ev_neg, R.ev_add_int, R.ev_sub_int, R.ev_mul_int, R.ev_div_int, R.ev_mod_int, R.ev_pow_int, R.ev_add_str, R.ev_add_tup, R.ev_add_lst, R.ev_eq_int, R.ev_ne_int, R.ev_eq_str, R.ev_ne_str, R.ev_lt, R.ev_le, R.ev_gt, R.ev_ge, R.ev_is, R.ev_isNot, R.ev_none_tup, R.ev_none_lst, R.ev_none_int, R.ev_none_str, R.ev_none_non, R.ev_len_lst, R.ev_len_tup, R.ev_len_scr, R.ev_len_str, R.ev_abs, R.ev_int1, R.ev_str_int, R.ev_str_str, R.ev_list_lst, R.ev_list_tup, R.ev_tup_lst, R.ev_tup_tup, R.ev_fmt_str, R.ev_fmt_int, R.ev_sl_lst, R.ev_sl_tup, R.ev_sl_scr, R.ev_split, R.ev_join, R.ev_tru_bl, R.ev_tru_int, R.ev_tru_non, R.ev_tru_lst, R.ev_tru_tup, R.ev_avRVs_nil, R.ev_avRVs_pl, R.ev_avRVs_rv, R.ev_share_pl, R.ev_share_N, R.ev_share_Z, R.ev_share_B, R.ev_lent_pl, R.ev_lent_N, R.ev_lent_Z, R.ev_lent_B, R.ev_fin_ret, R.ev_fin_next, R.ev_io_t, R.ev_io_f, R.ev_jGo_nil, R.ev_jGo_cons, R.ev_isi, R.ev_hold_t, R.ev_hold_fint, R.ev_hold_fstr, R.ev_hold_ftup, R.ev_hold_fbl, R.ev_settle_int, R.ev_settle_str, R.ev_settle_tup, R.ev_settle_bl, R.ev_settle_non, R.ev_share_int, R.ev_share_str, R.ev_share_tup, R.ev_lent_int, R.ev_lent_str, R.ev_lent_tup, R.hmd, at0, at1, at2, at3, at4, ix0, ix1, ix2, ix3, ix4, hd, hm, h2, h3, k1, k2, k3, k4, k5, k6]
        exact ⟨_, _, _, _, _, _, ⟨rfl, rfl, rfl, rfl, rfl, rfl⟩, by omega, r1 _⟩
def Bag (b : R.D) : Prop := ∃ cs i a s c, b = bagD cs i a s c ∧ 0 ≤ i
theorem draw (b : R.D) (m : Int) (hb : Bag b) (hm : 0 < m) (hm2 : m < 1000) : ∃ b' md r, g_law_draw [b, .int m] = .ret md (.int r) (some b') ∧ Bag b' ∧ 0 ≤ r ∧ r < m := by
  obtain ⟨cs, i, a, s, c, rfl, hi⟩ := hb
  obtain ⟨i', a', s', c', md, r, h1, h2, h3, h4⟩ := draw_ok cs i a s c m hi hm hm2
  exact ⟨_, md, r, h1, ⟨_, _, _, _, _, rfl, h2⟩, h3, h4⟩
end K02

set_option Elab.async false
set_option linter.all false
set_option maxRecDepth 100000
set_option maxHeartbeats 2000000
namespace K02
open PySem PySem.Spec PyProof.Rows L2 R

/-! ### images, looks, guards -/
def ImOk (es : List Int) : Prop := (1 ≤ es.length ∧ es.length ≤ 12) ∧ ∀ e ∈ es, -1 ≤ e ∧ e ≤ 999
def imD (es : List Int) : R.D := .tup (es.map R.D.int)
def sgn (e : Int) : Nat := if e = -1 then 46 else 48 + (e / 100).toNat
def view (es : List Int) : List Nat := es.map sgn
def txD (l : List Nat) : R.D := .str (SX.S l)
theorem sDot : Str.ofString "." = SX.S [46] := by decide
theorem sStar : Str.ofString "*" = SX.S [42] := by decide
theorem sMin : Str.ofString "-" = SX.S [45] := by decide
theorem sClear : Str.ofString "clear" = SX.S [99, 108, 101, 97, 114] := by decide
theorem digit (i : Int) (h0 : 0 ≤ i) (h1 : i ≤ 9) : Str.ofString i.repr = SX.S [48 + i.toNat] ∧ strIntOk i = true := by
  have : i = 0 ∨ i = 1 ∨ i = 2 ∨ i = 3 ∨ i = 4 ∨ i = 5 ∨ i = 6 ∨ i = 7 ∨ i = 8 ∨ i = 9 := by omega
  rcases this with rfl | rfl | rfl | rfl | rfl | rfl | rfl | rfl | rfl | rfl <;> exact ⟨by decide +kernel, by decide +kernel⟩
theorem entry_sign (e : Int) (h0 : -1 ≤ e) (h1 : e ≤ 999) : ∃ md, g_entry_sign [.int e] = .ret md (.str (SX.S [sgn e])) none := by
  have st : g_entry_sign [.int e] = fin false (m_entry_sign [.frz (.int e)]) := rfl
  rw [st]
  unfold m_entry_sign sgn
  by_cases h : e = -1
  · simp [R.ev_mC, R.ev_mVar, R.ev_mVarZ, R.ev_mOp, R.ev_mOpV, R.ev_mUn, R.ev_mANil, R.ev_mACons, R.ev_mTup, R.ev_mLst, R.ev_mNoPart, R.ev_mPart, R.ev_mSl, R.ev_tTrue, R.ev_tBool, R.ev_mCh, R.ev_tAndM, R.ev_tOrM, R.ev_tNotM, R.ev_mIfE, R.ev_mAndV, R.ev_mOrV, R.ev_mNotV, R.ev_cNil, R.ev_cPl, R.ev_cRv, R.ev_mBlt, R.ev_mM1, R.ev_mCall, R.ev_mNext, R.ev_mSeq, R.ev_mFl, R.ev_mDrop, R.ev_mRet, R.ev_mRetV, R.ev_mIfS, R.ev_mAsg, R.ev_mAug, R.ev_mSetP, R.ev_mLM, R.ev_iAnyM, R.ev_iRng1M, R.ev_iRng2M, R.ev_iEn1M, R.ev_iEnM, R.ev_iZipM, R.ev_mFor, R.ev_mLc, R.ev_mJoined, R.ev_slotRV, R.ev_frzSl, R.ev_relSl, R.ev_setSl, R.ev_lend, R.ev_setT_nm, R.ev_setT_tp, R.ev_setTs_nil, R.ev_setTs_cons, R.ev_hold_N, R.ev_hold_Z, R.ev_hold_B, R.ev_settle_N, R.ev_settle_Z, R.ev_settle_B, R.ev_isLst_lst, R.ev_isLst_tup, R.ev_isLst_int, R.ev_isLst_bl, R.ev_isLst_str, R.ev_isLst_non, R.ev_isLst_scr, R.ev_idx_lst, R.ev_idx_tup, R.ev_idx_scr, R.ev_idx_str, R.ev_neg, R.ev_add_int, R.ev_sub_int, R.ev_mul_int, R.ev_div_int, R.ev_mod_int, R.ev_pow_int, R.ev_add_str, R.ev_add_tup, R.ev_add_lst, R.ev_eq_int, R.ev_ne_int, R.ev_eq_str, R.ev_ne_str, R.ev_lt, R.ev_le, R.ev_gt, R.ev_ge, R.ev_is, R.ev_isNot, R.ev_none_tup, R.ev_none_lst, R.ev_none_int, R.ev_none_str, R.ev_none_non, R.ev_len_lst, R.ev_len_tup, R.ev_len_scr, R.ev_len_str, R.ev_abs, R.ev_int1, R.ev_str_int, R.ev_str_str, R.ev_list_lst, R.ev_list_tup, R.ev_tup_lst, R.ev_tup_tup, R.ev_fmt_str, R.ev_fmt_int, R.ev_sl_lst, R.ev_sl_tup, R.ev_sl_scr, R.ev_split, R.ev_join, R.ev_tru_bl, R.ev_tru_int, R.ev_tru_non, R.ev_tru_lst, R.ev_tru_tup, R.ev_avRVs_nil, R.ev_avRVs_pl, R.ev_avRVs_rv, R.ev_share_pl, R.ev_share_N, R.ev_share_Z, R.ev_share_B, R.ev_lent_pl, R.ev_lent_N, R.ev_lent_Z, R.ev_lent_B, R.ev_fin_ret, R.ev_fin_next, R.ev_io_t, R.ev_io_f, R.ev_jGo_nil, R.ev_jGo_cons, R.ev_isi, R.ev_hold_t, R.ev_hold_fint, R.ev_hold_fstr, R.ev_hold_ftup, R.ev_hold_fbl, R.ev_settle_int, R.ev_settle_str, R.ev_settle_tup, R.ev_settle_bl, R.ev_settle_non, R.ev_share_int, R.ev_share_str, R.ev_share_tup, R.ev_lent_int, R.ev_lent_str, R.ev_lent_tup, R.hmd, h, sDot]
  · obtain ⟨d1, d2⟩ := digit (e / 100) (by omega) (by omega)
    have k : divOk 100 = true := by decide
    simp [R.ev_mC, R.ev_mVar, R.ev_mVarZ, R.ev_mOp, R.ev_mOpV, R.ev_mUn, R.ev_mANil, R.ev_mACons, R.ev_mTup, R.ev_mLst, R.ev_mNoPart, R.ev_mPart, R.ev_mSl, R.ev_tTrue, R.ev_tBool, R.ev_mCh, R.ev_tAndM, R.ev_tOrM, R.ev_tNotM, R.ev_mIfE, R.ev_mAndV, R.ev_mOrV, R.ev_mNotV, R.ev_cNil, R.ev_cPl, R.ev_cRv, R.ev_mBlt, R.ev_mM1, R.ev_mCall, R.ev_mNext, R.ev_mSeq, R.ev_mFl, R.ev_mDrop, R.ev_mRet, R.ev_mRetV, R.ev_mIfS, R.ev_mAsg, R.ev_mAug, R.ev_mSetP, R.ev_mLM, R.ev_iAnyM, R.ev_iRng1M, R.ev_iRng2M, R.ev_iEn1M, R.ev_iEnM, R.ev_iZipM, R.ev_mFor, R.ev_mLc, R.ev_mJoined, R.ev_slotRV, R.ev_frzSl, R.ev_relSl, R.ev_setSl, R.ev_lend, R.ev_setT_nm, R.ev_setT_tp, R.ev_setTs_nil, R.ev_setTs_cons, R.ev_hold_N, R.ev_hold_Z, R.ev_hold_B, R.ev_settle_N, R.ev_settle_Z, R.ev_settle_B, R.ev_isLst_lst, R.ev_isLst_tup, R.ev_isLst_int, R.ev_isLst_bl, R.ev_isLst_str, R.ev_isLst_non, R.ev_isLst_scr, R.ev_idx_lst, R.ev_idx_tup, R.ev_idx_scr, R.ev_idx_str, R.ev_neg, R.ev_add_int, R.ev_sub_int, R.ev_mul_int, R.ev_div_int, R.ev_mod_int, R.ev_pow_int, R.ev_add_str, R.ev_add_tup, R.ev_add_lst, R.ev_eq_int, R.ev_ne_int, R.ev_eq_str, R.ev_ne_str, R.ev_lt, R.ev_le, R.ev_gt, R.ev_ge, R.ev_is, R.ev_isNot, R.ev_none_tup, R.ev_none_lst, R.ev_none_int, R.ev_none_str, R.ev_none_non, R.ev_len_lst, R.ev_len_tup, R.ev_len_scr, R.ev_len_str, R.ev_abs, R.ev_int1, R.ev_str_int, R.ev_str_str, R.ev_list_lst, R.ev_list_tup, R.ev_tup_lst, R.ev_tup_tup, R.ev_fmt_str, R.ev_fmt_int, R.ev_sl_lst, R.ev_sl_tup, R.ev_sl_scr, R.ev_split, R.ev_join, R.ev_tru_bl, R.ev_tru_int, R.ev_tru_non, R.ev_tru_lst, R.ev_tru_tup, R.ev_avRVs_nil, R.ev_avRVs_pl, R.ev_avRVs_rv, R.ev_share_pl, R.ev_share_N, R.ev_share_Z, R.ev_share_B, R.ev_lent_pl, R.ev_lent_N, R.ev_lent_Z, R.ev_lent_B, R.ev_fin_ret, R.ev_fin_next, R.ev_io_t, R.ev_io_f, R.ev_jGo_nil, R.ev_jGo_cons, R.ev_isi, R.ev_hold_t, R.ev_hold_fint, R.ev_hold_fstr, R.ev_hold_ftup, R.ev_hold_fbl, R.ev_settle_int, R.ev_settle_str, R.ev_settle_tup, R.ev_settle_bl, R.ev_settle_non, R.ev_share_int, R.ev_share_str, R.ev_share_tup, R.ev_lent_int, R.ev_lent_str, R.ev_lent_tup, R.hmd, h, k, d1, d2]
theorem check_image (es : List Int) (h : ImOk es) : g_check_image [imD es] = .ret .N .non none := by
  have st : g_check_image [imD es] = fin false (m_check_image [.frz (imD es), .un, .un]) := rfl
  rw [st]
  unfold m_check_image imD
  have l1 : (1 : Int) ≤ (es.length : Nat) := by have := h.1.1; omega
  have l2 : ((es.length : Nat) : Int) ≤ 12 := by have := h.1.2; omega
  have hi : itemsOf (.tup (es.map R.D.int)) = some (es.map R.D.int) := rfl
  generalize hb : (mSeq (mIfS (tOrM (tNotM (tTrue (mUn (fIsi .int) (mVar 2)))) _) _ _) mNext) = mb
  obtain ⟨S', e, y1, y2, rfl, _⟩ := forGo_inv (tg := .tp [.nm 1, .nm 2]) (mb := mb) (fun j S => ∃ y1 y2, S = [.frz (.tup (es.map R.D.int)), y1, y2] ∧ NI y1 ∧ NI y2) (enumD 0 (es.map R.D.int)) 0 [.frz (.tup (es.map R.D.int)), .un, .un] ⟨.un, .un, rfl, .inl rfl, .inl rfl⟩ (by
    rintro j d S hj ⟨y1, y2, rfl, n1, n2⟩
    rw [enumD_get, List.getElem?_map] at hj
    cases hr : es[j]? with
    | none => rw [hr] at hj; cases hj
    | some r =>
      rw [hr] at hj
      cases hj
      obtain ⟨b1, b2⟩ := h.2 r (List.mem_of_getElem? hr)
      refine ⟨[.frz (.tup (es.map R.D.int)), .frz (.int (0 + (j : Nat))), .frz (.int r)], [.frz (.tup (es.map R.D.int)), .frz (.int (0 + (j : Nat))), .frz (.int r)], ?_, .inl ?_, _, _, rfl, .inr ⟨_, rfl⟩, .inr ⟨_, rfl⟩⟩
      · rw [setT]
        rcases n1 with rfl | ⟨_, rfl⟩ <;> rcases n2 with rfl | ⟨_, rfl⟩ <;> simp [R.ev_mC, R.ev_mVar, R.ev_mVarZ, R.ev_mOp, R.ev_mOpV, R.ev_mUn, R.ev_mANil, R.ev_mACons, R.ev_mTup, R.ev_mLst, R.ev_mNoPart, R.ev_mPart, R.ev_mSl, R.ev_tTrue, R.ev_tBool, R.ev_mCh, R.ev_tAndM, R.ev_tOrM, R.ev_tNotM, R.ev_mIfE, R.ev_mAndV, R.ev_mOrV, R.ev_mNotV, R.ev_cNil, R.ev_cPl, R.ev_cRv, R.ev_mBlt, R.ev_mM1, R.ev_mCall, R.ev_mNext, R.ev_mSeq, R.ev_mFl, R.ev_mDrop, R.ev_mRet, R.ev_mRetV, R.ev_mIfS, R.ev_mAsg, R.ev_mAug, R.ev_mSetP, R.ev_mLM, R.ev_iAnyM, R.ev_iRng1M, R.ev_iRng2M, R.ev_iEn1M, R.ev_iEnM, R.ev_iZipM, R.ev_mFor, R.ev_mLc, R.ev_mJoined, R.ev_slotRV, R.ev_frzSl, R.ev_relSl, R.ev_setSl, R.ev_lend, R.ev_setT_nm, R.ev_setT_tp, R.ev_setTs_nil, R.ev_setTs_cons, R.ev_hold_N, R.ev_hold_Z, R.ev_hold_B, R.ev_settle_N, R.ev_settle_Z, R.ev_settle_B, R.ev_isLst_lst, R.ev_isLst_tup, R.ev_isLst_int, R.ev_isLst_bl, R.ev_isLst_str, R.ev_isLst_non, R.ev_isLst_scr, R.ev_idx_lst, R.ev_idx_tup, R.ev_idx_scr, R.ev_idx_str, R.ev_neg, R.ev_add_int, R.ev_sub_int, R.ev_mul_int, R.ev_div_int, R.ev_mod_int, R.ev_pow_int, R.ev_add_str, R.ev_add_tup, R.ev_add_lst, R.ev_eq_int, R.ev_ne_int, R.ev_eq_str, R.ev_ne_str, R.ev_lt, R.ev_le, R.ev_gt, R.ev_ge, R.ev_is, R.ev_isNot, R.ev_none_tup, R.ev_none_lst, R.ev_none_int, R.ev_none_str, R.ev_none_non, R.ev_len_lst, R.ev_len_tup, R.ev_len_scr, R.ev_len_str, R.ev_abs, R.ev_int1, R.ev_str_int, R.ev_str_str, R.ev_list_lst, R.ev_list_tup, R.ev_tup_lst, R.ev_tup_tup, R.ev_fmt_str, R.ev_fmt_int, R.ev_sl_lst, R.ev_sl_tup, R.ev_sl_scr, R.ev_split, R.ev_join, R.ev_tru_bl, R.ev_tru_int, R.ev_tru_non, R.ev_tru_lst, R.ev_tru_tup, R.ev_avRVs_nil, R.ev_avRVs_pl, R.ev_avRVs_rv, R.ev_share_pl, R.ev_share_N, R.ev_share_Z, R.ev_share_B, R.ev_lent_pl, R.ev_lent_N, R.ev_lent_Z, R.ev_lent_B, R.ev_fin_ret, R.ev_fin_next, R.ev_io_t, R.ev_io_f, R.ev_jGo_nil, R.ev_jGo_cons, R.ev_isi, R.ev_hold_t, R.ev_hold_fint, R.ev_hold_fstr, R.ev_hold_ftup, R.ev_hold_fbl, R.ev_settle_int, R.ev_settle_str, R.ev_settle_tup, R.ev_settle_bl, R.ev_settle_non, R.ev_share_int, R.ev_share_str, R.ev_share_tup, R.ev_lent_int, R.ev_lent_str, R.ev_lent_tup, R.hmd]
      · subst hb
        simp [R.ev_mC, R.ev_mVar, R.ev_mVarZ, R.ev_mOp, R.ev_mOpV, R.ev_mUn, R.ev_mANil, R.ev_mACons, R.ev_mTup, R.ev_mLst, R.ev_mNoPart, R.ev_mPart, R.ev_mSl, R.ev_tTrue, R.ev_tBool, R.ev_mCh, R.ev_tAndM, R.ev_tOrM, R.ev_tNotM, R.ev_mIfE, R.ev_mAndV, R.ev_mOrV, R.ev_mNotV, R.ev_cNil, R.ev_cPl, R.ev_cRv, R.ev_mBlt, R.ev_mM1, R.ev_mCall, R.ev_mNext, R.ev_mSeq, R.ev_mFl, R.ev_mDrop, R.ev_mRet, R.ev_mRetV, R.ev_mIfS, R.ev_mAsg, R.ev_mAug, R.ev_mSetP, R.ev_mLM, R.ev_iAnyM, R.ev_iRng1M, R.ev_iRng2M, R.ev_iEn1M, R.ev_iEnM, R.ev_iZipM, R.ev_mFor, R.ev_mLc, R.ev_mJoined, R.ev_slotRV, R.ev_frzSl, R.ev_relSl, R.ev_setSl, R.ev_lend, R.ev_setT_nm, R.ev_setT_tp, R.ev_setTs_nil, R.ev_setTs_cons, R.ev_hold_N, R.ev_hold_Z, R.ev_hold_B, R.ev_settle_N, R.ev_settle_Z, R.ev_settle_B, R.ev_isLst_lst, R.ev_isLst_tup, R.ev_isLst_int, R.ev_isLst_bl, R.ev_isLst_str, R.ev_isLst_non, R.ev_isLst_scr, R.ev_idx_lst, R.ev_idx_tup, R.ev_idx_scr, R.ev_idx_str, R.ev_neg, R.ev_add_int, R.ev_sub_int, R.ev_mul_int, R.ev_div_int, R.ev_mod_int, R.ev_pow_int, R.ev_add_str, R.ev_add_tup, R.ev_add_lst, R.ev_eq_int, R.ev_ne_int, R.ev_eq_str, R.ev_ne_str, R.ev_lt, R.ev_le, R.ev_gt, R.ev_ge, R.ev_is, R.ev_isNot, R.ev_none_tup, R.ev_none_lst, R.ev_none_int, R.ev_none_str, R.ev_none_non, R.ev_len_lst, R.ev_len_tup, R.ev_len_scr, R.ev_len_str, R.ev_abs, R.ev_int1, R.ev_str_int, R.ev_str_str, R.ev_list_lst, R.ev_list_tup, R.ev_tup_lst, R.ev_tup_tup, R.ev_fmt_str, R.ev_fmt_int, R.ev_sl_lst, R.ev_sl_tup, R.ev_sl_scr, R.ev_split, R.ev_join, R.ev_tru_bl, R.ev_tru_int, R.ev_tru_non, R.ev_tru_lst, R.ev_tru_tup, R.ev_avRVs_nil, R.ev_avRVs_pl, R.ev_avRVs_rv, R.ev_share_pl, R.ev_share_N, R.ev_share_Z, R.ev_share_B, R.ev_lent_pl, R.ev_lent_N, R.ev_lent_Z, R.ev_lent_B, R.ev_fin_ret, R.ev_fin_next, R.ev_io_t, R.ev_io_f, R.ev_jGo_nil, R.ev_jGo_cons, R.ev_isi, R.ev_hold_t, R.ev_hold_fint, R.ev_hold_fstr, R.ev_hold_ftup, R.ev_hold_fbl, R.ev_settle_int, R.ev_settle_str, R.ev_settle_tup, R.ev_settle_bl, R.ev_settle_non, R.ev_share_int, R.ev_share_str, R.ev_share_tup, R.ev_lent_int, R.ev_lent_str, R.ev_lent_tup, R.hmd, is_i, b1, b2])
  simp [R.ev_mC, R.ev_mVar, R.ev_mVarZ, R.ev_mOp, R.ev_mOpV, R.ev_mUn, R.ev_mANil, R.ev_mACons, R.ev_mTup, R.ev_mLst, R.ev_mNoPart, R.ev_mPart, R.ev_mSl, R.ev_tTrue, R.ev_tBool, R.ev_mCh, R.ev_tAndM, R.ev_tOrM, R.ev_tNotM, R.ev_mIfE, R.ev_mAndV, R.ev_mOrV, R.ev_mNotV, R.ev_cNil, R.ev_cPl, R.ev_cRv, R.ev_mBlt, R.ev_mM1, R.ev_mCall, R.ev_mNext, R.ev_mSeq, R.ev_mFl, R.ev_mDrop, R.ev_mRet, R.ev_mRetV, R.ev_mIfS, R.ev_mAsg, R.ev_mAug, R.ev_mSetP, R.ev_mLM, R.ev_iAnyM, R.ev_iRng1M, R.ev_iRng2M, R.ev_iEn1M, R.ev_iEnM, R.ev_iZipM, R.ev_mFor, R.ev_mLc, R.ev_mJoined, R.ev_slotRV, R.ev_frzSl, R.ev_relSl, R.ev_setSl, R.ev_lend, R.ev_setT_nm, R.ev_setT_tp, R.ev_setTs_nil, R.ev_setTs_cons, R.ev_hold_N, R.ev_hold_Z, R.ev_hold_B, R.ev_settle_N, R.ev_settle_Z, R.ev_settle_B, R.ev_isLst_lst, R.ev_isLst_tup, R.ev_isLst_int, R.ev_isLst_bl, R.ev_isLst_str, R.ev_isLst_non, R.ev_isLst_scr, R.ev_idx_lst, R.ev_idx_tup, R.ev_idx_scr, R.ev_idx_str, R.ev_neg, R.ev_add_int, R.ev_sub_int, R.ev_mul_int, R.ev_div_int, R.ev_mod_int, R.ev_pow_int, R.ev_add_str, R.ev_add_tup, R.ev_add_lst, R.ev_eq_int, R.ev_ne_int, R.ev_eq_str, R.ev_ne_str, R.ev_lt, R.ev_le, R.ev_gt, R.ev_ge, R.ev_is, R.ev_isNot, R.ev_none_tup, R.ev_none_lst, R.ev_none_int, R.ev_none_str, R.ev_none_non, R.ev_len_lst, R.ev_len_tup, R.ev_len_scr, R.ev_len_str, R.ev_abs, R.ev_int1, R.ev_str_int, R.ev_str_str, R.ev_list_lst, R.ev_list_tup, R.ev_tup_lst, R.ev_tup_tup, R.ev_fmt_str, R.ev_fmt_int, R.ev_sl_lst, R.ev_sl_tup, R.ev_sl_scr, R.ev_split, R.ev_join, R.ev_tru_bl, R.ev_tru_int, R.ev_tru_non, R.ev_tru_lst, R.ev_tru_tup, R.ev_avRVs_nil, R.ev_avRVs_pl, R.ev_avRVs_rv, R.ev_share_pl, R.ev_share_N, R.ev_share_Z, R.ev_share_B, R.ev_lent_pl, R.ev_lent_N, R.ev_lent_Z, R.ev_lent_B, R.ev_fin_ret, R.ev_fin_next, R.ev_io_t, R.ev_io_f, R.ev_jGo_nil, R.ev_jGo_cons, R.ev_isi, R.ev_hold_t, R.ev_hold_fint, R.ev_hold_fstr, R.ev_hold_ftup, R.ev_hold_fbl, R.ev_settle_int, R.ev_settle_str, R.ev_settle_tup, R.ev_settle_bl, R.ev_settle_non, R.ev_share_int, R.ev_share_str, R.ev_share_tup, R.ev_lent_int, R.ev_lent_str, R.ev_lent_tup, R.hmd, is_t, l1, l2, hi, e]
def okc (c v : Nat) : Bool := if c = 45 then true else if c = 42 then decide (v ≠ 46) else decide (c = v)
theorem sign_matches (c v : Nat) : ∃ md, g_sign_matches [.str (SX.S [c]), .str (SX.S [v])] = .ret md (.bl (okc c v)) none := by
  have st : g_sign_matches [.str (SX.S [c]), .str (SX.S [v])] = fin false (m_sign_matches [.frz (.str (SX.S [c])), .frz (.str (SX.S [v]))]) := rfl
  rw [st]
  unfold m_sign_matches okc
  by_cases h1 : c = 45
  · simp [R.ev_mC, R.ev_mVar, R.ev_mVarZ, R.ev_mOp, R.ev_mOpV, R.ev_mUn, R.ev_mANil, R.ev_mACons, R.ev_mTup, R.ev_mLst, R.ev_mNoPart, R.ev_mPart, R.ev_mSl, R.ev_tTrue, R.ev_tBool, R.ev_mCh, R.ev_tAndM, R.ev_tOrM, R.ev_tNotM, R.ev_mIfE, R.ev_mAndV, R.ev_mOrV, R.ev_mNotV, R.ev_cNil, R.ev_cPl, R.ev_cRv, R.ev_mBlt, R.ev_mM1, R.ev_mCall, R.ev_mNext, R.ev_mSeq, R.ev_mFl, R.ev_mDrop, R.ev_mRet, R.ev_mRetV, R.ev_mIfS, R.ev_mAsg, R.ev_mAug, R.ev_mSetP, R.ev_mLM, R.ev_iAnyM, R.ev_iRng1M, R.ev_iRng2M, R.ev_iEn1M, R.ev_iEnM, R.ev_iZipM, R.ev_mFor, R.ev_mLc, R.ev_mJoined, R.ev_slotRV, R.ev_frzSl, R.ev_relSl, R.ev_setSl, R.ev_lend, R.ev_setT_nm, R.ev_setT_tp, R.ev_setTs_nil, R.ev_setTs_cons, R.ev_hold_N, R.ev_hold_Z, R.ev_hold_B, R.ev_settle_N, R.ev_settle_Z, R.ev_settle_B, R.ev_isLst_lst, R.ev_isLst_tup, R.ev_isLst_int, R.ev_isLst_bl, R.ev_isLst_str, R.ev_isLst_non, R.ev_isLst_scr, R.ev_idx_lst, R.ev_idx_tup, R.ev_idx_scr, R.ev_idx_str, R.ev_neg, R.ev_add_int, R.ev_sub_int, R.ev_mul_int, R.ev_div_int, R.ev_mod_int, R.ev_pow_int, R.ev_add_str, R.ev_add_tup, R.ev_add_lst, R.ev_eq_int, R.ev_ne_int, R.ev_eq_str, R.ev_ne_str, R.ev_lt, R.ev_le, R.ev_gt, R.ev_ge, R.ev_is, R.ev_isNot, R.ev_none_tup, R.ev_none_lst, R.ev_none_int, R.ev_none_str, R.ev_none_non, R.ev_len_lst, R.ev_len_tup, R.ev_len_scr, R.ev_len_str, R.ev_abs, R.ev_int1, R.ev_str_int, R.ev_str_str, R.ev_list_lst, R.ev_list_tup, R.ev_tup_lst, R.ev_tup_tup, R.ev_fmt_str, R.ev_fmt_int, R.ev_sl_lst, R.ev_sl_tup, R.ev_sl_scr, R.ev_split, R.ev_join, R.ev_tru_bl, R.ev_tru_int, R.ev_tru_non, R.ev_tru_lst, R.ev_tru_tup, R.ev_avRVs_nil, R.ev_avRVs_pl, R.ev_avRVs_rv, R.ev_share_pl, R.ev_share_N, R.ev_share_Z, R.ev_share_B, R.ev_lent_pl, R.ev_lent_N, R.ev_lent_Z, R.ev_lent_B, R.ev_fin_ret, R.ev_fin_next, R.ev_io_t, R.ev_io_f, R.ev_jGo_nil, R.ev_jGo_cons, R.ev_isi, R.ev_hold_t, R.ev_hold_fint, R.ev_hold_fstr, R.ev_hold_ftup, R.ev_hold_fbl, R.ev_settle_int, R.ev_settle_str, R.ev_settle_tup, R.ev_settle_bl, R.ev_settle_non, R.ev_share_int, R.ev_share_str, R.ev_share_tup, R.ev_lent_int, R.ev_lent_str, R.ev_lent_tup, R.hmd, h1, sMin, sEq]
  · by_cases h2 : c = 42
    · simp [R.ev_mC, R.ev_mVar, R.ev_mVarZ, R.ev_mOp, R.ev_mOpV, R.ev_mUn, R.ev_mANil, R.ev_mACons, R.ev_mTup, R.ev_mLst, R.ev_mNoPart, R.ev_mPart, R.ev_mSl, R.ev_tTrue, R.ev_tBool, R.ev_mCh, R.ev_tAndM, R.ev_tOrM, R.ev_tNotM, R.ev_mIfE, R.ev_mAndV, R.ev_mOrV, R.ev_mNotV, R.ev_cNil, R.ev_cPl, R.ev_cRv, R.ev_mBlt, R.ev_mM1, R.ev_mCall, R.ev_mNext, R.ev_mSeq, R.ev_mFl, R.ev_mDrop, R.ev_mRet, R.ev_mRetV, R.ev_mIfS, R.ev_mAsg, R.ev_mAug, R.ev_mSetP, R.ev_mLM, R.ev_iAnyM, R.ev_iRng1M, R.ev_iRng2M, R.ev_iEn1M, R.ev_iEnM, R.ev_iZipM, R.ev_mFor, R.ev_mLc, R.ev_mJoined, R.ev_slotRV, R.ev_frzSl, R.ev_relSl, R.ev_setSl, R.ev_lend, R.ev_setT_nm, R.ev_setT_tp, R.ev_setTs_nil, R.ev_setTs_cons, R.ev_hold_N, R.ev_hold_Z, R.ev_hold_B, R.ev_settle_N, R.ev_settle_Z, R.ev_settle_B, R.ev_isLst_lst, R.ev_isLst_tup, R.ev_isLst_int, R.ev_isLst_bl, R.ev_isLst_str, R.ev_isLst_non, R.ev_isLst_scr, R.ev_idx_lst, R.ev_idx_tup, R.ev_idx_scr, R.ev_idx_str, R.ev_neg, R.ev_add_int, R.ev_sub_int, R.ev_mul_int, R.ev_div_int, R.ev_mod_int, R.ev_pow_int, R.ev_add_str, R.ev_add_tup, R.ev_add_lst, R.ev_eq_int, R.ev_ne_int, R.ev_eq_str, R.ev_ne_str, R.ev_lt, R.ev_le, R.ev_gt, R.ev_ge, R.ev_is, R.ev_isNot, R.ev_none_tup, R.ev_none_lst, R.ev_none_int, R.ev_none_str, R.ev_none_non, R.ev_len_lst, R.ev_len_tup, R.ev_len_scr, R.ev_len_str, R.ev_abs, R.ev_int1, R.ev_str_int, R.ev_str_str, R.ev_list_lst, R.ev_list_tup, R.ev_tup_lst, R.ev_tup_tup, R.ev_fmt_str, R.ev_fmt_int, R.ev_sl_lst, R.ev_sl_tup, R.ev_sl_scr, R.ev_split, R.ev_join, R.ev_tru_bl, R.ev_tru_int, R.ev_tru_non, R.ev_tru_lst, R.ev_tru_tup, R.ev_avRVs_nil, R.ev_avRVs_pl, R.ev_avRVs_rv, R.ev_share_pl, R.ev_share_N, R.ev_share_Z, R.ev_share_B, R.ev_lent_pl, R.ev_lent_N, R.ev_lent_Z, R.ev_lent_B, R.ev_fin_ret, R.ev_fin_next, R.ev_io_t, R.ev_io_f, R.ev_jGo_nil, R.ev_jGo_cons, R.ev_isi, R.ev_hold_t, R.ev_hold_fint, R.ev_hold_fstr, R.ev_hold_ftup, R.ev_hold_fbl, R.ev_settle_int, R.ev_settle_str, R.ev_settle_tup, R.ev_settle_bl, R.ev_settle_non, R.ev_share_int, R.ev_share_str, R.ev_share_tup, R.ev_lent_int, R.ev_lent_str, R.ev_lent_tup, R.hmd, h2, sMin, sStar, sDot, sEq]
    · simp [R.ev_mC, R.ev_mVar, R.ev_mVarZ, R.ev_mOp, R.ev_mOpV, R.ev_mUn, R.ev_mANil, R.ev_mACons, R.ev_mTup, R.ev_mLst, R.ev_mNoPart, R.ev_mPart, R.ev_mSl, R.ev_tTrue, R.ev_tBool, R.ev_mCh, R.ev_tAndM, R.ev_tOrM, R.ev_tNotM, R.ev_mIfE, R.ev_mAndV, R.ev_mOrV, R.ev_mNotV, R.ev_cNil, R.ev_cPl, R.ev_cRv, R.ev_mBlt, R.ev_mM1, R.ev_mCall, R.ev_mNext, R.ev_mSeq, R.ev_mFl, R.ev_mDrop, R.ev_mRet, R.ev_mRetV, R.ev_mIfS, R.ev_mAsg, R.ev_mAug, R.ev_mSetP, R.ev_mLM, R.ev_iAnyM, R.ev_iRng1M, R.ev_iRng2M, R.ev_iEn1M, R.ev_iEnM, R.ev_iZipM, R.ev_mFor, R.ev_mLc, R.ev_mJoined, R.ev_slotRV, R.ev_frzSl, R.ev_relSl, R.ev_setSl, R.ev_lend, R.ev_setT_nm, R.ev_setT_tp, R.ev_setTs_nil, R.ev_setTs_cons, R.ev_hold_N, R.ev_hold_Z, R.ev_hold_B, R.ev_settle_N, R.ev_settle_Z, R.ev_settle_B, R.ev_isLst_lst, R.ev_isLst_tup, R.ev_isLst_int, R.ev_isLst_bl, R.ev_isLst_str, R.ev_isLst_non, R.ev_isLst_scr, R.ev_idx_lst, R.ev_idx_tup, R.ev_idx_scr, R.ev_idx_str, R.ev_neg, R.ev_add_int, R.ev_sub_int, R.ev_mul_int, R.ev_div_int, R.ev_mod_int, R.ev_pow_int, R.ev_add_str, R.ev_add_tup, R.ev_add_lst, R.ev_eq_int, R.ev_ne_int, R.ev_eq_str, R.ev_ne_str, R.ev_lt, R.ev_le, R.ev_gt, R.ev_ge, R.ev_is, R.ev_isNot, R.ev_none_tup, R.ev_none_lst, R.ev_none_int, R.ev_none_str, R.ev_none_non, R.ev_len_lst, R.ev_len_tup, R.ev_len_scr, R.ev_len_str, R.ev_abs, R.ev_int1, R.ev_str_int, R.ev_str_str, R.ev_list_lst, R.ev_list_tup, R.ev_tup_lst, R.ev_tup_tup, R.ev_fmt_str, R.ev_fmt_int, R.ev_sl_lst, R.ev_sl_tup, R.ev_sl_scr, R.ev_split, R.ev_join, R.ev_tru_bl, R.ev_tru_int, R.ev_tru_non, R.ev_tru_lst, R.ev_tru_tup, R.ev_avRVs_nil, R.ev_avRVs_pl, R.ev_avRVs_rv, R.ev_share_pl, R.ev_share_N, R.ev_share_Z, R.ev_share_B, R.ev_lent_pl, R.ev_lent_N, R.ev_lent_Z, R.ev_lent_B, R.ev_fin_ret, R.ev_fin_next, R.ev_io_t, R.ev_io_f, R.ev_jGo_nil, R.ev_jGo_cons, R.ev_isi, R.ev_hold_t, R.ev_hold_fint, R.ev_hold_fstr, R.ev_hold_ftup, R.ev_hold_fbl, R.ev_settle_int, R.ev_settle_str, R.ev_settle_tup, R.ev_settle_bl, R.ev_settle_non, R.ev_share_int, R.ev_share_str, R.ev_share_tup, R.ev_lent_int, R.ev_lent_str, R.ev_lent_tup, R.hmd, h1, h2, sMin, sStar, sDot, sEq]
theorem look (es : List Int) (h : ImOk es) : ∃ md, g_look [imD es] = .ret md (txD (view es)) none := by
  have st : g_look [imD es] = fin false (m_look [.frz (imD es), .un]) := rfl
  rw [st]
  unfold m_look
  have hc := check_image es h
  have lc := lcGo_map (vs := [1]) (tg := .nm 1) (mt := fun S => .ok true S) (me := mCall 1 g_entry_sign (cPl 1 cNil)) (fun e : Int => txD [sgn e]) R.D.int [.frz (imD es), .un] es (fun e he => by
    obtain ⟨b1, b2⟩ := h.2 e he
    obtain ⟨md, ee⟩ := entry_sign e b1 b2
    exact ⟨[.frz (imD es), .frz (.int e)], [.frz (imD es), .frz (.int e)], ⟨md, txD [sgn e]⟩, [.frz (imD es), .frz (.int e)], ⟨hmd false md, txD [sgn e]⟩, by simp [R.ev_mC, R.ev_mVar, R.ev_mVarZ, R.ev_mOp, R.ev_mOpV, R.ev_mUn, R.ev_mANil, R.ev_mACons, R.ev_mTup, R.ev_mLst, R.ev_mNoPart, R.ev_mPart, R.ev_mSl, R.ev_tTrue, R.ev_tBool, R.ev_mCh, R.ev_tAndM, R.ev_tOrM, R.ev_tNotM, R.ev_mIfE, R.ev_mAndV, R.ev_mOrV, R.ev_mNotV, R.ev_cNil, R.ev_cPl, R.ev_cRv, R.ev_mBlt, R.ev_mM1, R.ev_mCall, R.ev_mNext, R.ev_mSeq, R.ev_mFl, R.ev_mDrop, R.ev_mRet, R.ev_mRetV, R.ev_mIfS, R.ev_mAsg, R.ev_mAug, R.ev_mSetP, R.ev_mLM, R.ev_iAnyM, R.ev_iRng1M, R.ev_iRng2M, R.ev_iEn1M, R.ev_iEnM, R.ev_iZipM, R.ev_mFor, R.ev_mLc, R.ev_mJoined, R.ev_slotRV, R.ev_frzSl, R.ev_relSl, R.ev_setSl, R.ev_lend, R.ev_setT_nm, R.ev_setT_tp, R.ev_setTs_nil, R.ev_setTs_cons, R.ev_hold_N, R.ev_hold_Z, R.ev_hold_B, R.ev_settle_N, R.ev_settle_Z, R.ev_settle_B, R.ev_isLst_lst, R.ev_isLst_tup, R.ev_isLst_int, R.ev_isLst_bl, R.ev_isLst_str, R.ev_isLst_non, R.ev_isLst_scr, R.ev_idx_lst, R.ev_idx_tup, R.ev_idx_scr, R.ev_idx_str, R.ev_neg, R.ev_add_int, R.ev_sub_int, R.ev_mul_int, R.ev_div_int, R.ev_mod_int, R.ev_pow_int, R.ev_add_str, R.ev_add_tup, R.ev_add_lst, R.ev_eq_int, R.ev_ne_int, R.ev_eq_str, R.ev_ne_str, R.ev_lt, R.ev_le, R.ev_gt, R.ev_ge, R.ev_is, R.ev_isNot, R.ev_none_tup, R.ev_none_lst, R.ev_none_int, R.ev_none_str, R.ev_none_non, R.ev_len_lst, R.ev_len_tup, R.ev_len_scr, R.ev_len_str, R.ev_abs, R.ev_int1, R.ev_str_int, R.ev_str_str, R.ev_list_lst, R.ev_list_tup, R.ev_tup_lst, R.ev_tup_tup, R.ev_fmt_str, R.ev_fmt_int, R.ev_sl_lst, R.ev_sl_tup, R.ev_sl_scr, R.ev_split, R.ev_join, R.ev_tru_bl, R.ev_tru_int, R.ev_tru_non, R.ev_tru_lst, R.ev_tru_tup, R.ev_avRVs_nil, R.ev_avRVs_pl, R.ev_avRVs_rv, R.ev_share_pl, R.ev_share_N, R.ev_share_Z, R.ev_share_B, R.ev_lent_pl, R.ev_lent_N, R.ev_lent_Z, R.ev_lent_B, R.ev_fin_ret, R.ev_fin_next, R.ev_io_t, R.ev_io_f, R.ev_jGo_nil, R.ev_jGo_cons, R.ev_isi, R.ev_hold_t, R.ev_hold_fint, R.ev_hold_fstr, R.ev_hold_ftup, R.ev_hold_fbl, R.ev_settle_int, R.ev_settle_str, R.ev_settle_tup, R.ev_settle_bl, R.ev_settle_non, R.ev_share_int, R.ev_share_str, R.ev_share_tup, R.ev_lent_int, R.ev_lent_str, R.ev_lent_tup, R.hmd], rfl, by simp [R.ev_mC, R.ev_mVar, R.ev_mVarZ, R.ev_mOp, R.ev_mOpV, R.ev_mUn, R.ev_mANil, R.ev_mACons, R.ev_mTup, R.ev_mLst, R.ev_mNoPart, R.ev_mPart, R.ev_mSl, R.ev_tTrue, R.ev_tBool, R.ev_mCh, R.ev_tAndM, R.ev_tOrM, R.ev_tNotM, R.ev_mIfE, R.ev_mAndV, R.ev_mOrV, R.ev_mNotV, R.ev_cNil, R.ev_cPl, R.ev_cRv, R.ev_mBlt, R.ev_mM1, R.ev_mCall, R.ev_mNext, R.ev_mSeq, R.ev_mFl, R.ev_mDrop, R.ev_mRet, R.ev_mRetV, R.ev_mIfS, R.ev_mAsg, R.ev_mAug, R.ev_mSetP, R.ev_mLM, R.ev_iAnyM, R.ev_iRng1M, R.ev_iRng2M, R.ev_iEn1M, R.ev_iEnM, R.ev_iZipM, R.ev_mFor, R.ev_mLc, R.ev_mJoined, R.ev_slotRV, R.ev_frzSl, R.ev_relSl, R.ev_setSl, R.ev_lend, R.ev_setT_nm, R.ev_setT_tp, R.ev_setTs_nil, R.ev_setTs_cons, R.ev_hold_N, R.ev_hold_Z, R.ev_hold_B, R.ev_settle_N, R.ev_settle_Z, R.ev_settle_B, R.ev_isLst_lst, R.ev_isLst_tup, R.ev_isLst_int, R.ev_isLst_bl, R.ev_isLst_str, R.ev_isLst_non, R.ev_isLst_scr, R.ev_idx_lst, R.ev_idx_tup, R.ev_idx_scr, R.ev_idx_str, R.ev_neg, R.ev_add_int, R.ev_sub_int, R.ev_mul_int, R.ev_div_int, R.ev_mod_int, R.ev_pow_int, R.ev_add_str, R.ev_add_tup, R.ev_add_lst, R.ev_eq_int, R.ev_ne_int, R.ev_eq_str, R.ev_ne_str, R.ev_lt, R.ev_le, R.ev_gt, R.ev_ge, R.ev_is, R.ev_isNot, R.ev_none_tup, R.ev_none_lst, R.ev_none_int, R.ev_none_str, R.ev_none_non, R.ev_len_lst, R.ev_len_tup, R.ev_len_scr, R.ev_len_str, R.ev_abs, R.ev_int1, R.ev_str_int, R.ev_str_str, R.ev_list_lst, R.ev_list_tup, R.ev_tup_lst, R.ev_tup_tup, R.ev_fmt_str, R.ev_fmt_int, R.ev_sl_lst, R.ev_sl_tup, R.ev_sl_scr, R.ev_split, R.ev_join, R.ev_tru_bl, R.ev_tru_int, R.ev_tru_non, R.ev_tru_lst, R.ev_tru_tup, R.ev_avRVs_nil, R.ev_avRVs_pl, R.ev_avRVs_rv, R.ev_share_pl, R.ev_share_N, R.ev_share_Z, R.ev_share_B, R.ev_lent_pl, R.ev_lent_N, R.ev_lent_Z, R.ev_lent_B, R.ev_fin_ret, R.ev_fin_next, R.ev_io_t, R.ev_io_f, R.ev_jGo_nil, R.ev_jGo_cons, R.ev_isi, R.ev_hold_t, R.ev_hold_fint, R.ev_hold_fstr, R.ev_hold_ftup, R.ev_hold_fbl, R.ev_settle_int, R.ev_settle_str, R.ev_settle_tup, R.ev_settle_bl, R.ev_settle_non, R.ev_share_int, R.ev_share_str, R.ev_share_tup, R.ev_lent_int, R.ev_lent_str, R.ev_lent_tup, R.hmd, ee, txD], by cases md <;> rfl, rfl, rfl, rfl⟩)
  have hi : itemsOf (imD es) = some (es.map R.D.int) := rfl
  have hl : lenOk es.length = true := lenOk_of (by have := h.1.2; omega)
  have hn : isLst (imD es) = false := rfl
  have ow : okW [.frz (imD es), .un] [1] = true := rfl
  have ws : wipeS [.frz (imD es), .un] [1] = [.frz (imD es), .un] := rfl
  have j := join_of (fun e : Int => [sgn e]) es (by rw [flat_map, List.length_map]; have := h.1.2; omega)
  rw [flat_map] at j
  have se : R.settle ⟨.Z, imD es⟩ = some ⟨.Z, imD es⟩ := rfl
  have hf : (fun e : Int => R.D.str (SX.S [sgn e])) = fun e : Int => txD [sgn e] := rfl
  rw [hf] at j
  simp [R.ev_mC, R.ev_mVar, R.ev_mVarZ, R.ev_mOp, R.ev_mOpV, R.ev_mUn, R.ev_mANil, R.ev_mACons, R.ev_mTup, R.ev_mLst, R.ev_mNoPart, R.ev_mPart, R.ev_mSl, R.ev_tTrue, R.ev_tBool, R.ev_mCh, R.ev_tAndM, R.ev_tOrM, R.ev_tNotM, R.ev_mIfE, R.ev_mAndV, R.ev_mOrV, R.ev_mNotV, R.ev_cNil, R.ev_cPl, R.ev_cRv, R.ev_mBlt, R.ev_mM1, R.ev_mCall, R.ev_mNext, R.ev_mSeq, R.ev_mFl, R.ev_mDrop, R.ev_mRet, R.ev_mRetV, R.ev_mIfS, R.ev_mAsg, R.ev_mAug, R.ev_mSetP, R.ev_mLM, R.ev_iAnyM, R.ev_iRng1M, R.ev_iRng2M, R.ev_iEn1M, R.ev_iEnM, R.ev_iZipM, R.ev_mFor, R.ev_mLc, R.ev_mJoined, R.ev_slotRV, R.ev_frzSl, R.ev_relSl, R.ev_setSl, R.ev_lend, R.ev_setT_nm, R.ev_setT_tp, R.ev_setTs_nil, R.ev_setTs_cons, R.ev_hold_N, R.ev_hold_Z, R.ev_hold_B, R.ev_settle_N, R.ev_settle_Z, R.ev_settle_B, R.ev_isLst_lst, R.ev_isLst_tup, R.ev_isLst_int, R.ev_isLst_bl, R.ev_isLst_str, R.ev_isLst_non, R.ev_isLst_scr, R.ev_idx_lst, R.ev_idx_tup, R.ev_idx_scr, R.ev_idx_str, R.ev_neg, R.ev_add_int, R.ev_sub_int, R.ev_mul_int, R.ev_div_int, R.ev_mod_int, R.ev_pow_int, R.ev_add_str, R.ev_add_tup, R.ev_add_lst, R.ev_eq_int, R.ev_ne_int, R.ev_eq_str, R.ev_ne_str, R.ev_lt, R.ev_le, R.ev_gt, R.ev_ge, R.ev_is, R.ev_isNot, R.ev_none_tup, R.ev_none_lst, R.ev_none_int, R.ev_none_str, R.ev_none_non, R.ev_len_lst, R.ev_len_tup, R.ev_len_scr, R.ev_len_str, R.ev_abs, R.ev_int1, R.ev_str_int, R.ev_str_str, R.ev_list_lst, R.ev_list_tup, R.ev_tup_lst, R.ev_tup_tup, R.ev_fmt_str, R.ev_fmt_int, R.ev_sl_lst, R.ev_sl_tup, R.ev_sl_scr, R.ev_split, R.ev_tru_bl, R.ev_tru_int, R.ev_tru_non, R.ev_tru_lst, R.ev_tru_tup, R.ev_avRVs_nil, R.ev_avRVs_pl, R.ev_avRVs_rv, R.ev_share_pl, R.ev_share_N, R.ev_share_Z, R.ev_share_B, R.ev_lent_pl, R.ev_lent_N, R.ev_lent_Z, R.ev_lent_B, R.ev_fin_ret, R.ev_fin_next, R.ev_io_t, R.ev_io_f, R.ev_jGo_nil, R.ev_jGo_cons, R.ev_isi, R.ev_hold_t, R.ev_hold_fint, R.ev_hold_fstr, R.ev_hold_ftup, R.ev_hold_fbl, R.ev_settle_int, R.ev_settle_str, R.ev_settle_tup, R.ev_settle_bl, R.ev_settle_non, R.ev_share_int, R.ev_share_str, R.ev_share_tup, R.ev_lent_int, R.ev_lent_str, R.ev_lent_tup, R.hmd, hc, hi, lc, hl, ow, ws, sNo, j, view]
  rfl

def fitB : List Nat → List Nat → Bool
  | c :: g, v :: vs => okc c v && fitB g vs
  | _, _ => true
def pOk : R.D → Bool
  | .tup [.str a, .str b] => match a.cps.toList, b.cps.toList with
    | [c], [v] => okc c v
    | _, _ => false
  | _ => false
theorem all_fit : ∀ g v : List Nat, (zipD (R.signs (SX.S g)) (R.signs (SX.S v))).all pOk = fitB g v
  | [], _ => by cases ‹List Nat› <;> rfl
  | _ :: _, [] => rfl
  | c :: g, v :: vs => by
    have h : zipD (R.signs (SX.S (c :: g))) (R.signs (SX.S (v :: vs))) = .tup [.str (SX.S [c]), .str (SX.S [v])] :: zipD (R.signs (SX.S g)) (R.signs (SX.S vs)) := rfl
    rw [h, List.all_cons, all_fit g vs]; rfl
theorem zip_at {g v : List Nat} {j : Nat} {d : R.D} (h : (zipD (R.signs (SX.S g)) (R.signs (SX.S v)))[j]? = some d) : ∃ c x, d = .tup [.str (SX.S [c]), .str (SX.S [x])] := by
  induction g generalizing v j with
  | nil => cases v <;> cases h
  | cons c g ih =>
    cases v with
    | nil => cases h
    | cons x v =>
      have e : zipD (R.signs (SX.S (c :: g))) (R.signs (SX.S (x :: v))) = .tup [.str (SX.S [c]), .str (SX.S [x])] :: zipD (R.signs (SX.S g)) (R.signs (SX.S v)) := rfl
      rw [e] at h
      cases j with
      | zero => cases h; exact ⟨c, x, rfl⟩
      | succ j => exact ih h
theorem matches_ok (g v : List Nat) : g_matches [txD g, txD v] = .ret .N (.bl (fitB g v)) none := by
  have st : g_matches [txD g, txD v] = fin false (m_matches [.frz (txD g), .frz (txD v), .un, .un]) := rfl
  rw [st]
  unfold m_matches
  generalize hb : (mSeq (mIfS (tNotM (tTrue (mCall 2 g_sign_matches (cPl 2 (cPl 3 cNil))))) _ _) mNext) = mb
  have hz : iZipM (mACons (mVarZ 0) (mACons (mVarZ 1) mANil)) [.frz (txD g), .frz (txD v), .un, .un] = .ok (zipD (R.signs (SX.S g)) (R.signs (SX.S v))) [.frz (txD g), .frz (txD v), .un, .un] := rfl
  obtain ⟨S', h⟩ := forGo_all (tg := .tp [.nm 2, .nm 3]) (mb := mb) (fun j S => ∃ y1 y2, S = [.frz (txD g), .frz (txD v), y1, y2] ∧ NI y1 ∧ NI y2) pOk ⟨.N, .bl false⟩ (zipD (R.signs (SX.S g)) (R.signs (SX.S v))) 0 [.frz (txD g), .frz (txD v), .un, .un] ⟨.un, .un, rfl, .inl rfl, .inl rfl⟩ (by
    rintro j d S hj ⟨y1, y2, rfl, n1, n2⟩
    obtain ⟨c, x, rfl⟩ := zip_at hj
    obtain ⟨md, e⟩ := sign_matches c x
    have hp : pOk (.tup [.str (SX.S [c]), .str (SX.S [x])]) = okc c x := rfl
    refine ⟨[.frz (txD g), .frz (txD v), .frz (.str (SX.S [c])), .frz (.str (SX.S [x]))], [.frz (txD g), .frz (txD v), .frz (.str (SX.S [c])), .frz (.str (SX.S [x]))], ?_, ?_⟩
    · rw [setT]
      rcases n1 with rfl | ⟨_, rfl⟩ <;> rcases n2 with rfl | ⟨_, rfl⟩ <;> simp [R.ev_mC, R.ev_mVar, R.ev_mVarZ, R.ev_mOp, R.ev_mOpV, R.ev_mUn, R.ev_mANil, R.ev_mACons, R.ev_mTup, R.ev_mLst, R.ev_mNoPart, R.ev_mPart, R.ev_mSl, R.ev_tTrue, R.ev_tBool, R.ev_mCh, R.ev_tAndM, R.ev_tOrM, R.ev_tNotM, R.ev_mIfE, R.ev_mAndV, R.ev_mOrV, R.ev_mNotV, R.ev_cNil, R.ev_cPl, R.ev_cRv, R.ev_mBlt, R.ev_mM1, R.ev_mCall, R.ev_mNext, R.ev_mSeq, R.ev_mFl, R.ev_mDrop, R.ev_mRet, R.ev_mRetV, R.ev_mIfS, R.ev_mAsg, R.ev_mAug, R.ev_mSetP, R.ev_mLM, R.ev_iAnyM, R.ev_iRng1M, R.ev_iRng2M, R.ev_iEn1M, R.ev_iEnM, R.ev_iZipM, R.ev_mFor, R.ev_mLc, R.ev_mJoined, R.ev_slotRV, R.ev_frzSl, R.ev_relSl, R.ev_setSl, R.ev_lend, R.ev_setT_nm, R.ev_setT_tp, R.ev_setTs_nil, R.ev_setTs_cons, R.ev_hold_N, R.ev_hold_Z, R.ev_hold_B, R.ev_settle_N, R.ev_settle_Z, R.ev_settle_B, R.ev_isLst_lst, R.ev_isLst_tup, R.ev_isLst_int, R.ev_isLst_bl, R.ev_isLst_str, R.ev_isLst_non, R.ev_isLst_scr, R.ev_idx_lst, R.ev_idx_tup, R.ev_idx_scr, R.ev_idx_str, R.ev_neg, R.ev_add_int, R.ev_sub_int, R.ev_mul_int, R.ev_div_int, R.ev_mod_int, R.ev_pow_int, R.ev_add_str, R.ev_add_tup, R.ev_add_lst, R.ev_eq_int, R.ev_ne_int, R.ev_eq_str, R.ev_ne_str, R.ev_lt, R.ev_le, R.ev_gt, R.ev_ge, R.ev_is, R.ev_isNot, R.ev_none_tup, R.ev_none_lst, R.ev_none_int, R.ev_none_str, R.ev_none_non, R.ev_len_lst, R.ev_len_tup, R.ev_len_scr, R.ev_len_str, R.ev_abs, R.ev_int1, R.ev_str_int, R.ev_str_str, R.ev_list_lst, R.ev_list_tup, R.ev_tup_lst, R.ev_tup_tup, R.ev_fmt_str, R.ev_fmt_int, R.ev_sl_lst, R.ev_sl_tup, R.ev_sl_scr, R.ev_split, R.ev_join, R.ev_tru_bl, R.ev_tru_int, R.ev_tru_non, R.ev_tru_lst, R.ev_tru_tup, R.ev_avRVs_nil, R.ev_avRVs_pl, R.ev_avRVs_rv, R.ev_share_pl, R.ev_share_N, R.ev_share_Z, R.ev_share_B, R.ev_lent_pl, R.ev_lent_N, R.ev_lent_Z, R.ev_lent_B, R.ev_fin_ret, R.ev_fin_next, R.ev_io_t, R.ev_io_f, R.ev_jGo_nil, R.ev_jGo_cons, R.ev_isi, R.ev_hold_t, R.ev_hold_fint, R.ev_hold_fstr, R.ev_hold_ftup, R.ev_hold_fbl, R.ev_settle_int, R.ev_settle_str, R.ev_settle_tup, R.ev_settle_bl, R.ev_settle_non, R.ev_share_int, R.ev_share_str, R.ev_share_tup, R.ev_lent_int, R.ev_lent_str, R.ev_lent_tup, R.hmd]
    · rw [hp]
      subst hb
      cases ho : okc c x with
      | true =>
        rw [ho] at e
        exact .inl ⟨rfl, by simp [R.ev_mC, R.ev_mVar, R.ev_mVarZ, R.ev_mOp, R.ev_mOpV, R.ev_mUn, R.ev_mANil, R.ev_mACons, R.ev_mTup, R.ev_mLst, R.ev_mNoPart, R.ev_mPart, R.ev_mSl, R.ev_tTrue, R.ev_tBool, R.ev_mCh, R.ev_tAndM, R.ev_tOrM, R.ev_tNotM, R.ev_mIfE, R.ev_mAndV, R.ev_mOrV, R.ev_mNotV, R.ev_cNil, R.ev_cPl, R.ev_cRv, R.ev_mBlt, R.ev_mM1, R.ev_mCall, R.ev_mNext, R.ev_mSeq, R.ev_mFl, R.ev_mDrop, R.ev_mRet, R.ev_mRetV, R.ev_mIfS, R.ev_mAsg, R.ev_mAug, R.ev_mSetP, R.ev_mLM, R.ev_iAnyM, R.ev_iRng1M, R.ev_iRng2M, R.ev_iEn1M, R.ev_iEnM, R.ev_iZipM, R.ev_mFor, R.ev_mLc, R.ev_mJoined, R.ev_slotRV, R.ev_frzSl, R.ev_relSl, R.ev_setSl, R.ev_lend, R.ev_setT_nm, R.ev_setT_tp, R.ev_setTs_nil, R.ev_setTs_cons, R.ev_hold_N, R.ev_hold_Z, R.ev_hold_B, R.ev_settle_N, R.ev_settle_Z, R.ev_settle_B, R.ev_isLst_lst, R.ev_isLst_tup, R.ev_isLst_int, R.ev_isLst_bl, R.ev_isLst_str, R.ev_isLst_non, R.ev_isLst_scr, R.ev_idx_lst, R.ev_idx_tup, R.ev_idx_scr, R.ev_idx_str, R.ev_neg, R.ev_add_int, R.ev_sub_int, R.ev_mul_int, R.ev_div_int, R.ev_mod_int, R.ev_pow_int, R.ev_add_str, R.ev_add_tup, R.ev_add_lst, R.ev_eq_int, R.ev_ne_int, R.ev_eq_str, R.ev_ne_str, R.ev_lt, R.ev_le, R.ev_gt, R.ev_ge, R.ev_is, R.ev_isNot, R.ev_none_tup, R.ev_none_lst, R.ev_none_int, R.ev_none_str, R.ev_none_non, R.ev_len_lst, R.ev_len_tup, R.ev_len_scr, R.ev_len_str, R.ev_abs, R.ev_int1, R.ev_str_int, R.ev_str_str, R.ev_list_lst, R.ev_list_tup, R.ev_tup_lst, R.ev_tup_tup, R.ev_fmt_str, R.ev_fmt_int, R.ev_sl_lst, R.ev_sl_tup, R.ev_sl_scr, R.ev_split, R.ev_join, R.ev_tru_bl, R.ev_tru_int, R.ev_tru_non, R.ev_tru_lst, R.ev_tru_tup, R.ev_avRVs_nil, R.ev_avRVs_pl, R.ev_avRVs_rv, R.ev_share_pl, R.ev_share_N, R.ev_share_Z, R.ev_share_B, R.ev_lent_pl, R.ev_lent_N, R.ev_lent_Z, R.ev_lent_B, R.ev_fin_ret, R.ev_fin_next, R.ev_io_t, R.ev_io_f, R.ev_jGo_nil, R.ev_jGo_cons, R.ev_isi, R.ev_hold_t, R.ev_hold_fint, R.ev_hold_fstr, R.ev_hold_ftup, R.ev_hold_fbl, R.ev_settle_int, R.ev_settle_str, R.ev_settle_tup, R.ev_settle_bl, R.ev_settle_non, R.ev_share_int, R.ev_share_str, R.ev_share_tup, R.ev_lent_int, R.ev_lent_str, R.ev_lent_tup, R.hmd, e], _, _, rfl, .inr ⟨_, rfl⟩, .inr ⟨_, rfl⟩⟩
      | false =>
        rw [ho] at e
        exact .inr ⟨rfl, by simp [R.ev_mC, R.ev_mVar, R.ev_mVarZ, R.ev_mOp, R.ev_mOpV, R.ev_mUn, R.ev_mANil, R.ev_mACons, R.ev_mTup, R.ev_mLst, R.ev_mNoPart, R.ev_mPart, R.ev_mSl, R.ev_tTrue, R.ev_tBool, R.ev_mCh, R.ev_tAndM, R.ev_tOrM, R.ev_tNotM, R.ev_mIfE, R.ev_mAndV, R.ev_mOrV, R.ev_mNotV, R.ev_cNil, R.ev_cPl, R.ev_cRv, R.ev_mBlt, R.ev_mM1, R.ev_mCall, R.ev_mNext, R.ev_mSeq, R.ev_mFl, R.ev_mDrop, R.ev_mRet, R.ev_mRetV, R.ev_mIfS, R.ev_mAsg, R.ev_mAug, R.ev_mSetP, R.ev_mLM, R.ev_iAnyM, R.ev_iRng1M, R.ev_iRng2M, R.ev_iEn1M, R.ev_iEnM, R.ev_iZipM, R.ev_mFor, R.ev_mLc, R.ev_mJoined, R.ev_slotRV, R.ev_frzSl, R.ev_relSl, R.ev_setSl, R.ev_lend, R.ev_setT_nm, R.ev_setT_tp, R.ev_setTs_nil, R.ev_setTs_cons, R.ev_hold_N, R.ev_hold_Z, R.ev_hold_B, R.ev_settle_N, R.ev_settle_Z, R.ev_settle_B, R.ev_isLst_lst, R.ev_isLst_tup, R.ev_isLst_int, R.ev_isLst_bl, R.ev_isLst_str, R.ev_isLst_non, R.ev_isLst_scr, R.ev_idx_lst, R.ev_idx_tup, R.ev_idx_scr, R.ev_idx_str, R.ev_neg, R.ev_add_int, R.ev_sub_int, R.ev_mul_int, R.ev_div_int, R.ev_mod_int, R.ev_pow_int, R.ev_add_str, R.ev_add_tup, R.ev_add_lst, R.ev_eq_int, R.ev_ne_int, R.ev_eq_str, R.ev_ne_str, R.ev_lt, R.ev_le, R.ev_gt, R.ev_ge, R.ev_is, R.ev_isNot, R.ev_none_tup, R.ev_none_lst, R.ev_none_int, R.ev_none_str, R.ev_none_non, R.ev_len_lst, R.ev_len_tup, R.ev_len_scr, R.ev_len_str, R.ev_abs, R.ev_int1, R.ev_str_int, R.ev_str_str, R.ev_list_lst, R.ev_list_tup, R.ev_tup_lst, R.ev_tup_tup, R.ev_fmt_str, R.ev_fmt_int, R.ev_sl_lst, R.ev_sl_tup, R.ev_sl_scr, R.ev_split, R.ev_join, R.ev_tru_bl, R.ev_tru_int, R.ev_tru_non, R.ev_tru_lst, R.ev_tru_tup, R.ev_avRVs_nil, R.ev_avRVs_pl, R.ev_avRVs_rv, R.ev_share_pl, R.ev_share_N, R.ev_share_Z, R.ev_share_B, R.ev_lent_pl, R.ev_lent_N, R.ev_lent_Z, R.ev_lent_B, R.ev_fin_ret, R.ev_fin_next, R.ev_io_t, R.ev_io_f, R.ev_jGo_nil, R.ev_jGo_cons, R.ev_isi, R.ev_hold_t, R.ev_hold_fint, R.ev_hold_fstr, R.ev_hold_ftup, R.ev_hold_fbl, R.ev_settle_int, R.ev_settle_str, R.ev_settle_tup, R.ev_settle_bl, R.ev_settle_non, R.ev_share_int, R.ev_share_str, R.ev_share_tup, R.ev_lent_int, R.ev_lent_str, R.ev_lent_tup, R.hmd, e]⟩)
  rw [all_fit] at h
  rw [R.ev_mSeq, R.ev_mFor, hz]
  rcases h with ⟨ha, e, y1, y2, rfl, _⟩ | ⟨ha, e⟩
  · rw [ha]
    dsimp only
    rw [e]; rfl
  · rw [ha]
    dsimp only
    rw [e]; rfl
/-! ### a line and its sources -/
structure RowL (n : Nat) (w : List Nat) (t o : Int) (g : List Nat) : Prop where
  tt : 0 ≤ t ∧ t < n
  oc : w = [99, 108, 101, 97, 114] → o = -1
  on : w ≠ [99, 108, 101, 97, 114] → 0 ≤ o ∧ o < n ∧ o ≠ t
  gs : ∀ c ∈ g, c ∈ [46, 42, 45, 48, 49, 50, 51, 52, 53, 54, 55, 56, 57]
  gl : g = [] ∨ g.length = n
  ww : w = [99, 108, 101, 97, 114] ∨ w = [99, 111, 112, 121] ∨ w = [109, 111, 118, 101]
def rowD (w : List Nat) (t o : Int) (g : List Nat) : R.D := .tup [.str (SX.S w), .int t, .int o, txD g]
abbrev clearL : List Nat := [99, 108, 101, 97, 114]
abbrev moveL : List Nat := [109, 111, 118, 101]
theorem sMove : Str.ofString "move" = SX.S moveL := by decide
def fireB (w : List Nat) (o : Int) (g v : List Nat) : Bool := if w ≠ clearL ∧ v[o.toNat]? = some 46 then false else fitB g v
theorem fires {n : Nat} {w : List Nat} {t o : Int} {g v : List Nat} (r : RowL n w t o g) (hv : v.length = n) (hn : n ≤ 12) : g_fires [rowD w t o g, txD v] = .ret .N (.bl (fireB w o g v)) none := by
  have st : g_fires [rowD w t o g, txD v] = fin false (m_fires [.frz (rowD w t o g), .frz (txD v), .un, .un, .un, .un]) := rfl
  rw [st]
  unfold m_fires rowD fireB
  have hm := matches_ok g v
  by_cases hc : w = clearL
  · simp [R.ev_mC, R.ev_mVar, R.ev_mVarZ, R.ev_mOp, R.ev_mOpV, R.ev_mUn, R.ev_mANil, R.ev_mACons, R.ev_mTup, R.ev_mLst, R.ev_mNoPart, R.ev_mPart, R.ev_mSl, R.ev_tTrue, R.ev_tBool, R.ev_mCh, R.ev_tAndM, R.ev_tOrM, R.ev_tNotM, R.ev_mIfE, R.ev_mAndV, R.ev_mOrV, R.ev_mNotV, R.ev_cNil, R.ev_cPl, R.ev_cRv, R.ev_mBlt, R.ev_mM1, R.ev_mCall, R.ev_mNext, R.ev_mSeq, R.ev_mFl, R.ev_mDrop, R.ev_mRet, R.ev_mRetV, R.ev_mIfS, R.ev_mAsg, R.ev_mAug, R.ev_mSetP, R.ev_mLM, R.ev_iAnyM, R.ev_iRng1M, R.ev_iRng2M, R.ev_iEn1M, R.ev_iEnM, R.ev_iZipM, R.ev_mFor, R.ev_mLc, R.ev_mJoined, R.ev_slotRV, R.ev_frzSl, R.ev_relSl, R.ev_setSl, R.ev_lend, R.ev_setT_nm, R.ev_setT_tp, R.ev_setTs_nil, R.ev_setTs_cons, R.ev_hold_N, R.ev_hold_Z, R.ev_hold_B, R.ev_settle_N, R.ev_settle_Z, R.ev_settle_B, R.ev_isLst_lst, R.ev_isLst_tup, R.ev_isLst_int, R.ev_isLst_bl, R.ev_isLst_str, R.ev_isLst_non, R.ev_isLst_scr, R.ev_idx_lst, R.ev_idx_tup, R.ev_idx_scr, R.ev_idx_str, R.ev_neg, R.ev_add_int, R.ev_sub_int, R.ev_mul_int, R.ev_div_int, R.ev_mod_int, R.ev_pow_int, R.ev_add_str, R.ev_add_tup, R.ev_add_lst, R.ev_eq_int, R.ev_ne_int, R.ev_eq_str, R.ev_ne_str, R.ev_lt, R.ev_le, R.ev_gt, R.ev_ge, R.ev_is, R.ev_isNot, R.ev_none_tup, R.ev_none_lst, R.ev_none_int, R.ev_none_str, R.ev_none_non, R.ev_len_lst, R.ev_len_tup, R.ev_len_scr, R.ev_len_str, R.ev_abs, R.ev_int1, R.ev_str_int, R.ev_str_str, R.ev_list_lst, R.ev_list_tup, R.ev_tup_lst, R.ev_tup_tup, R.ev_fmt_str, R.ev_fmt_int, R.ev_sl_lst, R.ev_sl_tup, R.ev_sl_scr, R.ev_split, R.ev_join, R.ev_tru_bl, R.ev_tru_int, R.ev_tru_non, R.ev_tru_lst, R.ev_tru_tup, R.ev_avRVs_nil, R.ev_avRVs_pl, R.ev_avRVs_rv, R.ev_share_pl, R.ev_share_N, R.ev_share_Z, R.ev_share_B, R.ev_lent_pl, R.ev_lent_N, R.ev_lent_Z, R.ev_lent_B, R.ev_fin_ret, R.ev_fin_next, R.ev_io_t, R.ev_io_f, R.ev_jGo_nil, R.ev_jGo_cons, R.ev_isi, R.ev_hold_t, R.ev_hold_fint, R.ev_hold_fstr, R.ev_hold_ftup, R.ev_hold_fbl, R.ev_settle_int, R.ev_settle_str, R.ev_settle_tup, R.ev_settle_bl, R.ev_settle_non, R.ev_share_int, R.ev_share_str, R.ev_share_tup, R.ev_lent_int, R.ev_lent_str, R.ev_lent_tup, R.hmd, hc, sClear, sEq, hm]
  · obtain ⟨o0, o1, o2⟩ := r.on hc
    obtain ⟨c, ec⟩ : ∃ c, v[o.toNat]? = some c := ⟨v[o.toNat]'(by omega), List.getElem?_eq_getElem _⟩
    have hi : ∀ md md', fIdx ⟨md, txD v⟩ ⟨md', .int o⟩ = some ⟨.N, .str (SX.S [c])⟩ := fun md md' => idx_S (by omega) o0 ec
    by_cases h46 : c = 46
    · simp [R.ev_mC, R.ev_mVar, R.ev_mVarZ, R.ev_mOp, R.ev_mOpV, R.ev_mUn, R.ev_mANil, R.ev_mACons, R.ev_mTup, R.ev_mLst, R.ev_mNoPart, R.ev_mPart, R.ev_mSl, R.ev_tTrue, R.ev_tBool, R.ev_mCh, R.ev_tAndM, R.ev_tOrM, R.ev_tNotM, R.ev_mIfE, R.ev_mAndV, R.ev_mOrV, R.ev_mNotV, R.ev_cNil, R.ev_cPl, R.ev_cRv, R.ev_mBlt, R.ev_mM1, R.ev_mCall, R.ev_mNext, R.ev_mSeq, R.ev_mFl, R.ev_mDrop, R.ev_mRet, R.ev_mRetV, R.ev_mIfS, R.ev_mAsg, R.ev_mAug, R.ev_mSetP, R.ev_mLM, R.ev_iAnyM, R.ev_iRng1M, R.ev_iRng2M, R.ev_iEn1M, R.ev_iEnM, R.ev_iZipM, R.ev_mFor, R.ev_mLc, R.ev_mJoined, R.ev_slotRV, R.ev_frzSl, R.ev_relSl, R.ev_setSl, R.ev_lend, R.ev_setT_nm, R.ev_setT_tp, R.ev_setTs_nil, R.ev_setTs_cons, R.ev_hold_N, R.ev_hold_Z, R.ev_hold_B, R.ev_settle_N, R.ev_settle_Z, R.ev_settle_B, R.ev_isLst_lst, R.ev_isLst_tup, R.ev_isLst_int, R.ev_isLst_bl, R.ev_isLst_str, R.ev_isLst_non, R.ev_isLst_scr, R.ev_idx_lst, R.ev_idx_tup, R.ev_idx_scr, R.ev_idx_str, R.ev_neg, R.ev_add_int, R.ev_sub_int, R.ev_mul_int, R.ev_div_int, R.ev_mod_int, R.ev_pow_int, R.ev_add_str, R.ev_add_tup, R.ev_add_lst, R.ev_eq_int, R.ev_ne_int, R.ev_eq_str, R.ev_ne_str, R.ev_lt, R.ev_le, R.ev_gt, R.ev_ge, R.ev_is, R.ev_isNot, R.ev_none_tup, R.ev_none_lst, R.ev_none_int, R.ev_none_str, R.ev_none_non, R.ev_len_lst, R.ev_len_tup, R.ev_len_scr, R.ev_len_str, R.ev_abs, R.ev_int1, R.ev_str_int, R.ev_str_str, R.ev_list_lst, R.ev_list_tup, R.ev_tup_lst, R.ev_tup_tup, R.ev_fmt_str, R.ev_fmt_int, R.ev_sl_lst, R.ev_sl_tup, R.ev_sl_scr, R.ev_split, R.ev_join, R.ev_tru_bl, R.ev_tru_int, R.ev_tru_non, R.ev_tru_lst, R.ev_tru_tup, R.ev_avRVs_nil, R.ev_avRVs_pl, R.ev_avRVs_rv, R.ev_share_pl, R.ev_share_N, R.ev_share_Z, R.ev_share_B, R.ev_lent_pl, R.ev_lent_N, R.ev_lent_Z, R.ev_lent_B, R.ev_fin_ret, R.ev_fin_next, R.ev_io_t, R.ev_io_f, R.ev_jGo_nil, R.ev_jGo_cons, R.ev_isi, R.ev_hold_t, R.ev_hold_fint, R.ev_hold_fstr, R.ev_hold_ftup, R.ev_hold_fbl, R.ev_settle_int, R.ev_settle_str, R.ev_settle_tup, R.ev_settle_bl, R.ev_settle_non, R.ev_share_int, R.ev_share_str, R.ev_share_tup, R.ev_lent_int, R.ev_lent_str, R.ev_lent_tup, R.hmd, hc, sClear, sDot, sEq, hm, hi, ec, h46]
    · simp [R.ev_mC, R.ev_mVar, R.ev_mVarZ, R.ev_mOp, R.ev_mOpV, R.ev_mUn, R.ev_mANil, R.ev_mACons, R.ev_mTup, R.ev_mLst, R.ev_mNoPart, R.ev_mPart, R.ev_mSl, R.ev_tTrue, R.ev_tBool, R.ev_mCh, R.ev_tAndM, R.ev_tOrM, R.ev_tNotM, R.ev_mIfE, R.ev_mAndV, R.ev_mOrV, R.ev_mNotV, R.ev_cNil, R.ev_cPl, R.ev_cRv, R.ev_mBlt, R.ev_mM1, R.ev_mCall, R.ev_mNext, R.ev_mSeq, R.ev_mFl, R.ev_mDrop, R.ev_mRet, R.ev_mRetV, R.ev_mIfS, R.ev_mAsg, R.ev_mAug, R.ev_mSetP, R.ev_mLM, R.ev_iAnyM, R.ev_iRng1M, R.ev_iRng2M, R.ev_iEn1M, R.ev_iEnM, R.ev_iZipM, R.ev_mFor, R.ev_mLc, R.ev_mJoined, R.ev_slotRV, R.ev_frzSl, R.ev_relSl, R.ev_setSl, R.ev_lend, R.ev_setT_nm, R.ev_setT_tp, R.ev_setTs_nil, R.ev_setTs_cons, R.ev_hold_N, R.ev_hold_Z, R.ev_hold_B, R.ev_settle_N, R.ev_settle_Z, R.ev_settle_B, R.ev_isLst_lst, R.ev_isLst_tup, R.ev_isLst_int, R.ev_isLst_bl, R.ev_isLst_str, R.ev_isLst_non, R.ev_isLst_scr, R.ev_idx_lst, R.ev_idx_tup, R.ev_idx_scr, R.ev_idx_str, R.ev_neg, R.ev_add_int, R.ev_sub_int, R.ev_mul_int, R.ev_div_int, R.ev_mod_int, R.ev_pow_int, R.ev_add_str, R.ev_add_tup, R.ev_add_lst, R.ev_eq_int, R.ev_ne_int, R.ev_eq_str, R.ev_ne_str, R.ev_lt, R.ev_le, R.ev_gt, R.ev_ge, R.ev_is, R.ev_isNot, R.ev_none_tup, R.ev_none_lst, R.ev_none_int, R.ev_none_str, R.ev_none_non, R.ev_len_lst, R.ev_len_tup, R.ev_len_scr, R.ev_len_str, R.ev_abs, R.ev_int1, R.ev_str_int, R.ev_str_str, R.ev_list_lst, R.ev_list_tup, R.ev_tup_lst, R.ev_tup_tup, R.ev_fmt_str, R.ev_fmt_int, R.ev_sl_lst, R.ev_sl_tup, R.ev_sl_scr, R.ev_split, R.ev_join, R.ev_tru_bl, R.ev_tru_int, R.ev_tru_non, R.ev_tru_lst, R.ev_tru_tup, R.ev_avRVs_nil, R.ev_avRVs_pl, R.ev_avRVs_rv, R.ev_share_pl, R.ev_share_N, R.ev_share_Z, R.ev_share_B, R.ev_lent_pl, R.ev_lent_N, R.ev_lent_Z, R.ev_lent_B, R.ev_fin_ret, R.ev_fin_next, R.ev_io_t, R.ev_io_f, R.ev_jGo_nil, R.ev_jGo_cons, R.ev_isi, R.ev_hold_t, R.ev_hold_fint, R.ev_hold_fstr, R.ev_hold_ftup, R.ev_hold_fbl, R.ev_settle_int, R.ev_settle_str, R.ev_settle_tup, R.ev_settle_bl, R.ev_settle_non, R.ev_share_int, R.ev_share_str, R.ev_share_tup, R.ev_lent_int, R.ev_lent_str, R.ev_lent_tup, R.hmd, hc, sClear, sDot, sEq, hm, hi, ec, h46]

def ownL (v : List Nat) : Nat → List Int
  | j => match v with
    | [] => []
    | c :: r => (if c = 46 then -1 else (j : Int)) :: ownL r (j + 1)
def own (v : List Nat) : List Int := ownL v 0
theorem ownL_len : ∀ (v : List Nat) (j : Nat), (ownL v j).length = v.length
  | [], _ => rfl
  | c :: r, j => by rw [ownL, List.length_cons, ownL_len r (j + 1), List.length_cons]
/-- the comprehension over enumerate(view), from the place j on -/
theorem own_lc (v : List Nat) (x0 : Sl) : ∀ j : Nat, lcGo [1, 2] (.tp [.nm 1, .nm 2]) (fun S => .ok true S) (mIfE (tBool (mOpV 2 (cop .Eq) (mC (.str ".")))) (mC (.int (-1))) (mVar 1)) (enumD (j : Int) (R.signs (SX.S v))) [x0, .un, .un] = .ok ((ownL v j).map R.D.int) [x0, .un, .un] := by
  induction v with
  | nil => intro j; rfl
  | cons c r ih =>
    intro j
    have e1 : enumD (j : Int) (R.signs (SX.S (c :: r))) = .tup [.int (j : Int), .str (SX.S [c])] :: enumD ((j : Int) + 1) (R.signs (SX.S r)) := rfl
    have e2 : ((j : Int) + 1) = ((j + 1 : Nat) : Int) := by omega
    rw [e1, e2, lcGo]
    have hs : setT (.tp [.nm 1, .nm 2]) [x0, .un, .un] ⟨.Z, .tup [.int (j : Int), .str (SX.S [c])]⟩ = some [x0, .frz (.int (j : Int)), .frz (.str (SX.S [c]))] := by
      rw [setT]
      simp [R.ev_mC, R.ev_mVar, R.ev_mVarZ, R.ev_mOp, R.ev_mOpV, R.ev_mUn, R.ev_mANil, R.ev_mACons, R.ev_mTup, R.ev_mLst, R.ev_mNoPart, R.ev_mPart, R.ev_mSl, R.ev_tTrue, R.ev_tBool, R.ev_mCh, R.ev_tAndM, R.ev_tOrM, R.ev_tNotM, R.ev_mIfE, R.ev_mAndV, R.ev_mOrV, R.ev_mNotV, R.ev_cNil, R.ev_cPl, R.ev_cRv, R.ev_mBlt, R.ev_mM1, R.ev_mCall, R.ev_mNext, R.ev_mSeq, R.ev_mFl, R.ev_mDrop, R.ev_mRet, R.ev_mRetV, R.ev_mIfS, R.ev_mAsg, R.ev_mAug, R.ev_mSetP, R.ev_mLM, R.ev_iAnyM, R.ev_iRng1M, R.ev_iRng2M, R.ev_iEn1M, R.ev_iEnM, R.ev_iZipM, R.ev_mFor, R.ev_mLc, R.ev_mJoined, R.ev_slotRV, R.ev_frzSl, R.ev_relSl, R.ev_setSl, R.ev_lend, R.ev_setT_nm, R.ev_setT_tp, R.ev_setTs_nil, R.ev_setTs_cons, R.ev_hold_N, R.ev_hold_Z, R.ev_hold_B, R.ev_settle_N, R.ev_settle_Z, R.ev_settle_B, R.ev_isLst_lst, R.ev_isLst_tup, R.ev_isLst_int, R.ev_isLst_bl, R.ev_isLst_str, R.ev_isLst_non, R.ev_isLst_scr, R.ev_idx_lst, R.ev_idx_tup, R.ev_idx_scr, R.ev_idx_str, R.ev_neg, R.ev_add_int, R.ev_sub_int, R.ev_mul_int, R.ev_div_int, R.ev_mod_int, R.ev_pow_int, R.ev_add_str, R.ev_add_tup, R.ev_add_lst, R.ev_eq_int, R.ev_ne_int, R.ev_eq_str, R.ev_ne_str, R.ev_lt, R.ev_le, R.ev_gt, R.ev_ge, R.ev_is, R.ev_isNot, R.ev_none_tup, R.ev_none_lst, R.ev_none_int, R.ev_none_str, R.ev_none_non, R.ev_len_lst, R.ev_len_tup, R.ev_len_scr, R.ev_len_str, R.ev_abs, R.ev_int1, R.ev_str_int, R.ev_str_str, R.ev_list_lst, R.ev_list_tup, R.ev_tup_lst, R.ev_tup_tup, R.ev_fmt_str, R.ev_fmt_int, R.ev_sl_lst, R.ev_sl_tup, R.ev_sl_scr, R.ev_split, R.ev_join, R.ev_tru_bl, R.ev_tru_int, R.ev_tru_non, R.ev_tru_lst, R.ev_tru_tup, R.ev_avRVs_nil, R.ev_avRVs_pl, R.ev_avRVs_rv, R.ev_share_pl, R.ev_share_N, R.ev_share_Z, R.ev_share_B, R.ev_lent_pl, R.ev_lent_N, R.ev_lent_Z, R.ev_lent_B, R.ev_fin_ret, R.ev_fin_next, R.ev_io_t, R.ev_io_f, R.ev_jGo_nil, R.ev_jGo_cons, R.ev_isi, R.ev_hold_t, R.ev_hold_fint, R.ev_hold_fstr, R.ev_hold_ftup, R.ev_hold_fbl, R.ev_settle_int, R.ev_settle_str, R.ev_settle_tup, R.ev_settle_bl, R.ev_settle_non, R.ev_share_int, R.ev_share_str, R.ev_share_tup, R.ev_lent_int, R.ev_lent_str, R.ev_lent_tup, R.hmd]
    rw [hs]
    dsimp only
    have ow : okW [x0, .frz (.int (j : Int)), .frz (.str (SX.S [c]))] [1, 2] = true := by simp [okW]
    have ws : wipeS [x0, .frz (.int (j : Int)), .frz (.str (SX.S [c]))] [1, 2] = [x0, .un, .un] := rfl
    by_cases h : c = 46
    · have hm : mIfE (tBool (mOpV 2 (cop .Eq) (mC (.str ".")))) (mC (.int (-1))) (mVar 1) [x0, .frz (.int (j : Int)), .frz (.str (SX.S [c]))] = .ok ⟨.N, .int (-1)⟩ [x0, .frz (.int (j : Int)), .frz (.str (SX.S [c]))] := by
        simp [R.ev_mC, R.ev_mVar, R.ev_mVarZ, R.ev_mOp, R.ev_mOpV, R.ev_mUn, R.ev_mANil, R.ev_mACons, R.ev_mTup, R.ev_mLst, R.ev_mNoPart, R.ev_mPart, R.ev_mSl, R.ev_tTrue, R.ev_tBool, R.ev_mCh, R.ev_tAndM, R.ev_tOrM, R.ev_tNotM, R.ev_mIfE, R.ev_mAndV, R.ev_mOrV, R.ev_mNotV, R.ev_cNil, R.ev_cPl, R.ev_cRv, R.ev_mBlt, R.ev_mM1, R.ev_mCall, R.ev_mNext, R.ev_mSeq, R.ev_mFl, R.ev_mDrop, R.ev_mRet, R.ev_mRetV, R.ev_mIfS, R.ev_mAsg, R.ev_mAug, R.ev_mSetP, R.ev_mLM, R.ev_iAnyM, R.ev_iRng1M, R.ev_iRng2M, R.ev_iEn1M, R.ev_iEnM, R.ev_iZipM, R.ev_mFor, R.ev_mLc, R.ev_mJoined, R.ev_slotRV, R.ev_frzSl, R.ev_relSl, R.ev_setSl, R.ev_lend, R.ev_setT_nm, R.ev_setT_tp, R.ev_setTs_nil, R.ev_setTs_cons, R.ev_hold_N, R.ev_hold_Z, R.ev_hold_B, R.ev_settle_N, R.ev_settle_Z, R.ev_settle_B, R.ev_isLst_lst, R.ev_isLst_tup, R.ev_isLst_int, R.ev_isLst_bl, R.ev_isLst_str, R.ev_isLst_non, R.ev_isLst_scr, R.ev_idx_lst, R.ev_idx_tup, R.ev_idx_scr, R.ev_idx_str, R.ev_neg, R.ev_add_int, R.ev_sub_int, R.ev_mul_int, R.ev_div_int, R.ev_mod_int, R.ev_pow_int, R.ev_add_str, R.ev_add_tup, R.ev_add_lst, R.ev_eq_int, R.ev_ne_int, R.ev_eq_str, R.ev_ne_str, R.ev_lt, R.ev_le, R.ev_gt, R.ev_ge, R.ev_is, R.ev_isNot, R.ev_none_tup, R.ev_none_lst, R.ev_none_int, R.ev_none_str, R.ev_none_non, R.ev_len_lst, R.ev_len_tup, R.ev_len_scr, R.ev_len_str, R.ev_abs, R.ev_int1, R.ev_str_int, R.ev_str_str, R.ev_list_lst, R.ev_list_tup, R.ev_tup_lst, R.ev_tup_tup, R.ev_fmt_str, R.ev_fmt_int, R.ev_sl_lst, R.ev_sl_tup, R.ev_sl_scr, R.ev_split, R.ev_join, R.ev_tru_bl, R.ev_tru_int, R.ev_tru_non, R.ev_tru_lst, R.ev_tru_tup, R.ev_avRVs_nil, R.ev_avRVs_pl, R.ev_avRVs_rv, R.ev_share_pl, R.ev_share_N, R.ev_share_Z, R.ev_share_B, R.ev_lent_pl, R.ev_lent_N, R.ev_lent_Z, R.ev_lent_B, R.ev_fin_ret, R.ev_fin_next, R.ev_io_t, R.ev_io_f, R.ev_jGo_nil, R.ev_jGo_cons, R.ev_isi, R.ev_hold_t, R.ev_hold_fint, R.ev_hold_fstr, R.ev_hold_ftup, R.ev_hold_fbl, R.ev_settle_int, R.ev_settle_str, R.ev_settle_tup, R.ev_settle_bl, R.ev_settle_non, R.ev_share_int, R.ev_share_str, R.ev_share_tup, R.ev_lent_int, R.ev_lent_str, R.ev_lent_tup, R.hmd, h, sDot]
      rw [hm]
      dsimp only
      rw [R.ev_settle_N]
      dsimp only
      rw [if_pos ow, ws, ih (j + 1)]
      dsimp only
      rw [ownL, if_pos h]; rfl
    · have hm : mIfE (tBool (mOpV 2 (cop .Eq) (mC (.str ".")))) (mC (.int (-1))) (mVar 1) [x0, .frz (.int (j : Int)), .frz (.str (SX.S [c]))] = .ok ⟨.Z, .int (j : Int)⟩ [x0, .frz (.int (j : Int)), .frz (.str (SX.S [c]))] := by
        simp [R.ev_mC, R.ev_mVar, R.ev_mVarZ, R.ev_mOp, R.ev_mOpV, R.ev_mUn, R.ev_mANil, R.ev_mACons, R.ev_mTup, R.ev_mLst, R.ev_mNoPart, R.ev_mPart, R.ev_mSl, R.ev_tTrue, R.ev_tBool, R.ev_mCh, R.ev_tAndM, R.ev_tOrM, R.ev_tNotM, R.ev_mIfE, R.ev_mAndV, R.ev_mOrV, R.ev_mNotV, R.ev_cNil, R.ev_cPl, R.ev_cRv, R.ev_mBlt, R.ev_mM1, R.ev_mCall, R.ev_mNext, R.ev_mSeq, R.ev_mFl, R.ev_mDrop, R.ev_mRet, R.ev_mRetV, R.ev_mIfS, R.ev_mAsg, R.ev_mAug, R.ev_mSetP, R.ev_mLM, R.ev_iAnyM, R.ev_iRng1M, R.ev_iRng2M, R.ev_iEn1M, R.ev_iEnM, R.ev_iZipM, R.ev_mFor, R.ev_mLc, R.ev_mJoined, R.ev_slotRV, R.ev_frzSl, R.ev_relSl, R.ev_setSl, R.ev_lend, R.ev_setT_nm, R.ev_setT_tp, R.ev_setTs_nil, R.ev_setTs_cons, R.ev_hold_N, R.ev_hold_Z, R.ev_hold_B, R.ev_settle_N, R.ev_settle_Z, R.ev_settle_B, R.ev_isLst_lst, R.ev_isLst_tup, R.ev_isLst_int, R.ev_isLst_bl, R.ev_isLst_str, R.ev_isLst_non, R.ev_isLst_scr, R.ev_idx_lst, R.ev_idx_tup, R.ev_idx_scr, R.ev_idx_str, R.ev_neg, R.ev_add_int, R.ev_sub_int, R.ev_mul_int, R.ev_div_int, R.ev_mod_int, R.ev_pow_int, R.ev_add_str, R.ev_add_tup, R.ev_add_lst, R.ev_eq_int, R.ev_ne_int, R.ev_eq_str, R.ev_ne_str, R.ev_lt, R.ev_le, R.ev_gt, R.ev_ge, R.ev_is, R.ev_isNot, R.ev_none_tup, R.ev_none_lst, R.ev_none_int, R.ev_none_str, R.ev_none_non, R.ev_len_lst, R.ev_len_tup, R.ev_len_scr, R.ev_len_str, R.ev_abs, R.ev_int1, R.ev_str_int, R.ev_str_str, R.ev_list_lst, R.ev_list_tup, R.ev_tup_lst, R.ev_tup_tup, R.ev_fmt_str, R.ev_fmt_int, R.ev_sl_lst, R.ev_sl_tup, R.ev_sl_scr, R.ev_split, R.ev_join, R.ev_tru_bl, R.ev_tru_int, R.ev_tru_non, R.ev_tru_lst, R.ev_tru_tup, R.ev_avRVs_nil, R.ev_avRVs_pl, R.ev_avRVs_rv, R.ev_share_pl, R.ev_share_N, R.ev_share_Z, R.ev_share_B, R.ev_lent_pl, R.ev_lent_N, R.ev_lent_Z, R.ev_lent_B, R.ev_fin_ret, R.ev_fin_next, R.ev_io_t, R.ev_io_f, R.ev_jGo_nil, R.ev_jGo_cons, R.ev_isi, R.ev_hold_t, R.ev_hold_fint, R.ev_hold_fstr, R.ev_hold_ftup, R.ev_hold_fbl, R.ev_settle_int, R.ev_settle_str, R.ev_settle_tup, R.ev_settle_bl, R.ev_settle_non, R.ev_share_int, R.ev_share_str, R.ev_share_tup, R.ev_lent_int, R.ev_lent_str, R.ev_lent_tup, R.hmd, h, sDot, sEq]
      rw [hm]
      dsimp only
      rw [R.ev_settle_Z]
      dsimp only
      rw [if_pos ow, ws, ih (j + 1)]
      dsimp only
      rw [ownL, if_neg h]; rfl
theorem own_sources (v : List Nat) (hv : v.length ≤ 12) : g_own_sources [txD v] = .ret .N (imD (own v)) none := by
  have st : g_own_sources [txD v] = fin false (m_own_sources [.frz (txD v), .un, .un]) := rfl
  rw [st]
  unfold m_own_sources
  have h0 := own_lc v (.frz (txD v)) 0
  have hi : iEn1M (mACons (mVarZ 0) mANil) [.frz (txD v), .un, .un] = .ok (enumD ((0 : Nat) : Int) (R.signs (SX.S v))) [.frz (txD v), .un, .un] := rfl
  have ow : okW [.frz (txD v), .un, .un] [1, 2] = true := rfl
  have ws : wipeS [.frz (txD v), .un, .un] [1, 2] = [.frz (txD v), .un, .un] := rfl
  have hl : lenOk ((ownL v 0).map R.D.int).length = true := lenOk_of (by rw [List.length_map, ownL_len]; omega)
  have hL : mLc [1, 2] (.tp [.nm 1, .nm 2]) (iEn1M (mACons (mVarZ 0) mANil)) (fun S => .ok true S) (mIfE (tBool (mOpV 2 (cop .Eq) (mC (.str ".")))) (mC (.int (-1))) (mVar 1)) [.frz (txD v), .un, .un] = .ok ⟨.N, .lst ((ownL v 0).map R.D.int)⟩ [.frz (txD v), .un, .un] := by
    rw [R.ev_mLc, hi]
    dsimp only
    rw [if_pos ow, ws, h0]
    dsimp only
    rw [if_pos hl]
  simp [R.ev_mC, R.ev_mVar, R.ev_mVarZ, R.ev_mOp, R.ev_mOpV, R.ev_mUn, R.ev_mANil, R.ev_mACons, R.ev_mTup, R.ev_mLst, R.ev_mNoPart, R.ev_mPart, R.ev_mSl, R.ev_tTrue, R.ev_tBool, R.ev_mCh, R.ev_tAndM, R.ev_tOrM, R.ev_tNotM, R.ev_mIfE, R.ev_mAndV, R.ev_mOrV, R.ev_mNotV, R.ev_cNil, R.ev_cPl, R.ev_cRv, R.ev_mBlt, R.ev_mM1, R.ev_mCall, R.ev_mNext, R.ev_mSeq, R.ev_mFl, R.ev_mDrop, R.ev_mRet, R.ev_mRetV, R.ev_mIfS, R.ev_mAsg, R.ev_mAug, R.ev_mSetP, R.ev_mLM, R.ev_iAnyM, R.ev_iRng2M, R.ev_iEn1M, R.ev_iEnM, R.ev_iZipM, R.ev_mJoined, R.ev_slotRV, R.ev_frzSl, R.ev_relSl, R.ev_setSl, R.ev_lend, R.ev_setT_nm, R.ev_setT_tp, R.ev_setTs_nil, R.ev_setTs_cons, R.ev_hold_N, R.ev_hold_Z, R.ev_hold_B, R.ev_settle_N, R.ev_settle_Z, R.ev_settle_B, R.ev_isLst_lst, R.ev_isLst_tup, R.ev_isLst_int, R.ev_isLst_bl, R.ev_isLst_str, R.ev_isLst_non, R.ev_isLst_scr, R.ev_idx_lst, R.ev_idx_tup, R.ev_idx_scr, R.ev_idx_str, R.ev_neg, R.ev_add_int, R.ev_sub_int, R.ev_mul_int, R.ev_div_int, R.ev_mod_int, R.ev_pow_int, R.ev_add_str, R.ev_add_tup, R.ev_add_lst, R.ev_eq_int, R.ev_ne_int, R.ev_eq_str, R.ev_ne_str, R.ev_lt, R.ev_le, R.ev_gt, R.ev_ge, R.ev_is, R.ev_isNot, R.ev_none_tup, R.ev_none_lst, R.ev_none_int, R.ev_none_str, R.ev_none_non, R.ev_len_lst, R.ev_len_tup, R.ev_len_scr, R.ev_len_str, R.ev_abs, R.ev_int1, R.ev_str_int, R.ev_str_str, R.ev_list_lst, R.ev_list_tup, R.ev_tup_lst, R.ev_tup_tup, R.ev_fmt_str, R.ev_fmt_int, R.ev_sl_lst, R.ev_sl_tup, R.ev_sl_scr, R.ev_split, R.ev_join, R.ev_tru_bl, R.ev_tru_int, R.ev_tru_non, R.ev_tru_lst, R.ev_tru_tup, R.ev_avRVs_nil, R.ev_avRVs_pl, R.ev_avRVs_rv, R.ev_share_pl, R.ev_share_N, R.ev_share_Z, R.ev_share_B, R.ev_lent_pl, R.ev_lent_N, R.ev_lent_Z, R.ev_lent_B, R.ev_fin_ret, R.ev_fin_next, R.ev_io_t, R.ev_io_f, R.ev_jGo_nil, R.ev_jGo_cons, R.ev_isi, R.ev_hold_t, R.ev_hold_fint, R.ev_hold_fstr, R.ev_hold_ftup, R.ev_hold_fbl, R.ev_settle_int, R.ev_settle_str, R.ev_settle_tup, R.ev_settle_bl, R.ev_settle_non, R.ev_share_int, R.ev_share_str, R.ev_share_tup, R.ev_lent_int, R.ev_lent_str, R.ev_lent_tup, R.hmd, hL]
  rfl
/-- the sources of a line -/
def srcL (w : List Nat) (t o : Int) (g v : List Nat) : List Int :=
  if fireB w o g v then (if w = clearL then (own v).set t.toNat (-1) else if w = moveL then ((own v).set t.toNat o).set o.toNat (-1) else (own v).set t.toNat o) else own v
theorem own_len (v : List Nat) : (own v).length = v.length := ownL_len v 0
theorem sources {n : Nat} {w : List Nat} {t o : Int} {g v : List Nat} (r : RowL n w t o g) (hv : v.length = n) (hn : n ≤ 12) : g_sources [rowD w t o g, txD v] = .ret .N (imD (srcL w t o g v)) none := by
  have st : g_sources [rowD w t o g, txD v] = fin false (m_sources [.frz (rowD w t o g), .frz (txD v), .un, .un, .un, .un, .un]) := rfl
  rw [st]
  unfold m_sources srcL
  have hf := fires r hv hn
  have ho := own_sources v (by omega)
  have hd : rowD w t o g = .tup [.str (SX.S w), .int t, .int o, txD g] := rfl
  have hdl : isLst (rowD w t o g) = false := rfl
  have hgl : isLst (txD g) = false := rfl
  have hil : isLst (imD (own v)) = false := rfl
  have hli : ∀ md, fList1 [⟨md, imD (own v)⟩] = some ⟨.N, .lst ((own v).map R.D.int)⟩ := fun md => rfl
  have hix : ∀ {i : Int}, 0 ≤ i → i < n → ∀ l : List R.D, l.length = v.length → ixN l.length i = some i.toNat := fun h0 h1 l hl => ixN_of h0 (by omega)
  obtain ⟨t0, t1⟩ := r.tt
  have ht := ixN_of (n := v.length) t0 (by omega)
  have hle : ((own v).map R.D.int).length = v.length := by rw [List.length_map, own_len]
  have apI : ∀ md, apart md (imD (own v)) = true := fun md => ap_ints md _
  cases hb : fireB w o g v with
  | false =>
    rw [hb] at hf
    simp [R.ev_mC, R.ev_mVar, R.ev_mVarZ, R.ev_mOp, R.ev_mOpV, R.ev_mUn, R.ev_mANil, R.ev_mACons, R.ev_mTup, R.ev_mLst, R.ev_mNoPart, R.ev_mPart, R.ev_mSl, R.ev_tTrue, R.ev_tBool, R.ev_mCh, R.ev_tAndM, R.ev_tOrM, R.ev_tNotM, R.ev_mIfE, R.ev_mAndV, R.ev_mOrV, R.ev_mNotV, R.ev_cNil, R.ev_cPl, R.ev_cRv, R.ev_mBlt, R.ev_mM1, R.ev_mCall, R.ev_mNext, R.ev_mSeq, R.ev_mFl, R.ev_mDrop, R.ev_mRet, R.ev_mRetV, R.ev_mIfS, R.ev_mAsg, R.ev_mAug, R.ev_mSetP, R.ev_mLM, R.ev_iAnyM, R.ev_iRng1M, R.ev_iRng2M, R.ev_iEn1M, R.ev_iEnM, R.ev_iZipM, R.ev_mFor, R.ev_mLc, R.ev_mJoined, R.ev_slotRV, R.ev_frzSl, R.ev_relSl, R.ev_setSl, R.ev_lend, R.ev_setT_nm, R.ev_setT_tp, R.ev_setTs_nil, R.ev_setTs_cons, R.ev_hold_N, R.ev_hold_Z, R.ev_hold_B, R.ev_settle_N, R.ev_settle_Z, R.ev_settle_B, R.ev_isLst_lst, R.ev_isLst_tup, R.ev_isLst_int, R.ev_isLst_bl, R.ev_isLst_str, R.ev_isLst_non, R.ev_isLst_scr, R.ev_idx_lst, R.ev_idx_tup, R.ev_idx_scr, R.ev_idx_str, R.ev_neg, R.ev_add_int, R.ev_sub_int, R.ev_mul_int, R.ev_div_int, R.ev_mod_int, R.ev_pow_int, R.ev_add_str, R.ev_add_tup, R.ev_add_lst, R.ev_eq_int, R.ev_ne_int, R.ev_eq_str, R.ev_ne_str, R.ev_lt, R.ev_le, R.ev_gt, R.ev_ge, R.ev_is, R.ev_isNot, R.ev_none_tup, R.ev_none_lst, R.ev_none_int, R.ev_none_str, R.ev_none_non, R.ev_len_lst, R.ev_len_tup, R.ev_len_scr, R.ev_len_str, R.ev_abs, R.ev_int1, R.ev_str_int, R.ev_str_str, R.ev_list_lst, R.ev_list_tup, R.ev_tup_lst, R.ev_tup_tup, R.ev_fmt_str, R.ev_fmt_int, R.ev_sl_lst, R.ev_sl_tup, R.ev_sl_scr, R.ev_split, R.ev_join, R.ev_tru_bl, R.ev_tru_int, R.ev_tru_non, R.ev_tru_lst, R.ev_tru_tup, R.ev_avRVs_nil, R.ev_avRVs_pl, R.ev_avRVs_rv, R.ev_share_pl, R.ev_share_N, R.ev_share_Z, R.ev_share_B, R.ev_lent_pl, R.ev_lent_N, R.ev_lent_Z, R.ev_lent_B, R.ev_fin_ret, R.ev_fin_next, R.ev_io_t, R.ev_io_f, R.ev_jGo_nil, R.ev_jGo_cons, R.ev_isi, R.ev_hold_t, R.ev_hold_fint, R.ev_hold_fstr, R.ev_hold_ftup, R.ev_hold_fbl, R.ev_settle_int, R.ev_settle_str, R.ev_settle_tup, R.ev_settle_bl, R.ev_settle_non, R.ev_share_int, R.ev_share_str, R.ev_share_tup, R.ev_lent_int, R.ev_lent_str, R.ev_lent_tup, R.hmd, hf, ho, hdl, apI]
  | true =>
    rw [hb] at hf
    have hU : setT (.tp [.nm 3, .nm 4, .nm 5, .nm 6]) [.frz (rowD w t o g), .frz (txD v), .un, .un, .un, .un, .un] ⟨.Z, rowD w t o g⟩ = some [.frz (rowD w t o g), .frz (txD v), .un, .frz (.str (SX.S w)), .frz (.int t), .frz (.int o), .frz (txD g)] := by
      rw [hd, setT]
      simp [R.ev_mC, R.ev_mVar, R.ev_mVarZ, R.ev_mOp, R.ev_mOpV, R.ev_mUn, R.ev_mANil, R.ev_mACons, R.ev_mTup, R.ev_mLst, R.ev_mNoPart, R.ev_mPart, R.ev_mSl, R.ev_tTrue, R.ev_tBool, R.ev_mCh, R.ev_tAndM, R.ev_tOrM, R.ev_tNotM, R.ev_mIfE, R.ev_mAndV, R.ev_mOrV, R.ev_mNotV, R.ev_cNil, R.ev_cPl, R.ev_cRv, R.ev_mBlt, R.ev_mM1, R.ev_mCall, R.ev_mNext, R.ev_mSeq, R.ev_mFl, R.ev_mDrop, R.ev_mRet, R.ev_mRetV, R.ev_mIfS, R.ev_mAsg, R.ev_mAug, R.ev_mSetP, R.ev_mLM, R.ev_iAnyM, R.ev_iRng1M, R.ev_iRng2M, R.ev_iEn1M, R.ev_iEnM, R.ev_iZipM, R.ev_mFor, R.ev_mLc, R.ev_mJoined, R.ev_slotRV, R.ev_frzSl, R.ev_relSl, R.ev_setSl, R.ev_lend, R.ev_setT_nm, R.ev_setT_tp, R.ev_setTs_nil, R.ev_setTs_cons, R.ev_hold_N, R.ev_hold_Z, R.ev_hold_B, R.ev_settle_N, R.ev_settle_Z, R.ev_settle_B, R.ev_isLst_lst, R.ev_isLst_tup, R.ev_isLst_int, R.ev_isLst_bl, R.ev_isLst_str, R.ev_isLst_non, R.ev_isLst_scr, R.ev_idx_lst, R.ev_idx_tup, R.ev_idx_scr, R.ev_idx_str, R.ev_neg, R.ev_add_int, R.ev_sub_int, R.ev_mul_int, R.ev_div_int, R.ev_mod_int, R.ev_pow_int, R.ev_add_str, R.ev_add_tup, R.ev_add_lst, R.ev_eq_int, R.ev_ne_int, R.ev_eq_str, R.ev_ne_str, R.ev_lt, R.ev_le, R.ev_gt, R.ev_ge, R.ev_is, R.ev_isNot, R.ev_none_tup, R.ev_none_lst, R.ev_none_int, R.ev_none_str, R.ev_none_non, R.ev_len_lst, R.ev_len_tup, R.ev_len_scr, R.ev_len_str, R.ev_abs, R.ev_int1, R.ev_str_int, R.ev_str_str, R.ev_list_lst, R.ev_list_tup, R.ev_tup_lst, R.ev_tup_tup, R.ev_fmt_str, R.ev_fmt_int, R.ev_sl_lst, R.ev_sl_tup, R.ev_sl_scr, R.ev_split, R.ev_join, R.ev_tru_bl, R.ev_tru_int, R.ev_tru_non, R.ev_tru_lst, R.ev_tru_tup, R.ev_avRVs_nil, R.ev_avRVs_pl, R.ev_avRVs_rv, R.ev_share_pl, R.ev_share_N, R.ev_share_Z, R.ev_share_B, R.ev_lent_pl, R.ev_lent_N, R.ev_lent_Z, R.ev_lent_B, R.ev_fin_ret, R.ev_fin_next, R.ev_io_t, R.ev_io_f, R.ev_jGo_nil, R.ev_jGo_cons, R.ev_isi, R.ev_hold_t, R.ev_hold_fint, R.ev_hold_fstr, R.ev_hold_ftup, R.ev_hold_fbl, R.ev_settle_int, R.ev_settle_str, R.ev_settle_tup, R.ev_settle_bl, R.ev_settle_non, R.ev_share_int, R.ev_share_str, R.ev_share_tup, R.ev_lent_int, R.ev_lent_str, R.ev_lent_tup, R.hmd, hgl]
    by_cases hc : w = clearL
    · subst hc
      simp [R.ev_mC, R.ev_mVar, R.ev_mVarZ, R.ev_mOp, R.ev_mOpV, R.ev_mUn, R.ev_mANil, R.ev_mACons, R.ev_mTup, R.ev_mLst, R.ev_mNoPart, R.ev_mPart, R.ev_mSl, R.ev_tTrue, R.ev_tBool, R.ev_mCh, R.ev_tAndM, R.ev_tOrM, R.ev_tNotM, R.ev_mIfE, R.ev_mAndV, R.ev_mOrV, R.ev_mNotV, R.ev_cNil, R.ev_cPl, R.ev_cRv, R.ev_mBlt, R.ev_mM1, R.ev_mCall, R.ev_mNext, R.ev_mSeq, R.ev_mFl, R.ev_mDrop, R.ev_mRet, R.ev_mRetV, R.ev_mIfS, R.ev_mAsg, R.ev_mAug, R.ev_mSetP, R.ev_mLM, R.ev_iAnyM, R.ev_iRng1M, R.ev_iRng2M, R.ev_iEn1M, R.ev_iEnM, R.ev_iZipM, R.ev_mFor, R.ev_mLc, R.ev_mJoined, R.ev_slotRV, R.ev_frzSl, R.ev_relSl, R.ev_setSl, R.ev_lend, R.ev_setT_nm, R.ev_setT_tp, R.ev_setTs_nil, R.ev_setTs_cons, R.ev_hold_N, R.ev_hold_Z, R.ev_hold_B, R.ev_settle_N, R.ev_settle_Z, R.ev_settle_B, R.ev_isLst_lst, R.ev_isLst_tup, R.ev_isLst_int, R.ev_isLst_bl, R.ev_isLst_str, R.ev_isLst_non, R.ev_isLst_scr, R.ev_idx_lst, R.ev_idx_tup, R.ev_idx_scr, R.ev_idx_str, R.ev_neg, R.ev_add_int, R.ev_sub_int, R.ev_mul_int, R.ev_div_int, R.ev_mod_int, R.ev_pow_int, R.ev_add_str, R.ev_add_tup, R.ev_add_lst, R.ev_eq_int, R.ev_ne_int, R.ev_eq_str, R.ev_ne_str, R.ev_lt, R.ev_le, R.ev_gt, R.ev_ge, R.ev_is, R.ev_isNot, R.ev_none_tup, R.ev_none_lst, R.ev_none_int, R.ev_none_str, R.ev_none_non, R.ev_len_lst, R.ev_len_tup, R.ev_len_scr, R.ev_len_str, R.ev_abs, R.ev_int1, R.ev_str_int, R.ev_str_str, R.ev_list_lst, R.ev_list_tup, R.ev_tup_lst, R.ev_tup_tup, R.ev_fmt_str, R.ev_fmt_int, R.ev_sl_lst, R.ev_sl_tup, R.ev_sl_scr, R.ev_split, R.ev_join, R.ev_tru_bl, R.ev_tru_int, R.ev_tru_non, R.ev_tru_lst, R.ev_tru_tup, R.ev_avRVs_nil, R.ev_avRVs_pl, R.ev_avRVs_rv, R.ev_share_pl, R.ev_share_N, R.ev_share_Z, R.ev_share_B, R.ev_lent_pl, R.ev_lent_N, R.ev_lent_Z, R.ev_lent_B, R.ev_fin_ret, R.ev_fin_next, R.ev_io_t, R.ev_io_f, R.ev_jGo_nil, R.ev_jGo_cons, R.ev_isi, R.ev_hold_t, R.ev_hold_fint, R.ev_hold_fstr, R.ev_hold_ftup, R.ev_hold_fbl, R.ev_settle_int, R.ev_settle_str, R.ev_settle_tup, R.ev_settle_bl, R.ev_settle_non, R.ev_share_int, R.ev_share_str, R.ev_share_tup, R.ev_lent_int, R.ev_lent_str, R.ev_lent_tup, R.hmd, hf, ho, hdl, hU, hgl, hil, hli, sClear, sMove, sEq, own_len, ht, apI]
      simp [imD, List.map_set]
    · obtain ⟨o0, o1, o2⟩ := r.on hc
      have hto := ixN_of (n := v.length) o0 (by omega)
      by_cases hm : w = moveL
      · subst hm
        simp [R.ev_mC, R.ev_mVar, R.ev_mVarZ, R.ev_mOp, R.ev_mOpV, R.ev_mUn, R.ev_mANil, R.ev_mACons, R.ev_mTup, R.ev_mLst, R.ev_mNoPart, R.ev_mPart, R.ev_mSl, R.ev_tTrue, R.ev_tBool, R.ev_mCh, R.ev_tAndM, R.ev_tOrM, R.ev_tNotM, R.ev_mIfE, R.ev_mAndV, R.ev_mOrV, R.ev_mNotV, R.ev_cNil, R.ev_cPl, R.ev_cRv, R.ev_mBlt, R.ev_mM1, R.ev_mCall, R.ev_mNext, R.ev_mSeq, R.ev_mFl, R.ev_mDrop, R.ev_mRet, R.ev_mRetV, R.ev_mIfS, R.ev_mAsg, R.ev_mAug, R.ev_mSetP, R.ev_mLM, R.ev_iAnyM, R.ev_iRng1M, R.ev_iRng2M, R.ev_iEn1M, R.ev_iEnM, R.ev_iZipM, R.ev_mFor, R.ev_mLc, R.ev_mJoined, R.ev_slotRV, R.ev_frzSl, R.ev_relSl, R.ev_setSl, R.ev_lend, R.ev_setT_nm, R.ev_setT_tp, R.ev_setTs_nil, R.ev_setTs_cons, R.ev_hold_N, R.ev_hold_Z, R.ev_hold_B, R.ev_settle_N, R.ev_settle_Z, R.ev_settle_B, R.ev_isLst_lst, R.ev_isLst_tup, R.ev_isLst_int, R.ev_isLst_bl, R.ev_isLst_str, R.ev_isLst_non, R.ev_isLst_scr, R.ev_idx_lst, R.ev_idx_tup, R.ev_idx_scr, R.ev_idx_str, R.ev_neg, R.ev_add_int, R.ev_sub_int, R.ev_mul_int, R.ev_div_int, R.ev_mod_int, R.ev_pow_int, R.ev_add_str, R.ev_add_tup, R.ev_add_lst, R.ev_eq_int, R.ev_ne_int, R.ev_eq_str, R.ev_ne_str, R.ev_lt, R.ev_le, R.ev_gt, R.ev_ge, R.ev_is, R.ev_isNot, R.ev_none_tup, R.ev_none_lst, R.ev_none_int, R.ev_none_str, R.ev_none_non, R.ev_len_lst, R.ev_len_tup, R.ev_len_scr, R.ev_len_str, R.ev_abs, R.ev_int1, R.ev_str_int, R.ev_str_str, R.ev_list_lst, R.ev_list_tup, R.ev_tup_lst, R.ev_tup_tup, R.ev_fmt_str, R.ev_fmt_int, R.ev_sl_lst, R.ev_sl_tup, R.ev_sl_scr, R.ev_split, R.ev_join, R.ev_tru_bl, R.ev_tru_int, R.ev_tru_non, R.ev_tru_lst, R.ev_tru_tup, R.ev_avRVs_nil, R.ev_avRVs_pl, R.ev_avRVs_rv, R.ev_share_pl, R.ev_share_N, R.ev_share_Z, R.ev_share_B, R.ev_lent_pl, R.ev_lent_N, R.ev_lent_Z, R.ev_lent_B, R.ev_fin_ret, R.ev_fin_next, R.ev_io_t, R.ev_io_f, R.ev_jGo_nil, R.ev_jGo_cons, R.ev_isi, R.ev_hold_t, R.ev_hold_fint, R.ev_hold_fstr, R.ev_hold_ftup, R.ev_hold_fbl, R.ev_settle_int, R.ev_settle_str, R.ev_settle_tup, R.ev_settle_bl, R.ev_settle_non, R.ev_share_int, R.ev_share_str, R.ev_share_tup, R.ev_lent_int, R.ev_lent_str, R.ev_lent_tup, R.hmd, hf, ho, hdl, hU, hgl, hil, hli, sClear, sMove, sEq, own_len, ht, hto, apI]
        simp [imD, List.map_set]
      · simp [R.ev_mC, R.ev_mVar, R.ev_mVarZ, R.ev_mOp, R.ev_mOpV, R.ev_mUn, R.ev_mANil, R.ev_mACons, R.ev_mTup, R.ev_mLst, R.ev_mNoPart, R.ev_mPart, R.ev_mSl, R.ev_tTrue, R.ev_tBool, R.ev_mCh, R.ev_tAndM, R.ev_tOrM, R.ev_tNotM, R.ev_mIfE, R.ev_mAndV, R.ev_mOrV, R.ev_mNotV, R.ev_cNil, R.ev_cPl, R.ev_cRv, R.ev_mBlt, R.ev_mM1, R.ev_mCall, R.ev_mNext, R.ev_mSeq, R.ev_mFl, R.ev_mDrop, R.ev_mRet, R.ev_mRetV, R.ev_mIfS, R.ev_mAsg, R.ev_mAug, R.ev_mSetP, R.ev_mLM, R.ev_iAnyM, R.ev_iRng1M, R.ev_iRng2M, R.ev_iEn1M, R.ev_iEnM, R.ev_iZipM, R.ev_mFor, R.ev_mLc, R.ev_mJoined, R.ev_slotRV, R.ev_frzSl, R.ev_relSl, R.ev_setSl, R.ev_lend, R.ev_setT_nm, R.ev_setT_tp, R.ev_setTs_nil, R.ev_setTs_cons, R.ev_hold_N, R.ev_hold_Z, R.ev_hold_B, R.ev_settle_N, R.ev_settle_Z, R.ev_settle_B, R.ev_isLst_lst, R.ev_isLst_tup, R.ev_isLst_int, R.ev_isLst_bl, R.ev_isLst_str, R.ev_isLst_non, R.ev_isLst_scr, R.ev_idx_lst, R.ev_idx_tup, R.ev_idx_scr, R.ev_idx_str, R.ev_neg, R.ev_add_int, R.ev_sub_int, R.ev_mul_int, R.ev_div_int, R.ev_mod_int, R.ev_pow_int, R.ev_add_str, R.ev_add_tup, R.ev_add_lst, R.ev_eq_int, R.ev_ne_int, R.ev_eq_str, R.ev_ne_str, R.ev_lt, R.ev_le, R.ev_gt, R.ev_ge, R.ev_is, R.ev_isNot, R.ev_none_tup, R.ev_none_lst, R.ev_none_int, R.ev_none_str, R.ev_none_non, R.ev_len_lst, R.ev_len_tup, R.ev_len_scr, R.ev_len_str, R.ev_abs, R.ev_int1, R.ev_str_int, R.ev_str_str, R.ev_list_lst, R.ev_list_tup, R.ev_tup_lst, R.ev_tup_tup, R.ev_fmt_str, R.ev_fmt_int, R.ev_sl_lst, R.ev_sl_tup, R.ev_sl_scr, R.ev_split, R.ev_join, R.ev_tru_bl, R.ev_tru_int, R.ev_tru_non, R.ev_tru_lst, R.ev_tru_tup, R.ev_avRVs_nil, R.ev_avRVs_pl, R.ev_avRVs_rv, R.ev_share_pl, R.ev_share_N, R.ev_share_Z, R.ev_share_B, R.ev_lent_pl, R.ev_lent_N, R.ev_lent_Z, R.ev_lent_B, R.ev_fin_ret, R.ev_fin_next, R.ev_io_t, R.ev_io_f, R.ev_jGo_nil, R.ev_jGo_cons, R.ev_isi, R.ev_hold_t, R.ev_hold_fint, R.ev_hold_fstr, R.ev_hold_ftup, R.ev_hold_fbl, R.ev_settle_int, R.ev_settle_str, R.ev_settle_tup, R.ev_settle_bl, R.ev_settle_non, R.ev_share_int, R.ev_share_str, R.ev_share_tup, R.ev_lent_int, R.ev_lent_str, R.ev_lent_tup, R.hmd, hf, ho, hdl, hU, hgl, hil, hli, sClear, sMove, sEq, own_len, ht, hto, apI, hc, hm]
        simp [imD, List.map_set]
end K02

set_option Elab.async false
set_option linter.all false
set_option maxRecDepth 100000
set_option maxHeartbeats 2000000
namespace K02
open PySem PySem.Spec PyProof.Rows L2 R

/-! ### values by sources -/
def SrcOk (n : Nat) (os : List Int) : Prop := os.length = n ∧ ∀ b ∈ os, -1 ≤ b ∧ b < n
theorem ownL_ok : ∀ (v : List Nat) (j : Nat), ∀ b ∈ ownL v j, -1 ≤ b ∧ b < (j + v.length : Nat)
  | [], _, _, h => nomatch h
  | c :: r, j, b, h => by
    rw [ownL] at h
    rcases List.mem_cons.mp h with e | h
    · subst e
      rw [List.length_cons]
      split <;> omega
    · have := ownL_ok r (j + 1) b h
      rw [List.length_cons]
      omega
theorem own_ok (v : List Nat) : SrcOk v.length (own v) := ⟨own_len v, fun b h => by
  have := ownL_ok v 0 b h
  omega⟩
theorem src_ok {n : Nat} {w : List Nat} {t o : Int} {g v : List Nat} (r : RowL n w t o g) (hv : v.length = n) : SrcOk n (srcL w t o g v) := by
  have h := own_ok v
  rw [hv] at h
  have st : ∀ (l : List Int) (k : Nat) (x : Int), SrcOk n l → -1 ≤ x → x < n → SrcOk n (l.set k x) := fun l k x hl h0 h1 => ⟨by rw [List.length_set]; exact hl.1, fun b hb => by
    rcases List.mem_or_eq_of_mem_set hb with q | q
    · exact hl.2 b q
    · rw [q]; exact ⟨h0, h1⟩⟩
  have hn : (0 : Int) < n := by have := r.tt; omega
  unfold srcL
  split
  · split
    · exact st _ _ _ h (by omega) (by omega)
    · rename_i hc
      obtain ⟨o0, o1, _⟩ := r.on hc
      split
      · exact st _ _ _ (st _ _ _ h (by omega) o1) (by omega) (by omega)
      · exact st _ _ _ h (by omega) o1
  · exact h
def pick (es : List Int) (b : Int) : Int := if b = -1 then -1 else es.getD b.toNat 0
def pickV (v : List Nat) (b : Int) : Nat := if b = -1 then 46 else v.getD b.toNat 0
theorem at_im {n : Nat} {es : List Int} (he : es.length = n) {b : Int} (h0 : 0 ≤ b) (h1 : b < n) : L2.atI (es.map R.D.int) b = some (.int (es.getD b.toNat 0)) := by
  refine atI_of h0 ?_
  have hl : b.toNat < es.length := by omega
  rw [List.getElem?_map, List.getElem?_eq_getElem hl, List.getD_eq_getElem?_getD, List.getElem?_eq_getElem hl]; rfl
theorem at_tx {n : Nat} {v : List Nat} (hv : v.length = n) (hn : n ≤ 12) {b : Int} (h0 : 0 ≤ b) (h1 : b < n) (md md' : Md) : fIdx ⟨md, txD v⟩ ⟨md', .int b⟩ = some ⟨.N, txD [v.getD b.toNat 0]⟩ := by
  have hl : b.toNat < v.length := by omega
  refine idx_S (by omega) h0 ?_
  rw [List.getElem?_eq_getElem hl, List.getD_eq_getElem?_getD, List.getElem?_eq_getElem hl]; rfl
theorem image_from {n : Nat} {os es : List Int} (hs : SrcOk n os) (he : es.length = n) (hn : n ≤ 12) : g_image_from [imD os, imD es] = .ret .N (imD (os.map (pick es))) none := by
  have st : g_image_from [imD os, imD es] = fin false (m_image_from [.frz (imD os), .frz (imD es), .un]) := rfl
  rw [st]
  unfold m_image_from
  have lc := lcGo_map (vs := [2]) (tg := .nm 2) (mt := fun S => .ok true S) (me := mIfE (tBool (mOpV 2 (cop .Eq) (mC (.int (-1))))) (mC (.int (-1))) (mOpV 1 fIdx (mVar 2))) (fun b : Int => R.D.int (pick es b)) R.D.int [.frz (imD os), .frz (imD es), .un] os (fun b hb => by
    obtain ⟨b0, b1⟩ := hs.2 b hb
    by_cases h : b = -1
    · exact ⟨[.frz (imD os), .frz (imD es), .frz (.int b)], [.frz (imD os), .frz (imD es), .frz (.int b)], ⟨.N, .int (-1)⟩, [.frz (imD os), .frz (imD es), .frz (.int b)], ⟨.N, .int (-1)⟩, by simp [R.ev_mC, R.ev_mVar, R.ev_mVarZ, R.ev_mOp, R.ev_mOpV, R.ev_mUn, R.ev_mANil, R.ev_mACons, R.ev_mTup, R.ev_mLst, R.ev_mNoPart, R.ev_mPart, R.ev_mSl, R.ev_tTrue, R.ev_tBool, R.ev_mCh, R.ev_tAndM, R.ev_tOrM, R.ev_tNotM, R.ev_mIfE, R.ev_mAndV, R.ev_mOrV, R.ev_mNotV, R.ev_cNil, R.ev_cPl, R.ev_cRv, R.ev_mBlt, R.ev_mM1, R.ev_mCall, R.ev_mNext, R.ev_mSeq, R.ev_mFl, R.ev_mDrop, R.ev_mRet, R.ev_mRetV, R.ev_mIfS, R.ev_mAsg, R.ev_mAug, R.ev_mSetP, R.ev_mLM, R.ev_iAnyM, R.ev_iRng1M, R.ev_iRng2M, R.ev_iEn1M, R.ev_iEnM, R.ev_iZipM, R.ev_mFor, R.ev_mLc, R.ev_mJoined, R.ev_slotRV, R.ev_frzSl, R.ev_relSl, R.ev_setSl, R.ev_lend, R.ev_setT_nm, R.ev_setT_tp, R.ev_setTs_nil, R.ev_setTs_cons, R.ev_hold_N, R.ev_hold_Z, R.ev_hold_B, R.ev_settle_N, R.ev_settle_Z, R.ev_settle_B, R.ev_isLst_lst, R.ev_isLst_tup, R.ev_isLst_int, R.ev_isLst_bl, R.ev_isLst_str, R.ev_isLst_non, R.ev_isLst_scr, R.ev_idx_lst, R.ev_idx_tup, R.ev_idx_scr, R.ev_idx_str, R.ev_neg, R.ev_add_int, R.ev_sub_int, R.ev_mul_int, R.ev_div_int, R.ev_mod_int, R.ev_pow_int, R.ev_add_str, R.ev_add_tup, R.ev_add_lst, R.ev_eq_int, R.ev_ne_int, R.ev_eq_str, R.ev_ne_str, R.ev_lt, R.ev_le, R.ev_gt, R.ev_ge, R.ev_is, R.ev_isNot, R.ev_none_tup, R.ev_none_lst, R.ev_none_int, R.ev_none_str, R.ev_none_non, R.ev_len_lst, R.ev_len_tup, R.ev_len_scr, R.ev_len_str, R.ev_abs, R.ev_int1, R.ev_str_int, R.ev_str_str, R.ev_list_lst, R.ev_list_tup, R.ev_tup_lst, R.ev_tup_tup, R.ev_fmt_str, R.ev_fmt_int, R.ev_sl_lst, R.ev_sl_tup, R.ev_sl_scr, R.ev_split, R.ev_join, R.ev_tru_bl, R.ev_tru_int, R.ev_tru_non, R.ev_tru_lst, R.ev_tru_tup, R.ev_avRVs_nil, R.ev_avRVs_pl, R.ev_avRVs_rv, R.ev_share_pl, R.ev_share_N, R.ev_share_Z, R.ev_share_B, R.ev_lent_pl, R.ev_lent_N, R.ev_lent_Z, R.ev_lent_B, R.ev_fin_ret, R.ev_fin_next, R.ev_io_t, R.ev_io_f, R.ev_jGo_nil, R.ev_jGo_cons, R.ev_isi, R.ev_hold_t, R.ev_hold_fint, R.ev_hold_fstr, R.ev_hold_ftup, R.ev_hold_fbl, R.ev_settle_int, R.ev_settle_str, R.ev_settle_tup, R.ev_settle_bl, R.ev_settle_non, R.ev_share_int, R.ev_share_str, R.ev_share_tup, R.ev_lent_int, R.ev_lent_str, R.ev_lent_tup, R.hmd], rfl, by simp [R.ev_mC, R.ev_mVar, R.ev_mVarZ, R.ev_mOp, R.ev_mOpV, R.ev_mUn, R.ev_mANil, R.ev_mACons, R.ev_mTup, R.ev_mLst, R.ev_mNoPart, R.ev_mPart, R.ev_mSl, R.ev_tTrue, R.ev_tBool, R.ev_mCh, R.ev_tAndM, R.ev_tOrM, R.ev_tNotM, R.ev_mIfE, R.ev_mAndV, R.ev_mOrV, R.ev_mNotV, R.ev_cNil, R.ev_cPl, R.ev_cRv, R.ev_mBlt, R.ev_mM1, R.ev_mCall, R.ev_mNext, R.ev_mSeq, R.ev_mFl, R.ev_mDrop, R.ev_mRet, R.ev_mRetV, R.ev_mIfS, R.ev_mAsg, R.ev_mAug, R.ev_mSetP, R.ev_mLM, R.ev_iAnyM, R.ev_iRng1M, R.ev_iRng2M, R.ev_iEn1M, R.ev_iEnM, R.ev_iZipM, R.ev_mFor, R.ev_mLc, R.ev_mJoined, R.ev_slotRV, R.ev_frzSl, R.ev_relSl, R.ev_setSl, R.ev_lend, R.ev_setT_nm, R.ev_setT_tp, R.ev_setTs_nil, R.ev_setTs_cons, R.ev_hold_N, R.ev_hold_Z, R.ev_hold_B, R.ev_settle_N, R.ev_settle_Z, R.ev_settle_B, R.ev_isLst_lst, R.ev_isLst_tup, R.ev_isLst_int, R.ev_isLst_bl, R.ev_isLst_str, R.ev_isLst_non, R.ev_isLst_scr, R.ev_idx_lst, R.ev_idx_tup, R.ev_idx_scr, R.ev_idx_str, R.ev_neg, R.ev_add_int, R.ev_sub_int, R.ev_mul_int, R.ev_div_int, R.ev_mod_int, R.ev_pow_int, R.ev_add_str, R.ev_add_tup, R.ev_add_lst, R.ev_eq_int, R.ev_ne_int, R.ev_eq_str, R.ev_ne_str, R.ev_lt, R.ev_le, R.ev_gt, R.ev_ge, R.ev_is, R.ev_isNot, R.ev_none_tup, R.ev_none_lst, R.ev_none_int, R.ev_none_str, R.ev_none_non, R.ev_len_lst, R.ev_len_tup, R.ev_len_scr, R.ev_len_str, R.ev_abs, R.ev_int1, R.ev_str_int, R.ev_str_str, R.ev_list_lst, R.ev_list_tup, R.ev_tup_lst, R.ev_tup_tup, R.ev_fmt_str, R.ev_fmt_int, R.ev_sl_lst, R.ev_sl_tup, R.ev_sl_scr, R.ev_split, R.ev_join, R.ev_tru_bl, R.ev_tru_int, R.ev_tru_non, R.ev_tru_lst, R.ev_tru_tup, R.ev_avRVs_nil, R.ev_avRVs_pl, R.ev_avRVs_rv, R.ev_share_pl, R.ev_share_N, R.ev_share_Z, R.ev_share_B, R.ev_lent_pl, R.ev_lent_N, R.ev_lent_Z, R.ev_lent_B, R.ev_fin_ret, R.ev_fin_next, R.ev_io_t, R.ev_io_f, R.ev_jGo_nil, R.ev_jGo_cons, R.ev_isi, R.ev_hold_t, R.ev_hold_fint, R.ev_hold_fstr, R.ev_hold_ftup, R.ev_hold_fbl, R.ev_settle_int, R.ev_settle_str, R.ev_settle_tup, R.ev_settle_bl, R.ev_settle_non, R.ev_share_int, R.ev_share_str, R.ev_share_tup, R.ev_lent_int, R.ev_lent_str, R.ev_lent_tup, R.hmd, h], rfl, by simp [okW], by unfold pick; rw [if_pos h], rfl⟩
    · have ha : ∀ md md', fIdx ⟨md, imD es⟩ ⟨md', .int b⟩ = some ⟨.Z, .int (es.getD b.toNat 0)⟩ := fun md md' => by
        show (L2.atI (es.map R.D.int) b).map _ = _
        rw [at_im he (by omega) b1]; rfl
      exact ⟨[.frz (imD os), .frz (imD es), .frz (.int b)], [.frz (imD os), .frz (imD es), .frz (.int b)], ⟨.Z, .int (es.getD b.toNat 0)⟩, [.frz (imD os), .frz (imD es), .frz (.int b)], ⟨.Z, .int (es.getD b.toNat 0)⟩, by simp [R.ev_mC, R.ev_mVar, R.ev_mVarZ, R.ev_mOp, R.ev_mOpV, R.ev_mUn, R.ev_mANil, R.ev_mACons, R.ev_mTup, R.ev_mLst, R.ev_mNoPart, R.ev_mPart, R.ev_mSl, R.ev_tTrue, R.ev_tBool, R.ev_mCh, R.ev_tAndM, R.ev_tOrM, R.ev_tNotM, R.ev_mIfE, R.ev_mAndV, R.ev_mOrV, R.ev_mNotV, R.ev_cNil, R.ev_cPl, R.ev_cRv, R.ev_mBlt, R.ev_mM1, R.ev_mCall, R.ev_mNext, R.ev_mSeq, R.ev_mFl, R.ev_mDrop, R.ev_mRet, R.ev_mRetV, R.ev_mIfS, R.ev_mAsg, R.ev_mAug, R.ev_mSetP, R.ev_mLM, R.ev_iAnyM, R.ev_iRng1M, R.ev_iRng2M, R.ev_iEn1M, R.ev_iEnM, R.ev_iZipM, R.ev_mFor, R.ev_mLc, R.ev_mJoined, R.ev_slotRV, R.ev_frzSl, R.ev_relSl, R.ev_setSl, R.ev_lend, R.ev_setT_nm, R.ev_setT_tp, R.ev_setTs_nil, R.ev_setTs_cons, R.ev_hold_N, R.ev_hold_Z, R.ev_hold_B, R.ev_settle_N, R.ev_settle_Z, R.ev_settle_B, R.ev_isLst_lst, R.ev_isLst_tup, R.ev_isLst_int, R.ev_isLst_bl, R.ev_isLst_str, R.ev_isLst_non, R.ev_isLst_scr, R.ev_idx_lst, R.ev_idx_tup, R.ev_idx_scr, R.ev_idx_str, R.ev_neg, R.ev_add_int, R.ev_sub_int, R.ev_mul_int, R.ev_div_int, R.ev_mod_int, R.ev_pow_int, R.ev_add_str, R.ev_add_tup, R.ev_add_lst, R.ev_eq_int, R.ev_ne_int, R.ev_eq_str, R.ev_ne_str, R.ev_lt, R.ev_le, R.ev_gt, R.ev_ge, R.ev_is, R.ev_isNot, R.ev_none_tup, R.ev_none_lst, R.ev_none_int, R.ev_none_str, R.ev_none_non, R.ev_len_lst, R.ev_len_tup, R.ev_len_scr, R.ev_len_str, R.ev_abs, R.ev_int1, R.ev_str_int, R.ev_str_str, R.ev_list_lst, R.ev_list_tup, R.ev_tup_lst, R.ev_tup_tup, R.ev_fmt_str, R.ev_fmt_int, R.ev_sl_lst, R.ev_sl_tup, R.ev_sl_scr, R.ev_split, R.ev_join, R.ev_tru_bl, R.ev_tru_int, R.ev_tru_non, R.ev_tru_lst, R.ev_tru_tup, R.ev_avRVs_nil, R.ev_avRVs_pl, R.ev_avRVs_rv, R.ev_share_pl, R.ev_share_N, R.ev_share_Z, R.ev_share_B, R.ev_lent_pl, R.ev_lent_N, R.ev_lent_Z, R.ev_lent_B, R.ev_fin_ret, R.ev_fin_next, R.ev_io_t, R.ev_io_f, R.ev_jGo_nil, R.ev_jGo_cons, R.ev_isi, R.ev_hold_t, R.ev_hold_fint, R.ev_hold_fstr, R.ev_hold_ftup, R.ev_hold_fbl, R.ev_settle_int, R.ev_settle_str, R.ev_settle_tup, R.ev_settle_bl, R.ev_settle_non, R.ev_share_int, R.ev_share_str, R.ev_share_tup, R.ev_lent_int, R.ev_lent_str, R.ev_lent_tup, R.hmd], rfl, by simp [R.ev_mC, R.ev_mVar, R.ev_mVarZ, R.ev_mOp, R.ev_mOpV, R.ev_mUn, R.ev_mANil, R.ev_mACons, R.ev_mTup, R.ev_mLst, R.ev_mNoPart, R.ev_mPart, R.ev_mSl, R.ev_tTrue, R.ev_tBool, R.ev_mCh, R.ev_tAndM, R.ev_tOrM, R.ev_tNotM, R.ev_mIfE, R.ev_mAndV, R.ev_mOrV, R.ev_mNotV, R.ev_cNil, R.ev_cPl, R.ev_cRv, R.ev_mBlt, R.ev_mM1, R.ev_mCall, R.ev_mNext, R.ev_mSeq, R.ev_mFl, R.ev_mDrop, R.ev_mRet, R.ev_mRetV, R.ev_mIfS, R.ev_mAsg, R.ev_mAug, R.ev_mSetP, R.ev_mLM, R.ev_iAnyM, R.ev_iRng1M, R.ev_iRng2M, R.ev_iEn1M, R.ev_iEnM, R.ev_iZipM, R.ev_mFor, R.ev_mLc, R.ev_mJoined, R.ev_slotRV, R.ev_frzSl, R.ev_relSl, R.ev_setSl, R.ev_lend, R.ev_setT_nm, R.ev_setT_tp, R.ev_setTs_nil, R.ev_setTs_cons, R.ev_hold_N, R.ev_hold_Z, R.ev_hold_B, R.ev_settle_N, R.ev_settle_Z, R.ev_settle_B, R.ev_isLst_lst, R.ev_isLst_tup, R.ev_isLst_int, R.ev_isLst_bl, R.ev_isLst_str, R.ev_isLst_non, R.ev_isLst_scr, R.ev_idx_lst, R.ev_idx_tup, R.ev_idx_scr, R.ev_idx_str, R.ev_neg, R.ev_add_int, R.ev_sub_int, R.ev_mul_int, R.ev_div_int, R.ev_mod_int, R.ev_pow_int, R.ev_add_str, R.ev_add_tup, R.ev_add_lst, R.ev_eq_int, R.ev_ne_int, R.ev_eq_str, R.ev_ne_str, R.ev_lt, R.ev_le, R.ev_gt, R.ev_ge, R.ev_is, R.ev_isNot, R.ev_none_tup, R.ev_none_lst, R.ev_none_int, R.ev_none_str, R.ev_none_non, R.ev_len_lst, R.ev_len_tup, R.ev_len_scr, R.ev_len_str, R.ev_abs, R.ev_int1, R.ev_str_int, R.ev_str_str, R.ev_list_lst, R.ev_list_tup, R.ev_tup_lst, R.ev_tup_tup, R.ev_fmt_str, R.ev_fmt_int, R.ev_sl_lst, R.ev_sl_tup, R.ev_sl_scr, R.ev_split, R.ev_join, R.ev_tru_bl, R.ev_tru_int, R.ev_tru_non, R.ev_tru_lst, R.ev_tru_tup, R.ev_avRVs_nil, R.ev_avRVs_pl, R.ev_avRVs_rv, R.ev_share_pl, R.ev_share_N, R.ev_share_Z, R.ev_share_B, R.ev_lent_pl, R.ev_lent_N, R.ev_lent_Z, R.ev_lent_B, R.ev_fin_ret, R.ev_fin_next, R.ev_io_t, R.ev_io_f, R.ev_jGo_nil, R.ev_jGo_cons, R.ev_isi, R.ev_hold_t, R.ev_hold_fint, R.ev_hold_fstr, R.ev_hold_ftup, R.ev_hold_fbl, R.ev_settle_int, R.ev_settle_str, R.ev_settle_tup, R.ev_settle_bl, R.ev_settle_non, R.ev_share_int, R.ev_share_str, R.ev_share_tup, R.ev_lent_int, R.ev_lent_str, R.ev_lent_tup, R.hmd, h, ha], rfl, by simp [okW], by unfold pick; rw [if_neg h], rfl⟩)
  have hi : itemsOf (imD os) = some (os.map R.D.int) := rfl
  have se : R.settle ⟨.Z, imD os⟩ = some ⟨.Z, imD os⟩ := rfl
  have hl : lenOk os.length = true := lenOk_of (by have := hs.1; omega)
  have ow : okW [.frz (imD os), .frz (imD es), .un] [2] = true := rfl
  have ws : wipeS [.frz (imD os), .frz (imD es), .un] [2] = [.frz (imD os), .frz (imD es), .un] := rfl
  simp [R.ev_mC, R.ev_mVar, R.ev_mVarZ, R.ev_mOp, R.ev_mOpV, R.ev_mUn, R.ev_mANil, R.ev_mACons, R.ev_mTup, R.ev_mLst, R.ev_mNoPart, R.ev_mPart, R.ev_mSl, R.ev_tTrue, R.ev_tBool, R.ev_mCh, R.ev_tAndM, R.ev_tOrM, R.ev_tNotM, R.ev_mIfE, R.ev_mAndV, R.ev_mOrV, R.ev_mNotV, R.ev_cNil, R.ev_cPl, R.ev_cRv, R.ev_mBlt, R.ev_mM1, R.ev_mCall, R.ev_mNext, R.ev_mSeq, R.ev_mFl, R.ev_mDrop, R.ev_mRet, R.ev_mRetV, R.ev_mIfS, R.ev_mAsg, R.ev_mAug, R.ev_mSetP, R.ev_mLM, R.ev_iAnyM, R.ev_iRng1M, R.ev_iRng2M, R.ev_iEn1M, R.ev_iEnM, R.ev_iZipM, R.ev_mFor, R.ev_mLc, R.ev_mJoined, R.ev_slotRV, R.ev_frzSl, R.ev_relSl, R.ev_setSl, R.ev_lend, R.ev_setT_nm, R.ev_setT_tp, R.ev_setTs_nil, R.ev_setTs_cons, R.ev_hold_N, R.ev_hold_Z, R.ev_hold_B, R.ev_settle_N, R.ev_settle_Z, R.ev_settle_B, R.ev_isLst_lst, R.ev_isLst_tup, R.ev_isLst_int, R.ev_isLst_bl, R.ev_isLst_str, R.ev_isLst_non, R.ev_isLst_scr, R.ev_idx_lst, R.ev_idx_tup, R.ev_idx_scr, R.ev_idx_str, R.ev_neg, R.ev_add_int, R.ev_sub_int, R.ev_mul_int, R.ev_div_int, R.ev_mod_int, R.ev_pow_int, R.ev_add_str, R.ev_add_tup, R.ev_add_lst, R.ev_eq_int, R.ev_ne_int, R.ev_eq_str, R.ev_ne_str, R.ev_lt, R.ev_le, R.ev_gt, R.ev_ge, R.ev_is, R.ev_isNot, R.ev_none_tup, R.ev_none_lst, R.ev_none_int, R.ev_none_str, R.ev_none_non, R.ev_len_lst, R.ev_len_tup, R.ev_len_scr, R.ev_len_str, R.ev_abs, R.ev_int1, R.ev_str_int, R.ev_str_str, R.ev_list_lst, R.ev_list_tup, R.ev_tup_lst, R.ev_tup_tup, R.ev_fmt_str, R.ev_fmt_int, R.ev_sl_lst, R.ev_sl_tup, R.ev_sl_scr, R.ev_split, R.ev_join, R.ev_tru_bl, R.ev_tru_int, R.ev_tru_non, R.ev_tru_lst, R.ev_tru_tup, R.ev_avRVs_nil, R.ev_avRVs_pl, R.ev_avRVs_rv, R.ev_share_pl, R.ev_share_N, R.ev_share_Z, R.ev_share_B, R.ev_lent_pl, R.ev_lent_N, R.ev_lent_Z, R.ev_lent_B, R.ev_fin_ret, R.ev_fin_next, R.ev_io_t, R.ev_io_f, R.ev_jGo_nil, R.ev_jGo_cons, R.ev_isi, R.ev_hold_t, R.ev_hold_fint, R.ev_hold_fstr, R.ev_hold_ftup, R.ev_hold_fbl, R.ev_settle_int, R.ev_settle_str, R.ev_settle_tup, R.ev_settle_bl, R.ev_settle_non, R.ev_share_int, R.ev_share_str, R.ev_share_tup, R.ev_lent_int, R.ev_lent_str, R.ev_lent_tup, R.hmd, hi, se, lc, hl, ow, ws]
  unfold imD
  rw [List.map_map]; rfl
theorem view_len (es : List Int) : (view es).length = es.length := List.length_map _
theorem apply_line {n : Nat} {w : List Nat} {t o : Int} {g : List Nat} {es : List Int} (r : RowL n w t o g) (hi : ImOk es) (he : es.length = n) : g_apply_line [rowD w t o g, imD es] = .ret .N (imD ((srcL w t o g (view es)).map (pick es))) none := by
  have st : g_apply_line [rowD w t o g, imD es] = fin false (m_apply_line [.frz (rowD w t o g), .frz (imD es)]) := rfl
  rw [st]
  unfold m_apply_line
  have hn : n ≤ 12 := by have := hi.1.2; omega
  obtain ⟨md, hl⟩ := look es hi
  have hs := sources (v := view es) r (by rw [view_len, he]) hn
  have hf := image_from (es := es) (src_ok (v := view es) r (by rw [view_len, he])) he hn
  have a1 : isLst (imD es) = false := rfl
  have a2 : isLst (rowD w t o g) = false := rfl
  have a3 : ∀ md, apart md (txD (view es)) = true := fun md => ap_str md _
  have a4 : ∀ md l, apart md (imD l) = true := fun md l => ap_ints md l
  have a5 : ∀ q md l, hold q ⟨md, imD l⟩ = some ⟨hmd q md, imD l⟩ := fun q md l => R.ev_hold_ftup
  have a6 : ∀ q md l, hold q ⟨md, txD l⟩ = some ⟨hmd q md, txD l⟩ := fun q md l => R.ev_hold_fstr
  have a7 : ∀ S md l, shareOk S (.rv ⟨md, txD l⟩) = true := fun S md l => R.ev_share_str
  have a8 : ∀ S md l, shareOk S (.rv ⟨md, imD l⟩) = true := fun S md l => R.ev_share_tup
  have a9 : ∀ md l, R.settle ⟨md, imD l⟩ = some ⟨hmd false md, imD l⟩ := fun md l => R.ev_settle_tup
  simp [R.ev_mC, R.ev_mVar, R.ev_mVarZ, R.ev_mOp, R.ev_mOpV, R.ev_mUn, R.ev_mANil, R.ev_mACons, R.ev_mTup, R.ev_mLst, R.ev_mNoPart, R.ev_mPart, R.ev_mSl, R.ev_tTrue, R.ev_tBool, R.ev_mCh, R.ev_tAndM, R.ev_tOrM, R.ev_tNotM, R.ev_mIfE, R.ev_mAndV, R.ev_mOrV, R.ev_mNotV, R.ev_cNil, R.ev_cPl, R.ev_cRv, R.ev_mBlt, R.ev_mM1, R.ev_mCall, R.ev_mNext, R.ev_mSeq, R.ev_mFl, R.ev_mDrop, R.ev_mRet, R.ev_mRetV, R.ev_mIfS, R.ev_mAsg, R.ev_mAug, R.ev_mSetP, R.ev_mLM, R.ev_iAnyM, R.ev_iRng1M, R.ev_iRng2M, R.ev_iEn1M, R.ev_iEnM, R.ev_iZipM, R.ev_mFor, R.ev_mLc, R.ev_mJoined, R.ev_slotRV, R.ev_frzSl, R.ev_relSl, R.ev_setSl, R.ev_lend, R.ev_setT_nm, R.ev_setT_tp, R.ev_setTs_nil, R.ev_setTs_cons, R.ev_hold_N, R.ev_hold_Z, R.ev_hold_B, R.ev_settle_N, R.ev_settle_Z, R.ev_settle_B, R.ev_isLst_lst, R.ev_isLst_tup, R.ev_isLst_int, R.ev_isLst_bl, R.ev_isLst_str, R.ev_isLst_non, R.ev_isLst_scr, R.ev_idx_lst, R.ev_idx_tup, R.ev_idx_scr, R.ev_idx_str, R.ev_neg, R.ev_add_int, R.ev_sub_int, R.ev_mul_int, R.ev_div_int, R.ev_mod_int, R.ev_pow_int, R.ev_add_str, R.ev_add_tup, R.ev_add_lst, R.ev_eq_int, R.ev_ne_int, R.ev_eq_str, R.ev_ne_str, R.ev_lt, R.ev_le, R.ev_gt, R.ev_ge, R.ev_is, R.ev_isNot, R.ev_none_tup, R.ev_none_lst, R.ev_none_int, R.ev_none_str, R.ev_none_non, R.ev_len_lst, R.ev_len_tup, R.ev_len_scr, R.ev_len_str, R.ev_abs, R.ev_int1, R.ev_str_int, R.ev_str_str, R.ev_list_lst, R.ev_list_tup, R.ev_tup_lst, R.ev_tup_tup, R.ev_fmt_str, R.ev_fmt_int, R.ev_sl_lst, R.ev_sl_tup, R.ev_sl_scr, R.ev_split, R.ev_join, R.ev_tru_bl, R.ev_tru_int, R.ev_tru_non, R.ev_tru_lst, R.ev_tru_tup, R.ev_avRVs_nil, R.ev_avRVs_pl, R.ev_avRVs_rv, R.ev_share_pl, R.ev_share_N, R.ev_share_Z, R.ev_share_B, R.ev_lent_pl, R.ev_lent_N, R.ev_lent_Z, R.ev_lent_B, R.ev_fin_ret, R.ev_fin_next, R.ev_io_t, R.ev_io_f, R.ev_jGo_nil, R.ev_jGo_cons, R.ev_isi, R.ev_hold_t, R.ev_hold_fint, R.ev_hold_fstr, R.ev_hold_ftup, R.ev_hold_fbl, R.ev_settle_int, R.ev_settle_str, R.ev_settle_tup, R.ev_settle_bl, R.ev_settle_non, R.ev_share_int, R.ev_share_str, R.ev_share_tup, R.ev_lent_int, R.ev_lent_str, R.ev_lent_tup, R.hmd, hl, hs, hf, a1, a2, a3, a4, a5, a6, a7, a8, a9]
theorem look_after {n : Nat} {w : List Nat} {t o : Int} {g v : List Nat} (r : RowL n w t o g) (hv : v.length = n) (hn : n ≤ 12) : g_look_after [rowD w t o g, txD v] = .ret .N (txD ((srcL w t o g v).map (pickV v))) none := by
  have st : g_look_after [rowD w t o g, txD v] = fin false (m_look_after [.frz (rowD w t o g), .frz (txD v), .un]) := rfl
  rw [st]
  unfold m_look_after
  have hs := sources r hv hn
  have hk := src_ok r hv
  generalize srcL w t o g v = os at hs hk ⊢
  have lc := lcGo_map (vs := [2]) (tg := .nm 2) (mt := fun S => .ok true S) (me := mIfE (tBool (mOpV 2 (cop .Eq) (mC (.int (-1))))) (mC (.str ".")) (mOpV 1 fIdx (mVar 2))) (fun b : Int => txD [pickV v b]) R.D.int [.frz (rowD w t o g), .frz (txD v), .un] os (fun b hb => by
    obtain ⟨b0, b1⟩ := hk.2 b hb
    by_cases h : b = -1
    · exact ⟨[.frz (rowD w t o g), .frz (txD v), .frz (.int b)], [.frz (rowD w t o g), .frz (txD v), .frz (.int b)], ⟨.N, txD [46]⟩, [.frz (rowD w t o g), .frz (txD v), .frz (.int b)], ⟨.N, txD [46]⟩, by simp [R.ev_mC, R.ev_mVar, R.ev_mVarZ, R.ev_mOp, R.ev_mOpV, R.ev_mUn, R.ev_mANil, R.ev_mACons, R.ev_mTup, R.ev_mLst, R.ev_mNoPart, R.ev_mPart, R.ev_mSl, R.ev_tTrue, R.ev_tBool, R.ev_mCh, R.ev_tAndM, R.ev_tOrM, R.ev_tNotM, R.ev_mIfE, R.ev_mAndV, R.ev_mOrV, R.ev_mNotV, R.ev_cNil, R.ev_cPl, R.ev_cRv, R.ev_mBlt, R.ev_mM1, R.ev_mCall, R.ev_mNext, R.ev_mSeq, R.ev_mFl, R.ev_mDrop, R.ev_mRet, R.ev_mRetV, R.ev_mIfS, R.ev_mAsg, R.ev_mAug, R.ev_mSetP, R.ev_mLM, R.ev_iAnyM, R.ev_iRng1M, R.ev_iRng2M, R.ev_iEn1M, R.ev_iEnM, R.ev_iZipM, R.ev_mFor, R.ev_mLc, R.ev_mJoined, R.ev_slotRV, R.ev_frzSl, R.ev_relSl, R.ev_setSl, R.ev_lend, R.ev_setT_nm, R.ev_setT_tp, R.ev_setTs_nil, R.ev_setTs_cons, R.ev_hold_N, R.ev_hold_Z, R.ev_hold_B, R.ev_settle_N, R.ev_settle_Z, R.ev_settle_B, R.ev_isLst_lst, R.ev_isLst_tup, R.ev_isLst_int, R.ev_isLst_bl, R.ev_isLst_str, R.ev_isLst_non, R.ev_isLst_scr, R.ev_idx_lst, R.ev_idx_tup, R.ev_idx_scr, R.ev_idx_str, R.ev_neg, R.ev_add_int, R.ev_sub_int, R.ev_mul_int, R.ev_div_int, R.ev_mod_int, R.ev_pow_int, R.ev_add_str, R.ev_add_tup, R.ev_add_lst, R.ev_eq_int, R.ev_ne_int, R.ev_eq_str, R.ev_ne_str, R.ev_lt, R.ev_le, R.ev_gt, R.ev_ge, R.ev_is, R.ev_isNot, R.ev_none_tup, R.ev_none_lst, R.ev_none_int, R.ev_none_str, R.ev_none_non, R.ev_len_lst, R.ev_len_tup, R.ev_len_scr, R.ev_len_str, R.ev_abs, R.ev_int1, R.ev_str_int, R.ev_str_str, R.ev_list_lst, R.ev_list_tup, R.ev_tup_lst, R.ev_tup_tup, R.ev_fmt_str, R.ev_fmt_int, R.ev_sl_lst, R.ev_sl_tup, R.ev_sl_scr, R.ev_split, R.ev_join, R.ev_tru_bl, R.ev_tru_int, R.ev_tru_non, R.ev_tru_lst, R.ev_tru_tup, R.ev_avRVs_nil, R.ev_avRVs_pl, R.ev_avRVs_rv, R.ev_share_pl, R.ev_share_N, R.ev_share_Z, R.ev_share_B, R.ev_lent_pl, R.ev_lent_N, R.ev_lent_Z, R.ev_lent_B, R.ev_fin_ret, R.ev_fin_next, R.ev_io_t, R.ev_io_f, R.ev_jGo_nil, R.ev_jGo_cons, R.ev_isi, R.ev_hold_t, R.ev_hold_fint, R.ev_hold_fstr, R.ev_hold_ftup, R.ev_hold_fbl, R.ev_settle_int, R.ev_settle_str, R.ev_settle_tup, R.ev_settle_bl, R.ev_settle_non, R.ev_share_int, R.ev_share_str, R.ev_share_tup, R.ev_lent_int, R.ev_lent_str, R.ev_lent_tup, R.hmd], rfl, by simp [R.ev_mC, R.ev_mVar, R.ev_mVarZ, R.ev_mOp, R.ev_mOpV, R.ev_mUn, R.ev_mANil, R.ev_mACons, R.ev_mTup, R.ev_mLst, R.ev_mNoPart, R.ev_mPart, R.ev_mSl, R.ev_tTrue, R.ev_tBool, R.ev_mCh, R.ev_tAndM, R.ev_tOrM, R.ev_tNotM, R.ev_mIfE, R.ev_mAndV, R.ev_mOrV, R.ev_mNotV, R.ev_cNil, R.ev_cPl, R.ev_cRv, R.ev_mBlt, R.ev_mM1, R.ev_mCall, R.ev_mNext, R.ev_mSeq, R.ev_mFl, R.ev_mDrop, R.ev_mRet, R.ev_mRetV, R.ev_mIfS, R.ev_mAsg, R.ev_mAug, R.ev_mSetP, R.ev_mLM, R.ev_iAnyM, R.ev_iRng1M, R.ev_iRng2M, R.ev_iEn1M, R.ev_iEnM, R.ev_iZipM, R.ev_mFor, R.ev_mLc, R.ev_mJoined, R.ev_slotRV, R.ev_frzSl, R.ev_relSl, R.ev_setSl, R.ev_lend, R.ev_setT_nm, R.ev_setT_tp, R.ev_setTs_nil, R.ev_setTs_cons, R.ev_hold_N, R.ev_hold_Z, R.ev_hold_B, R.ev_settle_N, R.ev_settle_Z, R.ev_settle_B, R.ev_isLst_lst, R.ev_isLst_tup, R.ev_isLst_int, R.ev_isLst_bl, R.ev_isLst_str, R.ev_isLst_non, R.ev_isLst_scr, R.ev_idx_lst, R.ev_idx_tup, R.ev_idx_scr, R.ev_idx_str, R.ev_neg, R.ev_add_int, R.ev_sub_int, R.ev_mul_int, R.ev_div_int, R.ev_mod_int, R.ev_pow_int, R.ev_add_str, R.ev_add_tup, R.ev_add_lst, R.ev_eq_int, R.ev_ne_int, R.ev_eq_str, R.ev_ne_str, R.ev_lt, R.ev_le, R.ev_gt, R.ev_ge, R.ev_is, R.ev_isNot, R.ev_none_tup, R.ev_none_lst, R.ev_none_int, R.ev_none_str, R.ev_none_non, R.ev_len_lst, R.ev_len_tup, R.ev_len_scr, R.ev_len_str, R.ev_abs, R.ev_int1, R.ev_str_int, R.ev_str_str, R.ev_list_lst, R.ev_list_tup, R.ev_tup_lst, R.ev_tup_tup, R.ev_fmt_str, R.ev_fmt_int, R.ev_sl_lst, R.ev_sl_tup, R.ev_sl_scr, R.ev_split, R.ev_join, R.ev_tru_bl, R.ev_tru_int, R.ev_tru_non, R.ev_tru_lst, R.ev_tru_tup, R.ev_avRVs_nil, R.ev_avRVs_pl, R.ev_avRVs_rv, R.ev_share_pl, R.ev_share_N, R.ev_share_Z, R.ev_share_B, R.ev_lent_pl, R.ev_lent_N, R.ev_lent_Z, R.ev_lent_B, R.ev_fin_ret, R.ev_fin_next, R.ev_io_t, R.ev_io_f, R.ev_jGo_nil, R.ev_jGo_cons, R.ev_isi, R.ev_hold_t, R.ev_hold_fint, R.ev_hold_fstr, R.ev_hold_ftup, R.ev_hold_fbl, R.ev_settle_int, R.ev_settle_str, R.ev_settle_tup, R.ev_settle_bl, R.ev_settle_non, R.ev_share_int, R.ev_share_str, R.ev_share_tup, R.ev_lent_int, R.ev_lent_str, R.ev_lent_tup, R.hmd, h, sDot, txD], rfl, by simp [okW], by unfold pickV; rw [if_pos h], rfl⟩
    · have ha := fun md md' => at_tx hv hn (show 0 ≤ b by omega) b1 md md'
      exact ⟨[.frz (rowD w t o g), .frz (txD v), .frz (.int b)], [.frz (rowD w t o g), .frz (txD v), .frz (.int b)], ⟨.N, txD [v.getD b.toNat 0]⟩, [.frz (rowD w t o g), .frz (txD v), .frz (.int b)], ⟨.N, txD [v.getD b.toNat 0]⟩, by simp [R.ev_mC, R.ev_mVar, R.ev_mVarZ, R.ev_mOp, R.ev_mOpV, R.ev_mUn, R.ev_mANil, R.ev_mACons, R.ev_mTup, R.ev_mLst, R.ev_mNoPart, R.ev_mPart, R.ev_mSl, R.ev_tTrue, R.ev_tBool, R.ev_mCh, R.ev_tAndM, R.ev_tOrM, R.ev_tNotM, R.ev_mIfE, R.ev_mAndV, R.ev_mOrV, R.ev_mNotV, R.ev_cNil, R.ev_cPl, R.ev_cRv, R.ev_mBlt, R.ev_mM1, R.ev_mCall, R.ev_mNext, R.ev_mSeq, R.ev_mFl, R.ev_mDrop, R.ev_mRet, R.ev_mRetV, R.ev_mIfS, R.ev_mAsg, R.ev_mAug, R.ev_mSetP, R.ev_mLM, R.ev_iAnyM, R.ev_iRng1M, R.ev_iRng2M, R.ev_iEn1M, R.ev_iEnM, R.ev_iZipM, R.ev_mFor, R.ev_mLc, R.ev_mJoined, R.ev_slotRV, R.ev_frzSl, R.ev_relSl, R.ev_setSl, R.ev_lend, R.ev_setT_nm, R.ev_setT_tp, R.ev_setTs_nil, R.ev_setTs_cons, R.ev_hold_N, R.ev_hold_Z, R.ev_hold_B, R.ev_settle_N, R.ev_settle_Z, R.ev_settle_B, R.ev_isLst_lst, R.ev_isLst_tup, R.ev_isLst_int, R.ev_isLst_bl, R.ev_isLst_str, R.ev_isLst_non, R.ev_isLst_scr, R.ev_idx_lst, R.ev_idx_tup, R.ev_idx_scr, R.ev_idx_str, R.ev_neg, R.ev_add_int, R.ev_sub_int, R.ev_mul_int, R.ev_div_int, R.ev_mod_int, R.ev_pow_int, R.ev_add_str, R.ev_add_tup, R.ev_add_lst, R.ev_eq_int, R.ev_ne_int, R.ev_eq_str, R.ev_ne_str, R.ev_lt, R.ev_le, R.ev_gt, R.ev_ge, R.ev_is, R.ev_isNot, R.ev_none_tup, R.ev_none_lst, R.ev_none_int, R.ev_none_str, R.ev_none_non, R.ev_len_lst, R.ev_len_tup, R.ev_len_scr, R.ev_len_str, R.ev_abs, R.ev_int1, R.ev_str_int, R.ev_str_str, R.ev_list_lst, R.ev_list_tup, R.ev_tup_lst, R.ev_tup_tup, R.ev_fmt_str, R.ev_fmt_int, R.ev_sl_lst, R.ev_sl_tup, R.ev_sl_scr, R.ev_split, R.ev_join, R.ev_tru_bl, R.ev_tru_int, R.ev_tru_non, R.ev_tru_lst, R.ev_tru_tup, R.ev_avRVs_nil, R.ev_avRVs_pl, R.ev_avRVs_rv, R.ev_share_pl, R.ev_share_N, R.ev_share_Z, R.ev_share_B, R.ev_lent_pl, R.ev_lent_N, R.ev_lent_Z, R.ev_lent_B, R.ev_fin_ret, R.ev_fin_next, R.ev_io_t, R.ev_io_f, R.ev_jGo_nil, R.ev_jGo_cons, R.ev_isi, R.ev_hold_t, R.ev_hold_fint, R.ev_hold_fstr, R.ev_hold_ftup, R.ev_hold_fbl, R.ev_settle_int, R.ev_settle_str, R.ev_settle_tup, R.ev_settle_bl, R.ev_settle_non, R.ev_share_int, R.ev_share_str, R.ev_share_tup, R.ev_lent_int, R.ev_lent_str, R.ev_lent_tup, R.hmd], rfl, by simp [R.ev_mC, R.ev_mVar, R.ev_mVarZ, R.ev_mOp, R.ev_mOpV, R.ev_mUn, R.ev_mANil, R.ev_mACons, R.ev_mTup, R.ev_mLst, R.ev_mNoPart, R.ev_mPart, R.ev_mSl, R.ev_tTrue, R.ev_tBool, R.ev_mCh, R.ev_tAndM, R.ev_tOrM, R.ev_tNotM, R.ev_mIfE, R.ev_mAndV, R.ev_mOrV, R.ev_mNotV, R.ev_cNil, R.ev_cPl, R.ev_cRv, R.ev_mBlt, R.ev_mM1, R.ev_mCall, R.ev_mNext, R.ev_mSeq, R.ev_mFl, R.ev_mDrop, R.ev_mRet, R.ev_mRetV, R.ev_mIfS, R.ev_mAsg, R.ev_mAug, R.ev_mSetP, R.ev_mLM, R.ev_iAnyM, R.ev_iRng1M, R.ev_iRng2M, R.ev_iEn1M, R.ev_iEnM, R.ev_iZipM, R.ev_mFor, R.ev_mLc, R.ev_mJoined, R.ev_slotRV, R.ev_frzSl, R.ev_relSl, R.ev_setSl, R.ev_lend, R.ev_setT_nm, R.ev_setT_tp, R.ev_setTs_nil, R.ev_setTs_cons, R.ev_hold_N, R.ev_hold_Z, R.ev_hold_B, R.ev_settle_N, R.ev_settle_Z, R.ev_settle_B, R.ev_isLst_lst, R.ev_isLst_tup, R.ev_isLst_int, R.ev_isLst_bl, R.ev_isLst_str, R.ev_isLst_non, R.ev_isLst_scr, R.ev_idx_lst, R.ev_idx_tup, R.ev_idx_scr, R.ev_idx_str, R.ev_neg, R.ev_add_int, R.ev_sub_int, R.ev_mul_int, R.ev_div_int, R.ev_mod_int, R.ev_pow_int, R.ev_add_str, R.ev_add_tup, R.ev_add_lst, R.ev_eq_int, R.ev_ne_int, R.ev_eq_str, R.ev_ne_str, R.ev_lt, R.ev_le, R.ev_gt, R.ev_ge, R.ev_is, R.ev_isNot, R.ev_none_tup, R.ev_none_lst, R.ev_none_int, R.ev_none_str, R.ev_none_non, R.ev_len_lst, R.ev_len_tup, R.ev_len_scr, R.ev_len_str, R.ev_abs, R.ev_int1, R.ev_str_int, R.ev_str_str, R.ev_list_lst, R.ev_list_tup, R.ev_tup_lst, R.ev_tup_tup, R.ev_fmt_str, R.ev_fmt_int, R.ev_sl_lst, R.ev_sl_tup, R.ev_sl_scr, R.ev_split, R.ev_join, R.ev_tru_bl, R.ev_tru_int, R.ev_tru_non, R.ev_tru_lst, R.ev_tru_tup, R.ev_avRVs_nil, R.ev_avRVs_pl, R.ev_avRVs_rv, R.ev_share_pl, R.ev_share_N, R.ev_share_Z, R.ev_share_B, R.ev_lent_pl, R.ev_lent_N, R.ev_lent_Z, R.ev_lent_B, R.ev_fin_ret, R.ev_fin_next, R.ev_io_t, R.ev_io_f, R.ev_jGo_nil, R.ev_jGo_cons, R.ev_isi, R.ev_hold_t, R.ev_hold_fint, R.ev_hold_fstr, R.ev_hold_ftup, R.ev_hold_fbl, R.ev_settle_int, R.ev_settle_str, R.ev_settle_tup, R.ev_settle_bl, R.ev_settle_non, R.ev_share_int, R.ev_share_str, R.ev_share_tup, R.ev_lent_int, R.ev_lent_str, R.ev_lent_tup, R.hmd, h, ha], rfl, by simp [okW], by unfold pickV; rw [if_neg h], rfl⟩)
  have hi : itemsOf (imD os) = some (os.map R.D.int) := rfl
  have se : ∀ md, R.settle ⟨md, imD os⟩ = some ⟨hmd false md, imD os⟩ := fun md => R.ev_settle_tup
  have hl : lenOk os.length = true := lenOk_of (by have := hk.1; omega)
  have ow : okW [.frz (rowD w t o g), .frz (txD v), .un] [2] = true := rfl
  have ws : wipeS [.frz (rowD w t o g), .frz (txD v), .un] [2] = [.frz (rowD w t o g), .frz (txD v), .un] := rfl
  have j := join_of (fun b : Int => [pickV v b]) os (by rw [flat_map, List.length_map]; have := hk.1; omega)
  rw [flat_map] at j
  have hf : (fun b : Int => R.D.str (SX.S [pickV v b])) = fun b : Int => txD [pickV v b] := rfl
  rw [hf] at j
  have apI : ∀ md, apart md (imD os) = true := fun md => ap_ints md _
  simp [R.ev_mC, R.ev_mVar, R.ev_mVarZ, R.ev_mOp, R.ev_mOpV, R.ev_mUn, R.ev_mANil, R.ev_mACons, R.ev_mTup, R.ev_mLst, R.ev_mNoPart, R.ev_mPart, R.ev_mSl, R.ev_tTrue, R.ev_tBool, R.ev_mCh, R.ev_tAndM, R.ev_tOrM, R.ev_tNotM, R.ev_mIfE, R.ev_mAndV, R.ev_mOrV, R.ev_mNotV, R.ev_cNil, R.ev_cPl, R.ev_cRv, R.ev_mBlt, R.ev_mM1, R.ev_mCall, R.ev_mNext, R.ev_mSeq, R.ev_mFl, R.ev_mDrop, R.ev_mRet, R.ev_mRetV, R.ev_mIfS, R.ev_mAsg, R.ev_mAug, R.ev_mSetP, R.ev_mLM, R.ev_iAnyM, R.ev_iRng1M, R.ev_iRng2M, R.ev_iEn1M, R.ev_iEnM, R.ev_iZipM, R.ev_mFor, R.ev_mLc, R.ev_mJoined, R.ev_slotRV, R.ev_frzSl, R.ev_relSl, R.ev_setSl, R.ev_lend, R.ev_setT_nm, R.ev_setT_tp, R.ev_setTs_nil, R.ev_setTs_cons, R.ev_hold_N, R.ev_hold_Z, R.ev_hold_B, R.ev_settle_N, R.ev_settle_Z, R.ev_settle_B, R.ev_isLst_lst, R.ev_isLst_tup, R.ev_isLst_int, R.ev_isLst_bl, R.ev_isLst_str, R.ev_isLst_non, R.ev_isLst_scr, R.ev_idx_lst, R.ev_idx_tup, R.ev_idx_scr, R.ev_idx_str, R.ev_neg, R.ev_add_int, R.ev_sub_int, R.ev_mul_int, R.ev_div_int, R.ev_mod_int, R.ev_pow_int, R.ev_add_str, R.ev_add_tup, R.ev_add_lst, R.ev_eq_int, R.ev_ne_int, R.ev_eq_str, R.ev_ne_str, R.ev_lt, R.ev_le, R.ev_gt, R.ev_ge, R.ev_is, R.ev_isNot, R.ev_none_tup, R.ev_none_lst, R.ev_none_int, R.ev_none_str, R.ev_none_non, R.ev_len_lst, R.ev_len_tup, R.ev_len_scr, R.ev_len_str, R.ev_abs, R.ev_int1, R.ev_str_int, R.ev_str_str, R.ev_list_lst, R.ev_list_tup, R.ev_tup_lst, R.ev_tup_tup, R.ev_fmt_str, R.ev_fmt_int, R.ev_sl_lst, R.ev_sl_tup, R.ev_sl_scr, R.ev_split, R.ev_tru_bl, R.ev_tru_int, R.ev_tru_non, R.ev_tru_lst, R.ev_tru_tup, R.ev_avRVs_nil, R.ev_avRVs_pl, R.ev_avRVs_rv, R.ev_share_pl, R.ev_share_N, R.ev_share_Z, R.ev_share_B, R.ev_lent_pl, R.ev_lent_N, R.ev_lent_Z, R.ev_lent_B, R.ev_fin_ret, R.ev_fin_next, R.ev_io_t, R.ev_io_f, R.ev_jGo_nil, R.ev_jGo_cons, R.ev_isi, R.ev_hold_t, R.ev_hold_fint, R.ev_hold_fstr, R.ev_hold_ftup, R.ev_hold_fbl, R.ev_settle_int, R.ev_settle_str, R.ev_settle_tup, R.ev_settle_bl, R.ev_settle_non, R.ev_share_int, R.ev_share_str, R.ev_share_tup, R.ev_lent_int, R.ev_lent_str, R.ev_lent_tup, R.hmd, hs, hi, se, lc, hl, ow, ws, sNo, j, apI]
  rfl
end K02

set_option Elab.async false
set_option linter.all false
set_option maxRecDepth 100000
set_option maxHeartbeats 2000000
namespace K02
open PySem PySem.Spec PyProof.Rows L2 R

/-! ### the law's own reading -/
theorem law_view (es : List Int) (h : ImOk es) : g_law_view [imD es] = .ret .N (txD (view es)) none := by
  have st : g_law_view [imD es] = fin false (m_law_view [.frz (imD es), .un]) := rfl
  rw [st]
  unfold m_law_view
  have lc := lcGo_map (vs := [1]) (tg := .nm 1) (mt := fun S => .ok true S) (me := mIfE (tBool (mOpV 1 (cop .Eq) (mUn fNeg (mC (.int 1))))) (mC (.str ".")) (mBlt fStr1 (cRv true (mOpV 1 (bop .FloorDiv) (mC (.int 100))) cNil))) (fun e : Int => txD [sgn e]) R.D.int [.frz (imD es), .un] es (fun e he => by
    obtain ⟨b1, b2⟩ := h.2 e he
    refine ⟨[.frz (imD es), .frz (.int e)], [.frz (imD es), .frz (.int e)], ⟨.N, txD [sgn e]⟩, [.frz (imD es), .frz (.int e)], ⟨.N, txD [sgn e]⟩, by simp [R.ev_mC, R.ev_mVar, R.ev_mVarZ, R.ev_mOp, R.ev_mOpV, R.ev_mUn, R.ev_mANil, R.ev_mACons, R.ev_mTup, R.ev_mLst, R.ev_mNoPart, R.ev_mPart, R.ev_mSl, R.ev_tTrue, R.ev_tBool, R.ev_mCh, R.ev_tAndM, R.ev_tOrM, R.ev_tNotM, R.ev_mIfE, R.ev_mAndV, R.ev_mOrV, R.ev_mNotV, R.ev_cNil, R.ev_cPl, R.ev_cRv, R.ev_mBlt, R.ev_mM1, R.ev_mCall, R.ev_mNext, R.ev_mSeq, R.ev_mFl, R.ev_mDrop, R.ev_mRet, R.ev_mRetV, R.ev_mIfS, R.ev_mAsg, R.ev_mAug, R.ev_mSetP, R.ev_mLM, R.ev_iAnyM, R.ev_iRng1M, R.ev_iRng2M, R.ev_iEn1M, R.ev_iEnM, R.ev_iZipM, R.ev_mFor, R.ev_mLc, R.ev_mJoined, R.ev_slotRV, R.ev_frzSl, R.ev_relSl, R.ev_setSl, R.ev_lend, R.ev_setT_nm, R.ev_setT_tp, R.ev_setTs_nil, R.ev_setTs_cons, R.ev_hold_N, R.ev_hold_Z, R.ev_hold_B, R.ev_settle_N, R.ev_settle_Z, R.ev_settle_B, R.ev_isLst_lst, R.ev_isLst_tup, R.ev_isLst_int, R.ev_isLst_bl, R.ev_isLst_str, R.ev_isLst_non, R.ev_isLst_scr, R.ev_idx_lst, R.ev_idx_tup, R.ev_idx_scr, R.ev_idx_str, R.ev_neg, R.ev_add_int, R.ev_sub_int, R.ev_mul_int, R.ev_div_int, R.ev_mod_int, R.ev_pow_int, R.ev_add_str, R.ev_add_tup, R.ev_add_lst, R.ev_eq_int, R.ev_ne_int, R.ev_eq_str, R.ev_ne_str, R.ev_lt, R.ev_le, R.ev_gt, R.ev_ge, R.ev_is, R.ev_isNot, R.ev_none_tup, R.ev_none_lst, R.ev_none_int, R.ev_none_str, R.ev_none_non, R.ev_len_lst, R.ev_len_tup, R.ev_len_scr, R.ev_len_str, R.ev_abs, R.ev_int1, R.ev_str_int, R.ev_str_str, R.ev_list_lst, R.ev_list_tup, R.ev_tup_lst, R.ev_tup_tup, R.ev_fmt_str, R.ev_fmt_int, R.ev_sl_lst, R.ev_sl_tup, R.ev_sl_scr, R.ev_split, R.ev_join, R.ev_tru_bl, R.ev_tru_int, R.ev_tru_non, R.ev_tru_lst, R.ev_tru_tup, R.ev_avRVs_nil, R.ev_avRVs_pl, R.ev_avRVs_rv, R.ev_share_pl, R.ev_share_N, R.ev_share_Z, R.ev_share_B, R.ev_lent_pl, R.ev_lent_N, R.ev_lent_Z, R.ev_lent_B, R.ev_fin_ret, R.ev_fin_next, R.ev_io_t, R.ev_io_f, R.ev_jGo_nil, R.ev_jGo_cons, R.ev_isi, R.ev_hold_t, R.ev_hold_fint, R.ev_hold_fstr, R.ev_hold_ftup, R.ev_hold_fbl, R.ev_settle_int, R.ev_settle_str, R.ev_settle_tup, R.ev_settle_bl, R.ev_settle_non, R.ev_share_int, R.ev_share_str, R.ev_share_tup, R.ev_lent_int, R.ev_lent_str, R.ev_lent_tup, R.hmd], rfl, ?_, rfl, by simp [okW], rfl, rfl⟩
    unfold sgn
    by_cases hh : e = -1
    · simp [R.ev_mC, R.ev_mVar, R.ev_mVarZ, R.ev_mOp, R.ev_mOpV, R.ev_mUn, R.ev_mANil, R.ev_mACons, R.ev_mTup, R.ev_mLst, R.ev_mNoPart, R.ev_mPart, R.ev_mSl, R.ev_tTrue, R.ev_tBool, R.ev_mCh, R.ev_tAndM, R.ev_tOrM, R.ev_tNotM, R.ev_mIfE, R.ev_mAndV, R.ev_mOrV, R.ev_mNotV, R.ev_cNil, R.ev_cPl, R.ev_cRv, R.ev_mBlt, R.ev_mM1, R.ev_mCall, R.ev_mNext, R.ev_mSeq, R.ev_mFl, R.ev_mDrop, R.ev_mRet, R.ev_mRetV, R.ev_mIfS, R.ev_mAsg, R.ev_mAug, R.ev_mSetP, R.ev_mLM, R.ev_iAnyM, R.ev_iRng1M, R.ev_iRng2M, R.ev_iEn1M, R.ev_iEnM, R.ev_iZipM, R.ev_mFor, R.ev_mLc, R.ev_mJoined, R.ev_slotRV, R.ev_frzSl, R.ev_relSl, R.ev_setSl, R.ev_lend, R.ev_setT_nm, R.ev_setT_tp, R.ev_setTs_nil, R.ev_setTs_cons, R.ev_hold_N, R.ev_hold_Z, R.ev_hold_B, R.ev_settle_N, R.ev_settle_Z, R.ev_settle_B, R.ev_isLst_lst, R.ev_isLst_tup, R.ev_isLst_int, R.ev_isLst_bl, R.ev_isLst_str, R.ev_isLst_non, R.ev_isLst_scr, R.ev_idx_lst, R.ev_idx_tup, R.ev_idx_scr, R.ev_idx_str, R.ev_neg, R.ev_add_int, R.ev_sub_int, R.ev_mul_int, R.ev_div_int, R.ev_mod_int, R.ev_pow_int, R.ev_add_str, R.ev_add_tup, R.ev_add_lst, R.ev_eq_int, R.ev_ne_int, R.ev_eq_str, R.ev_ne_str, R.ev_lt, R.ev_le, R.ev_gt, R.ev_ge, R.ev_is, R.ev_isNot, R.ev_none_tup, R.ev_none_lst, R.ev_none_int, R.ev_none_str, R.ev_none_non, R.ev_len_lst, R.ev_len_tup, R.ev_len_scr, R.ev_len_str, R.ev_abs, R.ev_int1, R.ev_str_int, R.ev_str_str, R.ev_list_lst, R.ev_list_tup, R.ev_tup_lst, R.ev_tup_tup, R.ev_fmt_str, R.ev_fmt_int, R.ev_sl_lst, R.ev_sl_tup, R.ev_sl_scr, R.ev_split, R.ev_join, R.ev_tru_bl, R.ev_tru_int, R.ev_tru_non, R.ev_tru_lst, R.ev_tru_tup, R.ev_avRVs_nil, R.ev_avRVs_pl, R.ev_avRVs_rv, R.ev_share_pl, R.ev_share_N, R.ev_share_Z, R.ev_share_B, R.ev_lent_pl, R.ev_lent_N, R.ev_lent_Z, R.ev_lent_B, R.ev_fin_ret, R.ev_fin_next, R.ev_io_t, R.ev_io_f, R.ev_jGo_nil, R.ev_jGo_cons, R.ev_isi, R.ev_hold_t, R.ev_hold_fint, R.ev_hold_fstr, R.ev_hold_ftup, R.ev_hold_fbl, R.ev_settle_int, R.ev_settle_str, R.ev_settle_tup, R.ev_settle_bl, R.ev_settle_non, R.ev_share_int, R.ev_share_str, R.ev_share_tup, R.ev_lent_int, R.ev_lent_str, R.ev_lent_tup, R.hmd, hh, sDot, txD]
    · obtain ⟨d1, d2⟩ := digit (e / 100) (by omega) (by omega)
      have k : divOk 100 = true := by decide
      simp [R.ev_mC, R.ev_mVar, R.ev_mVarZ, R.ev_mOp, R.ev_mOpV, R.ev_mUn, R.ev_mANil, R.ev_mACons, R.ev_mTup, R.ev_mLst, R.ev_mNoPart, R.ev_mPart, R.ev_mSl, R.ev_tTrue, R.ev_tBool, R.ev_mCh, R.ev_tAndM, R.ev_tOrM, R.ev_tNotM, R.ev_mIfE, R.ev_mAndV, R.ev_mOrV, R.ev_mNotV, R.ev_cNil, R.ev_cPl, R.ev_cRv, R.ev_mBlt, R.ev_mM1, R.ev_mCall, R.ev_mNext, R.ev_mSeq, R.ev_mFl, R.ev_mDrop, R.ev_mRet, R.ev_mRetV, R.ev_mIfS, R.ev_mAsg, R.ev_mAug, R.ev_mSetP, R.ev_mLM, R.ev_iAnyM, R.ev_iRng1M, R.ev_iRng2M, R.ev_iEn1M, R.ev_iEnM, R.ev_iZipM, R.ev_mFor, R.ev_mLc, R.ev_mJoined, R.ev_slotRV, R.ev_frzSl, R.ev_relSl, R.ev_setSl, R.ev_lend, R.ev_setT_nm, R.ev_setT_tp, R.ev_setTs_nil, R.ev_setTs_cons, R.ev_hold_N, R.ev_hold_Z, R.ev_hold_B, R.ev_settle_N, R.ev_settle_Z, R.ev_settle_B, R.ev_isLst_lst, R.ev_isLst_tup, R.ev_isLst_int, R.ev_isLst_bl, R.ev_isLst_str, R.ev_isLst_non, R.ev_isLst_scr, R.ev_idx_lst, R.ev_idx_tup, R.ev_idx_scr, R.ev_idx_str, R.ev_neg, R.ev_add_int, R.ev_sub_int, R.ev_mul_int, R.ev_div_int, R.ev_mod_int, R.ev_pow_int, R.ev_add_str, R.ev_add_tup, R.ev_add_lst, R.ev_eq_int, R.ev_ne_int, R.ev_eq_str, R.ev_ne_str, R.ev_lt, R.ev_le, R.ev_gt, R.ev_ge, R.ev_is, R.ev_isNot, R.ev_none_tup, R.ev_none_lst, R.ev_none_int, R.ev_none_str, R.ev_none_non, R.ev_len_lst, R.ev_len_tup, R.ev_len_scr, R.ev_len_str, R.ev_abs, R.ev_int1, R.ev_str_int, R.ev_str_str, R.ev_list_lst, R.ev_list_tup, R.ev_tup_lst, R.ev_tup_tup, R.ev_fmt_str, R.ev_fmt_int, R.ev_sl_lst, R.ev_sl_tup, R.ev_sl_scr, R.ev_split, R.ev_join, R.ev_tru_bl, R.ev_tru_int, R.ev_tru_non, R.ev_tru_lst, R.ev_tru_tup, R.ev_avRVs_nil, R.ev_avRVs_pl, R.ev_avRVs_rv, R.ev_share_pl, R.ev_share_N, R.ev_share_Z, R.ev_share_B, R.ev_lent_pl, R.ev_lent_N, R.ev_lent_Z, R.ev_lent_B, R.ev_fin_ret, R.ev_fin_next, R.ev_io_t, R.ev_io_f, R.ev_jGo_nil, R.ev_jGo_cons, R.ev_isi, R.ev_hold_t, R.ev_hold_fint, R.ev_hold_fstr, R.ev_hold_ftup, R.ev_hold_fbl, R.ev_settle_int, R.ev_settle_str, R.ev_settle_tup, R.ev_settle_bl, R.ev_settle_non, R.ev_share_int, R.ev_share_str, R.ev_share_tup, R.ev_lent_int, R.ev_lent_str, R.ev_lent_tup, R.hmd, hh, k, d1, d2, txD])
  have hi : itemsOf (imD es) = some (es.map R.D.int) := rfl
  have hl : lenOk es.length = true := lenOk_of (by have := h.1.2; omega)
  have ow : okW [.frz (imD es), .un] [1] = true := rfl
  have ws : wipeS [.frz (imD es), .un] [1] = [.frz (imD es), .un] := rfl
  have j := join_of (fun e : Int => [sgn e]) es (by rw [flat_map, List.length_map]; have := h.1.2; omega)
  rw [flat_map] at j
  have se : R.settle ⟨.Z, imD es⟩ = some ⟨.Z, imD es⟩ := rfl
  have hf : (fun e : Int => R.D.str (SX.S [sgn e])) = fun e : Int => txD [sgn e] := rfl
  rw [hf] at j
  simp [R.ev_mC, R.ev_mVar, R.ev_mVarZ, R.ev_mOp, R.ev_mOpV, R.ev_mUn, R.ev_mANil, R.ev_mACons, R.ev_mTup, R.ev_mLst, R.ev_mNoPart, R.ev_mPart, R.ev_mSl, R.ev_tTrue, R.ev_tBool, R.ev_mCh, R.ev_tAndM, R.ev_tOrM, R.ev_tNotM, R.ev_mIfE, R.ev_mAndV, R.ev_mOrV, R.ev_mNotV, R.ev_cNil, R.ev_cPl, R.ev_cRv, R.ev_mBlt, R.ev_mM1, R.ev_mCall, R.ev_mNext, R.ev_mSeq, R.ev_mFl, R.ev_mDrop, R.ev_mRet, R.ev_mRetV, R.ev_mIfS, R.ev_mAsg, R.ev_mAug, R.ev_mSetP, R.ev_mLM, R.ev_iAnyM, R.ev_iRng1M, R.ev_iRng2M, R.ev_iEn1M, R.ev_iEnM, R.ev_iZipM, R.ev_mFor, R.ev_mLc, R.ev_mJoined, R.ev_slotRV, R.ev_frzSl, R.ev_relSl, R.ev_setSl, R.ev_lend, R.ev_setT_nm, R.ev_setT_tp, R.ev_setTs_nil, R.ev_setTs_cons, R.ev_hold_N, R.ev_hold_Z, R.ev_hold_B, R.ev_settle_N, R.ev_settle_Z, R.ev_settle_B, R.ev_isLst_lst, R.ev_isLst_tup, R.ev_isLst_int, R.ev_isLst_bl, R.ev_isLst_str, R.ev_isLst_non, R.ev_isLst_scr, R.ev_idx_lst, R.ev_idx_tup, R.ev_idx_scr, R.ev_idx_str, R.ev_neg, R.ev_add_int, R.ev_sub_int, R.ev_mul_int, R.ev_div_int, R.ev_mod_int, R.ev_pow_int, R.ev_add_str, R.ev_add_tup, R.ev_add_lst, R.ev_eq_int, R.ev_ne_int, R.ev_eq_str, R.ev_ne_str, R.ev_lt, R.ev_le, R.ev_gt, R.ev_ge, R.ev_is, R.ev_isNot, R.ev_none_tup, R.ev_none_lst, R.ev_none_int, R.ev_none_str, R.ev_none_non, R.ev_len_lst, R.ev_len_tup, R.ev_len_scr, R.ev_len_str, R.ev_abs, R.ev_int1, R.ev_str_int, R.ev_str_str, R.ev_list_lst, R.ev_list_tup, R.ev_tup_lst, R.ev_tup_tup, R.ev_fmt_str, R.ev_fmt_int, R.ev_sl_lst, R.ev_sl_tup, R.ev_sl_scr, R.ev_split, R.ev_tru_bl, R.ev_tru_int, R.ev_tru_non, R.ev_tru_lst, R.ev_tru_tup, R.ev_avRVs_nil, R.ev_avRVs_pl, R.ev_avRVs_rv, R.ev_share_pl, R.ev_share_N, R.ev_share_Z, R.ev_share_B, R.ev_lent_pl, R.ev_lent_N, R.ev_lent_Z, R.ev_lent_B, R.ev_fin_ret, R.ev_fin_next, R.ev_io_t, R.ev_io_f, R.ev_jGo_nil, R.ev_jGo_cons, R.ev_isi, R.ev_hold_t, R.ev_hold_fint, R.ev_hold_fstr, R.ev_hold_ftup, R.ev_hold_fbl, R.ev_settle_int, R.ev_settle_str, R.ev_settle_tup, R.ev_settle_bl, R.ev_settle_non, R.ev_share_int, R.ev_share_str, R.ev_share_tup, R.ev_lent_int, R.ev_lent_str, R.ev_lent_tup, R.hmd, hi, lc, hl, ow, ws, sNo, j, view, se]
  rfl
abbrev SIGNS : List Nat := [46, 42, 45, 48, 49, 50, 51, 52, 53, 54, 55, 56, 57]
theorem digits_eq : ((Str.ofString "0123456789")).cps.toList = [48, 49, 50, 51, 52, 53, 54, 55, 56, 57] := by decide
def okAt (g v : List Nat) : R.D → Bool
  | .int k => okc (g.getD k.toNat 0) (v.getD k.toNat 0)
  | _ => false
theorem fit_range : ∀ (g v : List Nat) (k : Nat), g.length ≤ v.length → ((List.range g.length).map fun i => R.D.int (0 + (i : Nat))).all (okAt g v) = fitB g v := by
  intro g
  induction g with
  | nil => intro v _ _; cases v <;> rfl
  | cons c g ih =>
    intro v k h
    cases v with
    | nil => exact absurd h (by simp)
    | cons x v =>
      rw [List.length_cons, List.range_succ_eq_map, List.map_cons, List.all_cons, List.map_map, List.all_map]
      have e := ih v k (by simpa using h)
      rw [List.all_map] at e
      rw [fitB, ← e]
      congr 1
theorem law_fits (g v : List Nat) (hg : ∀ c ∈ g, c ∈ SIGNS) (h : g.length ≤ v.length) (hn : v.length ≤ 12) : g_law_fits [txD g, txD v] = .ret .N (.bl (fitB g v)) none := by
  have st : g_law_fits [txD g, txD v] = fin false (m_law_fits [.frz (txD g), .frz (txD v), .un]) := rfl
  rw [st]
  unfold m_law_fits
  generalize hb : (mSeq (mIfS (tAndM (tBool (mOp true (cop .Eq) (mOpV 0 fIdx (mVar 2)) (mC (.str ".")))) _) _ _) _) = mb
  obtain ⟨S', hh⟩ := forGo_all (tg := .nm 2) (mb := mb) (fun j S => ∃ y, S = [.frz (txD g), .frz (txD v), y] ∧ NI y) (okAt g v) ⟨.N, .bl false⟩ (rangeD 0 g.length) 0 [.frz (txD g), .frz (txD v), .un] ⟨.un, rfl, .inl rfl⟩ (by
    rintro j d S hj ⟨y, rfl, n1⟩
    obtain ⟨hjl, rfl⟩ := rangeD_get hj
    have ec : g[((0 : Int) + (j : Nat)).toNat]? = some (g.getD ((0 : Int) + (j : Nat)).toNat 0) := by
      rw [List.getD_eq_getElem?_getD, List.getElem?_eq_getElem (by omega)]; rfl
    have ev : v[((0 : Int) + (j : Nat)).toNat]? = some (v.getD ((0 : Int) + (j : Nat)).toNat 0) := by
      rw [List.getD_eq_getElem?_getD, List.getElem?_eq_getElem (by omega)]; rfl
    have i1 : ∀ md md', fIdx ⟨md, txD g⟩ ⟨md', .int ((0 : Int) + (j : Nat))⟩ = _ := fun md md' => idx_S (by omega) (by omega) ec
    have i2 : ∀ md md', fIdx ⟨md, txD v⟩ ⟨md', .int ((0 : Int) + (j : Nat))⟩ = _ := fun md md' => idx_S (by omega) (by omega) ev
    have hp : okAt g v (.int ((0 : Int) + (j : Nat))) = okc (g.getD ((0 : Int) + (j : Nat)).toNat 0) (v.getD ((0 : Int) + (j : Nat)).toNat 0) := rfl
    have hcs := hg _ (List.mem_of_getElem? ec)
    rw [hp]
    generalize g.getD ((0 : Int) + (j : Nat)).toNat 0 = c at i1 hcs ⊢
    generalize v.getD ((0 : Int) + (j : Nat)).toNat 0 = x at i2 ⊢
    generalize ((0 : Int) + (j : Nat)) = k at i1 i2 ⊢
    have hs : setT (.nm 2) [.frz (txD g), .frz (txD v), y] ⟨.Z, .int k⟩ = some [.frz (txD g), .frz (txD v), .frz (.int k)] := by
      rcases n1 with rfl | ⟨_, rfl⟩ <;> simp [R.ev_mC, R.ev_mVar, R.ev_mVarZ, R.ev_mOp, R.ev_mOpV, R.ev_mUn, R.ev_mANil, R.ev_mACons, R.ev_mTup, R.ev_mLst, R.ev_mNoPart, R.ev_mPart, R.ev_mSl, R.ev_tTrue, R.ev_tBool, R.ev_mCh, R.ev_tAndM, R.ev_tOrM, R.ev_tNotM, R.ev_mIfE, R.ev_mAndV, R.ev_mOrV, R.ev_mNotV, R.ev_cNil, R.ev_cPl, R.ev_cRv, R.ev_mBlt, R.ev_mM1, R.ev_mCall, R.ev_mNext, R.ev_mSeq, R.ev_mFl, R.ev_mDrop, R.ev_mRet, R.ev_mRetV, R.ev_mIfS, R.ev_mAsg, R.ev_mAug, R.ev_mSetP, R.ev_mLM, R.ev_iAnyM, R.ev_iRng1M, R.ev_iRng2M, R.ev_iEn1M, R.ev_iEnM, R.ev_iZipM, R.ev_mFor, R.ev_mLc, R.ev_mJoined, R.ev_slotRV, R.ev_frzSl, R.ev_relSl, R.ev_setSl, R.ev_lend, R.ev_setT_nm, R.ev_setT_tp, R.ev_setTs_nil, R.ev_setTs_cons, R.ev_hold_N, R.ev_hold_Z, R.ev_hold_B, R.ev_settle_N, R.ev_settle_Z, R.ev_settle_B, R.ev_isLst_lst, R.ev_isLst_tup, R.ev_isLst_int, R.ev_isLst_bl, R.ev_isLst_str, R.ev_isLst_non, R.ev_isLst_scr, R.ev_idx_lst, R.ev_idx_tup, R.ev_idx_scr, R.ev_idx_str, R.ev_neg, R.ev_add_int, R.ev_sub_int, R.ev_mul_int, R.ev_div_int, R.ev_mod_int, R.ev_pow_int, R.ev_add_str, R.ev_add_tup, R.ev_add_lst, R.ev_eq_int, R.ev_ne_int, R.ev_eq_str, R.ev_ne_str, R.ev_lt, R.ev_le, R.ev_gt, R.ev_ge, R.ev_is, R.ev_isNot, R.ev_none_tup, R.ev_none_lst, R.ev_none_int, R.ev_none_str, R.ev_none_non, R.ev_len_lst, R.ev_len_tup, R.ev_len_scr, R.ev_len_str, R.ev_abs, R.ev_int1, R.ev_str_int, R.ev_str_str, R.ev_list_lst, R.ev_list_tup, R.ev_tup_lst, R.ev_tup_tup, R.ev_fmt_str, R.ev_fmt_int, R.ev_sl_lst, R.ev_sl_tup, R.ev_sl_scr, R.ev_split, R.ev_join, R.ev_tru_bl, R.ev_tru_int, R.ev_tru_non, R.ev_tru_lst, R.ev_tru_tup, R.ev_avRVs_nil, R.ev_avRVs_pl, R.ev_avRVs_rv, R.ev_share_pl, R.ev_share_N, R.ev_share_Z, R.ev_share_B, R.ev_lent_pl, R.ev_lent_N, R.ev_lent_Z, R.ev_lent_B, R.ev_fin_ret, R.ev_fin_next, R.ev_io_t, R.ev_io_f, R.ev_jGo_nil, R.ev_jGo_cons, R.ev_isi, R.ev_hold_t, R.ev_hold_fint, R.ev_hold_fstr, R.ev_hold_ftup, R.ev_hold_fbl, R.ev_settle_int, R.ev_settle_str, R.ev_settle_tup, R.ev_settle_bl, R.ev_settle_non, R.ev_share_int, R.ev_share_str, R.ev_share_tup, R.ev_lent_int, R.ev_lent_str, R.ev_lent_tup, R.hmd]
    have hin : ∀ md md', cop .In ⟨md, .str (SX.S [c])⟩ ⟨md', .str (Str.ofString "0123456789")⟩ = some ⟨.N, .bl (decide (c ∈ [48, 49, 50, 51, 52, 53, 54, 55, 56, 57]))⟩ := fun md md' => by rw [← digits_eq]; exact in_str c _
    refine ⟨_, [.frz (txD g), .frz (txD v), .frz (.int k)], hs, ?_⟩
    subst hb
    unfold okc
    by_cases c1 : c = 45
    · subst c1
      exact .inl ⟨rfl, by simp [R.ev_mC, R.ev_mVar, R.ev_mVarZ, R.ev_mOp, R.ev_mOpV, R.ev_mUn, R.ev_mANil, R.ev_mACons, R.ev_mTup, R.ev_mLst, R.ev_mNoPart, R.ev_mPart, R.ev_mSl, R.ev_tTrue, R.ev_tBool, R.ev_mCh, R.ev_tAndM, R.ev_tOrM, R.ev_tNotM, R.ev_mIfE, R.ev_mAndV, R.ev_mOrV, R.ev_mNotV, R.ev_cNil, R.ev_cPl, R.ev_cRv, R.ev_mBlt, R.ev_mM1, R.ev_mCall, R.ev_mNext, R.ev_mSeq, R.ev_mFl, R.ev_mDrop, R.ev_mRet, R.ev_mRetV, R.ev_mIfS, R.ev_mAsg, R.ev_mAug, R.ev_mSetP, R.ev_mLM, R.ev_iAnyM, R.ev_iRng1M, R.ev_iRng2M, R.ev_iEn1M, R.ev_iEnM, R.ev_iZipM, R.ev_mFor, R.ev_mLc, R.ev_mJoined, R.ev_slotRV, R.ev_frzSl, R.ev_relSl, R.ev_setSl, R.ev_lend, R.ev_setT_nm, R.ev_setT_tp, R.ev_setTs_nil, R.ev_setTs_cons, R.ev_hold_N, R.ev_hold_Z, R.ev_hold_B, R.ev_settle_N, R.ev_settle_Z, R.ev_settle_B, R.ev_isLst_lst, R.ev_isLst_tup, R.ev_isLst_int, R.ev_isLst_bl, R.ev_isLst_str, R.ev_isLst_non, R.ev_isLst_scr, R.ev_idx_lst, R.ev_idx_tup, R.ev_idx_scr, R.ev_idx_str, R.ev_neg, R.ev_add_int, R.ev_sub_int, R.ev_mul_int, R.ev_div_int, R.ev_mod_int, R.ev_pow_int, R.ev_add_str, R.ev_add_tup, R.ev_add_lst, R.ev_eq_int, R.ev_ne_int, R.ev_eq_str, R.ev_ne_str, R.ev_lt, R.ev_le, R.ev_gt, R.ev_ge, R.ev_is, R.ev_isNot, R.ev_none_tup, R.ev_none_lst, R.ev_none_int, R.ev_none_str, R.ev_none_non, R.ev_len_lst, R.ev_len_tup, R.ev_len_scr, R.ev_len_str, R.ev_abs, R.ev_int1, R.ev_str_int, R.ev_str_str, R.ev_list_lst, R.ev_list_tup, R.ev_tup_lst, R.ev_tup_tup, R.ev_fmt_str, R.ev_fmt_int, R.ev_sl_lst, R.ev_sl_tup, R.ev_sl_scr, R.ev_split, R.ev_join, R.ev_tru_bl, R.ev_tru_int, R.ev_tru_non, R.ev_tru_lst, R.ev_tru_tup, R.ev_avRVs_nil, R.ev_avRVs_pl, R.ev_avRVs_rv, R.ev_share_pl, R.ev_share_N, R.ev_share_Z, R.ev_share_B, R.ev_lent_pl, R.ev_lent_N, R.ev_lent_Z, R.ev_lent_B, R.ev_fin_ret, R.ev_fin_next, R.ev_io_t, R.ev_io_f, R.ev_jGo_nil, R.ev_jGo_cons, R.ev_isi, R.ev_hold_t, R.ev_hold_fint, R.ev_hold_fstr, R.ev_hold_ftup, R.ev_hold_fbl, R.ev_settle_int, R.ev_settle_str, R.ev_settle_tup, R.ev_settle_bl, R.ev_settle_non, R.ev_share_int, R.ev_share_str, R.ev_share_tup, R.ev_lent_int, R.ev_lent_str, R.ev_lent_tup, R.hmd, i1, i2, sDot, sStar, sEq, hin], _, rfl, .inr ⟨_, rfl⟩⟩
    · by_cases c2 : c = 42
      · subst c2
        by_cases hx : x = 46
        · subst hx
          exact .inr ⟨rfl, by simp [R.ev_mC, R.ev_mVar, R.ev_mVarZ, R.ev_mOp, R.ev_mOpV, R.ev_mUn, R.ev_mANil, R.ev_mACons, R.ev_mTup, R.ev_mLst, R.ev_mNoPart, R.ev_mPart, R.ev_mSl, R.ev_tTrue, R.ev_tBool, R.ev_mCh, R.ev_tAndM, R.ev_tOrM, R.ev_tNotM, R.ev_mIfE, R.ev_mAndV, R.ev_mOrV, R.ev_mNotV, R.ev_cNil, R.ev_cPl, R.ev_cRv, R.ev_mBlt, R.ev_mM1, R.ev_mCall, R.ev_mNext, R.ev_mSeq, R.ev_mFl, R.ev_mDrop, R.ev_mRet, R.ev_mRetV, R.ev_mIfS, R.ev_mAsg, R.ev_mAug, R.ev_mSetP, R.ev_mLM, R.ev_iAnyM, R.ev_iRng1M, R.ev_iRng2M, R.ev_iEn1M, R.ev_iEnM, R.ev_iZipM, R.ev_mFor, R.ev_mLc, R.ev_mJoined, R.ev_slotRV, R.ev_frzSl, R.ev_relSl, R.ev_setSl, R.ev_lend, R.ev_setT_nm, R.ev_setT_tp, R.ev_setTs_nil, R.ev_setTs_cons, R.ev_hold_N, R.ev_hold_Z, R.ev_hold_B, R.ev_settle_N, R.ev_settle_Z, R.ev_settle_B, R.ev_isLst_lst, R.ev_isLst_tup, R.ev_isLst_int, R.ev_isLst_bl, R.ev_isLst_str, R.ev_isLst_non, R.ev_isLst_scr, R.ev_idx_lst, R.ev_idx_tup, R.ev_idx_scr, R.ev_idx_str, R.ev_neg, R.ev_add_int, R.ev_sub_int, R.ev_mul_int, R.ev_div_int, R.ev_mod_int, R.ev_pow_int, R.ev_add_str, R.ev_add_tup, R.ev_add_lst, R.ev_eq_int, R.ev_ne_int, R.ev_eq_str, R.ev_ne_str, R.ev_lt, R.ev_le, R.ev_gt, R.ev_ge, R.ev_is, R.ev_isNot, R.ev_none_tup, R.ev_none_lst, R.ev_none_int, R.ev_none_str, R.ev_none_non, R.ev_len_lst, R.ev_len_tup, R.ev_len_scr, R.ev_len_str, R.ev_abs, R.ev_int1, R.ev_str_int, R.ev_str_str, R.ev_list_lst, R.ev_list_tup, R.ev_tup_lst, R.ev_tup_tup, R.ev_fmt_str, R.ev_fmt_int, R.ev_sl_lst, R.ev_sl_tup, R.ev_sl_scr, R.ev_split, R.ev_join, R.ev_tru_bl, R.ev_tru_int, R.ev_tru_non, R.ev_tru_lst, R.ev_tru_tup, R.ev_avRVs_nil, R.ev_avRVs_pl, R.ev_avRVs_rv, R.ev_share_pl, R.ev_share_N, R.ev_share_Z, R.ev_share_B, R.ev_lent_pl, R.ev_lent_N, R.ev_lent_Z, R.ev_lent_B, R.ev_fin_ret, R.ev_fin_next, R.ev_io_t, R.ev_io_f, R.ev_jGo_nil, R.ev_jGo_cons, R.ev_isi, R.ev_hold_t, R.ev_hold_fint, R.ev_hold_fstr, R.ev_hold_ftup, R.ev_hold_fbl, R.ev_settle_int, R.ev_settle_str, R.ev_settle_tup, R.ev_settle_bl, R.ev_settle_non, R.ev_share_int, R.ev_share_str, R.ev_share_tup, R.ev_lent_int, R.ev_lent_str, R.ev_lent_tup, R.hmd, i1, i2, sDot, sStar, sEq, hin]⟩
        · exact .inl ⟨by simp [hx], by simp [R.ev_mC, R.ev_mVar, R.ev_mVarZ, R.ev_mOp, R.ev_mOpV, R.ev_mUn, R.ev_mANil, R.ev_mACons, R.ev_mTup, R.ev_mLst, R.ev_mNoPart, R.ev_mPart, R.ev_mSl, R.ev_tTrue, R.ev_tBool, R.ev_mCh, R.ev_tAndM, R.ev_tOrM, R.ev_tNotM, R.ev_mIfE, R.ev_mAndV, R.ev_mOrV, R.ev_mNotV, R.ev_cNil, R.ev_cPl, R.ev_cRv, R.ev_mBlt, R.ev_mM1, R.ev_mCall, R.ev_mNext, R.ev_mSeq, R.ev_mFl, R.ev_mDrop, R.ev_mRet, R.ev_mRetV, R.ev_mIfS, R.ev_mAsg, R.ev_mAug, R.ev_mSetP, R.ev_mLM, R.ev_iAnyM, R.ev_iRng1M, R.ev_iRng2M, R.ev_iEn1M, R.ev_iEnM, R.ev_iZipM, R.ev_mFor, R.ev_mLc, R.ev_mJoined, R.ev_slotRV, R.ev_frzSl, R.ev_relSl, R.ev_setSl, R.ev_lend, R.ev_setT_nm, R.ev_setT_tp, R.ev_setTs_nil, R.ev_setTs_cons, R.ev_hold_N, R.ev_hold_Z, R.ev_hold_B, R.ev_settle_N, R.ev_settle_Z, R.ev_settle_B, R.ev_isLst_lst, R.ev_isLst_tup, R.ev_isLst_int, R.ev_isLst_bl, R.ev_isLst_str, R.ev_isLst_non, R.ev_isLst_scr, R.ev_idx_lst, R.ev_idx_tup, R.ev_idx_scr, R.ev_idx_str, R.ev_neg, R.ev_add_int, R.ev_sub_int, R.ev_mul_int, R.ev_div_int, R.ev_mod_int, R.ev_pow_int, R.ev_add_str, R.ev_add_tup, R.ev_add_lst, R.ev_eq_int, R.ev_ne_int, R.ev_eq_str, R.ev_ne_str, R.ev_lt, R.ev_le, R.ev_gt, R.ev_ge, R.ev_is, R.ev_isNot, R.ev_none_tup, R.ev_none_lst, R.ev_none_int, R.ev_none_str, R.ev_none_non, R.ev_len_lst, R.ev_len_tup, R.ev_len_scr, R.ev_len_str, R.ev_abs, R.ev_int1, R.ev_str_int, R.ev_str_str, R.ev_list_lst, R.ev_list_tup, R.ev_tup_lst, R.ev_tup_tup, R.ev_fmt_str, R.ev_fmt_int, R.ev_sl_lst, R.ev_sl_tup, R.ev_sl_scr, R.ev_split, R.ev_join, R.ev_tru_bl, R.ev_tru_int, R.ev_tru_non, R.ev_tru_lst, R.ev_tru_tup, R.ev_avRVs_nil, R.ev_avRVs_pl, R.ev_avRVs_rv, R.ev_share_pl, R.ev_share_N, R.ev_share_Z, R.ev_share_B, R.ev_lent_pl, R.ev_lent_N, R.ev_lent_Z, R.ev_lent_B, R.ev_fin_ret, R.ev_fin_next, R.ev_io_t, R.ev_io_f, R.ev_jGo_nil, R.ev_jGo_cons, R.ev_isi, R.ev_hold_t, R.ev_hold_fint, R.ev_hold_fstr, R.ev_hold_ftup, R.ev_hold_fbl, R.ev_settle_int, R.ev_settle_str, R.ev_settle_tup, R.ev_settle_bl, R.ev_settle_non, R.ev_share_int, R.ev_share_str, R.ev_share_tup, R.ev_lent_int, R.ev_lent_str, R.ev_lent_tup, R.hmd, i1, i2, sDot, sStar, sEq, hin, hx], _, rfl, .inr ⟨_, rfl⟩⟩
      · by_cases c3 : c = 46
        · subst c3
          by_cases hx : x = 46
          · subst hx
            exact .inl ⟨rfl, by simp [R.ev_mC, R.ev_mVar, R.ev_mVarZ, R.ev_mOp, R.ev_mOpV, R.ev_mUn, R.ev_mANil, R.ev_mACons, R.ev_mTup, R.ev_mLst, R.ev_mNoPart, R.ev_mPart, R.ev_mSl, R.ev_tTrue, R.ev_tBool, R.ev_mCh, R.ev_tAndM, R.ev_tOrM, R.ev_tNotM, R.ev_mIfE, R.ev_mAndV, R.ev_mOrV, R.ev_mNotV, R.ev_cNil, R.ev_cPl, R.ev_cRv, R.ev_mBlt, R.ev_mM1, R.ev_mCall, R.ev_mNext, R.ev_mSeq, R.ev_mFl, R.ev_mDrop, R.ev_mRet, R.ev_mRetV, R.ev_mIfS, R.ev_mAsg, R.ev_mAug, R.ev_mSetP, R.ev_mLM, R.ev_iAnyM, R.ev_iRng1M, R.ev_iRng2M, R.ev_iEn1M, R.ev_iEnM, R.ev_iZipM, R.ev_mFor, R.ev_mLc, R.ev_mJoined, R.ev_slotRV, R.ev_frzSl, R.ev_relSl, R.ev_setSl, R.ev_lend, R.ev_setT_nm, R.ev_setT_tp, R.ev_setTs_nil, R.ev_setTs_cons, R.ev_hold_N, R.ev_hold_Z, R.ev_hold_B, R.ev_settle_N, R.ev_settle_Z, R.ev_settle_B, R.ev_isLst_lst, R.ev_isLst_tup, R.ev_isLst_int, R.ev_isLst_bl, R.ev_isLst_str, R.ev_isLst_non, R.ev_isLst_scr, R.ev_idx_lst, R.ev_idx_tup, R.ev_idx_scr, R.ev_idx_str, R.ev_neg, R.ev_add_int, R.ev_sub_int, R.ev_mul_int, R.ev_div_int, R.ev_mod_int, R.ev_pow_int, R.ev_add_str, R.ev_add_tup, R.ev_add_lst, R.ev_eq_int, R.ev_ne_int, R.ev_eq_str, R.ev_ne_str, R.ev_lt, R.ev_le, R.ev_gt, R.ev_ge, R.ev_is, R.ev_isNot, R.ev_none_tup, R.ev_none_lst, R.ev_none_int, R.ev_none_str, R.ev_none_non, R.ev_len_lst, R.ev_len_tup, R.ev_len_scr, R.ev_len_str, R.ev_abs, R.ev_int1, R.ev_str_int, R.ev_str_str, R.ev_list_lst, R.ev_list_tup, R.ev_tup_lst, R.ev_tup_tup, R.ev_fmt_str, R.ev_fmt_int, R.ev_sl_lst, R.ev_sl_tup, R.ev_sl_scr, R.ev_split, R.ev_join, R.ev_tru_bl, R.ev_tru_int, R.ev_tru_non, R.ev_tru_lst, R.ev_tru_tup, R.ev_avRVs_nil, R.ev_avRVs_pl, R.ev_avRVs_rv, R.ev_share_pl, R.ev_share_N, R.ev_share_Z, R.ev_share_B, R.ev_lent_pl, R.ev_lent_N, R.ev_lent_Z, R.ev_lent_B, R.ev_fin_ret, R.ev_fin_next, R.ev_io_t, R.ev_io_f, R.ev_jGo_nil, R.ev_jGo_cons, R.ev_isi, R.ev_hold_t, R.ev_hold_fint, R.ev_hold_fstr, R.ev_hold_ftup, R.ev_hold_fbl, R.ev_settle_int, R.ev_settle_str, R.ev_settle_tup, R.ev_settle_bl, R.ev_settle_non, R.ev_share_int, R.ev_share_str, R.ev_share_tup, R.ev_lent_int, R.ev_lent_str, R.ev_lent_tup, R.hmd, i1, i2, sDot, sStar, sEq, hin], _, rfl, .inr ⟨_, rfl⟩⟩
          · have hx' : 46 ≠ x := fun e => hx e.symm
            exact .inr ⟨by simp [hx'], by simp [R.ev_mC, R.ev_mVar, R.ev_mVarZ, R.ev_mOp, R.ev_mOpV, R.ev_mUn, R.ev_mANil, R.ev_mACons, R.ev_mTup, R.ev_mLst, R.ev_mNoPart, R.ev_mPart, R.ev_mSl, R.ev_tTrue, R.ev_tBool, R.ev_mCh, R.ev_tAndM, R.ev_tOrM, R.ev_tNotM, R.ev_mIfE, R.ev_mAndV, R.ev_mOrV, R.ev_mNotV, R.ev_cNil, R.ev_cPl, R.ev_cRv, R.ev_mBlt, R.ev_mM1, R.ev_mCall, R.ev_mNext, R.ev_mSeq, R.ev_mFl, R.ev_mDrop, R.ev_mRet, R.ev_mRetV, R.ev_mIfS, R.ev_mAsg, R.ev_mAug, R.ev_mSetP, R.ev_mLM, R.ev_iAnyM, R.ev_iRng1M, R.ev_iRng2M, R.ev_iEn1M, R.ev_iEnM, R.ev_iZipM, R.ev_mFor, R.ev_mLc, R.ev_mJoined, R.ev_slotRV, R.ev_frzSl, R.ev_relSl, R.ev_setSl, R.ev_lend, R.ev_setT_nm, R.ev_setT_tp, R.ev_setTs_nil, R.ev_setTs_cons, R.ev_hold_N, R.ev_hold_Z, R.ev_hold_B, R.ev_settle_N, R.ev_settle_Z, R.ev_settle_B, R.ev_isLst_lst, R.ev_isLst_tup, R.ev_isLst_int, R.ev_isLst_bl, R.ev_isLst_str, R.ev_isLst_non, R.ev_isLst_scr, R.ev_idx_lst, R.ev_idx_tup, R.ev_idx_scr, R.ev_idx_str, R.ev_neg, R.ev_add_int, R.ev_sub_int, R.ev_mul_int, R.ev_div_int, R.ev_mod_int, R.ev_pow_int, R.ev_add_str, R.ev_add_tup, R.ev_add_lst, R.ev_eq_int, R.ev_ne_int, R.ev_eq_str, R.ev_ne_str, R.ev_lt, R.ev_le, R.ev_gt, R.ev_ge, R.ev_is, R.ev_isNot, R.ev_none_tup, R.ev_none_lst, R.ev_none_int, R.ev_none_str, R.ev_none_non, R.ev_len_lst, R.ev_len_tup, R.ev_len_scr, R.ev_len_str, R.ev_abs, R.ev_int1, R.ev_str_int, R.ev_str_str, R.ev_list_lst, R.ev_list_tup, R.ev_tup_lst, R.ev_tup_tup, R.ev_fmt_str, R.ev_fmt_int, R.ev_sl_lst, R.ev_sl_tup, R.ev_sl_scr, R.ev_split, R.ev_join, R.ev_tru_bl, R.ev_tru_int, R.ev_tru_non, R.ev_tru_lst, R.ev_tru_tup, R.ev_avRVs_nil, R.ev_avRVs_pl, R.ev_avRVs_rv, R.ev_share_pl, R.ev_share_N, R.ev_share_Z, R.ev_share_B, R.ev_lent_pl, R.ev_lent_N, R.ev_lent_Z, R.ev_lent_B, R.ev_fin_ret, R.ev_fin_next, R.ev_io_t, R.ev_io_f, R.ev_jGo_nil, R.ev_jGo_cons, R.ev_isi, R.ev_hold_t, R.ev_hold_fint, R.ev_hold_fstr, R.ev_hold_ftup, R.ev_hold_fbl, R.ev_settle_int, R.ev_settle_str, R.ev_settle_tup, R.ev_settle_bl, R.ev_settle_non, R.ev_share_int, R.ev_share_str, R.ev_share_tup, R.ev_lent_int, R.ev_lent_str, R.ev_lent_tup, R.hmd, i1, i2, sDot, sStar, sEq, hin, hx]⟩
        · have hd : c ∈ [48, 49, 50, 51, 52, 53, 54, 55, 56, 57] := by
            simp at hcs ⊢
            omega
          have hd' : decide (c ∈ [48, 49, 50, 51, 52, 53, 54, 55, 56, 57]) = true := decide_eq_true hd
          rw [hd'] at hin
          by_cases hx : c = x
          · subst hx
            exact .inl ⟨by simp [c1, c2], by simp [R.ev_mC, R.ev_mVar, R.ev_mVarZ, R.ev_mOp, R.ev_mOpV, R.ev_mUn, R.ev_mANil, R.ev_mACons, R.ev_mTup, R.ev_mLst, R.ev_mNoPart, R.ev_mPart, R.ev_mSl, R.ev_tTrue, R.ev_tBool, R.ev_mCh, R.ev_tAndM, R.ev_tOrM, R.ev_tNotM, R.ev_mIfE, R.ev_mAndV, R.ev_mOrV, R.ev_mNotV, R.ev_cNil, R.ev_cPl, R.ev_cRv, R.ev_mBlt, R.ev_mM1, R.ev_mCall, R.ev_mNext, R.ev_mSeq, R.ev_mFl, R.ev_mDrop, R.ev_mRet, R.ev_mRetV, R.ev_mIfS, R.ev_mAsg, R.ev_mAug, R.ev_mSetP, R.ev_mLM, R.ev_iAnyM, R.ev_iRng1M, R.ev_iRng2M, R.ev_iEn1M, R.ev_iEnM, R.ev_iZipM, R.ev_mFor, R.ev_mLc, R.ev_mJoined, R.ev_slotRV, R.ev_frzSl, R.ev_relSl, R.ev_setSl, R.ev_lend, R.ev_setT_nm, R.ev_setT_tp, R.ev_setTs_nil, R.ev_setTs_cons, R.ev_hold_N, R.ev_hold_Z, R.ev_hold_B, R.ev_settle_N, R.ev_settle_Z, R.ev_settle_B, R.ev_isLst_lst, R.ev_isLst_tup, R.ev_isLst_int, R.ev_isLst_bl, R.ev_isLst_str, R.ev_isLst_non, R.ev_isLst_scr, R.ev_idx_lst, R.ev_idx_tup, R.ev_idx_scr, R.ev_idx_str, R.ev_neg, R.ev_add_int, R.ev_sub_int, R.ev_mul_int, R.ev_div_int, R.ev_mod_int, R.ev_pow_int, R.ev_add_str, R.ev_add_tup, R.ev_add_lst, R.ev_eq_int, R.ev_ne_int, R.ev_eq_str, R.ev_ne_str, R.ev_lt, R.ev_le, R.ev_gt, R.ev_ge, R.ev_is, R.ev_isNot, R.ev_none_tup, R.ev_none_lst, R.ev_none_int, R.ev_none_str, R.ev_none_non, R.ev_len_lst, R.ev_len_tup, R.ev_len_scr, R.ev_len_str, R.ev_abs, R.ev_int1, R.ev_str_int, R.ev_str_str, R.ev_list_lst, R.ev_list_tup, R.ev_tup_lst, R.ev_tup_tup, R.ev_fmt_str, R.ev_fmt_int, R.ev_sl_lst, R.ev_sl_tup, R.ev_sl_scr, R.ev_split, R.ev_join, R.ev_tru_bl, R.ev_tru_int, R.ev_tru_non, R.ev_tru_lst, R.ev_tru_tup, R.ev_avRVs_nil, R.ev_avRVs_pl, R.ev_avRVs_rv, R.ev_share_pl, R.ev_share_N, R.ev_share_Z, R.ev_share_B, R.ev_lent_pl, R.ev_lent_N, R.ev_lent_Z, R.ev_lent_B, R.ev_fin_ret, R.ev_fin_next, R.ev_io_t, R.ev_io_f, R.ev_jGo_nil, R.ev_jGo_cons, R.ev_isi, R.ev_hold_t, R.ev_hold_fint, R.ev_hold_fstr, R.ev_hold_ftup, R.ev_hold_fbl, R.ev_settle_int, R.ev_settle_str, R.ev_settle_tup, R.ev_settle_bl, R.ev_settle_non, R.ev_share_int, R.ev_share_str, R.ev_share_tup, R.ev_lent_int, R.ev_lent_str, R.ev_lent_tup, R.hmd, i1, i2, sDot, sStar, sEq, hin, c1, c2, c3], _, rfl, .inr ⟨_, rfl⟩⟩
          · have hx' : x ≠ c := fun e => hx e.symm
            exact .inr ⟨by simp [c1, c2, hx], by simp [R.ev_mC, R.ev_mVar, R.ev_mVarZ, R.ev_mOp, R.ev_mOpV, R.ev_mUn, R.ev_mANil, R.ev_mACons, R.ev_mTup, R.ev_mLst, R.ev_mNoPart, R.ev_mPart, R.ev_mSl, R.ev_tTrue, R.ev_tBool, R.ev_mCh, R.ev_tAndM, R.ev_tOrM, R.ev_tNotM, R.ev_mIfE, R.ev_mAndV, R.ev_mOrV, R.ev_mNotV, R.ev_cNil, R.ev_cPl, R.ev_cRv, R.ev_mBlt, R.ev_mM1, R.ev_mCall, R.ev_mNext, R.ev_mSeq, R.ev_mFl, R.ev_mDrop, R.ev_mRet, R.ev_mRetV, R.ev_mIfS, R.ev_mAsg, R.ev_mAug, R.ev_mSetP, R.ev_mLM, R.ev_iAnyM, R.ev_iRng1M, R.ev_iRng2M, R.ev_iEn1M, R.ev_iEnM, R.ev_iZipM, R.ev_mFor, R.ev_mLc, R.ev_mJoined, R.ev_slotRV, R.ev_frzSl, R.ev_relSl, R.ev_setSl, R.ev_lend, R.ev_setT_nm, R.ev_setT_tp, R.ev_setTs_nil, R.ev_setTs_cons, R.ev_hold_N, R.ev_hold_Z, R.ev_hold_B, R.ev_settle_N, R.ev_settle_Z, R.ev_settle_B, R.ev_isLst_lst, R.ev_isLst_tup, R.ev_isLst_int, R.ev_isLst_bl, R.ev_isLst_str, R.ev_isLst_non, R.ev_isLst_scr, R.ev_idx_lst, R.ev_idx_tup, R.ev_idx_scr, R.ev_idx_str, R.ev_neg, R.ev_add_int, R.ev_sub_int, R.ev_mul_int, R.ev_div_int, R.ev_mod_int, R.ev_pow_int, R.ev_add_str, R.ev_add_tup, R.ev_add_lst, R.ev_eq_int, R.ev_ne_int, R.ev_eq_str, R.ev_ne_str, R.ev_lt, R.ev_le, R.ev_gt, R.ev_ge, R.ev_is, R.ev_isNot, R.ev_none_tup, R.ev_none_lst, R.ev_none_int, R.ev_none_str, R.ev_none_non, R.ev_len_lst, R.ev_len_tup, R.ev_len_scr, R.ev_len_str, R.ev_abs, R.ev_int1, R.ev_str_int, R.ev_str_str, R.ev_list_lst, R.ev_list_tup, R.ev_tup_lst, R.ev_tup_tup, R.ev_fmt_str, R.ev_fmt_int, R.ev_sl_lst, R.ev_sl_tup, R.ev_sl_scr, R.ev_split, R.ev_join, R.ev_tru_bl, R.ev_tru_int, R.ev_tru_non, R.ev_tru_lst, R.ev_tru_tup, R.ev_avRVs_nil, R.ev_avRVs_pl, R.ev_avRVs_rv, R.ev_share_pl, R.ev_share_N, R.ev_share_Z, R.ev_share_B, R.ev_lent_pl, R.ev_lent_N, R.ev_lent_Z, R.ev_lent_B, R.ev_fin_ret, R.ev_fin_next, R.ev_io_t, R.ev_io_f, R.ev_jGo_nil, R.ev_jGo_cons, R.ev_isi, R.ev_hold_t, R.ev_hold_fint, R.ev_hold_fstr, R.ev_hold_ftup, R.ev_hold_fbl, R.ev_settle_int, R.ev_settle_str, R.ev_settle_tup, R.ev_settle_bl, R.ev_settle_non, R.ev_share_int, R.ev_share_str, R.ev_share_tup, R.ev_lent_int, R.ev_lent_str, R.ev_lent_tup, R.hmd, i1, i2, sDot, sStar, sEq, hin, c1, c2, c3, hx']⟩)
  have hr : iRng1M (mACons (mBlt fLen (cPl 0 cNil)) mANil) [.frz (txD g), .frz (txD v), .un] = .ok (rangeD 0 g.length) [.frz (txD g), .frz (txD v), .un] := by
    have hl : lenOk g.length = true := lenOk_of (by omega)
    have hm : mACons (mBlt fLen (cPl 0 cNil)) mANil [.frz (txD g), .frz (txD v), .un] = .ok [.int g.length] [.frz (txD g), .frz (txD v), .un] := by simp [R.ev_mC, R.ev_mVar, R.ev_mVarZ, R.ev_mOp, R.ev_mOpV, R.ev_mUn, R.ev_mANil, R.ev_mACons, R.ev_mTup, R.ev_mLst, R.ev_mNoPart, R.ev_mPart, R.ev_mSl, R.ev_tTrue, R.ev_tBool, R.ev_mCh, R.ev_tAndM, R.ev_tOrM, R.ev_tNotM, R.ev_mIfE, R.ev_mAndV, R.ev_mOrV, R.ev_mNotV, R.ev_cNil, R.ev_cPl, R.ev_cRv, R.ev_mBlt, R.ev_mM1, R.ev_mCall, R.ev_mNext, R.ev_mSeq, R.ev_mFl, R.ev_mDrop, R.ev_mRet, R.ev_mRetV, R.ev_mIfS, R.ev_mAsg, R.ev_mAug, R.ev_mSetP, R.ev_mLM, R.ev_iAnyM, R.ev_iRng2M, R.ev_iEn1M, R.ev_iEnM, R.ev_iZipM, R.ev_mJoined, R.ev_slotRV, R.ev_frzSl, R.ev_relSl, R.ev_setSl, R.ev_lend, R.ev_setT_nm, R.ev_setT_tp, R.ev_setTs_nil, R.ev_setTs_cons, R.ev_hold_N, R.ev_hold_Z, R.ev_hold_B, R.ev_settle_N, R.ev_settle_Z, R.ev_settle_B, R.ev_isLst_lst, R.ev_isLst_tup, R.ev_isLst_int, R.ev_isLst_bl, R.ev_isLst_str, R.ev_isLst_non, R.ev_isLst_scr, R.ev_idx_lst, R.ev_idx_tup, R.ev_idx_scr, R.ev_idx_str, R.ev_neg, R.ev_add_int, R.ev_sub_int, R.ev_mul_int, R.ev_div_int, R.ev_mod_int, R.ev_pow_int, R.ev_add_str, R.ev_add_tup, R.ev_add_lst, R.ev_eq_int, R.ev_ne_int, R.ev_eq_str, R.ev_ne_str, R.ev_lt, R.ev_le, R.ev_gt, R.ev_ge, R.ev_is, R.ev_isNot, R.ev_none_tup, R.ev_none_lst, R.ev_none_int, R.ev_none_str, R.ev_none_non, R.ev_len_lst, R.ev_len_tup, R.ev_len_scr, R.ev_len_str, R.ev_abs, R.ev_int1, R.ev_str_int, R.ev_str_str, R.ev_list_lst, R.ev_list_tup, R.ev_tup_lst, R.ev_tup_tup, R.ev_fmt_str, R.ev_fmt_int, R.ev_sl_lst, R.ev_sl_tup, R.ev_sl_scr, R.ev_split, R.ev_join, R.ev_tru_bl, R.ev_tru_int, R.ev_tru_non, R.ev_tru_lst, R.ev_tru_tup, R.ev_avRVs_nil, R.ev_avRVs_pl, R.ev_avRVs_rv, R.ev_share_pl, R.ev_share_N, R.ev_share_Z, R.ev_share_B, R.ev_lent_pl, R.ev_lent_N, R.ev_lent_Z, R.ev_lent_B, R.ev_fin_ret, R.ev_fin_next, R.ev_io_t, R.ev_io_f, R.ev_jGo_nil, R.ev_jGo_cons, R.ev_isi, R.ev_hold_t, R.ev_hold_fint, R.ev_hold_fstr, R.ev_hold_ftup, R.ev_hold_fbl, R.ev_settle_int, R.ev_settle_str, R.ev_settle_tup, R.ev_settle_bl, R.ev_settle_non, R.ev_share_int, R.ev_share_str, R.ev_share_tup, R.ev_lent_int, R.ev_lent_str, R.ev_lent_tup, R.hmd, txD, SX.S_len, hl]
    rw [R.ev_iRng1M, hm]
    dsimp only
    rw [if_pos (smallN g.length (by omega))]; rfl
  have ha : (rangeD 0 g.length).all (okAt g v) = fitB g v := fit_range g v 0 h
  rw [ha] at hh
  rw [R.ev_mSeq, R.ev_mFor, hr]
  rcases hh with ⟨hf, e, y, rfl, _⟩ | ⟨hf, e⟩
  · rw [hf]
    dsimp only
    rw [e]; rfl
  · rw [hf]
    dsimp only
    rw [e]; rfl

theorem fire_eq {n : Nat} {w : List Nat} {t o : Int} {g v : List Nat} (r : RowL n w t o g) (hv : v.length = n) (hn : n ≤ 12) : ∃ md, g_law_works [rowD w t o g, txD v] = .ret md (.bl (fireB w o g v)) none := by
  have st : g_law_works [rowD w t o g, txD v] = fin false (m_law_works [.frz (rowD w t o g), .frz (txD v)]) := rfl
  rw [st]
  unfold m_law_works fireB
  have hg : g.length ≤ v.length := by rcases r.gl with h | h <;> (rw [h]; first | omega | simp)
  have hf := law_fits g v r.gs hg (by omega)
  have ix : ∀ (md md' : Md) (i : Int), fIdx ⟨md, rowD w t o g⟩ ⟨md', .int i⟩ = (L2.atI [R.D.str (SX.S w), .int t, .int o, txD g] i).map fun d => ⟨.Z, d⟩ := fun _ _ _ => rfl
  have a6 : ∀ q md l, hold q ⟨md, txD l⟩ = some ⟨hmd q md, txD l⟩ := fun q md l => R.ev_hold_fstr
  have a7 : ∀ S md l, shareOk S (.rv ⟨md, txD l⟩) = true := fun S md l => R.ev_share_str
  have gl : isLst (txD g) = false := rfl
  cases hb : fitB g v with
  | false =>
    rw [hb] at hf
    simp [R.ev_mC, R.ev_mVar, R.ev_mVarZ, R.ev_mOp, R.ev_mOpV, R.ev_mUn, R.ev_mANil, R.ev_mACons, R.ev_mTup, R.ev_mLst, R.ev_mNoPart, R.ev_mPart, R.ev_mSl, R.ev_tTrue, R.ev_tBool, R.ev_mCh, R.ev_tAndM, R.ev_tOrM, R.ev_tNotM, R.ev_mIfE, R.ev_mAndV, R.ev_mOrV, R.ev_mNotV, R.ev_cNil, R.ev_cPl, R.ev_cRv, R.ev_mBlt, R.ev_mM1, R.ev_mCall, R.ev_mNext, R.ev_mSeq, R.ev_mFl, R.ev_mDrop, R.ev_mRet, R.ev_mRetV, R.ev_mIfS, R.ev_mAsg, R.ev_mAug, R.ev_mSetP, R.ev_mLM, R.ev_iAnyM, R.ev_iRng1M, R.ev_iRng2M, R.ev_iEn1M, R.ev_iEnM, R.ev_iZipM, R.ev_mFor, R.ev_mLc, R.ev_mJoined, R.ev_slotRV, R.ev_frzSl, R.ev_relSl, R.ev_setSl, R.ev_lend, R.ev_setT_nm, R.ev_setT_tp, R.ev_setTs_nil, R.ev_setTs_cons, R.ev_hold_N, R.ev_hold_Z, R.ev_hold_B, R.ev_settle_N, R.ev_settle_Z, R.ev_settle_B, R.ev_isLst_lst, R.ev_isLst_tup, R.ev_isLst_int, R.ev_isLst_bl, R.ev_isLst_str, R.ev_isLst_non, R.ev_isLst_scr, R.ev_idx_lst, R.ev_idx_tup, R.ev_idx_scr, R.ev_idx_str, R.ev_neg, R.ev_add_int, R.ev_sub_int, R.ev_mul_int, R.ev_div_int, R.ev_mod_int, R.ev_pow_int, R.ev_add_str, R.ev_add_tup, R.ev_add_lst, R.ev_eq_int, R.ev_ne_int, R.ev_eq_str, R.ev_ne_str, R.ev_lt, R.ev_le, R.ev_gt, R.ev_ge, R.ev_is, R.ev_isNot, R.ev_none_tup, R.ev_none_lst, R.ev_none_int, R.ev_none_str, R.ev_none_non, R.ev_len_lst, R.ev_len_tup, R.ev_len_scr, R.ev_len_str, R.ev_abs, R.ev_int1, R.ev_str_int, R.ev_str_str, R.ev_list_lst, R.ev_list_tup, R.ev_tup_lst, R.ev_tup_tup, R.ev_fmt_str, R.ev_fmt_int, R.ev_sl_lst, R.ev_sl_tup, R.ev_sl_scr, R.ev_split, R.ev_join, R.ev_tru_bl, R.ev_tru_int, R.ev_tru_non, R.ev_tru_lst, R.ev_tru_tup, R.ev_avRVs_nil, R.ev_avRVs_pl, R.ev_avRVs_rv, R.ev_share_pl, R.ev_share_N, R.ev_share_Z, R.ev_share_B, R.ev_lent_pl, R.ev_lent_N, R.ev_lent_Z, R.ev_lent_B, R.ev_fin_ret, R.ev_fin_next, R.ev_io_t, R.ev_io_f, R.ev_jGo_nil, R.ev_jGo_cons, R.ev_isi, R.ev_hold_t, R.ev_hold_fint, R.ev_hold_fstr, R.ev_hold_ftup, R.ev_hold_fbl, R.ev_settle_int, R.ev_settle_str, R.ev_settle_tup, R.ev_settle_bl, R.ev_settle_non, R.ev_share_int, R.ev_share_str, R.ev_share_tup, R.ev_lent_int, R.ev_lent_str, R.ev_lent_tup, R.hmd, ix, at0, at2, at3, hf, a6, a7, gl]
  | true =>
    rw [hb] at hf
    by_cases hc : w = clearL
    · subst hc
      simp [R.ev_mC, R.ev_mVar, R.ev_mVarZ, R.ev_mOp, R.ev_mOpV, R.ev_mUn, R.ev_mANil, R.ev_mACons, R.ev_mTup, R.ev_mLst, R.ev_mNoPart, R.ev_mPart, R.ev_mSl, R.ev_tTrue, R.ev_tBool, R.ev_mCh, R.ev_tAndM, R.ev_tOrM, R.ev_tNotM, R.ev_mIfE, R.ev_mAndV, R.ev_mOrV, R.ev_mNotV, R.ev_cNil, R.ev_cPl, R.ev_cRv, R.ev_mBlt, R.ev_mM1, R.ev_mCall, R.ev_mNext, R.ev_mSeq, R.ev_mFl, R.ev_mDrop, R.ev_mRet, R.ev_mRetV, R.ev_mIfS, R.ev_mAsg, R.ev_mAug, R.ev_mSetP, R.ev_mLM, R.ev_iAnyM, R.ev_iRng1M, R.ev_iRng2M, R.ev_iEn1M, R.ev_iEnM, R.ev_iZipM, R.ev_mFor, R.ev_mLc, R.ev_mJoined, R.ev_slotRV, R.ev_frzSl, R.ev_relSl, R.ev_setSl, R.ev_lend, R.ev_setT_nm, R.ev_setT_tp, R.ev_setTs_nil, R.ev_setTs_cons, R.ev_hold_N, R.ev_hold_Z, R.ev_hold_B, R.ev_settle_N, R.ev_settle_Z, R.ev_settle_B, R.ev_isLst_lst, R.ev_isLst_tup, R.ev_isLst_int, R.ev_isLst_bl, R.ev_isLst_str, R.ev_isLst_non, R.ev_isLst_scr, R.ev_idx_lst, R.ev_idx_tup, R.ev_idx_scr, R.ev_idx_str, R.ev_neg, R.ev_add_int, R.ev_sub_int, R.ev_mul_int, R.ev_div_int, R.ev_mod_int, R.ev_pow_int, R.ev_add_str, R.ev_add_tup, R.ev_add_lst, R.ev_eq_int, R.ev_ne_int, R.ev_eq_str, R.ev_ne_str, R.ev_lt, R.ev_le, R.ev_gt, R.ev_ge, R.ev_is, R.ev_isNot, R.ev_none_tup, R.ev_none_lst, R.ev_none_int, R.ev_none_str, R.ev_none_non, R.ev_len_lst, R.ev_len_tup, R.ev_len_scr, R.ev_len_str, R.ev_abs, R.ev_int1, R.ev_str_int, R.ev_str_str, R.ev_list_lst, R.ev_list_tup, R.ev_tup_lst, R.ev_tup_tup, R.ev_fmt_str, R.ev_fmt_int, R.ev_sl_lst, R.ev_sl_tup, R.ev_sl_scr, R.ev_split, R.ev_join, R.ev_tru_bl, R.ev_tru_int, R.ev_tru_non, R.ev_tru_lst, R.ev_tru_tup, R.ev_avRVs_nil, R.ev_avRVs_pl, R.ev_avRVs_rv, R.ev_share_pl, R.ev_share_N, R.ev_share_Z, R.ev_share_B, R.ev_lent_pl, R.ev_lent_N, R.ev_lent_Z, R.ev_lent_B, R.ev_fin_ret, R.ev_fin_next, R.ev_io_t, R.ev_io_f, R.ev_jGo_nil, R.ev_jGo_cons, R.ev_isi, R.ev_hold_t, R.ev_hold_fint, R.ev_hold_fstr, R.ev_hold_ftup, R.ev_hold_fbl, R.ev_settle_int, R.ev_settle_str, R.ev_settle_tup, R.ev_settle_bl, R.ev_settle_non, R.ev_share_int, R.ev_share_str, R.ev_share_tup, R.ev_lent_int, R.ev_lent_str, R.ev_lent_tup, R.hmd, ix, at0, at2, at3, hf, a6, a7, gl, sClear, sEq]
    · obtain ⟨o0, o1, o2⟩ := r.on hc
      obtain ⟨c, ec⟩ : ∃ c, v[o.toNat]? = some c := ⟨v[o.toNat]'(by omega), List.getElem?_eq_getElem _⟩
      have hi : ∀ md md', fIdx ⟨md, txD v⟩ ⟨md', .int o⟩ = some ⟨.N, .str (SX.S [c])⟩ := fun md md' => idx_S (by omega) o0 ec
      by_cases h46 : c = 46
      · simp [R.ev_mC, R.ev_mVar, R.ev_mVarZ, R.ev_mOp, R.ev_mOpV, R.ev_mUn, R.ev_mANil, R.ev_mACons, R.ev_mTup, R.ev_mLst, R.ev_mNoPart, R.ev_mPart, R.ev_mSl, R.ev_tTrue, R.ev_tBool, R.ev_mCh, R.ev_tAndM, R.ev_tOrM, R.ev_tNotM, R.ev_mIfE, R.ev_mAndV, R.ev_mOrV, R.ev_mNotV, R.ev_cNil, R.ev_cPl, R.ev_cRv, R.ev_mBlt, R.ev_mM1, R.ev_mCall, R.ev_mNext, R.ev_mSeq, R.ev_mFl, R.ev_mDrop, R.ev_mRet, R.ev_mRetV, R.ev_mIfS, R.ev_mAsg, R.ev_mAug, R.ev_mSetP, R.ev_mLM, R.ev_iAnyM, R.ev_iRng1M, R.ev_iRng2M, R.ev_iEn1M, R.ev_iEnM, R.ev_iZipM, R.ev_mFor, R.ev_mLc, R.ev_mJoined, R.ev_slotRV, R.ev_frzSl, R.ev_relSl, R.ev_setSl, R.ev_lend, R.ev_setT_nm, R.ev_setT_tp, R.ev_setTs_nil, R.ev_setTs_cons, R.ev_hold_N, R.ev_hold_Z, R.ev_hold_B, R.ev_settle_N, R.ev_settle_Z, R.ev_settle_B, R.ev_isLst_lst, R.ev_isLst_tup, R.ev_isLst_int, R.ev_isLst_bl, R.ev_isLst_str, R.ev_isLst_non, R.ev_isLst_scr, R.ev_idx_lst, R.ev_idx_tup, R.ev_idx_scr, R.ev_idx_str, R.ev_neg, R.ev_add_int, R.ev_sub_int, R.ev_mul_int, R.ev_div_int, R.ev_mod_int, R.ev_pow_int, R.ev_add_str, R.ev_add_tup, R.ev_add_lst, R.ev_eq_int, R.ev_ne_int, R.ev_eq_str, R.ev_ne_str, R.ev_lt, R.ev_le, R.ev_gt, R.ev_ge, R.ev_is, R.ev_isNot, R.ev_none_tup, R.ev_none_lst, R.ev_none_int, R.ev_none_str, R.ev_none_non, R.ev_len_lst, R.ev_len_tup, R.ev_len_scr, R.ev_len_str, R.ev_abs, R.ev_int1, R.ev_str_int, R.ev_str_str, R.ev_list_lst, R.ev_list_tup, R.ev_tup_lst, R.ev_tup_tup, R.ev_fmt_str, R.ev_fmt_int, R.ev_sl_lst, R.ev_sl_tup, R.ev_sl_scr, R.ev_split, R.ev_join, R.ev_tru_bl, R.ev_tru_int, R.ev_tru_non, R.ev_tru_lst, R.ev_tru_tup, R.ev_avRVs_nil, R.ev_avRVs_pl, R.ev_avRVs_rv, R.ev_share_pl, R.ev_share_N, R.ev_share_Z, R.ev_share_B, R.ev_lent_pl, R.ev_lent_N, R.ev_lent_Z, R.ev_lent_B, R.ev_fin_ret, R.ev_fin_next, R.ev_io_t, R.ev_io_f, R.ev_jGo_nil, R.ev_jGo_cons, R.ev_isi, R.ev_hold_t, R.ev_hold_fint, R.ev_hold_fstr, R.ev_hold_ftup, R.ev_hold_fbl, R.ev_settle_int, R.ev_settle_str, R.ev_settle_tup, R.ev_settle_bl, R.ev_settle_non, R.ev_share_int, R.ev_share_str, R.ev_share_tup, R.ev_lent_int, R.ev_lent_str, R.ev_lent_tup, R.hmd, ix, at0, at2, at3, hf, a6, a7, gl, hc, sClear, sDot, sEq, hi, ec, h46]
      · simp [R.ev_mC, R.ev_mVar, R.ev_mVarZ, R.ev_mOp, R.ev_mOpV, R.ev_mUn, R.ev_mANil, R.ev_mACons, R.ev_mTup, R.ev_mLst, R.ev_mNoPart, R.ev_mPart, R.ev_mSl, R.ev_tTrue, R.ev_tBool, R.ev_mCh, R.ev_tAndM, R.ev_tOrM, R.ev_tNotM, R.ev_mIfE, R.ev_mAndV, R.ev_mOrV, R.ev_mNotV, R.ev_cNil, R.ev_cPl, R.ev_cRv, R.ev_mBlt, R.ev_mM1, R.ev_mCall, R.ev_mNext, R.ev_mSeq, R.ev_mFl, R.ev_mDrop, R.ev_mRet, R.ev_mRetV, R.ev_mIfS, R.ev_mAsg, R.ev_mAug, R.ev_mSetP, R.ev_mLM, R.ev_iAnyM, R.ev_iRng1M, R.ev_iRng2M, R.ev_iEn1M, R.ev_iEnM, R.ev_iZipM, R.ev_mFor, R.ev_mLc, R.ev_mJoined, R.ev_slotRV, R.ev_frzSl, R.ev_relSl, R.ev_setSl, R.ev_lend, R.ev_setT_nm, R.ev_setT_tp, R.ev_setTs_nil, R.ev_setTs_cons, R.ev_hold_N, R.ev_hold_Z, R.ev_hold_B, R.ev_settle_N, R.ev_settle_Z, R.ev_settle_B, R.ev_isLst_lst, R.ev_isLst_tup, R.ev_isLst_int, R.ev_isLst_bl, R.ev_isLst_str, R.ev_isLst_non, R.ev_isLst_scr, R.ev_idx_lst, R.ev_idx_tup, R.ev_idx_scr, R.ev_idx_str, R.ev_neg, R.ev_add_int, R.ev_sub_int, R.ev_mul_int, R.ev_div_int, R.ev_mod_int, R.ev_pow_int, R.ev_add_str, R.ev_add_tup, R.ev_add_lst, R.ev_eq_int, R.ev_ne_int, R.ev_eq_str, R.ev_ne_str, R.ev_lt, R.ev_le, R.ev_gt, R.ev_ge, R.ev_is, R.ev_isNot, R.ev_none_tup, R.ev_none_lst, R.ev_none_int, R.ev_none_str, R.ev_none_non, R.ev_len_lst, R.ev_len_tup, R.ev_len_scr, R.ev_len_str, R.ev_abs, R.ev_int1, R.ev_str_int, R.ev_str_str, R.ev_list_lst, R.ev_list_tup, R.ev_tup_lst, R.ev_tup_tup, R.ev_fmt_str, R.ev_fmt_int, R.ev_sl_lst, R.ev_sl_tup, R.ev_sl_scr, R.ev_split, R.ev_join, R.ev_tru_bl, R.ev_tru_int, R.ev_tru_non, R.ev_tru_lst, R.ev_tru_tup, R.ev_avRVs_nil, R.ev_avRVs_pl, R.ev_avRVs_rv, R.ev_share_pl, R.ev_share_N, R.ev_share_Z, R.ev_share_B, R.ev_lent_pl, R.ev_lent_N, R.ev_lent_Z, R.ev_lent_B, R.ev_fin_ret, R.ev_fin_next, R.ev_io_t, R.ev_io_f, R.ev_jGo_nil, R.ev_jGo_cons, R.ev_isi, R.ev_hold_t, R.ev_hold_fint, R.ev_hold_fstr, R.ev_hold_ftup, R.ev_hold_fbl, R.ev_settle_int, R.ev_settle_str, R.ev_settle_tup, R.ev_settle_bl, R.ev_settle_non, R.ev_share_int, R.ev_share_str, R.ev_share_tup, R.ev_lent_int, R.ev_lent_str, R.ev_lent_tup, R.hmd, ix, at0, at2, at3, hf, a6, a7, gl, hc, sClear, sDot, sEq, hi, ec, h46]
theorem own_get : ∀ (v : List Nat) (j i : Nat) (c : Nat), v[i]? = some c → (ownL v j)[i]? = some (if c = 46 then -1 else ((j + i : Nat) : Int))
  | [], _, _, _, h => nomatch h
  | x :: r, j, 0, c, h => by cases h; rfl
  | x :: r, j, i + 1, c, h => by
    rw [ownL, List.getElem?_cons_succ]
    have := own_get r (j + 1) i c h
    rw [this]
    have e : j + 1 + i = j + (i + 1) := by omega
    rw [e]
theorem own_range (v : List Nat) : (List.range v.length).map (fun i => R.D.int (if v.getD i 0 = 46 then -1 else (i : Int))) = (own v).map R.D.int := by
  apply List.ext_getElem?
  intro i
  rw [List.getElem?_map, List.getElem?_map]
  by_cases hi : i < v.length
  · rw [List.getElem?_range hi]
    have hc : v[i]? = some (v.getD i 0) := by rw [List.getD_eq_getElem?_getD, List.getElem?_eq_getElem hi]; rfl
    have := own_get v 0 i _ hc
    unfold own
    rw [this, Nat.zero_add]; rfl
  · rw [List.getElem?_eq_none (by rw [List.length_range]; omega), List.getElem?_eq_none (by rw [own_len]; omega)]; rfl
theorem law_origins {n : Nat} {w : List Nat} {t o : Int} {g v : List Nat} (r : RowL n w t o g) (hv : v.length = n) (hn : n ≤ 12) : g_law_origins [rowD w t o g, txD v] = .ret .N (imD (srcL w t o g v)) none := by
  have st : g_law_origins [rowD w t o g, txD v] = fin false (m_law_origins [.frz (rowD w t o g), .frz (txD v), .un, .un]) := rfl
  rw [st]
  unfold m_law_origins srcL
  obtain ⟨md, hw⟩ := fire_eq r hv hn
  have ix : ∀ (md md' : Md) (i : Int), fIdx ⟨md, rowD w t o g⟩ ⟨md', .int i⟩ = (L2.atI [R.D.str (SX.S w), .int t, .int o, txD g] i).map fun d => ⟨.Z, d⟩ := fun _ _ _ => rfl
  have lc := lcGo_map (vs := [3]) (tg := .nm 3) (mt := fun S => .ok true S) (me := mIfE (tBool (mOp true (cop .NotEq) (mOpV 1 fIdx (mVar 3)) (mC (.str ".")))) (mVar 3) (mUn fNeg (mC (.int 1)))) (fun i : Nat => R.D.int (if v.getD i 0 = 46 then -1 else (i : Int))) (fun i : Nat => R.D.int (0 + (i : Nat))) [.frz (rowD w t o g), .frz (txD v), .un, .un] (List.range v.length) (fun i hi => by
    have hil : i < v.length := List.mem_range.mp hi
    have e0 : (0 : Int) + (i : Nat) = (i : Nat) := by omega
    have ec : v[((i : Nat) : Int).toNat]? = some (v.getD i 0) := by
      rw [Int.toNat_natCast, List.getD_eq_getElem?_getD, List.getElem?_eq_getElem hil]; rfl
    have ha : ∀ md md', fIdx ⟨md, txD v⟩ ⟨md', .int ((i : Nat) : Int)⟩ = _ := fun md md' => idx_S (by omega) (by omega) ec
    rw [e0]
    by_cases h : v.getD i 0 = 46
    · rw [h] at ha
      refine ⟨[.frz (rowD w t o g), .frz (txD v), .un, .frz (.int (i : Nat))], [.frz (rowD w t o g), .frz (txD v), .un, .frz (.int (i : Nat))], ⟨.N, .int (-1)⟩, [.frz (rowD w t o g), .frz (txD v), .un, .frz (.int (i : Nat))], ⟨.N, .int (-1)⟩, by simp [R.ev_mC, R.ev_mVar, R.ev_mVarZ, R.ev_mOp, R.ev_mOpV, R.ev_mUn, R.ev_mANil, R.ev_mACons, R.ev_mTup, R.ev_mLst, R.ev_mNoPart, R.ev_mPart, R.ev_mSl, R.ev_tTrue, R.ev_tBool, R.ev_mCh, R.ev_tAndM, R.ev_tOrM, R.ev_tNotM, R.ev_mIfE, R.ev_mAndV, R.ev_mOrV, R.ev_mNotV, R.ev_cNil, R.ev_cPl, R.ev_cRv, R.ev_mBlt, R.ev_mM1, R.ev_mCall, R.ev_mNext, R.ev_mSeq, R.ev_mFl, R.ev_mDrop, R.ev_mRet, R.ev_mRetV, R.ev_mIfS, R.ev_mAsg, R.ev_mAug, R.ev_mSetP, R.ev_mLM, R.ev_iAnyM, R.ev_iRng1M, R.ev_iRng2M, R.ev_iEn1M, R.ev_iEnM, R.ev_iZipM, R.ev_mFor, R.ev_mLc, R.ev_mJoined, R.ev_slotRV, R.ev_frzSl, R.ev_relSl, R.ev_setSl, R.ev_lend, R.ev_setT_nm, R.ev_setT_tp, R.ev_setTs_nil, R.ev_setTs_cons, R.ev_hold_N, R.ev_hold_Z, R.ev_hold_B, R.ev_settle_N, R.ev_settle_Z, R.ev_settle_B, R.ev_isLst_lst, R.ev_isLst_tup, R.ev_isLst_int, R.ev_isLst_bl, R.ev_isLst_str, R.ev_isLst_non, R.ev_isLst_scr, R.ev_idx_lst, R.ev_idx_tup, R.ev_idx_scr, R.ev_idx_str, R.ev_neg, R.ev_add_int, R.ev_sub_int, R.ev_mul_int, R.ev_div_int, R.ev_mod_int, R.ev_pow_int, R.ev_add_str, R.ev_add_tup, R.ev_add_lst, R.ev_eq_int, R.ev_ne_int, R.ev_eq_str, R.ev_ne_str, R.ev_lt, R.ev_le, R.ev_gt, R.ev_ge, R.ev_is, R.ev_isNot, R.ev_none_tup, R.ev_none_lst, R.ev_none_int, R.ev_none_str, R.ev_none_non, R.ev_len_lst, R.ev_len_tup, R.ev_len_scr, R.ev_len_str, R.ev_abs, R.ev_int1, R.ev_str_int, R.ev_str_str, R.ev_list_lst, R.ev_list_tup, R.ev_tup_lst, R.ev_tup_tup, R.ev_fmt_str, R.ev_fmt_int, R.ev_sl_lst, R.ev_sl_tup, R.ev_sl_scr, R.ev_split, R.ev_join, R.ev_tru_bl, R.ev_tru_int, R.ev_tru_non, R.ev_tru_lst, R.ev_tru_tup, R.ev_avRVs_nil, R.ev_avRVs_pl, R.ev_avRVs_rv, R.ev_share_pl, R.ev_share_N, R.ev_share_Z, R.ev_share_B, R.ev_lent_pl, R.ev_lent_N, R.ev_lent_Z, R.ev_lent_B, R.ev_fin_ret, R.ev_fin_next, R.ev_io_t, R.ev_io_f, R.ev_jGo_nil, R.ev_jGo_cons, R.ev_isi, R.ev_hold_t, R.ev_hold_fint, R.ev_hold_fstr, R.ev_hold_ftup, R.ev_hold_fbl, R.ev_settle_int, R.ev_settle_str, R.ev_settle_tup, R.ev_settle_bl, R.ev_settle_non, R.ev_share_int, R.ev_share_str, R.ev_share_tup, R.ev_lent_int, R.ev_lent_str, R.ev_lent_tup, R.hmd], rfl, by simp [R.ev_mC, R.ev_mVar, R.ev_mVarZ, R.ev_mOp, R.ev_mOpV, R.ev_mUn, R.ev_mANil, R.ev_mACons, R.ev_mTup, R.ev_mLst, R.ev_mNoPart, R.ev_mPart, R.ev_mSl, R.ev_tTrue, R.ev_tBool, R.ev_mCh, R.ev_tAndM, R.ev_tOrM, R.ev_tNotM, R.ev_mIfE, R.ev_mAndV, R.ev_mOrV, R.ev_mNotV, R.ev_cNil, R.ev_cPl, R.ev_cRv, R.ev_mBlt, R.ev_mM1, R.ev_mCall, R.ev_mNext, R.ev_mSeq, R.ev_mFl, R.ev_mDrop, R.ev_mRet, R.ev_mRetV, R.ev_mIfS, R.ev_mAsg, R.ev_mAug, R.ev_mSetP, R.ev_mLM, R.ev_iAnyM, R.ev_iRng1M, R.ev_iRng2M, R.ev_iEn1M, R.ev_iEnM, R.ev_iZipM, R.ev_mFor, R.ev_mLc, R.ev_mJoined, R.ev_slotRV, R.ev_frzSl, R.ev_relSl, R.ev_setSl, R.ev_lend, R.ev_setT_nm, R.ev_setT_tp, R.ev_setTs_nil, R.ev_setTs_cons, R.ev_hold_N, R.ev_hold_Z, R.ev_hold_B, R.ev_settle_N, R.ev_settle_Z, R.ev_settle_B, R.ev_isLst_lst, R.ev_isLst_tup, R.ev_isLst_int, R.ev_isLst_bl, R.ev_isLst_str, R.ev_isLst_non, R.ev_isLst_scr, R.ev_idx_lst, R.ev_idx_tup, R.ev_idx_scr, R.ev_idx_str, R.ev_neg, R.ev_add_int, R.ev_sub_int, R.ev_mul_int, R.ev_div_int, R.ev_mod_int, R.ev_pow_int, R.ev_add_str, R.ev_add_tup, R.ev_add_lst, R.ev_eq_int, R.ev_ne_int, R.ev_eq_str, R.ev_ne_str, R.ev_lt, R.ev_le, R.ev_gt, R.ev_ge, R.ev_is, R.ev_isNot, R.ev_none_tup, R.ev_none_lst, R.ev_none_int, R.ev_none_str, R.ev_none_non, R.ev_len_lst, R.ev_len_tup, R.ev_len_scr, R.ev_len_str, R.ev_abs, R.ev_int1, R.ev_str_int, R.ev_str_str, R.ev_list_lst, R.ev_list_tup, R.ev_tup_lst, R.ev_tup_tup, R.ev_fmt_str, R.ev_fmt_int, R.ev_sl_lst, R.ev_sl_tup, R.ev_sl_scr, R.ev_split, R.ev_join, R.ev_tru_bl, R.ev_tru_int, R.ev_tru_non, R.ev_tru_lst, R.ev_tru_tup, R.ev_avRVs_nil, R.ev_avRVs_pl, R.ev_avRVs_rv, R.ev_share_pl, R.ev_share_N, R.ev_share_Z, R.ev_share_B, R.ev_lent_pl, R.ev_lent_N, R.ev_lent_Z, R.ev_lent_B, R.ev_fin_ret, R.ev_fin_next, R.ev_io_t, R.ev_io_f, R.ev_jGo_nil, R.ev_jGo_cons, R.ev_isi, R.ev_hold_t, R.ev_hold_fint, R.ev_hold_fstr, R.ev_hold_ftup, R.ev_hold_fbl, R.ev_settle_int, R.ev_settle_str, R.ev_settle_tup, R.ev_settle_bl, R.ev_settle_non, R.ev_share_int, R.ev_share_str, R.ev_share_tup, R.ev_lent_int, R.ev_lent_str, R.ev_lent_tup, R.hmd, ha, sDot], rfl, by simp [okW], by rw [if_pos h], rfl⟩
    · refine ⟨[.frz (rowD w t o g), .frz (txD v), .un, .frz (.int (i : Nat))], [.frz (rowD w t o g), .frz (txD v), .un, .frz (.int (i : Nat))], ⟨.Z, .int (i : Nat)⟩, [.frz (rowD w t o g), .frz (txD v), .un, .frz (.int (i : Nat))], ⟨.Z, .int (i : Nat)⟩, by simp [R.ev_mC, R.ev_mVar, R.ev_mVarZ, R.ev_mOp, R.ev_mOpV, R.ev_mUn, R.ev_mANil, R.ev_mACons, R.ev_mTup, R.ev_mLst, R.ev_mNoPart, R.ev_mPart, R.ev_mSl, R.ev_tTrue, R.ev_tBool, R.ev_mCh, R.ev_tAndM, R.ev_tOrM, R.ev_tNotM, R.ev_mIfE, R.ev_mAndV, R.ev_mOrV, R.ev_mNotV, R.ev_cNil, R.ev_cPl, R.ev_cRv, R.ev_mBlt, R.ev_mM1, R.ev_mCall, R.ev_mNext, R.ev_mSeq, R.ev_mFl, R.ev_mDrop, R.ev_mRet, R.ev_mRetV, R.ev_mIfS, R.ev_mAsg, R.ev_mAug, R.ev_mSetP, R.ev_mLM, R.ev_iAnyM, R.ev_iRng1M, R.ev_iRng2M, R.ev_iEn1M, R.ev_iEnM, R.ev_iZipM, R.ev_mFor, R.ev_mLc, R.ev_mJoined, R.ev_slotRV, R.ev_frzSl, R.ev_relSl, R.ev_setSl, R.ev_lend, R.ev_setT_nm, R.ev_setT_tp, R.ev_setTs_nil, R.ev_setTs_cons, R.ev_hold_N, R.ev_hold_Z, R.ev_hold_B, R.ev_settle_N, R.ev_settle_Z, R.ev_settle_B, R.ev_isLst_lst, R.ev_isLst_tup, R.ev_isLst_int, R.ev_isLst_bl, R.ev_isLst_str, R.ev_isLst_non, R.ev_isLst_scr, R.ev_idx_lst, R.ev_idx_tup, R.ev_idx_scr, R.ev_idx_str, R.ev_neg, R.ev_add_int, R.ev_sub_int, R.ev_mul_int, R.ev_div_int, R.ev_mod_int, R.ev_pow_int, R.ev_add_str, R.ev_add_tup, R.ev_add_lst, R.ev_eq_int, R.ev_ne_int, R.ev_eq_str, R.ev_ne_str, R.ev_lt, R.ev_le, R.ev_gt, R.ev_ge, R.ev_is, R.ev_isNot, R.ev_none_tup, R.ev_none_lst, R.ev_none_int, R.ev_none_str, R.ev_none_non, R.ev_len_lst, R.ev_len_tup, R.ev_len_scr, R.ev_len_str, R.ev_abs, R.ev_int1, R.ev_str_int, R.ev_str_str, R.ev_list_lst, R.ev_list_tup, R.ev_tup_lst, R.ev_tup_tup, R.ev_fmt_str, R.ev_fmt_int, R.ev_sl_lst, R.ev_sl_tup, R.ev_sl_scr, R.ev_split, R.ev_join, R.ev_tru_bl, R.ev_tru_int, R.ev_tru_non, R.ev_tru_lst, R.ev_tru_tup, R.ev_avRVs_nil, R.ev_avRVs_pl, R.ev_avRVs_rv, R.ev_share_pl, R.ev_share_N, R.ev_share_Z, R.ev_share_B, R.ev_lent_pl, R.ev_lent_N, R.ev_lent_Z, R.ev_lent_B, R.ev_fin_ret, R.ev_fin_next, R.ev_io_t, R.ev_io_f, R.ev_jGo_nil, R.ev_jGo_cons, R.ev_isi, R.ev_hold_t, R.ev_hold_fint, R.ev_hold_fstr, R.ev_hold_ftup, R.ev_hold_fbl, R.ev_settle_int, R.ev_settle_str, R.ev_settle_tup, R.ev_settle_bl, R.ev_settle_non, R.ev_share_int, R.ev_share_str, R.ev_share_tup, R.ev_lent_int, R.ev_lent_str, R.ev_lent_tup, R.hmd], rfl, ?_, rfl, by simp [okW], by rw [if_neg h], rfl⟩
      generalize v.getD i 0 = c at ha h
      simp [R.ev_mC, R.ev_mVar, R.ev_mVarZ, R.ev_mOp, R.ev_mOpV, R.ev_mUn, R.ev_mANil, R.ev_mACons, R.ev_mTup, R.ev_mLst, R.ev_mNoPart, R.ev_mPart, R.ev_mSl, R.ev_tTrue, R.ev_tBool, R.ev_mCh, R.ev_tAndM, R.ev_tOrM, R.ev_tNotM, R.ev_mIfE, R.ev_mAndV, R.ev_mOrV, R.ev_mNotV, R.ev_cNil, R.ev_cPl, R.ev_cRv, R.ev_mBlt, R.ev_mM1, R.ev_mCall, R.ev_mNext, R.ev_mSeq, R.ev_mFl, R.ev_mDrop, R.ev_mRet, R.ev_mRetV, R.ev_mIfS, R.ev_mAsg, R.ev_mAug, R.ev_mSetP, R.ev_mLM, R.ev_iAnyM, R.ev_iRng1M, R.ev_iRng2M, R.ev_iEn1M, R.ev_iEnM, R.ev_iZipM, R.ev_mFor, R.ev_mLc, R.ev_mJoined, R.ev_slotRV, R.ev_frzSl, R.ev_relSl, R.ev_setSl, R.ev_lend, R.ev_setT_nm, R.ev_setT_tp, R.ev_setTs_nil, R.ev_setTs_cons, R.ev_hold_N, R.ev_hold_Z, R.ev_hold_B, R.ev_settle_N, R.ev_settle_Z, R.ev_settle_B, R.ev_isLst_lst, R.ev_isLst_tup, R.ev_isLst_int, R.ev_isLst_bl, R.ev_isLst_str, R.ev_isLst_non, R.ev_isLst_scr, R.ev_idx_lst, R.ev_idx_tup, R.ev_idx_scr, R.ev_idx_str, R.ev_neg, R.ev_add_int, R.ev_sub_int, R.ev_mul_int, R.ev_div_int, R.ev_mod_int, R.ev_pow_int, R.ev_add_str, R.ev_add_tup, R.ev_add_lst, R.ev_eq_int, R.ev_ne_int, R.ev_eq_str, R.ev_ne_str, R.ev_lt, R.ev_le, R.ev_gt, R.ev_ge, R.ev_is, R.ev_isNot, R.ev_none_tup, R.ev_none_lst, R.ev_none_int, R.ev_none_str, R.ev_none_non, R.ev_len_lst, R.ev_len_tup, R.ev_len_scr, R.ev_len_str, R.ev_abs, R.ev_int1, R.ev_str_int, R.ev_str_str, R.ev_list_lst, R.ev_list_tup, R.ev_tup_lst, R.ev_tup_tup, R.ev_fmt_str, R.ev_fmt_int, R.ev_sl_lst, R.ev_sl_tup, R.ev_sl_scr, R.ev_split, R.ev_join, R.ev_tru_bl, R.ev_tru_int, R.ev_tru_non, R.ev_tru_lst, R.ev_tru_tup, R.ev_avRVs_nil, R.ev_avRVs_pl, R.ev_avRVs_rv, R.ev_share_pl, R.ev_share_N, R.ev_share_Z, R.ev_share_B, R.ev_lent_pl, R.ev_lent_N, R.ev_lent_Z, R.ev_lent_B, R.ev_fin_ret, R.ev_fin_next, R.ev_io_t, R.ev_io_f, R.ev_jGo_nil, R.ev_jGo_cons, R.ev_isi, R.ev_hold_t, R.ev_hold_fint, R.ev_hold_fstr, R.ev_hold_ftup, R.ev_hold_fbl, R.ev_settle_int, R.ev_settle_str, R.ev_settle_tup, R.ev_settle_bl, R.ev_settle_non, R.ev_share_int, R.ev_share_str, R.ev_share_tup, R.ev_lent_int, R.ev_lent_str, R.ev_lent_tup, R.hmd, ha, sDot, sEq, h])
  rw [own_range] at lc
  have hrg : rangeD 0 v.length = (List.range v.length).map fun i : Nat => R.D.int (0 + (i : Nat)) := rfl
  rw [← hrg] at lc
  have hl : lenOk v.length = true := lenOk_of (by omega)
  have hI : iRng1M (mACons (mBlt fLen (cPl 1 cNil)) mANil) [.frz (rowD w t o g), .frz (txD v), .un, .un] = .ok (rangeD 0 v.length) [.frz (rowD w t o g), .frz (txD v), .un, .un] := by
    have hm : mACons (mBlt fLen (cPl 1 cNil)) mANil [.frz (rowD w t o g), .frz (txD v), .un, .un] = .ok [.int v.length] [.frz (rowD w t o g), .frz (txD v), .un, .un] := by simp [R.ev_mC, R.ev_mVar, R.ev_mVarZ, R.ev_mOp, R.ev_mOpV, R.ev_mUn, R.ev_mANil, R.ev_mACons, R.ev_mTup, R.ev_mLst, R.ev_mNoPart, R.ev_mPart, R.ev_mSl, R.ev_tTrue, R.ev_tBool, R.ev_mCh, R.ev_tAndM, R.ev_tOrM, R.ev_tNotM, R.ev_mIfE, R.ev_mAndV, R.ev_mOrV, R.ev_mNotV, R.ev_cNil, R.ev_cPl, R.ev_cRv, R.ev_mBlt, R.ev_mM1, R.ev_mCall, R.ev_mNext, R.ev_mSeq, R.ev_mFl, R.ev_mDrop, R.ev_mRet, R.ev_mRetV, R.ev_mIfS, R.ev_mAsg, R.ev_mAug, R.ev_mSetP, R.ev_mLM, R.ev_iAnyM, R.ev_iRng2M, R.ev_iEn1M, R.ev_iEnM, R.ev_iZipM, R.ev_mJoined, R.ev_slotRV, R.ev_frzSl, R.ev_relSl, R.ev_setSl, R.ev_lend, R.ev_setT_nm, R.ev_setT_tp, R.ev_setTs_nil, R.ev_setTs_cons, R.ev_hold_N, R.ev_hold_Z, R.ev_hold_B, R.ev_settle_N, R.ev_settle_Z, R.ev_settle_B, R.ev_isLst_lst, R.ev_isLst_tup, R.ev_isLst_int, R.ev_isLst_bl, R.ev_isLst_str, R.ev_isLst_non, R.ev_isLst_scr, R.ev_idx_lst, R.ev_idx_tup, R.ev_idx_scr, R.ev_idx_str, R.ev_neg, R.ev_add_int, R.ev_sub_int, R.ev_mul_int, R.ev_div_int, R.ev_mod_int, R.ev_pow_int, R.ev_add_str, R.ev_add_tup, R.ev_add_lst, R.ev_eq_int, R.ev_ne_int, R.ev_eq_str, R.ev_ne_str, R.ev_lt, R.ev_le, R.ev_gt, R.ev_ge, R.ev_is, R.ev_isNot, R.ev_none_tup, R.ev_none_lst, R.ev_none_int, R.ev_none_str, R.ev_none_non, R.ev_len_lst, R.ev_len_tup, R.ev_len_scr, R.ev_len_str, R.ev_abs, R.ev_int1, R.ev_str_int, R.ev_str_str, R.ev_list_lst, R.ev_list_tup, R.ev_tup_lst, R.ev_tup_tup, R.ev_fmt_str, R.ev_fmt_int, R.ev_sl_lst, R.ev_sl_tup, R.ev_sl_scr, R.ev_split, R.ev_join, R.ev_tru_bl, R.ev_tru_int, R.ev_tru_non, R.ev_tru_lst, R.ev_tru_tup, R.ev_avRVs_nil, R.ev_avRVs_pl, R.ev_avRVs_rv, R.ev_share_pl, R.ev_share_N, R.ev_share_Z, R.ev_share_B, R.ev_lent_pl, R.ev_lent_N, R.ev_lent_Z, R.ev_lent_B, R.ev_fin_ret, R.ev_fin_next, R.ev_io_t, R.ev_io_f, R.ev_jGo_nil, R.ev_jGo_cons, R.ev_isi, R.ev_hold_t, R.ev_hold_fint, R.ev_hold_fstr, R.ev_hold_ftup, R.ev_hold_fbl, R.ev_settle_int, R.ev_settle_str, R.ev_settle_tup, R.ev_settle_bl, R.ev_settle_non, R.ev_share_int, R.ev_share_str, R.ev_share_tup, R.ev_lent_int, R.ev_lent_str, R.ev_lent_tup, R.hmd, txD, SX.S_len, hl]
    rw [R.ev_iRng1M, hm]
    dsimp only
    rw [if_pos (smallN v.length (by omega))]; rfl
  have hL : mLc [3] (.nm 3) (iRng1M (mACons (mBlt fLen (cPl 1 cNil)) mANil)) (fun S => .ok true S) (mIfE (tBool (mOp true (cop .NotEq) (mOpV 1 fIdx (mVar 3)) (mC (.str ".")))) (mVar 3) (mUn fNeg (mC (.int 1)))) [.frz (rowD w t o g), .frz (txD v), .un, .un] = .ok ⟨.N, .lst ((own v).map R.D.int)⟩ [.frz (rowD w t o g), .frz (txD v), .un, .un] := by
    have ow : okW [.frz (rowD w t o g), .frz (txD v), .un, .un] [3] = true := rfl
    have ws : wipeS [.frz (rowD w t o g), .frz (txD v), .un, .un] [3] = [.frz (rowD w t o g), .frz (txD v), .un, .un] := rfl
    have ln : lenOk ((own v).map R.D.int).length = true := by rw [List.length_map, own_len]; exact hl
    rw [R.ev_mLc, hI]
    dsimp only
    rw [if_pos ow, ws, lc]
    dsimp only
    rw [if_pos ln]
  clear hI lc
  obtain ⟨t0, t1⟩ := r.tt
  have ht := ixN_of (n := v.length) t0 (by omega)
  cases hb : fireB w o g v with
  | false =>
    rw [hb] at hw
    simp [R.ev_mC, R.ev_mVar, R.ev_mVarZ, R.ev_mOp, R.ev_mOpV, R.ev_mUn, R.ev_mANil, R.ev_mACons, R.ev_mTup, R.ev_mLst, R.ev_mNoPart, R.ev_mPart, R.ev_mSl, R.ev_tTrue, R.ev_tBool, R.ev_mCh, R.ev_tAndM, R.ev_tOrM, R.ev_tNotM, R.ev_mIfE, R.ev_mAndV, R.ev_mOrV, R.ev_mNotV, R.ev_cNil, R.ev_cPl, R.ev_cRv, R.ev_mBlt, R.ev_mM1, R.ev_mCall, R.ev_mNext, R.ev_mSeq, R.ev_mFl, R.ev_mDrop, R.ev_mRet, R.ev_mRetV, R.ev_mIfS, R.ev_mAsg, R.ev_mAug, R.ev_mSetP, R.ev_mLM, R.ev_iAnyM, R.ev_iRng2M, R.ev_iEn1M, R.ev_iEnM, R.ev_iZipM, R.ev_mJoined, R.ev_slotRV, R.ev_frzSl, R.ev_relSl, R.ev_setSl, R.ev_lend, R.ev_setT_nm, R.ev_setT_tp, R.ev_setTs_nil, R.ev_setTs_cons, R.ev_hold_N, R.ev_hold_Z, R.ev_hold_B, R.ev_settle_N, R.ev_settle_Z, R.ev_settle_B, R.ev_isLst_lst, R.ev_isLst_tup, R.ev_isLst_int, R.ev_isLst_bl, R.ev_isLst_str, R.ev_isLst_non, R.ev_isLst_scr, R.ev_idx_lst, R.ev_idx_tup, R.ev_idx_scr, R.ev_idx_str, R.ev_neg, R.ev_add_int, R.ev_sub_int, R.ev_mul_int, R.ev_div_int, R.ev_mod_int, R.ev_pow_int, R.ev_add_str, R.ev_add_tup, R.ev_add_lst, R.ev_eq_int, R.ev_ne_int, R.ev_eq_str, R.ev_ne_str, R.ev_lt, R.ev_le, R.ev_gt, R.ev_ge, R.ev_is, R.ev_isNot, R.ev_none_tup, R.ev_none_lst, R.ev_none_int, R.ev_none_str, R.ev_none_non, R.ev_len_lst, R.ev_len_tup, R.ev_len_scr, R.ev_len_str, R.ev_abs, R.ev_int1, R.ev_str_int, R.ev_str_str, R.ev_list_lst, R.ev_list_tup, R.ev_tup_lst, R.ev_tup_tup, R.ev_fmt_str, R.ev_fmt_int, R.ev_sl_lst, R.ev_sl_tup, R.ev_sl_scr, R.ev_split, R.ev_join, R.ev_tru_bl, R.ev_tru_int, R.ev_tru_non, R.ev_tru_lst, R.ev_tru_tup, R.ev_avRVs_nil, R.ev_avRVs_pl, R.ev_avRVs_rv, R.ev_share_pl, R.ev_share_N, R.ev_share_Z, R.ev_share_B, R.ev_lent_pl, R.ev_lent_N, R.ev_lent_Z, R.ev_lent_B, R.ev_fin_ret, R.ev_fin_next, R.ev_io_t, R.ev_io_f, R.ev_jGo_nil, R.ev_jGo_cons, R.ev_isi, R.ev_hold_t, R.ev_hold_fint, R.ev_hold_fstr, R.ev_hold_ftup, R.ev_hold_fbl, R.ev_settle_int, R.ev_settle_str, R.ev_settle_tup, R.ev_settle_bl, R.ev_settle_non, R.ev_share_int, R.ev_share_str, R.ev_share_tup, R.ev_lent_int, R.ev_lent_str, R.ev_lent_tup, R.hmd, hL, hw]
    rfl
  | true =>
    rw [hb] at hw
    by_cases hc : w = clearL
    · subst hc
      have ho := r.oc rfl
      subst ho
      simp [R.ev_mC, R.ev_mVar, R.ev_mVarZ, R.ev_mOp, R.ev_mOpV, R.ev_mUn, R.ev_mANil, R.ev_mACons, R.ev_mTup, R.ev_mLst, R.ev_mNoPart, R.ev_mPart, R.ev_mSl, R.ev_tTrue, R.ev_tBool, R.ev_mCh, R.ev_tAndM, R.ev_tOrM, R.ev_tNotM, R.ev_mIfE, R.ev_mAndV, R.ev_mOrV, R.ev_mNotV, R.ev_cNil, R.ev_cPl, R.ev_cRv, R.ev_mBlt, R.ev_mM1, R.ev_mCall, R.ev_mNext, R.ev_mSeq, R.ev_mFl, R.ev_mDrop, R.ev_mRet, R.ev_mRetV, R.ev_mIfS, R.ev_mAsg, R.ev_mAug, R.ev_mSetP, R.ev_mLM, R.ev_iAnyM, R.ev_iRng2M, R.ev_iEn1M, R.ev_iEnM, R.ev_iZipM, R.ev_mJoined, R.ev_slotRV, R.ev_frzSl, R.ev_relSl, R.ev_setSl, R.ev_lend, R.ev_setT_nm, R.ev_setT_tp, R.ev_setTs_nil, R.ev_setTs_cons, R.ev_hold_N, R.ev_hold_Z, R.ev_hold_B, R.ev_settle_N, R.ev_settle_Z, R.ev_settle_B, R.ev_isLst_lst, R.ev_isLst_tup, R.ev_isLst_int, R.ev_isLst_bl, R.ev_isLst_str, R.ev_isLst_non, R.ev_isLst_scr, R.ev_idx_lst, R.ev_idx_tup, R.ev_idx_scr, R.ev_idx_str, R.ev_neg, R.ev_add_int, R.ev_sub_int, R.ev_mul_int, R.ev_div_int, R.ev_mod_int, R.ev_pow_int, R.ev_add_str, R.ev_add_tup, R.ev_add_lst, R.ev_eq_int, R.ev_ne_int, R.ev_eq_str, R.ev_ne_str, R.ev_lt, R.ev_le, R.ev_gt, R.ev_ge, R.ev_is, R.ev_isNot, R.ev_none_tup, R.ev_none_lst, R.ev_none_int, R.ev_none_str, R.ev_none_non, R.ev_len_lst, R.ev_len_tup, R.ev_len_scr, R.ev_len_str, R.ev_abs, R.ev_int1, R.ev_str_int, R.ev_str_str, R.ev_list_lst, R.ev_list_tup, R.ev_tup_lst, R.ev_tup_tup, R.ev_fmt_str, R.ev_fmt_int, R.ev_sl_lst, R.ev_sl_tup, R.ev_sl_scr, R.ev_split, R.ev_join, R.ev_tru_bl, R.ev_tru_int, R.ev_tru_non, R.ev_tru_lst, R.ev_tru_tup, R.ev_avRVs_nil, R.ev_avRVs_pl, R.ev_avRVs_rv, R.ev_share_pl, R.ev_share_N, R.ev_share_Z, R.ev_share_B, R.ev_lent_pl, R.ev_lent_N, R.ev_lent_Z, R.ev_lent_B, R.ev_fin_ret, R.ev_fin_next, R.ev_io_t, R.ev_io_f, R.ev_jGo_nil, R.ev_jGo_cons, R.ev_isi, R.ev_hold_t, R.ev_hold_fint, R.ev_hold_fstr, R.ev_hold_ftup, R.ev_hold_fbl, R.ev_settle_int, R.ev_settle_str, R.ev_settle_tup, R.ev_settle_bl, R.ev_settle_non, R.ev_share_int, R.ev_share_str, R.ev_share_tup, R.ev_lent_int, R.ev_lent_str, R.ev_lent_tup, R.hmd, hL, hw, ix, at0, at1, at2, own_len, ht, sMove, sEq]
      simp [imD, List.map_set]
    · obtain ⟨o0, o1, o2⟩ := r.on hc
      have hto := ixN_of (n := v.length) o0 (by omega)
      by_cases hm : w = moveL
      · subst hm
        simp [R.ev_mC, R.ev_mVar, R.ev_mVarZ, R.ev_mOp, R.ev_mOpV, R.ev_mUn, R.ev_mANil, R.ev_mACons, R.ev_mTup, R.ev_mLst, R.ev_mNoPart, R.ev_mPart, R.ev_mSl, R.ev_tTrue, R.ev_tBool, R.ev_mCh, R.ev_tAndM, R.ev_tOrM, R.ev_tNotM, R.ev_mIfE, R.ev_mAndV, R.ev_mOrV, R.ev_mNotV, R.ev_cNil, R.ev_cPl, R.ev_cRv, R.ev_mBlt, R.ev_mM1, R.ev_mCall, R.ev_mNext, R.ev_mSeq, R.ev_mFl, R.ev_mDrop, R.ev_mRet, R.ev_mRetV, R.ev_mIfS, R.ev_mAsg, R.ev_mAug, R.ev_mSetP, R.ev_mLM, R.ev_iAnyM, R.ev_iRng2M, R.ev_iEn1M, R.ev_iEnM, R.ev_iZipM, R.ev_mJoined, R.ev_slotRV, R.ev_frzSl, R.ev_relSl, R.ev_setSl, R.ev_lend, R.ev_setT_nm, R.ev_setT_tp, R.ev_setTs_nil, R.ev_setTs_cons, R.ev_hold_N, R.ev_hold_Z, R.ev_hold_B, R.ev_settle_N, R.ev_settle_Z, R.ev_settle_B, R.ev_isLst_lst, R.ev_isLst_tup, R.ev_isLst_int, R.ev_isLst_bl, R.ev_isLst_str, R.ev_isLst_non, R.ev_isLst_scr, R.ev_idx_lst, R.ev_idx_tup, R.ev_idx_scr, R.ev_idx_str, R.ev_neg, R.ev_add_int, R.ev_sub_int, R.ev_mul_int, R.ev_div_int, R.ev_mod_int, R.ev_pow_int, R.ev_add_str, R.ev_add_tup, R.ev_add_lst, R.ev_eq_int, R.ev_ne_int, R.ev_eq_str, R.ev_ne_str, R.ev_lt, R.ev_le, R.ev_gt, R.ev_ge, R.ev_is, R.ev_isNot, R.ev_none_tup, R.ev_none_lst, R.ev_none_int, R.ev_none_str, R.ev_none_non, R.ev_len_lst, R.ev_len_tup, R.ev_len_scr, R.ev_len_str, R.ev_abs, R.ev_int1, R.ev_str_int, R.ev_str_str, R.ev_list_lst, R.ev_list_tup, R.ev_tup_lst, R.ev_tup_tup, R.ev_fmt_str, R.ev_fmt_int, R.ev_sl_lst, R.ev_sl_tup, R.ev_sl_scr, R.ev_split, R.ev_join, R.ev_tru_bl, R.ev_tru_int, R.ev_tru_non, R.ev_tru_lst, R.ev_tru_tup, R.ev_avRVs_nil, R.ev_avRVs_pl, R.ev_avRVs_rv, R.ev_share_pl, R.ev_share_N, R.ev_share_Z, R.ev_share_B, R.ev_lent_pl, R.ev_lent_N, R.ev_lent_Z, R.ev_lent_B, R.ev_fin_ret, R.ev_fin_next, R.ev_io_t, R.ev_io_f, R.ev_jGo_nil, R.ev_jGo_cons, R.ev_isi, R.ev_hold_t, R.ev_hold_fint, R.ev_hold_fstr, R.ev_hold_ftup, R.ev_hold_fbl, R.ev_settle_int, R.ev_settle_str, R.ev_settle_tup, R.ev_settle_bl, R.ev_settle_non, R.ev_share_int, R.ev_share_str, R.ev_share_tup, R.ev_lent_int, R.ev_lent_str, R.ev_lent_tup, R.hmd, hL, hw, ix, at0, at1, at2, own_len, ht, hto, sMove, sEq]
        simp [imD, List.map_set]
      · simp [R.ev_mC, R.ev_mVar, R.ev_mVarZ, R.ev_mOp, R.ev_mOpV, R.ev_mUn, R.ev_mANil, R.ev_mACons, R.ev_mTup, R.ev_mLst, R.ev_mNoPart, R.ev_mPart, R.ev_mSl, R.ev_tTrue, R.ev_tBool, R.ev_mCh, R.ev_tAndM, R.ev_tOrM, R.ev_tNotM, R.ev_mIfE, R.ev_mAndV, R.ev_mOrV, R.ev_mNotV, R.ev_cNil, R.ev_cPl, R.ev_cRv, R.ev_mBlt, R.ev_mM1, R.ev_mCall, R.ev_mNext, R.ev_mSeq, R.ev_mFl, R.ev_mDrop, R.ev_mRet, R.ev_mRetV, R.ev_mIfS, R.ev_mAsg, R.ev_mAug, R.ev_mSetP, R.ev_mLM, R.ev_iAnyM, R.ev_iRng2M, R.ev_iEn1M, R.ev_iEnM, R.ev_iZipM, R.ev_mJoined, R.ev_slotRV, R.ev_frzSl, R.ev_relSl, R.ev_setSl, R.ev_lend, R.ev_setT_nm, R.ev_setT_tp, R.ev_setTs_nil, R.ev_setTs_cons, R.ev_hold_N, R.ev_hold_Z, R.ev_hold_B, R.ev_settle_N, R.ev_settle_Z, R.ev_settle_B, R.ev_isLst_lst, R.ev_isLst_tup, R.ev_isLst_int, R.ev_isLst_bl, R.ev_isLst_str, R.ev_isLst_non, R.ev_isLst_scr, R.ev_idx_lst, R.ev_idx_tup, R.ev_idx_scr, R.ev_idx_str, R.ev_neg, R.ev_add_int, R.ev_sub_int, R.ev_mul_int, R.ev_div_int, R.ev_mod_int, R.ev_pow_int, R.ev_add_str, R.ev_add_tup, R.ev_add_lst, R.ev_eq_int, R.ev_ne_int, R.ev_eq_str, R.ev_ne_str, R.ev_lt, R.ev_le, R.ev_gt, R.ev_ge, R.ev_is, R.ev_isNot, R.ev_none_tup, R.ev_none_lst, R.ev_none_int, R.ev_none_str, R.ev_none_non, R.ev_len_lst, R.ev_len_tup, R.ev_len_scr, R.ev_len_str, R.ev_abs, R.ev_int1, R.ev_str_int, R.ev_str_str, R.ev_list_lst, R.ev_list_tup, R.ev_tup_lst, R.ev_tup_tup, R.ev_fmt_str, R.ev_fmt_int, R.ev_sl_lst, R.ev_sl_tup, R.ev_sl_scr, R.ev_split, R.ev_join, R.ev_tru_bl, R.ev_tru_int, R.ev_tru_non, R.ev_tru_lst, R.ev_tru_tup, R.ev_avRVs_nil, R.ev_avRVs_pl, R.ev_avRVs_rv, R.ev_share_pl, R.ev_share_N, R.ev_share_Z, R.ev_share_B, R.ev_lent_pl, R.ev_lent_N, R.ev_lent_Z, R.ev_lent_B, R.ev_fin_ret, R.ev_fin_next, R.ev_io_t, R.ev_io_f, R.ev_jGo_nil, R.ev_jGo_cons, R.ev_isi, R.ev_hold_t, R.ev_hold_fint, R.ev_hold_fstr, R.ev_hold_ftup, R.ev_hold_fbl, R.ev_settle_int, R.ev_settle_str, R.ev_settle_tup, R.ev_settle_bl, R.ev_settle_non, R.ev_share_int, R.ev_share_str, R.ev_share_tup, R.ev_lent_int, R.ev_lent_str, R.ev_lent_tup, R.hmd, hL, hw, ix, at0, at1, at2, own_len, ht, hto, sMove, sEq, hc, hm]
        simp [imD, List.map_set]
end K02

set_option Elab.async false
set_option linter.all false
set_option maxRecDepth 100000
set_option maxHeartbeats 2000000
namespace K02
open PySem PySem.Spec PyProof.Rows L2 R

theorem carried {n : Nat} {os es : List Int} (hs : SrcOk n os) (he : es.length = n) (hn : n ≤ 12) : g_law_carried [imD os, imD es] = .ret .N (imD (os.map (pick es))) none := by
  have st : g_law_carried [imD os, imD es] = fin false (m_law_carried [.frz (imD os), .frz (imD es), .un]) := rfl
  rw [st]
  unfold m_law_carried
  have lc := lcGo_map (vs := [2]) (tg := .nm 2) (mt := fun S => .ok true S) (me := mIfE (tBool (mOpV 2 (cop .GtE) (mC (.int 0)))) (mOpV 1 fIdx (mVar 2)) (mUn fNeg (mC (.int 1)))) (fun b : Int => R.D.int (pick es b)) R.D.int [.frz (imD os), .frz (imD es), .un] os (fun b hb => by
    obtain ⟨b0, b1⟩ := hs.2 b hb
    by_cases h : b = -1
    · exact ⟨[.frz (imD os), .frz (imD es), .frz (.int b)], [.frz (imD os), .frz (imD es), .frz (.int b)], ⟨.N, .int (-1)⟩, [.frz (imD os), .frz (imD es), .frz (.int b)], ⟨.N, .int (-1)⟩, by simp [R.ev_mC, R.ev_mVar, R.ev_mVarZ, R.ev_mOp, R.ev_mOpV, R.ev_mUn, R.ev_mANil, R.ev_mACons, R.ev_mTup, R.ev_mLst, R.ev_mNoPart, R.ev_mPart, R.ev_mSl, R.ev_tTrue, R.ev_tBool, R.ev_mCh, R.ev_tAndM, R.ev_tOrM, R.ev_tNotM, R.ev_mIfE, R.ev_mAndV, R.ev_mOrV, R.ev_mNotV, R.ev_cNil, R.ev_cPl, R.ev_cRv, R.ev_mBlt, R.ev_mM1, R.ev_mCall, R.ev_mNext, R.ev_mSeq, R.ev_mFl, R.ev_mDrop, R.ev_mRet, R.ev_mRetV, R.ev_mIfS, R.ev_mAsg, R.ev_mAug, R.ev_mSetP, R.ev_mLM, R.ev_iAnyM, R.ev_iRng1M, R.ev_iRng2M, R.ev_iEn1M, R.ev_iEnM, R.ev_iZipM, R.ev_mFor, R.ev_mLc, R.ev_mJoined, R.ev_slotRV, R.ev_frzSl, R.ev_relSl, R.ev_setSl, R.ev_lend, R.ev_setT_nm, R.ev_setT_tp, R.ev_setTs_nil, R.ev_setTs_cons, R.ev_hold_N, R.ev_hold_Z, R.ev_hold_B, R.ev_settle_N, R.ev_settle_Z, R.ev_settle_B, R.ev_isLst_lst, R.ev_isLst_tup, R.ev_isLst_int, R.ev_isLst_bl, R.ev_isLst_str, R.ev_isLst_non, R.ev_isLst_scr, R.ev_idx_lst, R.ev_idx_tup, R.ev_idx_scr, R.ev_idx_str, R.ev_neg, R.ev_add_int, R.ev_sub_int, R.ev_mul_int, R.ev_div_int, R.ev_mod_int, R.ev_pow_int, R.ev_add_str, R.ev_add_tup, R.ev_add_lst, R.ev_eq_int, R.ev_ne_int, R.ev_eq_str, R.ev_ne_str, R.ev_lt, R.ev_le, R.ev_gt, R.ev_ge, R.ev_is, R.ev_isNot, R.ev_none_tup, R.ev_none_lst, R.ev_none_int, R.ev_none_str, R.ev_none_non, R.ev_len_lst, R.ev_len_tup, R.ev_len_scr, R.ev_len_str, R.ev_abs, R.ev_int1, R.ev_str_int, R.ev_str_str, R.ev_list_lst, R.ev_list_tup, R.ev_tup_lst, R.ev_tup_tup, R.ev_fmt_str, R.ev_fmt_int, R.ev_sl_lst, R.ev_sl_tup, R.ev_sl_scr, R.ev_split, R.ev_join, R.ev_tru_bl, R.ev_tru_int, R.ev_tru_non, R.ev_tru_lst, R.ev_tru_tup, R.ev_avRVs_nil, R.ev_avRVs_pl, R.ev_avRVs_rv, R.ev_share_pl, R.ev_share_N, R.ev_share_Z, R.ev_share_B, R.ev_lent_pl, R.ev_lent_N, R.ev_lent_Z, R.ev_lent_B, R.ev_fin_ret, R.ev_fin_next, R.ev_io_t, R.ev_io_f, R.ev_jGo_nil, R.ev_jGo_cons, R.ev_isi, R.ev_hold_t, R.ev_hold_fint, R.ev_hold_fstr, R.ev_hold_ftup, R.ev_hold_fbl, R.ev_settle_int, R.ev_settle_str, R.ev_settle_tup, R.ev_settle_bl, R.ev_settle_non, R.ev_share_int, R.ev_share_str, R.ev_share_tup, R.ev_lent_int, R.ev_lent_str, R.ev_lent_tup, R.hmd], rfl, by simp [R.ev_mC, R.ev_mVar, R.ev_mVarZ, R.ev_mOp, R.ev_mOpV, R.ev_mUn, R.ev_mANil, R.ev_mACons, R.ev_mTup, R.ev_mLst, R.ev_mNoPart, R.ev_mPart, R.ev_mSl, R.ev_tTrue, R.ev_tBool, R.ev_mCh, R.ev_tAndM, R.ev_tOrM, R.ev_tNotM, R.ev_mIfE, R.ev_mAndV, R.ev_mOrV, R.ev_mNotV, R.ev_cNil, R.ev_cPl, R.ev_cRv, R.ev_mBlt, R.ev_mM1, R.ev_mCall, R.ev_mNext, R.ev_mSeq, R.ev_mFl, R.ev_mDrop, R.ev_mRet, R.ev_mRetV, R.ev_mIfS, R.ev_mAsg, R.ev_mAug, R.ev_mSetP, R.ev_mLM, R.ev_iAnyM, R.ev_iRng1M, R.ev_iRng2M, R.ev_iEn1M, R.ev_iEnM, R.ev_iZipM, R.ev_mFor, R.ev_mLc, R.ev_mJoined, R.ev_slotRV, R.ev_frzSl, R.ev_relSl, R.ev_setSl, R.ev_lend, R.ev_setT_nm, R.ev_setT_tp, R.ev_setTs_nil, R.ev_setTs_cons, R.ev_hold_N, R.ev_hold_Z, R.ev_hold_B, R.ev_settle_N, R.ev_settle_Z, R.ev_settle_B, R.ev_isLst_lst, R.ev_isLst_tup, R.ev_isLst_int, R.ev_isLst_bl, R.ev_isLst_str, R.ev_isLst_non, R.ev_isLst_scr, R.ev_idx_lst, R.ev_idx_tup, R.ev_idx_scr, R.ev_idx_str, R.ev_neg, R.ev_add_int, R.ev_sub_int, R.ev_mul_int, R.ev_div_int, R.ev_mod_int, R.ev_pow_int, R.ev_add_str, R.ev_add_tup, R.ev_add_lst, R.ev_eq_int, R.ev_ne_int, R.ev_eq_str, R.ev_ne_str, R.ev_lt, R.ev_le, R.ev_gt, R.ev_ge, R.ev_is, R.ev_isNot, R.ev_none_tup, R.ev_none_lst, R.ev_none_int, R.ev_none_str, R.ev_none_non, R.ev_len_lst, R.ev_len_tup, R.ev_len_scr, R.ev_len_str, R.ev_abs, R.ev_int1, R.ev_str_int, R.ev_str_str, R.ev_list_lst, R.ev_list_tup, R.ev_tup_lst, R.ev_tup_tup, R.ev_fmt_str, R.ev_fmt_int, R.ev_sl_lst, R.ev_sl_tup, R.ev_sl_scr, R.ev_split, R.ev_join, R.ev_tru_bl, R.ev_tru_int, R.ev_tru_non, R.ev_tru_lst, R.ev_tru_tup, R.ev_avRVs_nil, R.ev_avRVs_pl, R.ev_avRVs_rv, R.ev_share_pl, R.ev_share_N, R.ev_share_Z, R.ev_share_B, R.ev_lent_pl, R.ev_lent_N, R.ev_lent_Z, R.ev_lent_B, R.ev_fin_ret, R.ev_fin_next, R.ev_io_t, R.ev_io_f, R.ev_jGo_nil, R.ev_jGo_cons, R.ev_isi, R.ev_hold_t, R.ev_hold_fint, R.ev_hold_fstr, R.ev_hold_ftup, R.ev_hold_fbl, R.ev_settle_int, R.ev_settle_str, R.ev_settle_tup, R.ev_settle_bl, R.ev_settle_non, R.ev_share_int, R.ev_share_str, R.ev_share_tup, R.ev_lent_int, R.ev_lent_str, R.ev_lent_tup, R.hmd, h], rfl, by simp [okW], by unfold pick; rw [if_pos h], rfl⟩
    · have hp : 0 ≤ b := by omega
      have ha : ∀ md md', fIdx ⟨md, imD es⟩ ⟨md', .int b⟩ = some ⟨.Z, .int (es.getD b.toNat 0)⟩ := fun md md' => by
        show (L2.atI (es.map R.D.int) b).map _ = _
        rw [at_im he hp b1]; rfl
      exact ⟨[.frz (imD os), .frz (imD es), .frz (.int b)], [.frz (imD os), .frz (imD es), .frz (.int b)], ⟨.Z, .int (es.getD b.toNat 0)⟩, [.frz (imD os), .frz (imD es), .frz (.int b)], ⟨.Z, .int (es.getD b.toNat 0)⟩, by simp [R.ev_mC, R.ev_mVar, R.ev_mVarZ, R.ev_mOp, R.ev_mOpV, R.ev_mUn, R.ev_mANil, R.ev_mACons, R.ev_mTup, R.ev_mLst, R.ev_mNoPart, R.ev_mPart, R.ev_mSl, R.ev_tTrue, R.ev_tBool, R.ev_mCh, R.ev_tAndM, R.ev_tOrM, R.ev_tNotM, R.ev_mIfE, R.ev_mAndV, R.ev_mOrV, R.ev_mNotV, R.ev_cNil, R.ev_cPl, R.ev_cRv, R.ev_mBlt, R.ev_mM1, R.ev_mCall, R.ev_mNext, R.ev_mSeq, R.ev_mFl, R.ev_mDrop, R.ev_mRet, R.ev_mRetV, R.ev_mIfS, R.ev_mAsg, R.ev_mAug, R.ev_mSetP, R.ev_mLM, R.ev_iAnyM, R.ev_iRng1M, R.ev_iRng2M, R.ev_iEn1M, R.ev_iEnM, R.ev_iZipM, R.ev_mFor, R.ev_mLc, R.ev_mJoined, R.ev_slotRV, R.ev_frzSl, R.ev_relSl, R.ev_setSl, R.ev_lend, R.ev_setT_nm, R.ev_setT_tp, R.ev_setTs_nil, R.ev_setTs_cons, R.ev_hold_N, R.ev_hold_Z, R.ev_hold_B, R.ev_settle_N, R.ev_settle_Z, R.ev_settle_B, R.ev_isLst_lst, R.ev_isLst_tup, R.ev_isLst_int, R.ev_isLst_bl, R.ev_isLst_str, R.ev_isLst_non, R.ev_isLst_scr, R.ev_idx_lst, R.ev_idx_tup, R.ev_idx_scr, R.ev_idx_str, R.ev_neg, R.ev_add_int, R.ev_sub_int, R.ev_mul_int, R.ev_div_int, R.ev_mod_int, R.ev_pow_int, R.ev_add_str, R.ev_add_tup, R.ev_add_lst, R.ev_eq_int, R.ev_ne_int, R.ev_eq_str, R.ev_ne_str, R.ev_lt, R.ev_le, R.ev_gt, R.ev_ge, R.ev_is, R.ev_isNot, R.ev_none_tup, R.ev_none_lst, R.ev_none_int, R.ev_none_str, R.ev_none_non, R.ev_len_lst, R.ev_len_tup, R.ev_len_scr, R.ev_len_str, R.ev_abs, R.ev_int1, R.ev_str_int, R.ev_str_str, R.ev_list_lst, R.ev_list_tup, R.ev_tup_lst, R.ev_tup_tup, R.ev_fmt_str, R.ev_fmt_int, R.ev_sl_lst, R.ev_sl_tup, R.ev_sl_scr, R.ev_split, R.ev_join, R.ev_tru_bl, R.ev_tru_int, R.ev_tru_non, R.ev_tru_lst, R.ev_tru_tup, R.ev_avRVs_nil, R.ev_avRVs_pl, R.ev_avRVs_rv, R.ev_share_pl, R.ev_share_N, R.ev_share_Z, R.ev_share_B, R.ev_lent_pl, R.ev_lent_N, R.ev_lent_Z, R.ev_lent_B, R.ev_fin_ret, R.ev_fin_next, R.ev_io_t, R.ev_io_f, R.ev_jGo_nil, R.ev_jGo_cons, R.ev_isi, R.ev_hold_t, R.ev_hold_fint, R.ev_hold_fstr, R.ev_hold_ftup, R.ev_hold_fbl, R.ev_settle_int, R.ev_settle_str, R.ev_settle_tup, R.ev_settle_bl, R.ev_settle_non, R.ev_share_int, R.ev_share_str, R.ev_share_tup, R.ev_lent_int, R.ev_lent_str, R.ev_lent_tup, R.hmd], rfl, by simp [R.ev_mC, R.ev_mVar, R.ev_mVarZ, R.ev_mOp, R.ev_mOpV, R.ev_mUn, R.ev_mANil, R.ev_mACons, R.ev_mTup, R.ev_mLst, R.ev_mNoPart, R.ev_mPart, R.ev_mSl, R.ev_tTrue, R.ev_tBool, R.ev_mCh, R.ev_tAndM, R.ev_tOrM, R.ev_tNotM, R.ev_mIfE, R.ev_mAndV, R.ev_mOrV, R.ev_mNotV, R.ev_cNil, R.ev_cPl, R.ev_cRv, R.ev_mBlt, R.ev_mM1, R.ev_mCall, R.ev_mNext, R.ev_mSeq, R.ev_mFl, R.ev_mDrop, R.ev_mRet, R.ev_mRetV, R.ev_mIfS, R.ev_mAsg, R.ev_mAug, R.ev_mSetP, R.ev_mLM, R.ev_iAnyM, R.ev_iRng1M, R.ev_iRng2M, R.ev_iEn1M, R.ev_iEnM, R.ev_iZipM, R.ev_mFor, R.ev_mLc, R.ev_mJoined, R.ev_slotRV, R.ev_frzSl, R.ev_relSl, R.ev_setSl, R.ev_lend, R.ev_setT_nm, R.ev_setT_tp, R.ev_setTs_nil, R.ev_setTs_cons, R.ev_hold_N, R.ev_hold_Z, R.ev_hold_B, R.ev_settle_N, R.ev_settle_Z, R.ev_settle_B, R.ev_isLst_lst, R.ev_isLst_tup, R.ev_isLst_int, R.ev_isLst_bl, R.ev_isLst_str, R.ev_isLst_non, R.ev_isLst_scr, R.ev_idx_lst, R.ev_idx_tup, R.ev_idx_scr, R.ev_idx_str, R.ev_neg, R.ev_add_int, R.ev_sub_int, R.ev_mul_int, R.ev_div_int, R.ev_mod_int, R.ev_pow_int, R.ev_add_str, R.ev_add_tup, R.ev_add_lst, R.ev_eq_int, R.ev_ne_int, R.ev_eq_str, R.ev_ne_str, R.ev_lt, R.ev_le, R.ev_gt, R.ev_ge, R.ev_is, R.ev_isNot, R.ev_none_tup, R.ev_none_lst, R.ev_none_int, R.ev_none_str, R.ev_none_non, R.ev_len_lst, R.ev_len_tup, R.ev_len_scr, R.ev_len_str, R.ev_abs, R.ev_int1, R.ev_str_int, R.ev_str_str, R.ev_list_lst, R.ev_list_tup, R.ev_tup_lst, R.ev_tup_tup, R.ev_fmt_str, R.ev_fmt_int, R.ev_sl_lst, R.ev_sl_tup, R.ev_sl_scr, R.ev_split, R.ev_join, R.ev_tru_bl, R.ev_tru_int, R.ev_tru_non, R.ev_tru_lst, R.ev_tru_tup, R.ev_avRVs_nil, R.ev_avRVs_pl, R.ev_avRVs_rv, R.ev_share_pl, R.ev_share_N, R.ev_share_Z, R.ev_share_B, R.ev_lent_pl, R.ev_lent_N, R.ev_lent_Z, R.ev_lent_B, R.ev_fin_ret, R.ev_fin_next, R.ev_io_t, R.ev_io_f, R.ev_jGo_nil, R.ev_jGo_cons, R.ev_isi, R.ev_hold_t, R.ev_hold_fint, R.ev_hold_fstr, R.ev_hold_ftup, R.ev_hold_fbl, R.ev_settle_int, R.ev_settle_str, R.ev_settle_tup, R.ev_settle_bl, R.ev_settle_non, R.ev_share_int, R.ev_share_str, R.ev_share_tup, R.ev_lent_int, R.ev_lent_str, R.ev_lent_tup, R.hmd, hp, ha], rfl, by simp [okW], by unfold pick; rw [if_neg h], rfl⟩)
  have hi : itemsOf (imD os) = some (os.map R.D.int) := rfl
  have se : R.settle ⟨.Z, imD os⟩ = some ⟨.Z, imD os⟩ := rfl
  have hl : lenOk os.length = true := lenOk_of (by have := hs.1; omega)
  have ow : okW [.frz (imD os), .frz (imD es), .un] [2] = true := rfl
  have ws : wipeS [.frz (imD os), .frz (imD es), .un] [2] = [.frz (imD os), .frz (imD es), .un] := rfl
  simp [R.ev_mC, R.ev_mVar, R.ev_mVarZ, R.ev_mOp, R.ev_mOpV, R.ev_mUn, R.ev_mANil, R.ev_mACons, R.ev_mTup, R.ev_mLst, R.ev_mNoPart, R.ev_mPart, R.ev_mSl, R.ev_tTrue, R.ev_tBool, R.ev_mCh, R.ev_tAndM, R.ev_tOrM, R.ev_tNotM, R.ev_mIfE, R.ev_mAndV, R.ev_mOrV, R.ev_mNotV, R.ev_cNil, R.ev_cPl, R.ev_cRv, R.ev_mBlt, R.ev_mM1, R.ev_mCall, R.ev_mNext, R.ev_mSeq, R.ev_mFl, R.ev_mDrop, R.ev_mRet, R.ev_mRetV, R.ev_mIfS, R.ev_mAsg, R.ev_mAug, R.ev_mSetP, R.ev_mLM, R.ev_iAnyM, R.ev_iRng1M, R.ev_iRng2M, R.ev_iEn1M, R.ev_iEnM, R.ev_iZipM, R.ev_mFor, R.ev_mLc, R.ev_mJoined, R.ev_slotRV, R.ev_frzSl, R.ev_relSl, R.ev_setSl, R.ev_lend, R.ev_setT_nm, R.ev_setT_tp, R.ev_setTs_nil, R.ev_setTs_cons, R.ev_hold_N, R.ev_hold_Z, R.ev_hold_B, R.ev_settle_N, R.ev_settle_Z, R.ev_settle_B, R.ev_isLst_lst, R.ev_isLst_tup, R.ev_isLst_int, R.ev_isLst_bl, R.ev_isLst_str, R.ev_isLst_non, R.ev_isLst_scr, R.ev_idx_lst, R.ev_idx_tup, R.ev_idx_scr, R.ev_idx_str, R.ev_neg, R.ev_add_int, R.ev_sub_int, R.ev_mul_int, R.ev_div_int, R.ev_mod_int, R.ev_pow_int, R.ev_add_str, R.ev_add_tup, R.ev_add_lst, R.ev_eq_int, R.ev_ne_int, R.ev_eq_str, R.ev_ne_str, R.ev_lt, R.ev_le, R.ev_gt, R.ev_ge, R.ev_is, R.ev_isNot, R.ev_none_tup, R.ev_none_lst, R.ev_none_int, R.ev_none_str, R.ev_none_non, R.ev_len_lst, R.ev_len_tup, R.ev_len_scr, R.ev_len_str, R.ev_abs, R.ev_int1, R.ev_str_int, R.ev_str_str, R.ev_list_lst, R.ev_list_tup, R.ev_tup_lst, R.ev_tup_tup, R.ev_fmt_str, R.ev_fmt_int, R.ev_sl_lst, R.ev_sl_tup, R.ev_sl_scr, R.ev_split, R.ev_join, R.ev_tru_bl, R.ev_tru_int, R.ev_tru_non, R.ev_tru_lst, R.ev_tru_tup, R.ev_avRVs_nil, R.ev_avRVs_pl, R.ev_avRVs_rv, R.ev_share_pl, R.ev_share_N, R.ev_share_Z, R.ev_share_B, R.ev_lent_pl, R.ev_lent_N, R.ev_lent_Z, R.ev_lent_B, R.ev_fin_ret, R.ev_fin_next, R.ev_io_t, R.ev_io_f, R.ev_jGo_nil, R.ev_jGo_cons, R.ev_isi, R.ev_hold_t, R.ev_hold_fint, R.ev_hold_fstr, R.ev_hold_ftup, R.ev_hold_fbl, R.ev_settle_int, R.ev_settle_str, R.ev_settle_tup, R.ev_settle_bl, R.ev_settle_non, R.ev_share_int, R.ev_share_str, R.ev_share_tup, R.ev_lent_int, R.ev_lent_str, R.ev_lent_tup, R.hmd, hi, se, lc, hl, ow, ws]
  unfold imD
  rw [List.map_map]; rfl
theorem isWhole (i : Int) : g_law_is_whole [.int i] = .ret .N (.bl true) none := rfl
theorem same (a : List Int) (hn : a.length ≤ 12) : g_law_same [imD a, imD a] = .ret .N (.bl true) none := by
  have st : g_law_same [imD a, imD a] = fin false (m_law_same [.frz (imD a), .frz (imD a), .un]) := rfl
  rw [st]
  unfold m_law_same
  generalize hb : (mSeq (mIfS (tOrM (tNotM (tTrue (mCall 1 g_law_is_whole _))) _) _ _) mNext) = mb
  obtain ⟨S', e, y, rfl, _⟩ := forGo_inv (tg := .nm 2) (mb := mb) (fun j S => ∃ y, S = [.frz (imD a), .frz (imD a), y] ∧ NI y) (rangeD 0 a.length) 0 [.frz (imD a), .frz (imD a), .un] ⟨.un, rfl, .inl rfl⟩ (by
    rintro j d S hj ⟨y, rfl, n1⟩
    obtain ⟨hjl, rfl⟩ := rangeD_get hj
    have ha : ∀ md md', fIdx ⟨md, imD a⟩ ⟨md', .int ((0 : Int) + (j : Nat))⟩ = some ⟨.Z, .int (a.getD ((0 : Int) + (j : Nat)).toNat 0)⟩ := fun md md' => by
      show (L2.atI (a.map R.D.int) _).map _ = _
      rw [at_im rfl (by omega) (by omega)]; rfl
    generalize ((0 : Int) + (j : Nat)) = k at ha ⊢
    have hs : setT (.nm 2) [.frz (imD a), .frz (imD a), y] ⟨.Z, .int k⟩ = some [.frz (imD a), .frz (imD a), .frz (.int k)] := by
      rcases n1 with rfl | ⟨_, rfl⟩ <;> simp [R.ev_mC, R.ev_mVar, R.ev_mVarZ, R.ev_mOp, R.ev_mOpV, R.ev_mUn, R.ev_mANil, R.ev_mACons, R.ev_mTup, R.ev_mLst, R.ev_mNoPart, R.ev_mPart, R.ev_mSl, R.ev_tTrue, R.ev_tBool, R.ev_mCh, R.ev_tAndM, R.ev_tOrM, R.ev_tNotM, R.ev_mIfE, R.ev_mAndV, R.ev_mOrV, R.ev_mNotV, R.ev_cNil, R.ev_cPl, R.ev_cRv, R.ev_mBlt, R.ev_mM1, R.ev_mCall, R.ev_mNext, R.ev_mSeq, R.ev_mFl, R.ev_mDrop, R.ev_mRet, R.ev_mRetV, R.ev_mIfS, R.ev_mAsg, R.ev_mAug, R.ev_mSetP, R.ev_mLM, R.ev_iAnyM, R.ev_iRng1M, R.ev_iRng2M, R.ev_iEn1M, R.ev_iEnM, R.ev_iZipM, R.ev_mFor, R.ev_mLc, R.ev_mJoined, R.ev_slotRV, R.ev_frzSl, R.ev_relSl, R.ev_setSl, R.ev_lend, R.ev_setT_nm, R.ev_setT_tp, R.ev_setTs_nil, R.ev_setTs_cons, R.ev_hold_N, R.ev_hold_Z, R.ev_hold_B, R.ev_settle_N, R.ev_settle_Z, R.ev_settle_B, R.ev_isLst_lst, R.ev_isLst_tup, R.ev_isLst_int, R.ev_isLst_bl, R.ev_isLst_str, R.ev_isLst_non, R.ev_isLst_scr, R.ev_idx_lst, R.ev_idx_tup, R.ev_idx_scr, R.ev_idx_str, R.ev_neg, R.ev_add_int, R.ev_sub_int, R.ev_mul_int, R.ev_div_int, R.ev_mod_int, R.ev_pow_int, R.ev_add_str, R.ev_add_tup, R.ev_add_lst, R.ev_eq_int, R.ev_ne_int, R.ev_eq_str, R.ev_ne_str, R.ev_lt, R.ev_le, R.ev_gt, R.ev_ge, R.ev_is, R.ev_isNot, R.ev_none_tup, R.ev_none_lst, R.ev_none_int, R.ev_none_str, R.ev_none_non, R.ev_len_lst, R.ev_len_tup, R.ev_len_scr, R.ev_len_str, R.ev_abs, R.ev_int1, R.ev_str_int, R.ev_str_str, R.ev_list_lst, R.ev_list_tup, R.ev_tup_lst, R.ev_tup_tup, R.ev_fmt_str, R.ev_fmt_int, R.ev_sl_lst, R.ev_sl_tup, R.ev_sl_scr, R.ev_split, R.ev_join, R.ev_tru_bl, R.ev_tru_int, R.ev_tru_non, R.ev_tru_lst, R.ev_tru_tup, R.ev_avRVs_nil, R.ev_avRVs_pl, R.ev_avRVs_rv, R.ev_share_pl, R.ev_share_N, R.ev_share_Z, R.ev_share_B, R.ev_lent_pl, R.ev_lent_N, R.ev_lent_Z, R.ev_lent_B, R.ev_fin_ret, R.ev_fin_next, R.ev_io_t, R.ev_io_f, R.ev_jGo_nil, R.ev_jGo_cons, R.ev_isi, R.ev_hold_t, R.ev_hold_fint, R.ev_hold_fstr, R.ev_hold_ftup, R.ev_hold_fbl, R.ev_settle_int, R.ev_settle_str, R.ev_settle_tup, R.ev_settle_bl, R.ev_settle_non, R.ev_share_int, R.ev_share_str, R.ev_share_tup, R.ev_lent_int, R.ev_lent_str, R.ev_lent_tup, R.hmd]
    refine ⟨_, [.frz (imD a), .frz (imD a), .frz (.int k)], hs, .inl ?_, _, rfl, .inr ⟨_, rfl⟩⟩
    subst hb
    simp [R.ev_mC, R.ev_mVar, R.ev_mVarZ, R.ev_mOp, R.ev_mOpV, R.ev_mUn, R.ev_mANil, R.ev_mACons, R.ev_mTup, R.ev_mLst, R.ev_mNoPart, R.ev_mPart, R.ev_mSl, R.ev_tTrue, R.ev_tBool, R.ev_mCh, R.ev_tAndM, R.ev_tOrM, R.ev_tNotM, R.ev_mIfE, R.ev_mAndV, R.ev_mOrV, R.ev_mNotV, R.ev_cNil, R.ev_cPl, R.ev_cRv, R.ev_mBlt, R.ev_mM1, R.ev_mCall, R.ev_mNext, R.ev_mSeq, R.ev_mFl, R.ev_mDrop, R.ev_mRet, R.ev_mRetV, R.ev_mIfS, R.ev_mAsg, R.ev_mAug, R.ev_mSetP, R.ev_mLM, R.ev_iAnyM, R.ev_iRng1M, R.ev_iRng2M, R.ev_iEn1M, R.ev_iEnM, R.ev_iZipM, R.ev_mFor, R.ev_mLc, R.ev_mJoined, R.ev_slotRV, R.ev_frzSl, R.ev_relSl, R.ev_setSl, R.ev_lend, R.ev_setT_nm, R.ev_setT_tp, R.ev_setTs_nil, R.ev_setTs_cons, R.ev_hold_N, R.ev_hold_Z, R.ev_hold_B, R.ev_settle_N, R.ev_settle_Z, R.ev_settle_B, R.ev_isLst_lst, R.ev_isLst_tup, R.ev_isLst_int, R.ev_isLst_bl, R.ev_isLst_str, R.ev_isLst_non, R.ev_isLst_scr, R.ev_idx_lst, R.ev_idx_tup, R.ev_idx_scr, R.ev_idx_str, R.ev_neg, R.ev_add_int, R.ev_sub_int, R.ev_mul_int, R.ev_div_int, R.ev_mod_int, R.ev_pow_int, R.ev_add_str, R.ev_add_tup, R.ev_add_lst, R.ev_eq_int, R.ev_ne_int, R.ev_eq_str, R.ev_ne_str, R.ev_lt, R.ev_le, R.ev_gt, R.ev_ge, R.ev_is, R.ev_isNot, R.ev_none_tup, R.ev_none_lst, R.ev_none_int, R.ev_none_str, R.ev_none_non, R.ev_len_lst, R.ev_len_tup, R.ev_len_scr, R.ev_len_str, R.ev_abs, R.ev_int1, R.ev_str_int, R.ev_str_str, R.ev_list_lst, R.ev_list_tup, R.ev_tup_lst, R.ev_tup_tup, R.ev_fmt_str, R.ev_fmt_int, R.ev_sl_lst, R.ev_sl_tup, R.ev_sl_scr, R.ev_split, R.ev_join, R.ev_tru_bl, R.ev_tru_int, R.ev_tru_non, R.ev_tru_lst, R.ev_tru_tup, R.ev_avRVs_nil, R.ev_avRVs_pl, R.ev_avRVs_rv, R.ev_share_pl, R.ev_share_N, R.ev_share_Z, R.ev_share_B, R.ev_lent_pl, R.ev_lent_N, R.ev_lent_Z, R.ev_lent_B, R.ev_fin_ret, R.ev_fin_next, R.ev_io_t, R.ev_io_f, R.ev_jGo_nil, R.ev_jGo_cons, R.ev_isi, R.ev_hold_t, R.ev_hold_fint, R.ev_hold_fstr, R.ev_hold_ftup, R.ev_hold_fbl, R.ev_settle_int, R.ev_settle_str, R.ev_settle_tup, R.ev_settle_bl, R.ev_settle_non, R.ev_share_int, R.ev_share_str, R.ev_share_tup, R.ev_lent_int, R.ev_lent_str, R.ev_lent_tup, R.hmd, ha, isWhole])
  have hr : iRng1M (mACons (mBlt fLen (cPl 1 cNil)) mANil) [.frz (imD a), .frz (imD a), .un] = .ok (rangeD 0 a.length) [.frz (imD a), .frz (imD a), .un] := by
    have hm : mACons (mBlt fLen (cPl 1 cNil)) mANil [.frz (imD a), .frz (imD a), .un] = .ok [.int a.length] [.frz (imD a), .frz (imD a), .un] := by simp [R.ev_mC, R.ev_mVar, R.ev_mVarZ, R.ev_mOp, R.ev_mOpV, R.ev_mUn, R.ev_mANil, R.ev_mACons, R.ev_mTup, R.ev_mLst, R.ev_mNoPart, R.ev_mPart, R.ev_mSl, R.ev_tTrue, R.ev_tBool, R.ev_mCh, R.ev_tAndM, R.ev_tOrM, R.ev_tNotM, R.ev_mIfE, R.ev_mAndV, R.ev_mOrV, R.ev_mNotV, R.ev_cNil, R.ev_cPl, R.ev_cRv, R.ev_mBlt, R.ev_mM1, R.ev_mCall, R.ev_mNext, R.ev_mSeq, R.ev_mFl, R.ev_mDrop, R.ev_mRet, R.ev_mRetV, R.ev_mIfS, R.ev_mAsg, R.ev_mAug, R.ev_mSetP, R.ev_mLM, R.ev_iAnyM, R.ev_iRng2M, R.ev_iEn1M, R.ev_iEnM, R.ev_iZipM, R.ev_mJoined, R.ev_slotRV, R.ev_frzSl, R.ev_relSl, R.ev_setSl, R.ev_lend, R.ev_setT_nm, R.ev_setT_tp, R.ev_setTs_nil, R.ev_setTs_cons, R.ev_hold_N, R.ev_hold_Z, R.ev_hold_B, R.ev_settle_N, R.ev_settle_Z, R.ev_settle_B, R.ev_isLst_lst, R.ev_isLst_tup, R.ev_isLst_int, R.ev_isLst_bl, R.ev_isLst_str, R.ev_isLst_non, R.ev_isLst_scr, R.ev_idx_lst, R.ev_idx_tup, R.ev_idx_scr, R.ev_idx_str, R.ev_neg, R.ev_add_int, R.ev_sub_int, R.ev_mul_int, R.ev_div_int, R.ev_mod_int, R.ev_pow_int, R.ev_add_str, R.ev_add_tup, R.ev_add_lst, R.ev_eq_int, R.ev_ne_int, R.ev_eq_str, R.ev_ne_str, R.ev_lt, R.ev_le, R.ev_gt, R.ev_ge, R.ev_is, R.ev_isNot, R.ev_none_tup, R.ev_none_lst, R.ev_none_int, R.ev_none_str, R.ev_none_non, R.ev_len_lst, R.ev_len_tup, R.ev_len_scr, R.ev_len_str, R.ev_abs, R.ev_int1, R.ev_str_int, R.ev_str_str, R.ev_list_lst, R.ev_list_tup, R.ev_tup_lst, R.ev_tup_tup, R.ev_fmt_str, R.ev_fmt_int, R.ev_sl_lst, R.ev_sl_tup, R.ev_sl_scr, R.ev_split, R.ev_join, R.ev_tru_bl, R.ev_tru_int, R.ev_tru_non, R.ev_tru_lst, R.ev_tru_tup, R.ev_avRVs_nil, R.ev_avRVs_pl, R.ev_avRVs_rv, R.ev_share_pl, R.ev_share_N, R.ev_share_Z, R.ev_share_B, R.ev_lent_pl, R.ev_lent_N, R.ev_lent_Z, R.ev_lent_B, R.ev_fin_ret, R.ev_fin_next, R.ev_io_t, R.ev_io_f, R.ev_jGo_nil, R.ev_jGo_cons, R.ev_isi, R.ev_hold_t, R.ev_hold_fint, R.ev_hold_fstr, R.ev_hold_ftup, R.ev_hold_fbl, R.ev_settle_int, R.ev_settle_str, R.ev_settle_tup, R.ev_settle_bl, R.ev_settle_non, R.ev_share_int, R.ev_share_str, R.ev_share_tup, R.ev_lent_int, R.ev_lent_str, R.ev_lent_tup, R.hmd, imD]
    rw [R.ev_iRng1M, hm]
    dsimp only
    rw [if_pos (smallN a.length (by omega))]; rfl
  have hC : mIfS (tOrM (tNotM (tTrue (mUn (fIsi .tuple) (mVar 0)))) (tBool (mOp true (cop .NotEq) (mBlt fLen (cPl 0 cNil)) (mBlt fLen (cPl 1 cNil))))) (mSeq (mRet (mC (.bl false))) mNext) mNext [.frz (imD a), .frz (imD a), .un] = .ok .next [.frz (imD a), .frz (imD a), .un] := by
    unfold imD
    simp [R.ev_mC, R.ev_mVar, R.ev_mVarZ, R.ev_mOp, R.ev_mOpV, R.ev_mUn, R.ev_mANil, R.ev_mACons, R.ev_mTup, R.ev_mLst, R.ev_mNoPart, R.ev_mPart, R.ev_mSl, R.ev_tTrue, R.ev_tBool, R.ev_mCh, R.ev_tAndM, R.ev_tOrM, R.ev_tNotM, R.ev_mIfE, R.ev_mAndV, R.ev_mOrV, R.ev_mNotV, R.ev_cNil, R.ev_cPl, R.ev_cRv, R.ev_mBlt, R.ev_mM1, R.ev_mCall, R.ev_mNext, R.ev_mSeq, R.ev_mFl, R.ev_mDrop, R.ev_mRet, R.ev_mRetV, R.ev_mIfS, R.ev_mAsg, R.ev_mAug, R.ev_mSetP, R.ev_mLM, R.ev_iAnyM, R.ev_iRng2M, R.ev_iEn1M, R.ev_iEnM, R.ev_iZipM, R.ev_mJoined, R.ev_slotRV, R.ev_frzSl, R.ev_relSl, R.ev_setSl, R.ev_lend, R.ev_setT_nm, R.ev_setT_tp, R.ev_setTs_nil, R.ev_setTs_cons, R.ev_hold_N, R.ev_hold_Z, R.ev_hold_B, R.ev_settle_N, R.ev_settle_Z, R.ev_settle_B, R.ev_isLst_lst, R.ev_isLst_tup, R.ev_isLst_int, R.ev_isLst_bl, R.ev_isLst_str, R.ev_isLst_non, R.ev_isLst_scr, R.ev_idx_lst, R.ev_idx_tup, R.ev_idx_scr, R.ev_idx_str, R.ev_neg, R.ev_add_int, R.ev_sub_int, R.ev_mul_int, R.ev_div_int, R.ev_mod_int, R.ev_pow_int, R.ev_add_str, R.ev_add_tup, R.ev_add_lst, R.ev_eq_int, R.ev_ne_int, R.ev_eq_str, R.ev_ne_str, R.ev_lt, R.ev_le, R.ev_gt, R.ev_ge, R.ev_is, R.ev_isNot, R.ev_none_tup, R.ev_none_lst, R.ev_none_int, R.ev_none_str, R.ev_none_non, R.ev_len_lst, R.ev_len_tup, R.ev_len_scr, R.ev_len_str, R.ev_abs, R.ev_int1, R.ev_str_int, R.ev_str_str, R.ev_list_lst, R.ev_list_tup, R.ev_tup_lst, R.ev_tup_tup, R.ev_fmt_str, R.ev_fmt_int, R.ev_sl_lst, R.ev_sl_tup, R.ev_sl_scr, R.ev_split, R.ev_join, R.ev_tru_bl, R.ev_tru_int, R.ev_tru_non, R.ev_tru_lst, R.ev_tru_tup, R.ev_avRVs_nil, R.ev_avRVs_pl, R.ev_avRVs_rv, R.ev_share_pl, R.ev_share_N, R.ev_share_Z, R.ev_share_B, R.ev_lent_pl, R.ev_lent_N, R.ev_lent_Z, R.ev_lent_B, R.ev_fin_ret, R.ev_fin_next, R.ev_io_t, R.ev_io_f, R.ev_jGo_nil, R.ev_jGo_cons, R.ev_isi, R.ev_hold_t, R.ev_hold_fint, R.ev_hold_fstr, R.ev_hold_ftup, R.ev_hold_fbl, R.ev_settle_int, R.ev_settle_str, R.ev_settle_tup, R.ev_settle_bl, R.ev_settle_non, R.ev_share_int, R.ev_share_str, R.ev_share_tup, R.ev_lent_int, R.ev_lent_str, R.ev_lent_tup, R.hmd, is_t]
  rw [R.ev_mSeq, hC]
  dsimp only
  rw [R.ev_mSeq, R.ev_mFor, hr]
  dsimp only
  rw [e]; rfl
theorem view_pick {n : Nat} {os es : List Int} (hs : SrcOk n os) (he : es.length = n) : view (os.map (pick es)) = os.map (pickV (view es)) := by
  unfold view
  rw [List.map_map]
  apply List.map_congr_left
  intro b hb
  obtain ⟨b0, b1⟩ := hs.2 b hb
  show sgn (pick es b) = pickV (es.map sgn) b
  unfold pick pickV
  by_cases h : b = -1
  · rw [if_pos h, if_pos h]; rfl
  · rw [if_neg h, if_neg h]
    have hl : b.toNat < es.length := by omega
    rw [List.getD_eq_getElem?_getD, List.getD_eq_getElem?_getD, List.getElem?_map, List.getElem?_eq_getElem hl]; rfl
theorem pick_ok {n : Nat} {os es : List Int} (hs : SrcOk n os) (hi : ImOk es) (he : es.length = n) : ImOk (os.map (pick es)) := by
  refine ⟨by rw [List.length_map, hs.1, ← he]; exact hi.1, fun e h => ?_⟩
  obtain ⟨b, hb, rfl⟩ := List.mem_map.mp h
  obtain ⟨b0, b1⟩ := hs.2 b hb
  unfold pick
  by_cases h : b = -1
  · rw [if_pos h]; omega
  · rw [if_neg h]
    have hl : b.toNat < es.length := by omega
    rw [List.getD_eq_getElem?_getD, List.getElem?_eq_getElem hl]
    exact hi.2 _ (List.getElem_mem hl)
end K02

set_option Elab.async false
set_option linter.all false
set_option maxRecDepth 100000
set_option maxHeartbeats 2000000
namespace K02
open PySem PySem.Spec PyProof.Rows L2 R

/-! ### what is drawn -/
theorem bag_ok (ns : List Int) (h : ns.length ≤ 63) : ∃ b, g_law_bag [.scr ns] = .ret .N b none ∧ Bag b ∧ isLst b = true := by
  have st : g_law_bag [.scr ns] = fin false (m_law_bag [.frz (.scr ns), .un]) := rfl
  refine ⟨bagD (R.cutD ns none (some 63)) 0 0 376 0, ?_, ⟨_, _, _, _, _, rfl, Int.le_refl _⟩, rfl⟩
  rw [st]
  unfold m_law_bag bagD
  have lc := lcGo_map (vs := [1]) (tg := .nm 1) (mt := fun S => .ok true S) (me := mBlt fInt1 (cPl 1 cNil)) R.D.int R.D.int [.frz (.scr ns), .un] (R.cutD ns none (some 63)) (fun r _ =>
    ⟨[.frz (.scr ns), .frz (.int r)], [.frz (.scr ns), .frz (.int r)], ⟨.N, .int r⟩, [.frz (.scr ns), .frz (.int r)], ⟨.N, .int r⟩, by simp [R.ev_mC, R.ev_mVar, R.ev_mVarZ, R.ev_mOp, R.ev_mOpV, R.ev_mUn, R.ev_mANil, R.ev_mACons, R.ev_mTup, R.ev_mLst, R.ev_mNoPart, R.ev_mPart, R.ev_mSl, R.ev_tTrue, R.ev_tBool, R.ev_mCh, R.ev_tAndM, R.ev_tOrM, R.ev_tNotM, R.ev_mIfE, R.ev_mAndV, R.ev_mOrV, R.ev_mNotV, R.ev_cNil, R.ev_cPl, R.ev_cRv, R.ev_mBlt, R.ev_mM1, R.ev_mCall, R.ev_mNext, R.ev_mSeq, R.ev_mFl, R.ev_mDrop, R.ev_mRet, R.ev_mRetV, R.ev_mIfS, R.ev_mAsg, R.ev_mAug, R.ev_mSetP, R.ev_mLM, R.ev_iAnyM, R.ev_iRng1M, R.ev_iRng2M, R.ev_iEn1M, R.ev_iEnM, R.ev_iZipM, R.ev_mFor, R.ev_mLc, R.ev_mJoined, R.ev_slotRV, R.ev_frzSl, R.ev_relSl, R.ev_setSl, R.ev_lend, R.ev_setT_nm, R.ev_setT_tp, R.ev_setTs_nil, R.ev_setTs_cons, R.ev_hold_N, R.ev_hold_Z, R.ev_hold_B, R.ev_settle_N, R.ev_settle_Z, R.ev_settle_B, R.ev_isLst_lst, R.ev_isLst_tup, R.ev_isLst_int, R.ev_isLst_bl, R.ev_isLst_str, R.ev_isLst_non, R.ev_isLst_scr, R.ev_idx_lst, R.ev_idx_tup, R.ev_idx_scr, R.ev_idx_str, R.ev_neg, R.ev_add_int, R.ev_sub_int, R.ev_mul_int, R.ev_div_int, R.ev_mod_int, R.ev_pow_int, R.ev_add_str, R.ev_add_tup, R.ev_add_lst, R.ev_eq_int, R.ev_ne_int, R.ev_eq_str, R.ev_ne_str, R.ev_lt, R.ev_le, R.ev_gt, R.ev_ge, R.ev_is, R.ev_isNot, R.ev_none_tup, R.ev_none_lst, R.ev_none_int, R.ev_none_str, R.ev_none_non, R.ev_len_lst, R.ev_len_tup, R.ev_len_scr, R.ev_len_str, R.ev_abs, R.ev_int1, R.ev_str_int, R.ev_str_str, R.ev_list_lst, R.ev_list_tup, R.ev_tup_lst, R.ev_tup_tup, R.ev_fmt_str, R.ev_fmt_int, R.ev_sl_lst, R.ev_sl_tup, R.ev_sl_scr, R.ev_split, R.ev_join, R.ev_tru_bl, R.ev_tru_int, R.ev_tru_non, R.ev_tru_lst, R.ev_tru_tup, R.ev_avRVs_nil, R.ev_avRVs_pl, R.ev_avRVs_rv, R.ev_share_pl, R.ev_share_N, R.ev_share_Z, R.ev_share_B, R.ev_lent_pl, R.ev_lent_N, R.ev_lent_Z, R.ev_lent_B, R.ev_fin_ret, R.ev_fin_next, R.ev_io_t, R.ev_io_f, R.ev_jGo_nil, R.ev_jGo_cons, R.ev_isi, R.ev_hold_t, R.ev_hold_fint, R.ev_hold_fstr, R.ev_hold_ftup, R.ev_hold_fbl, R.ev_settle_int, R.ev_settle_str, R.ev_settle_tup, R.ev_settle_bl, R.ev_settle_non, R.ev_share_int, R.ev_share_str, R.ev_share_tup, R.ev_lent_int, R.ev_lent_str, R.ev_lent_tup, R.hmd], rfl, by simp [R.ev_mC, R.ev_mVar, R.ev_mVarZ, R.ev_mOp, R.ev_mOpV, R.ev_mUn, R.ev_mANil, R.ev_mACons, R.ev_mTup, R.ev_mLst, R.ev_mNoPart, R.ev_mPart, R.ev_mSl, R.ev_tTrue, R.ev_tBool, R.ev_mCh, R.ev_tAndM, R.ev_tOrM, R.ev_tNotM, R.ev_mIfE, R.ev_mAndV, R.ev_mOrV, R.ev_mNotV, R.ev_cNil, R.ev_cPl, R.ev_cRv, R.ev_mBlt, R.ev_mM1, R.ev_mCall, R.ev_mNext, R.ev_mSeq, R.ev_mFl, R.ev_mDrop, R.ev_mRet, R.ev_mRetV, R.ev_mIfS, R.ev_mAsg, R.ev_mAug, R.ev_mSetP, R.ev_mLM, R.ev_iAnyM, R.ev_iRng1M, R.ev_iRng2M, R.ev_iEn1M, R.ev_iEnM, R.ev_iZipM, R.ev_mFor, R.ev_mLc, R.ev_mJoined, R.ev_slotRV, R.ev_frzSl, R.ev_relSl, R.ev_setSl, R.ev_lend, R.ev_setT_nm, R.ev_setT_tp, R.ev_setTs_nil, R.ev_setTs_cons, R.ev_hold_N, R.ev_hold_Z, R.ev_hold_B, R.ev_settle_N, R.ev_settle_Z, R.ev_settle_B, R.ev_isLst_lst, R.ev_isLst_tup, R.ev_isLst_int, R.ev_isLst_bl, R.ev_isLst_str, R.ev_isLst_non, R.ev_isLst_scr, R.ev_idx_lst, R.ev_idx_tup, R.ev_idx_scr, R.ev_idx_str, R.ev_neg, R.ev_add_int, R.ev_sub_int, R.ev_mul_int, R.ev_div_int, R.ev_mod_int, R.ev_pow_int, R.ev_add_str, R.ev_add_tup, R.ev_add_lst, R.ev_eq_int, R.ev_ne_int, R.ev_eq_str, R.ev_ne_str, R.ev_lt, R.ev_le, R.ev_gt, R.ev_ge, R.ev_is, R.ev_isNot, R.ev_none_tup, R.ev_none_lst, R.ev_none_int, R.ev_none_str, R.ev_none_non, R.ev_len_lst, R.ev_len_tup, R.ev_len_scr, R.ev_len_str, R.ev_abs, R.ev_int1, R.ev_str_int, R.ev_str_str, R.ev_list_lst, R.ev_list_tup, R.ev_tup_lst, R.ev_tup_tup, R.ev_fmt_str, R.ev_fmt_int, R.ev_sl_lst, R.ev_sl_tup, R.ev_sl_scr, R.ev_split, R.ev_join, R.ev_tru_bl, R.ev_tru_int, R.ev_tru_non, R.ev_tru_lst, R.ev_tru_tup, R.ev_avRVs_nil, R.ev_avRVs_pl, R.ev_avRVs_rv, R.ev_share_pl, R.ev_share_N, R.ev_share_Z, R.ev_share_B, R.ev_lent_pl, R.ev_lent_N, R.ev_lent_Z, R.ev_lent_B, R.ev_fin_ret, R.ev_fin_next, R.ev_io_t, R.ev_io_f, R.ev_jGo_nil, R.ev_jGo_cons, R.ev_isi, R.ev_hold_t, R.ev_hold_fint, R.ev_hold_fstr, R.ev_hold_ftup, R.ev_hold_fbl, R.ev_settle_int, R.ev_settle_str, R.ev_settle_tup, R.ev_settle_bl, R.ev_settle_non, R.ev_share_int, R.ev_share_str, R.ev_share_tup, R.ev_lent_int, R.ev_lent_str, R.ev_lent_tup, R.hmd], rfl, rfl, rfl, rfl⟩)
  have hi : ∀ xs : List R.D, itemsOf (.lst xs) = some xs := fun _ => rfl
  have hl : lenOk (R.cutD ns none (some 63)).length = true := lenOk_of (Nat.le_trans (cut_len _ _ _) (by omega))
  have l5 : lenOk 5 = true := by decide
  have ow : okW [.frz (.scr ns), .un] [1] = true := rfl
  have ws : wipeS [.frz (.scr ns), .un] [1] = [.frz (.scr ns), .un] := rfl
  simp [R.ev_mC, R.ev_mVar, R.ev_mVarZ, R.ev_mOp, R.ev_mOpV, R.ev_mUn, R.ev_mANil, R.ev_mACons, R.ev_mTup, R.ev_mLst, R.ev_mNoPart, R.ev_mPart, R.ev_mSl, R.ev_tTrue, R.ev_tBool, R.ev_mCh, R.ev_tAndM, R.ev_tOrM, R.ev_tNotM, R.ev_mIfE, R.ev_mAndV, R.ev_mOrV, R.ev_mNotV, R.ev_cNil, R.ev_cPl, R.ev_cRv, R.ev_mBlt, R.ev_mM1, R.ev_mCall, R.ev_mNext, R.ev_mSeq, R.ev_mFl, R.ev_mDrop, R.ev_mRet, R.ev_mRetV, R.ev_mIfS, R.ev_mAsg, R.ev_mAug, R.ev_mSetP, R.ev_mLM, R.ev_iAnyM, R.ev_iRng1M, R.ev_iRng2M, R.ev_iEn1M, R.ev_iEnM, R.ev_iZipM, R.ev_mFor, R.ev_mLc, R.ev_mJoined, R.ev_slotRV, R.ev_frzSl, R.ev_relSl, R.ev_setSl, R.ev_lend, R.ev_setT_nm, R.ev_setT_tp, R.ev_setTs_nil, R.ev_setTs_cons, R.ev_hold_N, R.ev_hold_Z, R.ev_hold_B, R.ev_settle_N, R.ev_settle_Z, R.ev_settle_B, R.ev_isLst_lst, R.ev_isLst_tup, R.ev_isLst_int, R.ev_isLst_bl, R.ev_isLst_str, R.ev_isLst_non, R.ev_isLst_scr, R.ev_idx_lst, R.ev_idx_tup, R.ev_idx_scr, R.ev_idx_str, R.ev_neg, R.ev_add_int, R.ev_sub_int, R.ev_mul_int, R.ev_div_int, R.ev_mod_int, R.ev_pow_int, R.ev_add_str, R.ev_add_tup, R.ev_add_lst, R.ev_eq_int, R.ev_ne_int, R.ev_eq_str, R.ev_ne_str, R.ev_lt, R.ev_le, R.ev_gt, R.ev_ge, R.ev_is, R.ev_isNot, R.ev_none_tup, R.ev_none_lst, R.ev_none_int, R.ev_none_str, R.ev_none_non, R.ev_len_lst, R.ev_len_tup, R.ev_len_scr, R.ev_len_str, R.ev_abs, R.ev_int1, R.ev_str_int, R.ev_str_str, R.ev_list_lst, R.ev_list_tup, R.ev_tup_lst, R.ev_tup_tup, R.ev_fmt_str, R.ev_fmt_int, R.ev_sl_lst, R.ev_sl_tup, R.ev_sl_scr, R.ev_split, R.ev_join, R.ev_tru_bl, R.ev_tru_int, R.ev_tru_non, R.ev_tru_lst, R.ev_tru_tup, R.ev_avRVs_nil, R.ev_avRVs_pl, R.ev_avRVs_rv, R.ev_share_pl, R.ev_share_N, R.ev_share_Z, R.ev_share_B, R.ev_lent_pl, R.ev_lent_N, R.ev_lent_Z, R.ev_lent_B, R.ev_fin_ret, R.ev_fin_next, R.ev_io_t, R.ev_io_f, R.ev_jGo_nil, R.ev_jGo_cons, R.ev_isi, R.ev_hold_t, R.ev_hold_fint, R.ev_hold_fstr, R.ev_hold_ftup, R.ev_hold_fbl, R.ev_settle_int, R.ev_settle_str, R.ev_settle_tup, R.ev_settle_bl, R.ev_settle_non, R.ev_share_int, R.ev_share_str, R.ev_share_tup, R.ev_lent_int, R.ev_lent_str, R.ev_lent_tup, R.hmd, hi, lc, hl, l5, ow, ws]
theorem three (a b c : Int) (r : Int) (h0 : 0 ≤ r) (h1 : r < 3) : ∃ x, L2.atI [R.D.int a, .int b, .int c] r = some (.int x) ∧ (x = a ∨ x = b ∨ x = c) := by
  have : r = 0 ∨ r = 1 ∨ r = 2 := by omega
  rcases this with rfl | rfl | rfl
  · exact ⟨_, rfl, .inl rfl⟩
  · exact ⟨_, rfl, .inr (.inl rfl)⟩
  · exact ⟨_, rfl, .inr (.inr rfl)⟩
theorem image (b : R.D) (n : Int) (hb : Bag b) (h0 : 1 ≤ n) (h1 : n ≤ 12) : ∃ b' es, g_law_image [b, .int n] = .ret .N (imD es) (some b') ∧ Bag b' ∧ ImOk es ∧ (es.length : Int) = n := by
  have st : g_law_image [b, .int n] = fin true (m_law_image [.io b, .frz (.int n), .un, .un, .un, .un, .un, .un]) := rfl
  rw [st]
  unfold m_law_image
  obtain ⟨b1, md1, r1, e1, hb1, p1, q1⟩ := draw b 3 hb (by decide) (by decide)
  obtain ⟨kk, ek, hk⟩ := three 10 2 1 r1 p1 q1
  obtain ⟨b2, md2, r2, e2, hb2, p2, q2⟩ := draw b1 3 hb1 (by decide) (by decide)
  obtain ⟨rr, er, hr⟩ := three 100 2 100 r2 p2 q2
  obtain ⟨b3, md3, r3, e3, hb3, p3, q3⟩ := draw b2 4 hb2 (by decide) (by decide)
  have hk' : 0 < kk ∧ kk ≤ 10 := by omega
  have hr' : 0 < rr ∧ rr ≤ 100 := by omega
  generalize hmb : (mSeq (mAsg (.nm 7) (mOp false (bop .Add) (mOp false (bop .Mult) (mC (.int 100)) _) _)) _) = mb
  obtain ⟨S', e, b4, es, y6, y7, rfl, hb4, hl, hes, _⟩ := forGo_inv (tg := .nm 6) (mb := mb) (fun j S => ∃ b es y6 y7, S = [.io b, .frz (.int n), .frz (.int kk), .frz (.int rr), .frz (.int r3), .own (.lst (es.map R.D.int)), y6, y7] ∧ Bag b ∧ es.length = j ∧ (∀ e ∈ es, -1 ≤ e ∧ e ≤ 999) ∧ NI y6 ∧ NI y7) (rangeD 0 n.toNat) 0 [.io b3, .frz (.int n), .frz (.int kk), .frz (.int rr), .frz (.int r3), .own (.lst []), .un, .un] ⟨b3, [], .un, .un, rfl, hb3, rfl, fun _ h => (nomatch h), .inl rfl, .inl rfl⟩ (by
    rintro j d S hj ⟨b, es, y6, y7, rfl, hb, hl, hes, n6, n7⟩
    rw [Nat.zero_add] at hl
    obtain ⟨hjl, rfl⟩ := rangeD_get hj
    obtain ⟨b4, md4, r4, e4, hb4, p4, q4⟩ := draw b kk hb (by omega) (by omega)
    obtain ⟨b5, md5, r5, e5, hb5, p5, q5⟩ := draw b4 rr hb4 (by omega) (by omega)
    obtain ⟨b6, md6, r6, e6, hb6, p6, q6⟩ := draw b5 4 hb5 (by decide) (by decide)
    have hln : lenOk es.length = true := lenOk_of (by omega)
    have mk : ∀ x : Int, mulOk 100 x = true := fun x => mulK' (by decide)
    generalize ((0 : Int) + (j : Nat)) = k
    have hs : setT (.nm 6) [.io b, .frz (.int n), .frz (.int kk), .frz (.int rr), .frz (.int r3), .own (.lst (es.map R.D.int)), y6, y7] ⟨.Z, .int k⟩ = some [.io b, .frz (.int n), .frz (.int kk), .frz (.int rr), .frz (.int r3), .own (.lst (es.map R.D.int)), .frz (.int k), y7] := by
      rcases n6 with rfl | ⟨_, rfl⟩ <;> simp [R.ev_mC, R.ev_mVar, R.ev_mVarZ, R.ev_mOp, R.ev_mOpV, R.ev_mUn, R.ev_mANil, R.ev_mACons, R.ev_mTup, R.ev_mLst, R.ev_mNoPart, R.ev_mPart, R.ev_mSl, R.ev_tTrue, R.ev_tBool, R.ev_mCh, R.ev_tAndM, R.ev_tOrM, R.ev_tNotM, R.ev_mIfE, R.ev_mAndV, R.ev_mOrV, R.ev_mNotV, R.ev_cNil, R.ev_cPl, R.ev_cRv, R.ev_mBlt, R.ev_mM1, R.ev_mCall, R.ev_mNext, R.ev_mSeq, R.ev_mFl, R.ev_mDrop, R.ev_mRet, R.ev_mRetV, R.ev_mIfS, R.ev_mAsg, R.ev_mAug, R.ev_mSetP, R.ev_mLM, R.ev_iAnyM, R.ev_iRng1M, R.ev_iRng2M, R.ev_iEn1M, R.ev_iEnM, R.ev_iZipM, R.ev_mFor, R.ev_mLc, R.ev_mJoined, R.ev_slotRV, R.ev_frzSl, R.ev_relSl, R.ev_setSl, R.ev_lend, R.ev_setT_nm, R.ev_setT_tp, R.ev_setTs_nil, R.ev_setTs_cons, R.ev_hold_N, R.ev_hold_Z, R.ev_hold_B, R.ev_settle_N, R.ev_settle_Z, R.ev_settle_B, R.ev_isLst_lst, R.ev_isLst_tup, R.ev_isLst_int, R.ev_isLst_bl, R.ev_isLst_str, R.ev_isLst_non, R.ev_isLst_scr, R.ev_idx_lst, R.ev_idx_tup, R.ev_idx_scr, R.ev_idx_str, R.ev_neg, R.ev_add_int, R.ev_sub_int, R.ev_mul_int, R.ev_div_int, R.ev_mod_int, R.ev_pow_int, R.ev_add_str, R.ev_add_tup, R.ev_add_lst, R.ev_eq_int, R.ev_ne_int, R.ev_eq_str, R.ev_ne_str, R.ev_lt, R.ev_le, R.ev_gt, R.ev_ge, R.ev_is, R.ev_isNot, R.ev_none_tup, R.ev_none_lst, R.ev_none_int, R.ev_none_str, R.ev_none_non, R.ev_len_lst, R.ev_len_tup, R.ev_len_scr, R.ev_len_str, R.ev_abs, R.ev_int1, R.ev_str_int, R.ev_str_str, R.ev_list_lst, R.ev_list_tup, R.ev_tup_lst, R.ev_tup_tup, R.ev_fmt_str, R.ev_fmt_int, R.ev_sl_lst, R.ev_sl_tup, R.ev_sl_scr, R.ev_split, R.ev_join, R.ev_tru_bl, R.ev_tru_int, R.ev_tru_non, R.ev_tru_lst, R.ev_tru_tup, R.ev_avRVs_nil, R.ev_avRVs_pl, R.ev_avRVs_rv, R.ev_share_pl, R.ev_share_N, R.ev_share_Z, R.ev_share_B, R.ev_lent_pl, R.ev_lent_N, R.ev_lent_Z, R.ev_lent_B, R.ev_fin_ret, R.ev_fin_next, R.ev_io_t, R.ev_io_f, R.ev_jGo_nil, R.ev_jGo_cons, R.ev_isi, R.ev_hold_t, R.ev_hold_fint, R.ev_hold_fstr, R.ev_hold_ftup, R.ev_hold_fbl, R.ev_settle_int, R.ev_settle_str, R.ev_settle_tup, R.ev_settle_bl, R.ev_settle_non, R.ev_share_int, R.ev_share_str, R.ev_share_tup, R.ev_lent_int, R.ev_lent_str, R.ev_lent_tup, R.hmd]
    subst hmb
    by_cases hh : r6 < r3
    · refine ⟨_, [.io b6, .frz (.int n), .frz (.int kk), .frz (.int rr), .frz (.int r3), .own (.lst ((es ++ [-1]).map R.D.int)), .frz (.int k), .frz (.int (-1))], hs, .inl ?_, b6, es ++ [-1], _, _, rfl, hb6, by rw [List.length_append, hl]; simp, fun e he => ?_, .inr ⟨_, rfl⟩, .inr ⟨_, rfl⟩⟩
      · rcases n7 with rfl | ⟨_, rfl⟩ <;> simp [R.ev_mC, R.ev_mVar, R.ev_mVarZ, R.ev_mOp, R.ev_mOpV, R.ev_mUn, R.ev_mANil, R.ev_mACons, R.ev_mTup, R.ev_mLst, R.ev_mNoPart, R.ev_mPart, R.ev_mSl, R.ev_tTrue, R.ev_tBool, R.ev_mCh, R.ev_tAndM, R.ev_tOrM, R.ev_tNotM, R.ev_mIfE, R.ev_mAndV, R.ev_mOrV, R.ev_mNotV, R.ev_cNil, R.ev_cPl, R.ev_cRv, R.ev_mBlt, R.ev_mM1, R.ev_mCall, R.ev_mNext, R.ev_mSeq, R.ev_mFl, R.ev_mDrop, R.ev_mRet, R.ev_mRetV, R.ev_mIfS, R.ev_mAsg, R.ev_mAug, R.ev_mSetP, R.ev_mLM, R.ev_iAnyM, R.ev_iRng1M, R.ev_iRng2M, R.ev_iEn1M, R.ev_iEnM, R.ev_iZipM, R.ev_mFor, R.ev_mLc, R.ev_mJoined, R.ev_slotRV, R.ev_frzSl, R.ev_relSl, R.ev_setSl, R.ev_lend, R.ev_setT_nm, R.ev_setT_tp, R.ev_setTs_nil, R.ev_setTs_cons, R.ev_hold_N, R.ev_hold_Z, R.ev_hold_B, R.ev_settle_N, R.ev_settle_Z, R.ev_settle_B, R.ev_isLst_lst, R.ev_isLst_tup, R.ev_isLst_int, R.ev_isLst_bl, R.ev_isLst_str, R.ev_isLst_non, R.ev_isLst_scr, R.ev_idx_lst, R.ev_idx_tup, R.ev_idx_scr, R.ev_idx_str, R.ev_neg, R.ev_add_int, R.ev_sub_int, R.ev_mul_int, R.ev_div_int, R.ev_mod_int, R.ev_pow_int, R.ev_add_str, R.ev_add_tup, R.ev_add_lst, R.ev_eq_int, R.ev_ne_int, R.ev_eq_str, R.ev_ne_str, R.ev_lt, R.ev_le, R.ev_gt, R.ev_ge, R.ev_is, R.ev_isNot, R.ev_none_tup, R.ev_none_lst, R.ev_none_int, R.ev_none_str, R.ev_none_non, R.ev_len_lst, R.ev_len_tup, R.ev_len_scr, R.ev_len_str, R.ev_abs, R.ev_int1, R.ev_str_int, R.ev_str_str, R.ev_list_lst, R.ev_list_tup, R.ev_tup_lst, R.ev_tup_tup, R.ev_fmt_str, R.ev_fmt_int, R.ev_sl_lst, R.ev_sl_tup, R.ev_sl_scr, R.ev_split, R.ev_join, R.ev_tru_bl, R.ev_tru_int, R.ev_tru_non, R.ev_tru_lst, R.ev_tru_tup, R.ev_avRVs_nil, R.ev_avRVs_pl, R.ev_avRVs_rv, R.ev_share_pl, R.ev_share_N, R.ev_share_Z, R.ev_share_B, R.ev_lent_pl, R.ev_lent_N, R.ev_lent_Z, R.ev_lent_B, R.ev_fin_ret, R.ev_fin_next, R.ev_io_t, R.ev_io_f, R.ev_jGo_nil, R.ev_jGo_cons, R.ev_isi, R.ev_hold_t, R.ev_hold_fint, R.ev_hold_fstr, R.ev_hold_ftup, R.ev_hold_fbl, R.ev_settle_int, R.ev_settle_str, R.ev_settle_tup, R.ev_settle_bl, R.ev_settle_non, R.ev_share_int, R.ev_share_str, R.ev_share_tup, R.ev_lent_int, R.ev_lent_str, R.ev_lent_tup, R.hmd, e4, e5, e6, mk, hh, isL, lmAppend, hln]
      · rcases List.mem_append.mp he with he | he
        · exact hes e he
        · rw [List.mem_singleton.mp he]; omega
    · refine ⟨_, [.io b6, .frz (.int n), .frz (.int kk), .frz (.int rr), .frz (.int r3), .own (.lst ((es ++ [100 * r4 + r5]).map R.D.int)), .frz (.int k), .frz (.int (100 * r4 + r5))], hs, .inl ?_, b6, es ++ [100 * r4 + r5], _, _, rfl, hb6, by rw [List.length_append, hl]; simp, fun e he => ?_, .inr ⟨_, rfl⟩, .inr ⟨_, rfl⟩⟩
      · rcases n7 with rfl | ⟨_, rfl⟩ <;> simp [R.ev_mC, R.ev_mVar, R.ev_mVarZ, R.ev_mOp, R.ev_mOpV, R.ev_mUn, R.ev_mANil, R.ev_mACons, R.ev_mTup, R.ev_mLst, R.ev_mNoPart, R.ev_mPart, R.ev_mSl, R.ev_tTrue, R.ev_tBool, R.ev_mCh, R.ev_tAndM, R.ev_tOrM, R.ev_tNotM, R.ev_mIfE, R.ev_mAndV, R.ev_mOrV, R.ev_mNotV, R.ev_cNil, R.ev_cPl, R.ev_cRv, R.ev_mBlt, R.ev_mM1, R.ev_mCall, R.ev_mNext, R.ev_mSeq, R.ev_mFl, R.ev_mDrop, R.ev_mRet, R.ev_mRetV, R.ev_mIfS, R.ev_mAsg, R.ev_mAug, R.ev_mSetP, R.ev_mLM, R.ev_iAnyM, R.ev_iRng1M, R.ev_iRng2M, R.ev_iEn1M, R.ev_iEnM, R.ev_iZipM, R.ev_mFor, R.ev_mLc, R.ev_mJoined, R.ev_slotRV, R.ev_frzSl, R.ev_relSl, R.ev_setSl, R.ev_lend, R.ev_setT_nm, R.ev_setT_tp, R.ev_setTs_nil, R.ev_setTs_cons, R.ev_hold_N, R.ev_hold_Z, R.ev_hold_B, R.ev_settle_N, R.ev_settle_Z, R.ev_settle_B, R.ev_isLst_lst, R.ev_isLst_tup, R.ev_isLst_int, R.ev_isLst_bl, R.ev_isLst_str, R.ev_isLst_non, R.ev_isLst_scr, R.ev_idx_lst, R.ev_idx_tup, R.ev_idx_scr, R.ev_idx_str, R.ev_neg, R.ev_add_int, R.ev_sub_int, R.ev_mul_int, R.ev_div_int, R.ev_mod_int, R.ev_pow_int, R.ev_add_str, R.ev_add_tup, R.ev_add_lst, R.ev_eq_int, R.ev_ne_int, R.ev_eq_str, R.ev_ne_str, R.ev_lt, R.ev_le, R.ev_gt, R.ev_ge, R.ev_is, R.ev_isNot, R.ev_none_tup, R.ev_none_lst, R.ev_none_int, R.ev_none_str, R.ev_none_non, R.ev_len_lst, R.ev_len_tup, R.ev_len_scr, R.ev_len_str, R.ev_abs, R.ev_int1, R.ev_str_int, R.ev_str_str, R.ev_list_lst, R.ev_list_tup, R.ev_tup_lst, R.ev_tup_tup, R.ev_fmt_str, R.ev_fmt_int, R.ev_sl_lst, R.ev_sl_tup, R.ev_sl_scr, R.ev_split, R.ev_join, R.ev_tru_bl, R.ev_tru_int, R.ev_tru_non, R.ev_tru_lst, R.ev_tru_tup, R.ev_avRVs_nil, R.ev_avRVs_pl, R.ev_avRVs_rv, R.ev_share_pl, R.ev_share_N, R.ev_share_Z, R.ev_share_B, R.ev_lent_pl, R.ev_lent_N, R.ev_lent_Z, R.ev_lent_B, R.ev_fin_ret, R.ev_fin_next, R.ev_io_t, R.ev_io_f, R.ev_jGo_nil, R.ev_jGo_cons, R.ev_isi, R.ev_hold_t, R.ev_hold_fint, R.ev_hold_fstr, R.ev_hold_ftup, R.ev_hold_fbl, R.ev_settle_int, R.ev_settle_str, R.ev_settle_tup, R.ev_settle_bl, R.ev_settle_non, R.ev_share_int, R.ev_share_str, R.ev_share_tup, R.ev_lent_int, R.ev_lent_str, R.ev_lent_tup, R.hmd, e4, e5, e6, mk, hh, isL, lmAppend, hln]
      · rcases List.mem_append.mp he with he | he
        · exact hes e he
        · rw [List.mem_singleton.mp he]; omega)
  rw [rangeD_len, Nat.zero_add] at hl
  have hR : mFor (.nm 6) (iRng1M (mACons (mVarZ 1) mANil)) mb [.io b3, .frz (.int n), .frz (.int kk), .frz (.int rr), .frz (.int r3), .own (.lst []), .un, .un] = .ok .next [.io b4, .frz (.int n), .frz (.int kk), .frz (.int rr), .frz (.int r3), .own (.lst (es.map R.D.int)), y6, y7] := by
    have hm : mACons (mVarZ 1) mANil [.io b3, .frz (.int n), .frz (.int kk), .frz (.int rr), .frz (.int r3), .own (.lst []), .un, .un] = .ok [.int n] [.io b3, .frz (.int n), .frz (.int kk), .frz (.int rr), .frz (.int r3), .own (.lst []), .un, .un] := by simp [R.ev_mC, R.ev_mVar, R.ev_mVarZ, R.ev_mOp, R.ev_mOpV, R.ev_mUn, R.ev_mANil, R.ev_mACons, R.ev_mTup, R.ev_mLst, R.ev_mNoPart, R.ev_mPart, R.ev_mSl, R.ev_tTrue, R.ev_tBool, R.ev_mCh, R.ev_tAndM, R.ev_tOrM, R.ev_tNotM, R.ev_mIfE, R.ev_mAndV, R.ev_mOrV, R.ev_mNotV, R.ev_cNil, R.ev_cPl, R.ev_cRv, R.ev_mBlt, R.ev_mM1, R.ev_mCall, R.ev_mNext, R.ev_mSeq, R.ev_mFl, R.ev_mDrop, R.ev_mRet, R.ev_mRetV, R.ev_mIfS, R.ev_mAsg, R.ev_mAug, R.ev_mSetP, R.ev_mLM, R.ev_iAnyM, R.ev_iRng2M, R.ev_iEn1M, R.ev_iEnM, R.ev_iZipM, R.ev_mJoined, R.ev_slotRV, R.ev_frzSl, R.ev_relSl, R.ev_setSl, R.ev_lend, R.ev_setT_nm, R.ev_setT_tp, R.ev_setTs_nil, R.ev_setTs_cons, R.ev_hold_N, R.ev_hold_Z, R.ev_hold_B, R.ev_settle_N, R.ev_settle_Z, R.ev_settle_B, R.ev_isLst_lst, R.ev_isLst_tup, R.ev_isLst_int, R.ev_isLst_bl, R.ev_isLst_str, R.ev_isLst_non, R.ev_isLst_scr, R.ev_idx_lst, R.ev_idx_tup, R.ev_idx_scr, R.ev_idx_str, R.ev_neg, R.ev_add_int, R.ev_sub_int, R.ev_mul_int, R.ev_div_int, R.ev_mod_int, R.ev_pow_int, R.ev_add_str, R.ev_add_tup, R.ev_add_lst, R.ev_eq_int, R.ev_ne_int, R.ev_eq_str, R.ev_ne_str, R.ev_lt, R.ev_le, R.ev_gt, R.ev_ge, R.ev_is, R.ev_isNot, R.ev_none_tup, R.ev_none_lst, R.ev_none_int, R.ev_none_str, R.ev_none_non, R.ev_len_lst, R.ev_len_tup, R.ev_len_scr, R.ev_len_str, R.ev_abs, R.ev_int1, R.ev_str_int, R.ev_str_str, R.ev_list_lst, R.ev_list_tup, R.ev_tup_lst, R.ev_tup_tup, R.ev_fmt_str, R.ev_fmt_int, R.ev_sl_lst, R.ev_sl_tup, R.ev_sl_scr, R.ev_split, R.ev_join, R.ev_tru_bl, R.ev_tru_int, R.ev_tru_non, R.ev_tru_lst, R.ev_tru_tup, R.ev_avRVs_nil, R.ev_avRVs_pl, R.ev_avRVs_rv, R.ev_share_pl, R.ev_share_N, R.ev_share_Z, R.ev_share_B, R.ev_lent_pl, R.ev_lent_N, R.ev_lent_Z, R.ev_lent_B, R.ev_fin_ret, R.ev_fin_next, R.ev_io_t, R.ev_io_f, R.ev_jGo_nil, R.ev_jGo_cons, R.ev_isi, R.ev_hold_t, R.ev_hold_fint, R.ev_hold_fstr, R.ev_hold_ftup, R.ev_hold_fbl, R.ev_settle_int, R.ev_settle_str, R.ev_settle_tup, R.ev_settle_bl, R.ev_settle_non, R.ev_share_int, R.ev_share_str, R.ev_share_tup, R.ev_lent_int, R.ev_lent_str, R.ev_lent_tup, R.hmd]
    have hI : iRng1M (mACons (mVarZ 1) mANil) [.io b3, .frz (.int n), .frz (.int kk), .frz (.int rr), .frz (.int r3), .own (.lst []), .un, .un] = .ok (rangeD 0 n.toNat) [.io b3, .frz (.int n), .frz (.int kk), .frz (.int rr), .frz (.int r3), .own (.lst []), .un, .un] := by
      rw [R.ev_iRng1M, hm]
      dsimp only
      rw [if_pos (smallZ n (by omega) (by omega))]
    rw [R.ev_mFor, hI]
    exact e
  have l3 : lenOk 3 = true := by decide
  have l0 : lenOk 0 = true := by decide
  refine ⟨b4, es, ?_, hb4, ⟨by omega, hes⟩, by omega⟩
  simp [R.ev_mC, R.ev_mVar, R.ev_mVarZ, R.ev_mOp, R.ev_mOpV, R.ev_mUn, R.ev_mANil, R.ev_mACons, R.ev_mTup, R.ev_mLst, R.ev_mNoPart, R.ev_mPart, R.ev_mSl, R.ev_tTrue, R.ev_tBool, R.ev_mCh, R.ev_tAndM, R.ev_tOrM, R.ev_tNotM, R.ev_mIfE, R.ev_mAndV, R.ev_mOrV, R.ev_mNotV, R.ev_cNil, R.ev_cPl, R.ev_cRv, R.ev_mBlt, R.ev_mM1, R.ev_mCall, R.ev_mNext, R.ev_mSeq, R.ev_mFl, R.ev_mDrop, R.ev_mRet, R.ev_mRetV, R.ev_mIfS, R.ev_mAsg, R.ev_mAug, R.ev_mSetP, R.ev_mLM, R.ev_iAnyM, R.ev_iRng2M, R.ev_iEn1M, R.ev_iEnM, R.ev_iZipM, R.ev_mJoined, R.ev_slotRV, R.ev_frzSl, R.ev_relSl, R.ev_setSl, R.ev_lend, R.ev_setT_nm, R.ev_setT_tp, R.ev_setTs_nil, R.ev_setTs_cons, R.ev_hold_N, R.ev_hold_Z, R.ev_hold_B, R.ev_settle_N, R.ev_settle_Z, R.ev_settle_B, R.ev_isLst_lst, R.ev_isLst_tup, R.ev_isLst_int, R.ev_isLst_bl, R.ev_isLst_str, R.ev_isLst_non, R.ev_isLst_scr, R.ev_idx_lst, R.ev_idx_tup, R.ev_idx_scr, R.ev_idx_str, R.ev_neg, R.ev_add_int, R.ev_sub_int, R.ev_mul_int, R.ev_div_int, R.ev_mod_int, R.ev_pow_int, R.ev_add_str, R.ev_add_tup, R.ev_add_lst, R.ev_eq_int, R.ev_ne_int, R.ev_eq_str, R.ev_ne_str, R.ev_lt, R.ev_le, R.ev_gt, R.ev_ge, R.ev_is, R.ev_isNot, R.ev_none_tup, R.ev_none_lst, R.ev_none_int, R.ev_none_str, R.ev_none_non, R.ev_len_lst, R.ev_len_tup, R.ev_len_scr, R.ev_len_str, R.ev_abs, R.ev_int1, R.ev_str_int, R.ev_str_str, R.ev_list_lst, R.ev_list_tup, R.ev_tup_lst, R.ev_tup_tup, R.ev_fmt_str, R.ev_fmt_int, R.ev_sl_lst, R.ev_sl_tup, R.ev_sl_scr, R.ev_split, R.ev_join, R.ev_tru_bl, R.ev_tru_int, R.ev_tru_non, R.ev_tru_lst, R.ev_tru_tup, R.ev_avRVs_nil, R.ev_avRVs_pl, R.ev_avRVs_rv, R.ev_share_pl, R.ev_share_N, R.ev_share_Z, R.ev_share_B, R.ev_lent_pl, R.ev_lent_N, R.ev_lent_Z, R.ev_lent_B, R.ev_fin_ret, R.ev_fin_next, R.ev_io_t, R.ev_io_f, R.ev_jGo_nil, R.ev_jGo_cons, R.ev_isi, R.ev_hold_t, R.ev_hold_fint, R.ev_hold_fstr, R.ev_hold_ftup, R.ev_hold_fbl, R.ev_settle_int, R.ev_settle_str, R.ev_settle_tup, R.ev_settle_bl, R.ev_settle_non, R.ev_share_int, R.ev_share_str, R.ev_share_tup, R.ev_lent_int, R.ev_lent_str, R.ev_lent_tup, R.hmd, e1, e2, e3, ek, er, l3, l0, hR]
  rfl
end K02

set_option Elab.async false
set_option linter.all false
set_option maxRecDepth 100000
set_option maxHeartbeats 2000000
namespace K02
open PySem PySem.Spec PyProof.Rows L2 R

/-! ### a guard -/
theorem sSigns : ((Str.ofString ".*-0123456789")).cps.toList = SIGNS := by decide
theorem two {α : Type} (a b : α) (r : Int) (h0 : 0 ≤ r) (h1 : r < 2) : ∃ x, L2.atI [a, b] r = some x ∧ (x = a ∨ x = b) := by
  have : r = 0 ∨ r = 1 := by omega
  rcases this with rfl | rfl
  · exact ⟨_, rfl, .inl rfl⟩
  · exact ⟨_, rfl, .inr rfl⟩
theorem signs_at (r : Int) (h0 : 0 ≤ r) (h1 : r < 13) (md md' : Md) : ∃ c, fIdx ⟨md, .str (Str.ofString ".*-0123456789")⟩ ⟨md', .int r⟩ = some ⟨.N, txD [c]⟩ ∧ c ∈ SIGNS := by
  have h : ∃ c, L2.atI SIGNS r = some c ∧ c ∈ SIGNS := by
    have : r = 0 ∨ r = 1 ∨ r = 2 ∨ r = 3 ∨ r = 4 ∨ r = 5 ∨ r = 6 ∨ r = 7 ∨ r = 8 ∨ r = 9 ∨ r = 10 ∨ r = 11 ∨ r = 12 := by omega
    rcases this with rfl | rfl | rfl | rfl | rfl | rfl | rfl | rfl | rfl | rfl | rfl | rfl | rfl <;> exact ⟨_, rfl, by decide⟩
  obtain ⟨c, ec, hc⟩ := h
  refine ⟨c, ?_, hc⟩
  have hl : lenOk (Str.ofString ".*-0123456789").length = true := by decide
  rw [R.ev_idx_str, if_pos hl, sSigns, ec]; rfl
/-- a look's signs -/
def VOk (v : List Nat) : Prop := ∀ c ∈ v, c ∈ SIGNS ∧ c ≠ 42 ∧ c ≠ 45
theorem view_ok {es : List Int} (h : ImOk es) : VOk (view es) := fun c hc => by
  obtain ⟨e, he, rfl⟩ := List.mem_map.mp hc
  obtain ⟨e0, e1⟩ := h.2 e he
  unfold sgn
  by_cases hh : e = -1
  · rw [if_pos hh]; decide
  · rw [if_neg hh]
    have : e / 100 = 0 ∨ e / 100 = 1 ∨ e / 100 = 2 ∨ e / 100 = 3 ∨ e / 100 = 4 ∨ e / 100 = 5 ∨ e / 100 = 6 ∨ e / 100 = 7 ∨ e / 100 = 8 ∨ e / 100 = 9 := by omega
    rcases this with q | q | q | q | q | q | q | q | q | q <;> (rw [q]; decide)
/-- the turns of the first loop -/
theorem guard_for (v : List Nat) (n : Int) (hv : (v.length : Int) = n) (hn : n ≤ 12) (hk : VOk v) (b : R.D) (hb : Bag b) (x3 : Sl) : ∃ (b' : R.D) (g : List Nat) (y5 y6 : Sl), forGo (.nm 5) (mSeq (mAsg (.nm 6) (mC (.str "."))) (mSeq (mIfS (tBool (mOp true (cop .NotEq) (mOpV 2 fIdx (mVar 5)) (mC (.str ".")))) (mSeq (mAsg (.nm 6) (mOp false fIdx (mLst (mACons (mC (.str "*")) (mACons (mOpV 2 fIdx (mVar 5)) mANil))) (mCall 2 g_law_draw (cPl 0 (cRv true (mC (.int 2)) cNil))))) mNext) mNext) (mSeq (mDrop (mLM 4 lmAppend (mACons (mOp false fIdx (mLst (mACons (mC (.str "-")) (mACons (mVarZ 6) mANil))) (mCall 2 g_law_draw (cPl 0 (cRv true (mC (.int 2)) cNil)))) mANil))) mNext)))
    (rangeD 0 n.toNat) [.io b, .frz (.int n), .frz (txD v), x3, .own (.lst []), .un, .un, .un] = .ok .next [.io b', .frz (.int n), .frz (txD v), x3, .own (.lst (g.map fun c => txD [c])), y5, y6, .un] ∧ Bag b' ∧ g.length = v.length ∧ (∀ c ∈ g, c ∈ SIGNS) ∧ NI y5 ∧ NI y6 := by
  generalize hmb : (mSeq (mAsg (.nm 6) (mC (.str "."))) _) = mb
  obtain ⟨S', e, b4, g, y5, y6, rfl, hb4, hl, hg, n5, n6⟩ := forGo_inv (tg := .nm 5) (mb := mb) (fun j S => ∃ (b : R.D) (g : List Nat) (y5 y6 : Sl), S = [.io b, .frz (.int n), .frz (txD v), x3, .own (.lst (g.map fun c => txD [c])), y5, y6, .un] ∧ Bag b ∧ g.length = j ∧ (∀ c ∈ g, c ∈ SIGNS) ∧ NI y5 ∧ NI y6) (rangeD 0 n.toNat) 0 [.io b, .frz (.int n), .frz (txD v), x3, .own (.lst []), .un, .un, .un] ⟨b, [], .un, .un, rfl, hb, rfl, fun _ h => (nomatch h), .inl rfl, .inl rfl⟩ (by
    rintro j d S hj ⟨b, g, y5, y6, rfl, hb, hl, hg, n5, n6⟩
    rw [Nat.zero_add] at hl
    obtain ⟨hjl, rfl⟩ := rangeD_get hj
    have ev : v[((0 : Int) + (j : Nat)).toNat]? = some (v.getD ((0 : Int) + (j : Nat)).toNat 0) := by
      rw [List.getD_eq_getElem?_getD, List.getElem?_eq_getElem (by omega)]; rfl
    have i2 : ∀ md md', fIdx ⟨md, txD v⟩ ⟨md', .int ((0 : Int) + (j : Nat))⟩ = some ⟨.N, txD [v.getD ((0 : Int) + (j : Nat)).toNat 0]⟩ := fun md md' => idx_S (by omega) (by omega) ev
    have hvk := hk _ (List.mem_of_getElem? ev)
    generalize v.getD ((0 : Int) + (j : Nat)).toNat 0 = x at i2 hvk
    generalize ((0 : Int) + (j : Nat)) = k at i2 ⊢
    have hln : lenOk g.length = true := lenOk_of (by omega)
    have l2 : lenOk 2 = true := by decide
    have tl : ∀ l, isLst (txD l) = false := fun _ => rfl
    have ts : ∀ md l, R.settle ⟨md, txD l⟩ = some ⟨hmd false md, txD l⟩ := fun md l => R.ev_settle_str
    have dt : R.D.str (SX.S [46]) = txD [46] := rfl
    have ds : R.D.str (SX.S [42]) = txD [42] := rfl
    have dm : R.D.str (SX.S [45]) = txD [45] := rfl
    have ne : ∀ md md' (a c : List Nat), cop .NotEq ⟨md, txD a⟩ ⟨md', txD c⟩ = some ⟨.N, .bl (decide (a ≠ c))⟩ := fun md md' a c => by
      show cop .NotEq ⟨md, .str (SX.S a)⟩ ⟨md', .str (SX.S c)⟩ = _
      rw [R.ev_ne_str]
      simp [sEq]
    have hs : setT (.nm 5) [.io b, .frz (.int n), .frz (txD v), x3, .own (.lst (g.map fun c => txD [c])), y5, y6, .un] ⟨.Z, .int k⟩ = some [.io b, .frz (.int n), .frz (txD v), x3, .own (.lst (g.map fun c => txD [c])), .frz (.int k), y6, .un] := by
      rcases n5 with rfl | ⟨_, rfl⟩ <;> simp [R.ev_mC, R.ev_mVar, R.ev_mVarZ, R.ev_mOp, R.ev_mOpV, R.ev_mUn, R.ev_mANil, R.ev_mACons, R.ev_mTup, R.ev_mLst, R.ev_mNoPart, R.ev_mPart, R.ev_mSl, R.ev_tTrue, R.ev_tBool, R.ev_mCh, R.ev_tAndM, R.ev_tOrM, R.ev_tNotM, R.ev_mIfE, R.ev_mAndV, R.ev_mOrV, R.ev_mNotV, R.ev_cNil, R.ev_cPl, R.ev_cRv, R.ev_mBlt, R.ev_mM1, R.ev_mCall, R.ev_mNext, R.ev_mSeq, R.ev_mFl, R.ev_mDrop, R.ev_mRet, R.ev_mRetV, R.ev_mIfS, R.ev_mAsg, R.ev_mAug, R.ev_mSetP, R.ev_mLM, R.ev_iAnyM, R.ev_iRng1M, R.ev_iRng2M, R.ev_iEn1M, R.ev_iEnM, R.ev_iZipM, R.ev_mFor, R.ev_mLc, R.ev_mJoined, R.ev_slotRV, R.ev_frzSl, R.ev_relSl, R.ev_setSl, R.ev_lend, R.ev_setT_nm, R.ev_setT_tp, R.ev_setTs_nil, R.ev_setTs_cons, R.ev_hold_N, R.ev_hold_Z, R.ev_hold_B, R.ev_settle_N, R.ev_settle_Z, R.ev_settle_B, R.ev_isLst_lst, R.ev_isLst_tup, R.ev_isLst_int, R.ev_isLst_bl, R.ev_isLst_str, R.ev_isLst_non, R.ev_isLst_scr, R.ev_idx_lst, R.ev_idx_tup, R.ev_idx_scr, R.ev_idx_str, R.ev_neg, R.ev_add_int, R.ev_sub_int, R.ev_mul_int, R.ev_div_int, R.ev_mod_int, R.ev_pow_int, R.ev_add_str, R.ev_add_tup, R.ev_add_lst, R.ev_eq_int, R.ev_ne_int, R.ev_eq_str, R.ev_ne_str, R.ev_lt, R.ev_le, R.ev_gt, R.ev_ge, R.ev_is, R.ev_isNot, R.ev_none_tup, R.ev_none_lst, R.ev_none_int, R.ev_none_str, R.ev_none_non, R.ev_len_lst, R.ev_len_tup, R.ev_len_scr, R.ev_len_str, R.ev_abs, R.ev_int1, R.ev_str_int, R.ev_str_str, R.ev_list_lst, R.ev_list_tup, R.ev_tup_lst, R.ev_tup_tup, R.ev_fmt_str, R.ev_fmt_int, R.ev_sl_lst, R.ev_sl_tup, R.ev_sl_scr, R.ev_split, R.ev_join, R.ev_tru_bl, R.ev_tru_int, R.ev_tru_non, R.ev_tru_lst, R.ev_tru_tup, R.ev_avRVs_nil, R.ev_avRVs_pl, R.ev_avRVs_rv, R.ev_share_pl, R.ev_share_N, R.ev_share_Z, R.ev_share_B, R.ev_lent_pl, R.ev_lent_N, R.ev_lent_Z, R.ev_lent_B, R.ev_fin_ret, R.ev_fin_next, R.ev_io_t, R.ev_io_f, R.ev_jGo_nil, R.ev_jGo_cons, R.ev_isi, R.ev_hold_t, R.ev_hold_fint, R.ev_hold_fstr, R.ev_hold_ftup, R.ev_hold_fbl, R.ev_settle_int, R.ev_settle_str, R.ev_settle_tup, R.ev_settle_bl, R.ev_settle_non, R.ev_share_int, R.ev_share_str, R.ev_share_tup, R.ev_lent_int, R.ev_lent_str, R.ev_lent_tup, R.hmd]
    subst hmb
    by_cases hx : x = 46
    · obtain ⟨b4, md4, r4, e4, hb4, p4, q4⟩ := draw b 2 hb (by decide) (by decide)
      obtain ⟨z, ez, hz⟩ := two (txD [45]) (txD [46]) r4 p4 q4
      obtain ⟨c, rfl, hc⟩ : ∃ c, z = txD [c] ∧ c ∈ SIGNS := by
        rcases hz with rfl | rfl
        · exact ⟨45, rfl, by decide⟩
        · exact ⟨46, rfl, by decide⟩
      refine ⟨_, [.io b4, .frz (.int n), .frz (txD v), x3, .own (.lst ((g ++ [c]).map fun c => txD [c])), .frz (.int k), .frz (txD [46]), .un], hs, .inl ?_, b4, g ++ [c], _, _, rfl, hb4, by rw [List.length_append, hl]; simp, fun e he => ?_, .inr ⟨_, rfl⟩, .inr ⟨_, rfl⟩⟩
      · rcases n6 with rfl | ⟨_, rfl⟩ <;> simp [R.ev_mC, R.ev_mVar, R.ev_mVarZ, R.ev_mOp, R.ev_mOpV, R.ev_mUn, R.ev_mANil, R.ev_mACons, R.ev_mTup, R.ev_mLst, R.ev_mNoPart, R.ev_mPart, R.ev_mSl, R.ev_tTrue, R.ev_tBool, R.ev_mCh, R.ev_tAndM, R.ev_tOrM, R.ev_tNotM, R.ev_mIfE, R.ev_mAndV, R.ev_mOrV, R.ev_mNotV, R.ev_cNil, R.ev_cPl, R.ev_cRv, R.ev_mBlt, R.ev_mM1, R.ev_mCall, R.ev_mNext, R.ev_mSeq, R.ev_mFl, R.ev_mDrop, R.ev_mRet, R.ev_mRetV, R.ev_mIfS, R.ev_mAsg, R.ev_mAug, R.ev_mSetP, R.ev_mLM, R.ev_iAnyM, R.ev_iRng1M, R.ev_iRng2M, R.ev_iEn1M, R.ev_iEnM, R.ev_iZipM, R.ev_mFor, R.ev_mLc, R.ev_mJoined, R.ev_slotRV, R.ev_frzSl, R.ev_relSl, R.ev_setSl, R.ev_lend, R.ev_setT_nm, R.ev_setT_tp, R.ev_setTs_nil, R.ev_setTs_cons, R.ev_hold_N, R.ev_hold_Z, R.ev_hold_B, R.ev_settle_N, R.ev_settle_Z, R.ev_settle_B, R.ev_isLst_lst, R.ev_isLst_tup, R.ev_isLst_int, R.ev_isLst_bl, R.ev_isLst_str, R.ev_isLst_non, R.ev_isLst_scr, R.ev_idx_lst, R.ev_idx_tup, R.ev_idx_scr, R.ev_idx_str, R.ev_neg, R.ev_add_int, R.ev_sub_int, R.ev_mul_int, R.ev_div_int, R.ev_mod_int, R.ev_pow_int, R.ev_add_str, R.ev_add_tup, R.ev_add_lst, R.ev_eq_int, R.ev_ne_int, R.ev_eq_str, R.ev_ne_str, R.ev_lt, R.ev_le, R.ev_gt, R.ev_ge, R.ev_is, R.ev_isNot, R.ev_none_tup, R.ev_none_lst, R.ev_none_int, R.ev_none_str, R.ev_none_non, R.ev_len_lst, R.ev_len_tup, R.ev_len_scr, R.ev_len_str, R.ev_abs, R.ev_int1, R.ev_str_int, R.ev_str_str, R.ev_list_lst, R.ev_list_tup, R.ev_tup_lst, R.ev_tup_tup, R.ev_fmt_str, R.ev_fmt_int, R.ev_sl_lst, R.ev_sl_tup, R.ev_sl_scr, R.ev_split, R.ev_join, R.ev_tru_bl, R.ev_tru_int, R.ev_tru_non, R.ev_tru_lst, R.ev_tru_tup, R.ev_avRVs_nil, R.ev_avRVs_pl, R.ev_avRVs_rv, R.ev_share_pl, R.ev_share_N, R.ev_share_Z, R.ev_share_B, R.ev_lent_pl, R.ev_lent_N, R.ev_lent_Z, R.ev_lent_B, R.ev_fin_ret, R.ev_fin_next, R.ev_io_t, R.ev_io_f, R.ev_jGo_nil, R.ev_jGo_cons, R.ev_isi, R.ev_hold_t, R.ev_hold_fint, R.ev_hold_fstr, R.ev_hold_ftup, R.ev_hold_fbl, R.ev_settle_int, R.ev_settle_str, R.ev_settle_tup, R.ev_settle_bl, R.ev_settle_non, R.ev_share_int, R.ev_share_str, R.ev_share_tup, R.ev_lent_int, R.ev_lent_str, R.ev_lent_tup, R.hmd, sDot, sStar, sMin, dt, ds, dm, i2, ne, tl, ts, hx, e4, ez, l2, isL, lmAppend, hln]
      · rcases List.mem_append.mp he with he | he
        · exact hg e he
        · rw [List.mem_singleton.mp he]; exact hc
    · obtain ⟨b4, md4, r4, e4, hb4, p4, q4⟩ := draw b 2 hb (by decide) (by decide)
      obtain ⟨z, ez, hz⟩ := two (txD [42]) (txD [x]) r4 p4 q4
      obtain ⟨s, rfl, hsg⟩ : ∃ c, z = txD [c] ∧ c ∈ SIGNS := by
        rcases hz with rfl | rfl
        · exact ⟨42, rfl, by decide⟩
        · exact ⟨x, rfl, hvk.1⟩
      obtain ⟨b5, md5, r5, e5, hb5, p5, q5⟩ := draw b4 2 hb4 (by decide) (by decide)
      obtain ⟨z, ez5, hz⟩ := two (txD [45]) (txD [s]) r5 p5 q5
      obtain ⟨c, rfl, hc⟩ : ∃ c, z = txD [c] ∧ c ∈ SIGNS := by
        rcases hz with rfl | rfl
        · exact ⟨45, rfl, by decide⟩
        · exact ⟨s, rfl, hsg⟩
      refine ⟨_, [.io b5, .frz (.int n), .frz (txD v), x3, .own (.lst ((g ++ [c]).map fun c => txD [c])), .frz (.int k), .frz (txD [s]), .un], hs, .inl ?_, b5, g ++ [c], _, _, rfl, hb5, by rw [List.length_append, hl]; simp, fun e he => ?_, .inr ⟨_, rfl⟩, .inr ⟨_, rfl⟩⟩
      · rcases n6 with rfl | ⟨_, rfl⟩ <;> simp [R.ev_mC, R.ev_mVar, R.ev_mVarZ, R.ev_mOp, R.ev_mOpV, R.ev_mUn, R.ev_mANil, R.ev_mACons, R.ev_mTup, R.ev_mLst, R.ev_mNoPart, R.ev_mPart, R.ev_mSl, R.ev_tTrue, R.ev_tBool, R.ev_mCh, R.ev_tAndM, R.ev_tOrM, R.ev_tNotM, R.ev_mIfE, R.ev_mAndV, R.ev_mOrV, R.ev_mNotV, R.ev_cNil, R.ev_cPl, R.ev_cRv, R.ev_mBlt, R.ev_mM1, R.ev_mCall, R.ev_mNext, R.ev_mSeq, R.ev_mFl, R.ev_mDrop, R.ev_mRet, R.ev_mRetV, R.ev_mIfS, R.ev_mAsg, R.ev_mAug, R.ev_mSetP, R.ev_mLM, R.ev_iAnyM, R.ev_iRng1M, R.ev_iRng2M, R.ev_iEn1M, R.ev_iEnM, R.ev_iZipM, R.ev_mFor, R.ev_mLc, R.ev_mJoined, R.ev_slotRV, R.ev_frzSl, R.ev_relSl, R.ev_setSl, R.ev_lend, R.ev_setT_nm, R.ev_setT_tp, R.ev_setTs_nil, R.ev_setTs_cons, R.ev_hold_N, R.ev_hold_Z, R.ev_hold_B, R.ev_settle_N, R.ev_settle_Z, R.ev_settle_B, R.ev_isLst_lst, R.ev_isLst_tup, R.ev_isLst_int, R.ev_isLst_bl, R.ev_isLst_str, R.ev_isLst_non, R.ev_isLst_scr, R.ev_idx_lst, R.ev_idx_tup, R.ev_idx_scr, R.ev_idx_str, R.ev_neg, R.ev_add_int, R.ev_sub_int, R.ev_mul_int, R.ev_div_int, R.ev_mod_int, R.ev_pow_int, R.ev_add_str, R.ev_add_tup, R.ev_add_lst, R.ev_eq_int, R.ev_ne_int, R.ev_eq_str, R.ev_ne_str, R.ev_lt, R.ev_le, R.ev_gt, R.ev_ge, R.ev_is, R.ev_isNot, R.ev_none_tup, R.ev_none_lst, R.ev_none_int, R.ev_none_str, R.ev_none_non, R.ev_len_lst, R.ev_len_tup, R.ev_len_scr, R.ev_len_str, R.ev_abs, R.ev_int1, R.ev_str_int, R.ev_str_str, R.ev_list_lst, R.ev_list_tup, R.ev_tup_lst, R.ev_tup_tup, R.ev_fmt_str, R.ev_fmt_int, R.ev_sl_lst, R.ev_sl_tup, R.ev_sl_scr, R.ev_split, R.ev_join, R.ev_tru_bl, R.ev_tru_int, R.ev_tru_non, R.ev_tru_lst, R.ev_tru_tup, R.ev_avRVs_nil, R.ev_avRVs_pl, R.ev_avRVs_rv, R.ev_share_pl, R.ev_share_N, R.ev_share_Z, R.ev_share_B, R.ev_lent_pl, R.ev_lent_N, R.ev_lent_Z, R.ev_lent_B, R.ev_fin_ret, R.ev_fin_next, R.ev_io_t, R.ev_io_f, R.ev_jGo_nil, R.ev_jGo_cons, R.ev_isi, R.ev_hold_t, R.ev_hold_fint, R.ev_hold_fstr, R.ev_hold_ftup, R.ev_hold_fbl, R.ev_settle_int, R.ev_settle_str, R.ev_settle_tup, R.ev_settle_bl, R.ev_settle_non, R.ev_share_int, R.ev_share_str, R.ev_share_tup, R.ev_lent_int, R.ev_lent_str, R.ev_lent_tup, R.hmd, sDot, sStar, sMin, dt, ds, dm, i2, ne, tl, ts, hx, e4, ez, e5, ez5, l2, isL, lmAppend, hln]
      · rcases List.mem_append.mp he with he | he
        · exact hg e he
        · rw [List.mem_singleton.mp he]; exact hc)
  rw [rangeD_len, Nat.zero_add] at hl
  exact ⟨b4, g, y5, y6, e, hb4, by omega, hg, n5, n6⟩
end K02

set_option Elab.async false
set_option linter.all false
set_option maxRecDepth 100000
set_option maxHeartbeats 2000000
namespace K02
open PySem PySem.Spec PyProof.Rows L2 R

theorem all2_txt {ds out : List R.D} (h : All2 (fun _ d => ∃ c ∈ SIGNS, d = txD [c]) ds out) : ∃ g : List Nat, out = g.map (fun c => txD [c]) ∧ g.length = ds.length ∧ ∀ c ∈ g, c ∈ SIGNS := by
  induction h with
  | nil => exact ⟨[], rfl, rfl, fun _ h => nomatch h⟩
  | cons h _ ih =>
    obtain ⟨c, hc, rfl⟩ := h
    obtain ⟨g, rfl, l, q⟩ := ih
    exact ⟨c :: g, rfl, by rw [List.length_cons, l, List.length_cons], fun x hx => (List.mem_cons.mp hx).elim (fun e => by rw [e]; exact hc) (q x)⟩
theorem guard_lc (b : R.D) (hb : Bag b) (x1 x2 x3 x4 x6 x7 : Sl) (ds : List R.D) : ∃ (g : List Nat) (b' : R.D), lcGo [5] (.nm 5) (fun S => .ok true S) (mOp false fIdx (mC (.str ".*-0123456789")) (mCall 2 g_law_draw (cPl 0 (cRv true (mC (.int 13)) cNil)))) ds [.io b, x1, x2, x3, x4, .un, x6, x7] = .ok (g.map fun c => txD [c]) [.io b', x1, x2, x3, x4, .un, x6, x7] ∧ Bag b' ∧ g.length = ds.length ∧ ∀ c ∈ g, c ∈ SIGNS := by
  obtain ⟨out, S', h1, ⟨b', rfl, hb'⟩, h2⟩ := lcGo_all (vs := [5]) (tg := .nm 5) (mt := fun S => .ok true S) (me := mOp false fIdx (mC (.str ".*-0123456789")) (mCall 2 g_law_draw (cPl 0 (cRv true (mC (.int 13)) cNil)))) (fun S => ∃ b', S = [.io b', x1, x2, x3, x4, .un, x6, x7] ∧ Bag b') (fun _ d => ∃ c ∈ SIGNS, d = txD [c]) ds [.io b, x1, x2, x3, x4, .un, x6, x7] ⟨b, rfl, hb⟩ (by
    rintro d _ S ⟨b1, rfl, hb1⟩
    obtain ⟨b2, md, r, e1, h1, p, q⟩ := draw b1 13 hb1 (by decide) (by decide)
    obtain ⟨c, ec, hc⟩ := signs_at r p q .N md
    refine ⟨[.io b1, x1, x2, x3, x4, .frz d, x6, x7], [.io b1, x1, x2, x3, x4, .frz d, x6, x7], ⟨.N, txD [c]⟩, [.io b2, x1, x2, x3, x4, .frz d, x6, x7], ⟨.N, txD [c]⟩, ?_, rfl, ?_, rfl, ?_, ⟨c, hc, rfl⟩, ⟨b2, rfl, h1⟩⟩
    · simp [R.ev_mC, R.ev_mVar, R.ev_mVarZ, R.ev_mOp, R.ev_mOpV, R.ev_mUn, R.ev_mANil, R.ev_mACons, R.ev_mTup, R.ev_mLst, R.ev_mNoPart, R.ev_mPart, R.ev_mSl, R.ev_tTrue, R.ev_tBool, R.ev_mCh, R.ev_tAndM, R.ev_tOrM, R.ev_tNotM, R.ev_mIfE, R.ev_mAndV, R.ev_mOrV, R.ev_mNotV, R.ev_cNil, R.ev_cPl, R.ev_cRv, R.ev_mBlt, R.ev_mM1, R.ev_mCall, R.ev_mNext, R.ev_mSeq, R.ev_mFl, R.ev_mDrop, R.ev_mRet, R.ev_mRetV, R.ev_mIfS, R.ev_mAsg, R.ev_mAug, R.ev_mSetP, R.ev_mLM, R.ev_iAnyM, R.ev_iRng1M, R.ev_iRng2M, R.ev_iEn1M, R.ev_iEnM, R.ev_iZipM, R.ev_mFor, R.ev_mLc, R.ev_mJoined, R.ev_slotRV, R.ev_frzSl, R.ev_relSl, R.ev_setSl, R.ev_lend, R.ev_setT_nm, R.ev_setT_tp, R.ev_setTs_nil, R.ev_setTs_cons, R.ev_hold_N, R.ev_hold_Z, R.ev_hold_B, R.ev_settle_N, R.ev_settle_Z, R.ev_settle_B, R.ev_isLst_lst, R.ev_isLst_tup, R.ev_isLst_int, R.ev_isLst_bl, R.ev_isLst_str, R.ev_isLst_non, R.ev_isLst_scr, R.ev_idx_lst, R.ev_idx_tup, R.ev_idx_scr, R.ev_idx_str, R.ev_neg, R.ev_add_int, R.ev_sub_int, R.ev_mul_int, R.ev_div_int, R.ev_mod_int, R.ev_pow_int, R.ev_add_str, R.ev_add_tup, R.ev_add_lst, R.ev_eq_int, R.ev_ne_int, R.ev_eq_str, R.ev_ne_str, R.ev_lt, R.ev_le, R.ev_gt, R.ev_ge, R.ev_is, R.ev_isNot, R.ev_none_tup, R.ev_none_lst, R.ev_none_int, R.ev_none_str, R.ev_none_non, R.ev_len_lst, R.ev_len_tup, R.ev_len_scr, R.ev_len_str, R.ev_abs, R.ev_int1, R.ev_str_int, R.ev_str_str, R.ev_list_lst, R.ev_list_tup, R.ev_tup_lst, R.ev_tup_tup, R.ev_fmt_str, R.ev_fmt_int, R.ev_sl_lst, R.ev_sl_tup, R.ev_sl_scr, R.ev_split, R.ev_join, R.ev_tru_bl, R.ev_tru_int, R.ev_tru_non, R.ev_tru_lst, R.ev_tru_tup, R.ev_avRVs_nil, R.ev_avRVs_pl, R.ev_avRVs_rv, R.ev_share_pl, R.ev_share_N, R.ev_share_Z, R.ev_share_B, R.ev_lent_pl, R.ev_lent_N, R.ev_lent_Z, R.ev_lent_B, R.ev_fin_ret, R.ev_fin_next, R.ev_io_t, R.ev_io_f, R.ev_jGo_nil, R.ev_jGo_cons, R.ev_isi, R.ev_hold_t, R.ev_hold_fint, R.ev_hold_fstr, R.ev_hold_ftup, R.ev_hold_fbl, R.ev_settle_int, R.ev_settle_str, R.ev_settle_tup, R.ev_settle_bl, R.ev_settle_non, R.ev_share_int, R.ev_share_str, R.ev_share_tup, R.ev_lent_int, R.ev_lent_str, R.ev_lent_tup, R.hmd, e1]
    · simp [R.ev_mC, R.ev_mVar, R.ev_mVarZ, R.ev_mOp, R.ev_mOpV, R.ev_mUn, R.ev_mANil, R.ev_mACons, R.ev_mTup, R.ev_mLst, R.ev_mNoPart, R.ev_mPart, R.ev_mSl, R.ev_tTrue, R.ev_tBool, R.ev_mCh, R.ev_tAndM, R.ev_tOrM, R.ev_tNotM, R.ev_mIfE, R.ev_mAndV, R.ev_mOrV, R.ev_mNotV, R.ev_cNil, R.ev_cPl, R.ev_cRv, R.ev_mBlt, R.ev_mM1, R.ev_mCall, R.ev_mNext, R.ev_mSeq, R.ev_mFl, R.ev_mDrop, R.ev_mRet, R.ev_mRetV, R.ev_mIfS, R.ev_mAsg, R.ev_mAug, R.ev_mSetP, R.ev_mLM, R.ev_iAnyM, R.ev_iRng1M, R.ev_iRng2M, R.ev_iEn1M, R.ev_iEnM, R.ev_iZipM, R.ev_mFor, R.ev_mLc, R.ev_mJoined, R.ev_slotRV, R.ev_frzSl, R.ev_relSl, R.ev_setSl, R.ev_lend, R.ev_setT_nm, R.ev_setT_tp, R.ev_setTs_nil, R.ev_setTs_cons, R.ev_hold_N, R.ev_hold_Z, R.ev_hold_B, R.ev_settle_N, R.ev_settle_Z, R.ev_settle_B, R.ev_isLst_lst, R.ev_isLst_tup, R.ev_isLst_int, R.ev_isLst_bl, R.ev_isLst_str, R.ev_isLst_non, R.ev_isLst_scr, R.ev_idx_lst, R.ev_idx_tup, R.ev_idx_scr, R.ev_idx_str, R.ev_neg, R.ev_add_int, R.ev_sub_int, R.ev_mul_int, R.ev_div_int, R.ev_mod_int, R.ev_pow_int, R.ev_add_str, R.ev_add_tup, R.ev_add_lst, R.ev_eq_int, R.ev_ne_int, R.ev_eq_str, R.ev_ne_str, R.ev_lt, R.ev_le, R.ev_gt, R.ev_ge, R.ev_is, R.ev_isNot, R.ev_none_tup, R.ev_none_lst, R.ev_none_int, R.ev_none_str, R.ev_none_non, R.ev_len_lst, R.ev_len_tup, R.ev_len_scr, R.ev_len_str, R.ev_abs, R.ev_int1, R.ev_str_int, R.ev_str_str, R.ev_list_lst, R.ev_list_tup, R.ev_tup_lst, R.ev_tup_tup, R.ev_fmt_str, R.ev_fmt_int, R.ev_sl_lst, R.ev_sl_tup, R.ev_sl_scr, R.ev_split, R.ev_join, R.ev_tru_bl, R.ev_tru_int, R.ev_tru_non, R.ev_tru_lst, R.ev_tru_tup, R.ev_avRVs_nil, R.ev_avRVs_pl, R.ev_avRVs_rv, R.ev_share_pl, R.ev_share_N, R.ev_share_Z, R.ev_share_B, R.ev_lent_pl, R.ev_lent_N, R.ev_lent_Z, R.ev_lent_B, R.ev_fin_ret, R.ev_fin_next, R.ev_io_t, R.ev_io_f, R.ev_jGo_nil, R.ev_jGo_cons, R.ev_isi, R.ev_hold_t, R.ev_hold_fint, R.ev_hold_fstr, R.ev_hold_ftup, R.ev_hold_fbl, R.ev_settle_int, R.ev_settle_str, R.ev_settle_tup, R.ev_settle_bl, R.ev_settle_non, R.ev_share_int, R.ev_share_str, R.ev_share_tup, R.ev_lent_int, R.ev_lent_str, R.ev_lent_tup, R.hmd, e1, ec]
    · simp [okW])
  obtain ⟨g, rfl, l, hg⟩ := all2_txt h2
  exact ⟨g, b', h1, hb', l, hg⟩
theorem guard (b : R.D) (n : Int) (v : List Nat) (hb : Bag b) (hv : (v.length : Int) = n) (h0 : 1 ≤ n) (hn : n ≤ 12) (hk : VOk v) : ∃ b' md g, g_law_guard [b, .int n, txD v] = .ret md (txD g) (some b') ∧ Bag b' ∧ (g = [] ∨ g.length = v.length) ∧ ∀ c ∈ g, c ∈ SIGNS := by
  have st : g_law_guard [b, .int n, txD v] = fin true (m_law_guard [.io b, .frz (.int n), .frz (txD v), .un, .un, .un, .un, .un]) := rfl
  rw [st]
  unfold m_law_guard
  obtain ⟨b1, md1, r1, e1, hb1, p1, q1⟩ := draw b 5 hb (by decide) (by decide)
  by_cases hz : r1 = 0
  · subst hz
    refine ⟨b1, .N, [], ?_, hb1, .inl rfl, fun _ h => nomatch h⟩
    simp [R.ev_mC, R.ev_mVar, R.ev_mVarZ, R.ev_mOp, R.ev_mOpV, R.ev_mUn, R.ev_mANil, R.ev_mACons, R.ev_mTup, R.ev_mLst, R.ev_mNoPart, R.ev_mPart, R.ev_mSl, R.ev_tTrue, R.ev_tBool, R.ev_mCh, R.ev_tAndM, R.ev_tOrM, R.ev_tNotM, R.ev_mIfE, R.ev_mAndV, R.ev_mOrV, R.ev_mNotV, R.ev_cNil, R.ev_cPl, R.ev_cRv, R.ev_mBlt, R.ev_mM1, R.ev_mCall, R.ev_mNext, R.ev_mSeq, R.ev_mFl, R.ev_mDrop, R.ev_mRet, R.ev_mRetV, R.ev_mIfS, R.ev_mAsg, R.ev_mAug, R.ev_mSetP, R.ev_mLM, R.ev_iAnyM, R.ev_iRng2M, R.ev_iEn1M, R.ev_iEnM, R.ev_iZipM, R.ev_mJoined, R.ev_slotRV, R.ev_frzSl, R.ev_relSl, R.ev_setSl, R.ev_lend, R.ev_setT_nm, R.ev_setT_tp, R.ev_setTs_nil, R.ev_setTs_cons, R.ev_hold_N, R.ev_hold_Z, R.ev_hold_B, R.ev_settle_N, R.ev_settle_Z, R.ev_settle_B, R.ev_isLst_lst, R.ev_isLst_tup, R.ev_isLst_int, R.ev_isLst_bl, R.ev_isLst_str, R.ev_isLst_non, R.ev_isLst_scr, R.ev_idx_lst, R.ev_idx_tup, R.ev_idx_scr, R.ev_idx_str, R.ev_neg, R.ev_add_int, R.ev_sub_int, R.ev_mul_int, R.ev_div_int, R.ev_mod_int, R.ev_pow_int, R.ev_add_str, R.ev_add_tup, R.ev_add_lst, R.ev_eq_int, R.ev_ne_int, R.ev_eq_str, R.ev_ne_str, R.ev_lt, R.ev_le, R.ev_gt, R.ev_ge, R.ev_is, R.ev_isNot, R.ev_none_tup, R.ev_none_lst, R.ev_none_int, R.ev_none_str, R.ev_none_non, R.ev_len_lst, R.ev_len_tup, R.ev_len_scr, R.ev_len_str, R.ev_abs, R.ev_int1, R.ev_str_int, R.ev_str_str, R.ev_list_lst, R.ev_list_tup, R.ev_tup_lst, R.ev_tup_tup, R.ev_fmt_str, R.ev_fmt_int, R.ev_sl_lst, R.ev_sl_tup, R.ev_sl_scr, R.ev_split, R.ev_join, R.ev_tru_bl, R.ev_tru_int, R.ev_tru_non, R.ev_tru_lst, R.ev_tru_tup, R.ev_avRVs_nil, R.ev_avRVs_pl, R.ev_avRVs_rv, R.ev_share_pl, R.ev_share_N, R.ev_share_Z, R.ev_share_B, R.ev_lent_pl, R.ev_lent_N, R.ev_lent_Z, R.ev_lent_B, R.ev_fin_ret, R.ev_fin_next, R.ev_io_t, R.ev_io_f, R.ev_jGo_nil, R.ev_jGo_cons, R.ev_isi, R.ev_hold_t, R.ev_hold_fint, R.ev_hold_fstr, R.ev_hold_ftup, R.ev_hold_fbl, R.ev_settle_int, R.ev_settle_str, R.ev_settle_tup, R.ev_settle_bl, R.ev_settle_non, R.ev_share_int, R.ev_share_str, R.ev_share_tup, R.ev_lent_int, R.ev_lent_str, R.ev_lent_tup, R.hmd, e1, sNo]
    rfl
  · obtain ⟨b2, g, y5, y6, ef, hb2, hl, hg, n5, n6⟩ := guard_for v n hv hn hk b1 hb1 (.frz (.int r1))
    have l0 : lenOk 0 = true := by decide
    have hI : ∀ (b : R.D) (x2 x3 x4 x5 x6 x7 : Sl), iRng1M (mACons (mVarZ 1) mANil) [.io b, .frz (.int n), x2, x3, x4, x5, x6, x7] = .ok (rangeD 0 n.toNat) [.io b, .frz (.int n), x2, x3, x4, x5, x6, x7] := fun b x2 x3 x4 x5 x6 x7 => by
      have hm : mACons (mVarZ 1) mANil [.io b, .frz (.int n), x2, x3, x4, x5, x6, x7] = .ok [.int n] [.io b, .frz (.int n), x2, x3, x4, x5, x6, x7] := by simp [R.ev_mC, R.ev_mVar, R.ev_mVarZ, R.ev_mOp, R.ev_mOpV, R.ev_mUn, R.ev_mANil, R.ev_mACons, R.ev_mTup, R.ev_mLst, R.ev_mNoPart, R.ev_mPart, R.ev_mSl, R.ev_tTrue, R.ev_tBool, R.ev_mCh, R.ev_tAndM, R.ev_tOrM, R.ev_tNotM, R.ev_mIfE, R.ev_mAndV, R.ev_mOrV, R.ev_mNotV, R.ev_cNil, R.ev_cPl, R.ev_cRv, R.ev_mBlt, R.ev_mM1, R.ev_mCall, R.ev_mNext, R.ev_mSeq, R.ev_mFl, R.ev_mDrop, R.ev_mRet, R.ev_mRetV, R.ev_mIfS, R.ev_mAsg, R.ev_mAug, R.ev_mSetP, R.ev_mLM, R.ev_iAnyM, R.ev_iRng2M, R.ev_iEn1M, R.ev_iEnM, R.ev_iZipM, R.ev_mJoined, R.ev_slotRV, R.ev_frzSl, R.ev_relSl, R.ev_setSl, R.ev_lend, R.ev_setT_nm, R.ev_setT_tp, R.ev_setTs_nil, R.ev_setTs_cons, R.ev_hold_N, R.ev_hold_Z, R.ev_hold_B, R.ev_settle_N, R.ev_settle_Z, R.ev_settle_B, R.ev_isLst_lst, R.ev_isLst_tup, R.ev_isLst_int, R.ev_isLst_bl, R.ev_isLst_str, R.ev_isLst_non, R.ev_isLst_scr, R.ev_idx_lst, R.ev_idx_tup, R.ev_idx_scr, R.ev_idx_str, R.ev_neg, R.ev_add_int, R.ev_sub_int, R.ev_mul_int, R.ev_div_int, R.ev_mod_int, R.ev_pow_int, R.ev_add_str, R.ev_add_tup, R.ev_add_lst, R.ev_eq_int, R.ev_ne_int, R.ev_eq_str, R.ev_ne_str, R.ev_lt, R.ev_le, R.ev_gt, R.ev_ge, R.ev_is, R.ev_isNot, R.ev_none_tup, R.ev_none_lst, R.ev_none_int, R.ev_none_str, R.ev_none_non, R.ev_len_lst, R.ev_len_tup, R.ev_len_scr, R.ev_len_str, R.ev_abs, R.ev_int1, R.ev_str_int, R.ev_str_str, R.ev_list_lst, R.ev_list_tup, R.ev_tup_lst, R.ev_tup_tup, R.ev_fmt_str, R.ev_fmt_int, R.ev_sl_lst, R.ev_sl_tup, R.ev_sl_scr, R.ev_split, R.ev_join, R.ev_tru_bl, R.ev_tru_int, R.ev_tru_non, R.ev_tru_lst, R.ev_tru_tup, R.ev_avRVs_nil, R.ev_avRVs_pl, R.ev_avRVs_rv, R.ev_share_pl, R.ev_share_N, R.ev_share_Z, R.ev_share_B, R.ev_lent_pl, R.ev_lent_N, R.ev_lent_Z, R.ev_lent_B, R.ev_fin_ret, R.ev_fin_next, R.ev_io_t, R.ev_io_f, R.ev_jGo_nil, R.ev_jGo_cons, R.ev_isi, R.ev_hold_t, R.ev_hold_fint, R.ev_hold_fstr, R.ev_hold_ftup, R.ev_hold_fbl, R.ev_settle_int, R.ev_settle_str, R.ev_settle_tup, R.ev_settle_bl, R.ev_settle_non, R.ev_share_int, R.ev_share_str, R.ev_share_tup, R.ev_lent_int, R.ev_lent_str, R.ev_lent_tup, R.hmd]
      rw [R.ev_iRng1M, hm]
      dsimp only
      rw [if_pos (smallZ n (by omega) (by omega))]
    have hF := (R.ev_mFor (.nm 5) (iRng1M (mACons (mVarZ 1) mANil)) (mSeq (mAsg (.nm 6) (mC (.str "."))) (mSeq (mIfS (tBool (mOp true (cop .NotEq) (mOpV 2 fIdx (mVar 5)) (mC (.str ".")))) (mSeq (mAsg (.nm 6) (mOp false fIdx (mLst (mACons (mC (.str "*")) (mACons (mOpV 2 fIdx (mVar 5)) mANil))) (mCall 2 g_law_draw (cPl 0 (cRv true (mC (.int 2)) cNil))))) mNext) mNext) (mSeq (mDrop (mLM 4 lmAppend (mACons (mOp false fIdx (mLst (mACons (mC (.str "-")) (mACons (mVarZ 6) mANil))) (mCall 2 g_law_draw (cPl 0 (cRv true (mC (.int 2)) cNil)))) mANil))) mNext))) (s := .io b1) (S := [.frz (.int n), .frz (txD v), .frz (.int r1), .own (.lst []), .un, .un, .un]))
    rw [hI] at hF
    dsimp only at hF
    rw [ef] at hF
    have j : ∀ (g : List Nat) md, g.length ≤ 12 → fJoin (SX.S []) ⟨md, .lst (g.map fun c => txD [c])⟩ = some ⟨.N, txD g⟩ := fun g md hg => by
      have := join_of (fun c : Nat => [c]) g (by rw [sing_flat]; omega) md
      rw [sing_flat] at this; exact this
    have tl : ∀ l, isLst (txD l) = false := fun _ => rfl
    have ts : ∀ md l, R.settle ⟨md, txD l⟩ = some ⟨hmd false md, txD l⟩ := fun md l => R.ev_settle_str
    by_cases h3 : r1 = 3
    · obtain ⟨b3, md3, r3, e3, hb3, p3, q3⟩ := draw b2 n hb2 (by omega) (by omega)
      obtain ⟨b4, md4, r4, e4, hb4, p4, q4⟩ := draw b3 13 hb3 (by decide) (by decide)
      obtain ⟨c, ec, hc⟩ := signs_at r4 p4 q4 .N md4
      have hx : ixN g.length r3 = some r3.toNat := ixN_of p3 (by omega)
      refine ⟨b4, .N, g.set r3.toNat c, ?_, hb4, .inr (by rw [List.length_set]; exact hl), fun e he => ?_⟩
      · have jg : ∀ md, fJoin (SX.S []) ⟨md, .lst ((g.map fun c => txD [c]).set r3.toNat (txD [c]))⟩ = some ⟨.N, txD (g.set r3.toNat c)⟩ := fun md => by
          have ms : (g.map fun c => txD [c]).set r3.toNat (txD [c]) = (g.set r3.toNat c).map fun c => txD [c] := (List.map_set ..).symm
          rw [ms]
          exact j (g.set r3.toNat c) md (by rw [List.length_set]; omega)
        subst h3
        clear hI ef j
        rcases n5 with rfl | ⟨_, rfl⟩ <;> rcases n6 with rfl | ⟨_, rfl⟩ <;> simp [R.ev_mC, R.ev_mVar, R.ev_mVarZ, R.ev_mOp, R.ev_mOpV, R.ev_mUn, R.ev_mANil, R.ev_mACons, R.ev_mTup, R.ev_mLst, R.ev_mNoPart, R.ev_mPart, R.ev_mSl, R.ev_tTrue, R.ev_tBool, R.ev_mCh, R.ev_tAndM, R.ev_tOrM, R.ev_tNotM, R.ev_mIfE, R.ev_mAndV, R.ev_mOrV, R.ev_mNotV, R.ev_cNil, R.ev_cPl, R.ev_cRv, R.ev_mBlt, R.ev_mM1, R.ev_mCall, R.ev_mNext, R.ev_mSeq, R.ev_mFl, R.ev_mDrop, R.ev_mRet, R.ev_mRetV, R.ev_mIfS, R.ev_mAsg, R.ev_mAug, R.ev_mSetP, R.ev_mLM, R.ev_iAnyM, R.ev_iRng2M, R.ev_iEn1M, R.ev_iEnM, R.ev_iZipM, R.ev_mJoined, R.ev_slotRV, R.ev_frzSl, R.ev_relSl, R.ev_setSl, R.ev_lend, R.ev_setT_nm, R.ev_setT_tp, R.ev_setTs_nil, R.ev_setTs_cons, R.ev_hold_N, R.ev_hold_Z, R.ev_hold_B, R.ev_settle_N, R.ev_settle_Z, R.ev_settle_B, R.ev_isLst_lst, R.ev_isLst_tup, R.ev_isLst_int, R.ev_isLst_bl, R.ev_isLst_str, R.ev_isLst_non, R.ev_isLst_scr, R.ev_idx_lst, R.ev_idx_tup, R.ev_idx_scr, R.ev_idx_str, R.ev_neg, R.ev_add_int, R.ev_sub_int, R.ev_mul_int, R.ev_div_int, R.ev_mod_int, R.ev_pow_int, R.ev_add_str, R.ev_add_tup, R.ev_add_lst, R.ev_eq_int, R.ev_ne_int, R.ev_eq_str, R.ev_ne_str, R.ev_lt, R.ev_le, R.ev_gt, R.ev_ge, R.ev_is, R.ev_isNot, R.ev_none_tup, R.ev_none_lst, R.ev_none_int, R.ev_none_str, R.ev_none_non, R.ev_len_lst, R.ev_len_tup, R.ev_len_scr, R.ev_len_str, R.ev_abs, R.ev_int1, R.ev_str_int, R.ev_str_str, R.ev_list_lst, R.ev_list_tup, R.ev_tup_lst, R.ev_tup_tup, R.ev_fmt_str, R.ev_fmt_int, R.ev_sl_lst, R.ev_sl_tup, R.ev_sl_scr, R.ev_split, R.ev_tru_bl, R.ev_tru_int, R.ev_tru_non, R.ev_tru_lst, R.ev_tru_tup, R.ev_avRVs_nil, R.ev_avRVs_pl, R.ev_avRVs_rv, R.ev_share_pl, R.ev_share_N, R.ev_share_Z, R.ev_share_B, R.ev_lent_pl, R.ev_lent_N, R.ev_lent_Z, R.ev_lent_B, R.ev_fin_ret, R.ev_fin_next, R.ev_io_t, R.ev_io_f, R.ev_jGo_nil, R.ev_jGo_cons, R.ev_isi, R.ev_hold_t, R.ev_hold_fint, R.ev_hold_fstr, R.ev_hold_ftup, R.ev_hold_fbl, R.ev_settle_int, R.ev_settle_str, R.ev_settle_tup, R.ev_settle_bl, R.ev_settle_non, R.ev_share_int, R.ev_share_str, R.ev_share_tup, R.ev_lent_int, R.ev_lent_str, R.ev_lent_tup, R.hmd, e1, e3, e4, ec, hx, l0, hF, sNo, jg, ts, tl]
      · rcases List.mem_or_eq_of_mem_set he with q | q
        · exact hg e q
        · rw [q]; exact hc
    · by_cases h4 : r1 = 4
      · obtain ⟨g', b3, e3, hb3, hl', hg'⟩ := guard_lc b2 hb2 (.frz (.int n)) (.frz (txD v)) (.frz (.int r1)) (.own (.lst (g.map fun c => txD [c]))) y6 .un (rangeD 0 n.toNat)
        rw [rangeD_len] at hl'
        have ow : okW [.io b2, .frz (.int n), .frz (txD v), .frz (.int r1), .own (.lst (g.map fun c => txD [c])), y5, y6, .un] [5] = true := by
          rcases n5 with rfl | ⟨_, rfl⟩ <;> rfl
        have ws : wipeS [.io b2, .frz (.int n), .frz (txD v), .frz (.int r1), .own (.lst (g.map fun c => txD [c])), y5, y6, .un] [5] = [.io b2, .frz (.int n), .frz (txD v), .frz (.int r1), .own (.lst (g.map fun c => txD [c])), .un, y6, .un] := rfl
        have ln : lenOk (g'.map fun c => txD [c]).length = true := by rw [List.length_map]; exact lenOk_of (by omega)
        have hL : mLc [5] (.nm 5) (iRng1M (mACons (mVarZ 1) mANil)) (fun S => .ok true S) (mOp false fIdx (mC (.str ".*-0123456789")) (mCall 2 g_law_draw (cPl 0 (cRv true (mC (.int 13)) cNil)))) [.io b2, .frz (.int n), .frz (txD v), .frz (.int r1), .own (.lst (g.map fun c => txD [c])), y5, y6, .un] = .ok ⟨.N, .lst (g'.map fun c => txD [c])⟩ [.io b3, .frz (.int n), .frz (txD v), .frz (.int r1), .own (.lst (g.map fun c => txD [c])), .un, y6, .un] := by
          rw [R.ev_mLc, hI]
          dsimp only
          rw [if_pos ow, ws, e3]
          dsimp only
          rw [if_pos ln]
        refine ⟨b3, .N, g', ?_, hb3, .inr (by omega), hg'⟩
        have jg := fun md => j g' md (by omega)
        subst h4
        clear hI ef j e3
        simp [R.ev_mC, R.ev_mVar, R.ev_mVarZ, R.ev_mOp, R.ev_mOpV, R.ev_mUn, R.ev_mANil, R.ev_mACons, R.ev_mTup, R.ev_mLst, R.ev_mNoPart, R.ev_mPart, R.ev_mSl, R.ev_tTrue, R.ev_tBool, R.ev_mCh, R.ev_tAndM, R.ev_tOrM, R.ev_tNotM, R.ev_mIfE, R.ev_mAndV, R.ev_mOrV, R.ev_mNotV, R.ev_cNil, R.ev_cPl, R.ev_cRv, R.ev_mBlt, R.ev_mM1, R.ev_mCall, R.ev_mNext, R.ev_mSeq, R.ev_mFl, R.ev_mDrop, R.ev_mRet, R.ev_mRetV, R.ev_mIfS, R.ev_mAsg, R.ev_mAug, R.ev_mSetP, R.ev_mLM, R.ev_iAnyM, R.ev_iRng2M, R.ev_iEn1M, R.ev_iEnM, R.ev_iZipM, R.ev_mJoined, R.ev_slotRV, R.ev_frzSl, R.ev_relSl, R.ev_setSl, R.ev_lend, R.ev_setT_nm, R.ev_setT_tp, R.ev_setTs_nil, R.ev_setTs_cons, R.ev_hold_N, R.ev_hold_Z, R.ev_hold_B, R.ev_settle_N, R.ev_settle_Z, R.ev_settle_B, R.ev_isLst_lst, R.ev_isLst_tup, R.ev_isLst_int, R.ev_isLst_bl, R.ev_isLst_str, R.ev_isLst_non, R.ev_isLst_scr, R.ev_idx_lst, R.ev_idx_tup, R.ev_idx_scr, R.ev_idx_str, R.ev_neg, R.ev_add_int, R.ev_sub_int, R.ev_mul_int, R.ev_div_int, R.ev_mod_int, R.ev_pow_int, R.ev_add_str, R.ev_add_tup, R.ev_add_lst, R.ev_eq_int, R.ev_ne_int, R.ev_eq_str, R.ev_ne_str, R.ev_lt, R.ev_le, R.ev_gt, R.ev_ge, R.ev_is, R.ev_isNot, R.ev_none_tup, R.ev_none_lst, R.ev_none_int, R.ev_none_str, R.ev_none_non, R.ev_len_lst, R.ev_len_tup, R.ev_len_scr, R.ev_len_str, R.ev_abs, R.ev_int1, R.ev_str_int, R.ev_str_str, R.ev_list_lst, R.ev_list_tup, R.ev_tup_lst, R.ev_tup_tup, R.ev_fmt_str, R.ev_fmt_int, R.ev_sl_lst, R.ev_sl_tup, R.ev_sl_scr, R.ev_split, R.ev_tru_bl, R.ev_tru_int, R.ev_tru_non, R.ev_tru_lst, R.ev_tru_tup, R.ev_avRVs_nil, R.ev_avRVs_pl, R.ev_avRVs_rv, R.ev_share_pl, R.ev_share_N, R.ev_share_Z, R.ev_share_B, R.ev_lent_pl, R.ev_lent_N, R.ev_lent_Z, R.ev_lent_B, R.ev_fin_ret, R.ev_fin_next, R.ev_io_t, R.ev_io_f, R.ev_jGo_nil, R.ev_jGo_cons, R.ev_isi, R.ev_hold_t, R.ev_hold_fint, R.ev_hold_fstr, R.ev_hold_ftup, R.ev_hold_fbl, R.ev_settle_int, R.ev_settle_str, R.ev_settle_tup, R.ev_settle_bl, R.ev_settle_non, R.ev_share_int, R.ev_share_str, R.ev_share_tup, R.ev_lent_int, R.ev_lent_str, R.ev_lent_tup, R.hmd, e1, l0, hF, sNo, hL, jg, ts]
      · refine ⟨b2, .N, g, ?_, hb2, .inr hl, hg⟩
        have jg := fun md => j g md (by omega)
        clear hI ef j
        rcases n5 with rfl | ⟨_, rfl⟩ <;> rcases n6 with rfl | ⟨_, rfl⟩ <;> simp [R.ev_mC, R.ev_mVar, R.ev_mVarZ, R.ev_mOp, R.ev_mOpV, R.ev_mUn, R.ev_mANil, R.ev_mACons, R.ev_mTup, R.ev_mLst, R.ev_mNoPart, R.ev_mPart, R.ev_mSl, R.ev_tTrue, R.ev_tBool, R.ev_mCh, R.ev_tAndM, R.ev_tOrM, R.ev_tNotM, R.ev_mIfE, R.ev_mAndV, R.ev_mOrV, R.ev_mNotV, R.ev_cNil, R.ev_cPl, R.ev_cRv, R.ev_mBlt, R.ev_mM1, R.ev_mCall, R.ev_mNext, R.ev_mSeq, R.ev_mFl, R.ev_mDrop, R.ev_mRet, R.ev_mRetV, R.ev_mIfS, R.ev_mAsg, R.ev_mAug, R.ev_mSetP, R.ev_mLM, R.ev_iAnyM, R.ev_iRng2M, R.ev_iEn1M, R.ev_iEnM, R.ev_iZipM, R.ev_mJoined, R.ev_slotRV, R.ev_frzSl, R.ev_relSl, R.ev_setSl, R.ev_lend, R.ev_setT_nm, R.ev_setT_tp, R.ev_setTs_nil, R.ev_setTs_cons, R.ev_hold_N, R.ev_hold_Z, R.ev_hold_B, R.ev_settle_N, R.ev_settle_Z, R.ev_settle_B, R.ev_isLst_lst, R.ev_isLst_tup, R.ev_isLst_int, R.ev_isLst_bl, R.ev_isLst_str, R.ev_isLst_non, R.ev_isLst_scr, R.ev_idx_lst, R.ev_idx_tup, R.ev_idx_scr, R.ev_idx_str, R.ev_neg, R.ev_add_int, R.ev_sub_int, R.ev_mul_int, R.ev_div_int, R.ev_mod_int, R.ev_pow_int, R.ev_add_str, R.ev_add_tup, R.ev_add_lst, R.ev_eq_int, R.ev_ne_int, R.ev_eq_str, R.ev_ne_str, R.ev_lt, R.ev_le, R.ev_gt, R.ev_ge, R.ev_is, R.ev_isNot, R.ev_none_tup, R.ev_none_lst, R.ev_none_int, R.ev_none_str, R.ev_none_non, R.ev_len_lst, R.ev_len_tup, R.ev_len_scr, R.ev_len_str, R.ev_abs, R.ev_int1, R.ev_str_int, R.ev_str_str, R.ev_list_lst, R.ev_list_tup, R.ev_tup_lst, R.ev_tup_tup, R.ev_fmt_str, R.ev_fmt_int, R.ev_sl_lst, R.ev_sl_tup, R.ev_sl_scr, R.ev_split, R.ev_tru_bl, R.ev_tru_int, R.ev_tru_non, R.ev_tru_lst, R.ev_tru_tup, R.ev_avRVs_nil, R.ev_avRVs_pl, R.ev_avRVs_rv, R.ev_share_pl, R.ev_share_N, R.ev_share_Z, R.ev_share_B, R.ev_lent_pl, R.ev_lent_N, R.ev_lent_Z, R.ev_lent_B, R.ev_fin_ret, R.ev_fin_next, R.ev_io_t, R.ev_io_f, R.ev_jGo_nil, R.ev_jGo_cons, R.ev_isi, R.ev_hold_t, R.ev_hold_fint, R.ev_hold_fstr, R.ev_hold_ftup, R.ev_hold_fbl, R.ev_settle_int, R.ev_settle_str, R.ev_settle_tup, R.ev_settle_bl, R.ev_settle_non, R.ev_share_int, R.ev_share_str, R.ev_share_tup, R.ev_lent_int, R.ev_lent_str, R.ev_lent_tup, R.hmd, e1, hz, h3, h4, l0, hF, sNo, jg, ts]
end K02

set_option Elab.async false
set_option linter.all false
set_option maxRecDepth 100000
set_option maxHeartbeats 2000000
namespace K02
open PySem PySem.Spec PyProof.Rows L2 R

abbrev copyL : List Nat := [99, 111, 112, 121]
theorem sCopy : Str.ofString "copy" = SX.S copyL := by decide
theorem four (r : Int) (h0 : 0 ≤ r) (h1 : r < 4) : ∃ w, L2.atI [R.D.str (SX.S copyL), .str (SX.S moveL), .str (SX.S clearL), .str (SX.S copyL)] r = some (.str (SX.S w)) ∧ (w = clearL ∨ w = copyL ∨ w = moveL) := by
  have : r = 0 ∨ r = 1 ∨ r = 2 ∨ r = 3 := by omega
  rcases this with rfl | rfl | rfl | rfl
  · exact ⟨_, rfl, .inr (.inl rfl)⟩
  · exact ⟨_, rfl, .inr (.inr rfl)⟩
  · exact ⟨_, rfl, .inl rfl⟩
  · exact ⟨_, rfl, .inr (.inl rfl)⟩
theorem other {t r n : Int} (h0 : 0 ≤ t) (h1 : t < n) (h2 : 0 ≤ r) (h3 : r < n - 1) : 0 ≤ (t + 1 + r) % n ∧ (t + 1 + r) % n < n ∧ (t + 1 + r) % n ≠ t := by
  by_cases h : t + 1 + r < n
  · rw [Int.emod_eq_of_lt (by omega) h]
    omega
  · have : (t + 1 + r) % n = t + 1 + r - n := by
      rw [← Int.sub_emod_right]
      exact Int.emod_eq_of_lt (by omega) (by omega)
    rw [this]; omega
theorem ne_nil {α : Type} (f : α → Int) (l : List α) (md md' : Md) : cop .NotEq ⟨md, .lst (l.map fun a => .int (f a))⟩ ⟨md', .lst []⟩ = some ⟨.N, .bl (!l.isEmpty)⟩ := by
  cases l with
  | nil => exact ne_same rfl rfl md md'
  | cons a l =>
    show fEq true _ _ = _
    unfold fEq eqOk eqB
    have hs : shp 60 (.lst ((a :: l).map fun a => R.D.int (f a))) = true := by
      show List.all _ _ = true
      rw [List.all_map]
      exact List.all_eq_true.mpr fun _ _ => rfl
    dsimp only [R.D.sc]
    rw [hs]
    rfl
/-- the places that are not t and not empty -/
def pF (v : List Nat) (t : Int) (i : Nat) : Bool := decide ((0 : Int) + (i : Nat) ≠ t) && decide (v.getD i 0 ≠ 46)
theorem filled_lc (v : List Nat) (t : Int) (hn : v.length ≤ 12) (x0 x1 x3 x5 x6 : Sl) : lcGo [7] (.nm 7) (tAndM (tBool (mOpV 7 (cop .NotEq) (mVar 4))) (tBool (mOp true (cop .NotEq) (mOpV 2 fIdx (mVar 7)) (mC (.str "."))))) (mVar 7) (rangeD 0 v.length) [x0, x1, .frz (txD v), x3, .frz (.int t), x5, x6, .un] = .ok (((List.range v.length).filter (pF v t)).map fun i : Nat => R.D.int (0 + (i : Nat))) [x0, x1, .frz (txD v), x3, .frz (.int t), x5, x6, .un] := by
  refine lcGo_filter (fun i : Nat => R.D.int (0 + (i : Nat))) (fun i : Nat => R.D.int (0 + (i : Nat))) (pF v t) _ (List.range v.length) fun i hi => ?_
  have hil : i < v.length := List.mem_range.mp hi
  have ec : v[((0 : Int) + (i : Nat)).toNat]? = some (v.getD i 0) := by
    have e0 : ((0 : Int) + (i : Nat)).toNat = i := by omega
    rw [e0, List.getD_eq_getElem?_getD, List.getElem?_eq_getElem hil]; rfl
  have ha : ∀ md md', fIdx ⟨md, txD v⟩ ⟨md', .int ((0 : Int) + (i : Nat))⟩ = some ⟨.N, .str (SX.S [v.getD i 0])⟩ := fun md md' => idx_S (by omega) (by omega) ec
  unfold pF
  generalize v.getD i 0 = c at ha ⊢
  generalize ((0 : Int) + (i : Nat)) = k at ha ⊢
  refine ⟨[x0, x1, .frz (txD v), x3, .frz (.int t), x5, x6, .frz (.int k)], [x0, x1, .frz (txD v), x3, .frz (.int t), x5, x6, .frz (.int k)], by simp [R.ev_mC, R.ev_mVar, R.ev_mVarZ, R.ev_mOp, R.ev_mOpV, R.ev_mUn, R.ev_mANil, R.ev_mACons, R.ev_mTup, R.ev_mLst, R.ev_mNoPart, R.ev_mPart, R.ev_mSl, R.ev_tTrue, R.ev_tBool, R.ev_mCh, R.ev_tAndM, R.ev_tOrM, R.ev_tNotM, R.ev_mIfE, R.ev_mAndV, R.ev_mOrV, R.ev_mNotV, R.ev_cNil, R.ev_cPl, R.ev_cRv, R.ev_mBlt, R.ev_mM1, R.ev_mCall, R.ev_mNext, R.ev_mSeq, R.ev_mFl, R.ev_mDrop, R.ev_mRet, R.ev_mRetV, R.ev_mIfS, R.ev_mAsg, R.ev_mAug, R.ev_mSetP, R.ev_mLM, R.ev_iAnyM, R.ev_iRng1M, R.ev_iRng2M, R.ev_iEn1M, R.ev_iEnM, R.ev_iZipM, R.ev_mFor, R.ev_mLc, R.ev_mJoined, R.ev_slotRV, R.ev_frzSl, R.ev_relSl, R.ev_setSl, R.ev_lend, R.ev_setT_nm, R.ev_setT_tp, R.ev_setTs_nil, R.ev_setTs_cons, R.ev_hold_N, R.ev_hold_Z, R.ev_hold_B, R.ev_settle_N, R.ev_settle_Z, R.ev_settle_B, R.ev_isLst_lst, R.ev_isLst_tup, R.ev_isLst_int, R.ev_isLst_bl, R.ev_isLst_str, R.ev_isLst_non, R.ev_isLst_scr, R.ev_idx_lst, R.ev_idx_tup, R.ev_idx_scr, R.ev_idx_str, R.ev_neg, R.ev_add_int, R.ev_sub_int, R.ev_mul_int, R.ev_div_int, R.ev_mod_int, R.ev_pow_int, R.ev_add_str, R.ev_add_tup, R.ev_add_lst, R.ev_eq_int, R.ev_ne_int, R.ev_eq_str, R.ev_ne_str, R.ev_lt, R.ev_le, R.ev_gt, R.ev_ge, R.ev_is, R.ev_isNot, R.ev_none_tup, R.ev_none_lst, R.ev_none_int, R.ev_none_str, R.ev_none_non, R.ev_len_lst, R.ev_len_tup, R.ev_len_scr, R.ev_len_str, R.ev_abs, R.ev_int1, R.ev_str_int, R.ev_str_str, R.ev_list_lst, R.ev_list_tup, R.ev_tup_lst, R.ev_tup_tup, R.ev_fmt_str, R.ev_fmt_int, R.ev_sl_lst, R.ev_sl_tup, R.ev_sl_scr, R.ev_split, R.ev_join, R.ev_tru_bl, R.ev_tru_int, R.ev_tru_non, R.ev_tru_lst, R.ev_tru_tup, R.ev_avRVs_nil, R.ev_avRVs_pl, R.ev_avRVs_rv, R.ev_share_pl, R.ev_share_N, R.ev_share_Z, R.ev_share_B, R.ev_lent_pl, R.ev_lent_N, R.ev_lent_Z, R.ev_lent_B, R.ev_fin_ret, R.ev_fin_next, R.ev_io_t, R.ev_io_f, R.ev_jGo_nil, R.ev_jGo_cons, R.ev_isi, R.ev_hold_t, R.ev_hold_fint, R.ev_hold_fstr, R.ev_hold_ftup, R.ev_hold_fbl, R.ev_settle_int, R.ev_settle_str, R.ev_settle_tup, R.ev_settle_bl, R.ev_settle_non, R.ev_share_int, R.ev_share_str, R.ev_share_tup, R.ev_lent_int, R.ev_lent_str, R.ev_lent_tup, R.hmd], ?_, fun _ => ⟨rfl, rfl⟩, fun _ => ⟨⟨.Z, .int k⟩, [x0, x1, .frz (txD v), x3, .frz (.int t), x5, x6, .frz (.int k)], ⟨.Z, .int k⟩, by simp [R.ev_mC, R.ev_mVar, R.ev_mVarZ, R.ev_mOp, R.ev_mOpV, R.ev_mUn, R.ev_mANil, R.ev_mACons, R.ev_mTup, R.ev_mLst, R.ev_mNoPart, R.ev_mPart, R.ev_mSl, R.ev_tTrue, R.ev_tBool, R.ev_mCh, R.ev_tAndM, R.ev_tOrM, R.ev_tNotM, R.ev_mIfE, R.ev_mAndV, R.ev_mOrV, R.ev_mNotV, R.ev_cNil, R.ev_cPl, R.ev_cRv, R.ev_mBlt, R.ev_mM1, R.ev_mCall, R.ev_mNext, R.ev_mSeq, R.ev_mFl, R.ev_mDrop, R.ev_mRet, R.ev_mRetV, R.ev_mIfS, R.ev_mAsg, R.ev_mAug, R.ev_mSetP, R.ev_mLM, R.ev_iAnyM, R.ev_iRng1M, R.ev_iRng2M, R.ev_iEn1M, R.ev_iEnM, R.ev_iZipM, R.ev_mFor, R.ev_mLc, R.ev_mJoined, R.ev_slotRV, R.ev_frzSl, R.ev_relSl, R.ev_setSl, R.ev_lend, R.ev_setT_nm, R.ev_setT_tp, R.ev_setTs_nil, R.ev_setTs_cons, R.ev_hold_N, R.ev_hold_Z, R.ev_hold_B, R.ev_settle_N, R.ev_settle_Z, R.ev_settle_B, R.ev_isLst_lst, R.ev_isLst_tup, R.ev_isLst_int, R.ev_isLst_bl, R.ev_isLst_str, R.ev_isLst_non, R.ev_isLst_scr, R.ev_idx_lst, R.ev_idx_tup, R.ev_idx_scr, R.ev_idx_str, R.ev_neg, R.ev_add_int, R.ev_sub_int, R.ev_mul_int, R.ev_div_int, R.ev_mod_int, R.ev_pow_int, R.ev_add_str, R.ev_add_tup, R.ev_add_lst, R.ev_eq_int, R.ev_ne_int, R.ev_eq_str, R.ev_ne_str, R.ev_lt, R.ev_le, R.ev_gt, R.ev_ge, R.ev_is, R.ev_isNot, R.ev_none_tup, R.ev_none_lst, R.ev_none_int, R.ev_none_str, R.ev_none_non, R.ev_len_lst, R.ev_len_tup, R.ev_len_scr, R.ev_len_str, R.ev_abs, R.ev_int1, R.ev_str_int, R.ev_str_str, R.ev_list_lst, R.ev_list_tup, R.ev_tup_lst, R.ev_tup_tup, R.ev_fmt_str, R.ev_fmt_int, R.ev_sl_lst, R.ev_sl_tup, R.ev_sl_scr, R.ev_split, R.ev_join, R.ev_tru_bl, R.ev_tru_int, R.ev_tru_non, R.ev_tru_lst, R.ev_tru_tup, R.ev_avRVs_nil, R.ev_avRVs_pl, R.ev_avRVs_rv, R.ev_share_pl, R.ev_share_N, R.ev_share_Z, R.ev_share_B, R.ev_lent_pl, R.ev_lent_N, R.ev_lent_Z, R.ev_lent_B, R.ev_fin_ret, R.ev_fin_next, R.ev_io_t, R.ev_io_f, R.ev_jGo_nil, R.ev_jGo_cons, R.ev_isi, R.ev_hold_t, R.ev_hold_fint, R.ev_hold_fstr, R.ev_hold_ftup, R.ev_hold_fbl, R.ev_settle_int, R.ev_settle_str, R.ev_settle_tup, R.ev_settle_bl, R.ev_settle_non, R.ev_share_int, R.ev_share_str, R.ev_share_tup, R.ev_lent_int, R.ev_lent_str, R.ev_lent_tup, R.hmd], rfl, rfl, rfl, rfl⟩⟩
  by_cases h1 : k = t
  · simp [R.ev_mC, R.ev_mVar, R.ev_mVarZ, R.ev_mOp, R.ev_mOpV, R.ev_mUn, R.ev_mANil, R.ev_mACons, R.ev_mTup, R.ev_mLst, R.ev_mNoPart, R.ev_mPart, R.ev_mSl, R.ev_tTrue, R.ev_tBool, R.ev_mCh, R.ev_tAndM, R.ev_tOrM, R.ev_tNotM, R.ev_mIfE, R.ev_mAndV, R.ev_mOrV, R.ev_mNotV, R.ev_cNil, R.ev_cPl, R.ev_cRv, R.ev_mBlt, R.ev_mM1, R.ev_mCall, R.ev_mNext, R.ev_mSeq, R.ev_mFl, R.ev_mDrop, R.ev_mRet, R.ev_mRetV, R.ev_mIfS, R.ev_mAsg, R.ev_mAug, R.ev_mSetP, R.ev_mLM, R.ev_iAnyM, R.ev_iRng1M, R.ev_iRng2M, R.ev_iEn1M, R.ev_iEnM, R.ev_iZipM, R.ev_mFor, R.ev_mLc, R.ev_mJoined, R.ev_slotRV, R.ev_frzSl, R.ev_relSl, R.ev_setSl, R.ev_lend, R.ev_setT_nm, R.ev_setT_tp, R.ev_setTs_nil, R.ev_setTs_cons, R.ev_hold_N, R.ev_hold_Z, R.ev_hold_B, R.ev_settle_N, R.ev_settle_Z, R.ev_settle_B, R.ev_isLst_lst, R.ev_isLst_tup, R.ev_isLst_int, R.ev_isLst_bl, R.ev_isLst_str, R.ev_isLst_non, R.ev_isLst_scr, R.ev_idx_lst, R.ev_idx_tup, R.ev_idx_scr, R.ev_idx_str, R.ev_neg, R.ev_add_int, R.ev_sub_int, R.ev_mul_int, R.ev_div_int, R.ev_mod_int, R.ev_pow_int, R.ev_add_str, R.ev_add_tup, R.ev_add_lst, R.ev_eq_int, R.ev_ne_int, R.ev_eq_str, R.ev_ne_str, R.ev_lt, R.ev_le, R.ev_gt, R.ev_ge, R.ev_is, R.ev_isNot, R.ev_none_tup, R.ev_none_lst, R.ev_none_int, R.ev_none_str, R.ev_none_non, R.ev_len_lst, R.ev_len_tup, R.ev_len_scr, R.ev_len_str, R.ev_abs, R.ev_int1, R.ev_str_int, R.ev_str_str, R.ev_list_lst, R.ev_list_tup, R.ev_tup_lst, R.ev_tup_tup, R.ev_fmt_str, R.ev_fmt_int, R.ev_sl_lst, R.ev_sl_tup, R.ev_sl_scr, R.ev_split, R.ev_join, R.ev_tru_bl, R.ev_tru_int, R.ev_tru_non, R.ev_tru_lst, R.ev_tru_tup, R.ev_avRVs_nil, R.ev_avRVs_pl, R.ev_avRVs_rv, R.ev_share_pl, R.ev_share_N, R.ev_share_Z, R.ev_share_B, R.ev_lent_pl, R.ev_lent_N, R.ev_lent_Z, R.ev_lent_B, R.ev_fin_ret, R.ev_fin_next, R.ev_io_t, R.ev_io_f, R.ev_jGo_nil, R.ev_jGo_cons, R.ev_isi, R.ev_hold_t, R.ev_hold_fint, R.ev_hold_fstr, R.ev_hold_ftup, R.ev_hold_fbl, R.ev_settle_int, R.ev_settle_str, R.ev_settle_tup, R.ev_settle_bl, R.ev_settle_non, R.ev_share_int, R.ev_share_str, R.ev_share_tup, R.ev_lent_int, R.ev_lent_str, R.ev_lent_tup, R.hmd, h1]
  · by_cases h2 : c = 46
    · simp [R.ev_mC, R.ev_mVar, R.ev_mVarZ, R.ev_mOp, R.ev_mOpV, R.ev_mUn, R.ev_mANil, R.ev_mACons, R.ev_mTup, R.ev_mLst, R.ev_mNoPart, R.ev_mPart, R.ev_mSl, R.ev_tTrue, R.ev_tBool, R.ev_mCh, R.ev_tAndM, R.ev_tOrM, R.ev_tNotM, R.ev_mIfE, R.ev_mAndV, R.ev_mOrV, R.ev_mNotV, R.ev_cNil, R.ev_cPl, R.ev_cRv, R.ev_mBlt, R.ev_mM1, R.ev_mCall, R.ev_mNext, R.ev_mSeq, R.ev_mFl, R.ev_mDrop, R.ev_mRet, R.ev_mRetV, R.ev_mIfS, R.ev_mAsg, R.ev_mAug, R.ev_mSetP, R.ev_mLM, R.ev_iAnyM, R.ev_iRng1M, R.ev_iRng2M, R.ev_iEn1M, R.ev_iEnM, R.ev_iZipM, R.ev_mFor, R.ev_mLc, R.ev_mJoined, R.ev_slotRV, R.ev_frzSl, R.ev_relSl, R.ev_setSl, R.ev_lend, R.ev_setT_nm, R.ev_setT_tp, R.ev_setTs_nil, R.ev_setTs_cons, R.ev_hold_N, R.ev_hold_Z, R.ev_hold_B, R.ev_settle_N, R.ev_settle_Z, R.ev_settle_B, R.ev_isLst_lst, R.ev_isLst_tup, R.ev_isLst_int, R.ev_isLst_bl, R.ev_isLst_str, R.ev_isLst_non, R.ev_isLst_scr, R.ev_idx_lst, R.ev_idx_tup, R.ev_idx_scr, R.ev_idx_str, R.ev_neg, R.ev_add_int, R.ev_sub_int, R.ev_mul_int, R.ev_div_int, R.ev_mod_int, R.ev_pow_int, R.ev_add_str, R.ev_add_tup, R.ev_add_lst, R.ev_eq_int, R.ev_ne_int, R.ev_eq_str, R.ev_ne_str, R.ev_lt, R.ev_le, R.ev_gt, R.ev_ge, R.ev_is, R.ev_isNot, R.ev_none_tup, R.ev_none_lst, R.ev_none_int, R.ev_none_str, R.ev_none_non, R.ev_len_lst, R.ev_len_tup, R.ev_len_scr, R.ev_len_str, R.ev_abs, R.ev_int1, R.ev_str_int, R.ev_str_str, R.ev_list_lst, R.ev_list_tup, R.ev_tup_lst, R.ev_tup_tup, R.ev_fmt_str, R.ev_fmt_int, R.ev_sl_lst, R.ev_sl_tup, R.ev_sl_scr, R.ev_split, R.ev_join, R.ev_tru_bl, R.ev_tru_int, R.ev_tru_non, R.ev_tru_lst, R.ev_tru_tup, R.ev_avRVs_nil, R.ev_avRVs_pl, R.ev_avRVs_rv, R.ev_share_pl, R.ev_share_N, R.ev_share_Z, R.ev_share_B, R.ev_lent_pl, R.ev_lent_N, R.ev_lent_Z, R.ev_lent_B, R.ev_fin_ret, R.ev_fin_next, R.ev_io_t, R.ev_io_f, R.ev_jGo_nil, R.ev_jGo_cons, R.ev_isi, R.ev_hold_t, R.ev_hold_fint, R.ev_hold_fstr, R.ev_hold_ftup, R.ev_hold_fbl, R.ev_settle_int, R.ev_settle_str, R.ev_settle_tup, R.ev_settle_bl, R.ev_settle_non, R.ev_share_int, R.ev_share_str, R.ev_share_tup, R.ev_lent_int, R.ev_lent_str, R.ev_lent_tup, R.hmd, h1, h2, ha, sDot, sEq]
    · simp [R.ev_mC, R.ev_mVar, R.ev_mVarZ, R.ev_mOp, R.ev_mOpV, R.ev_mUn, R.ev_mANil, R.ev_mACons, R.ev_mTup, R.ev_mLst, R.ev_mNoPart, R.ev_mPart, R.ev_mSl, R.ev_tTrue, R.ev_tBool, R.ev_mCh, R.ev_tAndM, R.ev_tOrM, R.ev_tNotM, R.ev_mIfE, R.ev_mAndV, R.ev_mOrV, R.ev_mNotV, R.ev_cNil, R.ev_cPl, R.ev_cRv, R.ev_mBlt, R.ev_mM1, R.ev_mCall, R.ev_mNext, R.ev_mSeq, R.ev_mFl, R.ev_mDrop, R.ev_mRet, R.ev_mRetV, R.ev_mIfS, R.ev_mAsg, R.ev_mAug, R.ev_mSetP, R.ev_mLM, R.ev_iAnyM, R.ev_iRng1M, R.ev_iRng2M, R.ev_iEn1M, R.ev_iEnM, R.ev_iZipM, R.ev_mFor, R.ev_mLc, R.ev_mJoined, R.ev_slotRV, R.ev_frzSl, R.ev_relSl, R.ev_setSl, R.ev_lend, R.ev_setT_nm, R.ev_setT_tp, R.ev_setTs_nil, R.ev_setTs_cons, R.ev_hold_N, R.ev_hold_Z, R.ev_hold_B, R.ev_settle_N, R.ev_settle_Z, R.ev_settle_B, R.ev_isLst_lst, R.ev_isLst_tup, R.ev_isLst_int, R.ev_isLst_bl, R.ev_isLst_str, R.ev_isLst_non, R.ev_isLst_scr, R.ev_idx_lst, R.ev_idx_tup, R.ev_idx_scr, R.ev_idx_str, R.ev_neg, R.ev_add_int, R.ev_sub_int, R.ev_mul_int, R.ev_div_int, R.ev_mod_int, R.ev_pow_int, R.ev_add_str, R.ev_add_tup, R.ev_add_lst, R.ev_eq_int, R.ev_ne_int, R.ev_eq_str, R.ev_ne_str, R.ev_lt, R.ev_le, R.ev_gt, R.ev_ge, R.ev_is, R.ev_isNot, R.ev_none_tup, R.ev_none_lst, R.ev_none_int, R.ev_none_str, R.ev_none_non, R.ev_len_lst, R.ev_len_tup, R.ev_len_scr, R.ev_len_str, R.ev_abs, R.ev_int1, R.ev_str_int, R.ev_str_str, R.ev_list_lst, R.ev_list_tup, R.ev_tup_lst, R.ev_tup_tup, R.ev_fmt_str, R.ev_fmt_int, R.ev_sl_lst, R.ev_sl_tup, R.ev_sl_scr, R.ev_split, R.ev_join, R.ev_tru_bl, R.ev_tru_int, R.ev_tru_non, R.ev_tru_lst, R.ev_tru_tup, R.ev_avRVs_nil, R.ev_avRVs_pl, R.ev_avRVs_rv, R.ev_share_pl, R.ev_share_N, R.ev_share_Z, R.ev_share_B, R.ev_lent_pl, R.ev_lent_N, R.ev_lent_Z, R.ev_lent_B, R.ev_fin_ret, R.ev_fin_next, R.ev_io_t, R.ev_io_f, R.ev_jGo_nil, R.ev_jGo_cons, R.ev_isi, R.ev_hold_t, R.ev_hold_fint, R.ev_hold_fstr, R.ev_hold_ftup, R.ev_hold_fbl, R.ev_settle_int, R.ev_settle_str, R.ev_settle_tup, R.ev_settle_bl, R.ev_settle_non, R.ev_share_int, R.ev_share_str, R.ev_share_tup, R.ev_lent_int, R.ev_lent_str, R.ev_lent_tup, R.hmd, h1, h2, ha, sDot, sEq]
theorem row (b : R.D) (n : Int) (v : List Nat) (hb : Bag b) (hv : (v.length : Int) = n) (h0 : 1 ≤ n) (hn : n ≤ 12) (hk : VOk v) : ∃ b' w t o g, g_law_row [b, .int n, txD v] = .ret .N (rowD w t o g) (some b') ∧ Bag b' ∧ RowL v.length w t o g := by
  have st : g_law_row [b, .int n, txD v] = fin true (m_law_row [.io b, .frz (.int n), .frz (txD v), .un, .un, .un, .un, .un]) := rfl
  rw [st]
  unfold m_law_row
  obtain ⟨b1, md1, r1, e1, hb1, p1, q1⟩ := draw b 4 hb (by decide) (by decide)
  obtain ⟨w, ew, hww⟩ := four r1 p1 q1
  obtain ⟨b2, md2, t, e2, hb2, p2, q2⟩ := draw b1 n hb1 (by omega) (by omega)
  have l4 : lenOk 4 = true := by decide
  have a6 : ∀ q md l, hold q ⟨md, txD l⟩ = some ⟨hmd q md, txD l⟩ := fun q md l => R.ev_hold_fstr
  have ts : ∀ md l, R.settle ⟨md, txD l⟩ = some ⟨hmd false md, txD l⟩ := fun md l => R.ev_settle_str
  have tl : ∀ l, isLst (txD l) = false := fun _ => rfl
  have fin1 : ∀ {w : List Nat} {t o : Int} {g : List Nat}, 0 ≤ t → t < n → (w = clearL → o = -1) → (w ≠ clearL → 0 ≤ o ∧ o < n ∧ o ≠ t) → (g = [] ∨ g.length = v.length) → (∀ c ∈ g, c ∈ SIGNS) → (w = clearL ∨ w = copyL ∨ w = moveL) → RowL v.length w t o g := fun h1 h2 h3 h4 h5 h6 h7 => ⟨⟨h1, by omega⟩, h3, fun h => by have := h4 h; omega, h6, h5, h7⟩
  by_cases hn1 : n = 1
  · obtain ⟨b3, md3, g, e3, hb3, hg, hgs⟩ := guard b2 n v hb2 hv h0 hn hk
    subst hn1
    refine ⟨b3, clearL, t, -1, g, ?_, hb3, fin1 p2 q2 (fun _ => rfl) (fun h => absurd rfl h) hg hgs (.inl rfl)⟩
    simp [R.ev_mC, R.ev_mVar, R.ev_mVarZ, R.ev_mOp, R.ev_mOpV, R.ev_mUn, R.ev_mANil, R.ev_mACons, R.ev_mTup, R.ev_mLst, R.ev_mNoPart, R.ev_mPart, R.ev_mSl, R.ev_tTrue, R.ev_tBool, R.ev_mCh, R.ev_tAndM, R.ev_tOrM, R.ev_tNotM, R.ev_mIfE, R.ev_mAndV, R.ev_mOrV, R.ev_mNotV, R.ev_cNil, R.ev_cPl, R.ev_cRv, R.ev_mBlt, R.ev_mM1, R.ev_mCall, R.ev_mNext, R.ev_mSeq, R.ev_mFl, R.ev_mDrop, R.ev_mRet, R.ev_mRetV, R.ev_mIfS, R.ev_mAsg, R.ev_mAug, R.ev_mSetP, R.ev_mLM, R.ev_iAnyM, R.ev_iRng2M, R.ev_iEn1M, R.ev_iEnM, R.ev_iZipM, R.ev_mJoined, R.ev_slotRV, R.ev_frzSl, R.ev_relSl, R.ev_setSl, R.ev_lend, R.ev_setT_nm, R.ev_setT_tp, R.ev_setTs_nil, R.ev_setTs_cons, R.ev_hold_N, R.ev_hold_Z, R.ev_hold_B, R.ev_settle_N, R.ev_settle_Z, R.ev_settle_B, R.ev_isLst_lst, R.ev_isLst_tup, R.ev_isLst_int, R.ev_isLst_bl, R.ev_isLst_str, R.ev_isLst_non, R.ev_isLst_scr, R.ev_idx_lst, R.ev_idx_tup, R.ev_idx_scr, R.ev_idx_str, R.ev_neg, R.ev_add_int, R.ev_sub_int, R.ev_mul_int, R.ev_div_int, R.ev_mod_int, R.ev_pow_int, R.ev_add_str, R.ev_add_tup, R.ev_add_lst, R.ev_eq_int, R.ev_ne_int, R.ev_eq_str, R.ev_ne_str, R.ev_lt, R.ev_le, R.ev_gt, R.ev_ge, R.ev_is, R.ev_isNot, R.ev_none_tup, R.ev_none_lst, R.ev_none_int, R.ev_none_str, R.ev_none_non, R.ev_len_lst, R.ev_len_tup, R.ev_len_scr, R.ev_len_str, R.ev_abs, R.ev_int1, R.ev_str_int, R.ev_str_str, R.ev_list_lst, R.ev_list_tup, R.ev_tup_lst, R.ev_tup_tup, R.ev_fmt_str, R.ev_fmt_int, R.ev_sl_lst, R.ev_sl_tup, R.ev_sl_scr, R.ev_split, R.ev_join, R.ev_tru_bl, R.ev_tru_int, R.ev_tru_non, R.ev_tru_lst, R.ev_tru_tup, R.ev_avRVs_nil, R.ev_avRVs_pl, R.ev_avRVs_rv, R.ev_share_pl, R.ev_share_N, R.ev_share_Z, R.ev_share_B, R.ev_lent_pl, R.ev_lent_N, R.ev_lent_Z, R.ev_lent_B, R.ev_fin_ret, R.ev_fin_next, R.ev_io_t, R.ev_io_f, R.ev_jGo_nil, R.ev_jGo_cons, R.ev_isi, R.ev_hold_t, R.ev_hold_fint, R.ev_hold_fstr, R.ev_hold_ftup, R.ev_hold_fbl, R.ev_settle_int, R.ev_settle_str, R.ev_settle_tup, R.ev_settle_bl, R.ev_settle_non, R.ev_share_int, R.ev_share_str, R.ev_share_tup, R.ev_lent_int, R.ev_lent_str, R.ev_lent_tup, R.hmd, e1, sCopy, sMove, sClear, ew, l4, e2, e3, sEq, ts, tl]
    rfl
  · by_cases hc : w = clearL
    · subst hc
      obtain ⟨b3, md3, g, e3, hb3, hg, hgs⟩ := guard b2 n v hb2 hv h0 hn hk
      refine ⟨b3, clearL, t, -1, g, ?_, hb3, fin1 p2 q2 (fun _ => rfl) (fun h => absurd rfl h) hg hgs (.inl rfl)⟩
      simp [R.ev_mC, R.ev_mVar, R.ev_mVarZ, R.ev_mOp, R.ev_mOpV, R.ev_mUn, R.ev_mANil, R.ev_mACons, R.ev_mTup, R.ev_mLst, R.ev_mNoPart, R.ev_mPart, R.ev_mSl, R.ev_tTrue, R.ev_tBool, R.ev_mCh, R.ev_tAndM, R.ev_tOrM, R.ev_tNotM, R.ev_mIfE, R.ev_mAndV, R.ev_mOrV, R.ev_mNotV, R.ev_cNil, R.ev_cPl, R.ev_cRv, R.ev_mBlt, R.ev_mM1, R.ev_mCall, R.ev_mNext, R.ev_mSeq, R.ev_mFl, R.ev_mDrop, R.ev_mRet, R.ev_mRetV, R.ev_mIfS, R.ev_mAsg, R.ev_mAug, R.ev_mSetP, R.ev_mLM, R.ev_iAnyM, R.ev_iRng2M, R.ev_iEn1M, R.ev_iEnM, R.ev_iZipM, R.ev_mJoined, R.ev_slotRV, R.ev_frzSl, R.ev_relSl, R.ev_setSl, R.ev_lend, R.ev_setT_nm, R.ev_setT_tp, R.ev_setTs_nil, R.ev_setTs_cons, R.ev_hold_N, R.ev_hold_Z, R.ev_hold_B, R.ev_settle_N, R.ev_settle_Z, R.ev_settle_B, R.ev_isLst_lst, R.ev_isLst_tup, R.ev_isLst_int, R.ev_isLst_bl, R.ev_isLst_str, R.ev_isLst_non, R.ev_isLst_scr, R.ev_idx_lst, R.ev_idx_tup, R.ev_idx_scr, R.ev_idx_str, R.ev_neg, R.ev_add_int, R.ev_sub_int, R.ev_mul_int, R.ev_div_int, R.ev_mod_int, R.ev_pow_int, R.ev_add_str, R.ev_add_tup, R.ev_add_lst, R.ev_eq_int, R.ev_ne_int, R.ev_eq_str, R.ev_ne_str, R.ev_lt, R.ev_le, R.ev_gt, R.ev_ge, R.ev_is, R.ev_isNot, R.ev_none_tup, R.ev_none_lst, R.ev_none_int, R.ev_none_str, R.ev_none_non, R.ev_len_lst, R.ev_len_tup, R.ev_len_scr, R.ev_len_str, R.ev_abs, R.ev_int1, R.ev_str_int, R.ev_str_str, R.ev_list_lst, R.ev_list_tup, R.ev_tup_lst, R.ev_tup_tup, R.ev_fmt_str, R.ev_fmt_int, R.ev_sl_lst, R.ev_sl_tup, R.ev_sl_scr, R.ev_split, R.ev_join, R.ev_tru_bl, R.ev_tru_int, R.ev_tru_non, R.ev_tru_lst, R.ev_tru_tup, R.ev_avRVs_nil, R.ev_avRVs_pl, R.ev_avRVs_rv, R.ev_share_pl, R.ev_share_N, R.ev_share_Z, R.ev_share_B, R.ev_lent_pl, R.ev_lent_N, R.ev_lent_Z, R.ev_lent_B, R.ev_fin_ret, R.ev_fin_next, R.ev_io_t, R.ev_io_f, R.ev_jGo_nil, R.ev_jGo_cons, R.ev_isi, R.ev_hold_t, R.ev_hold_fint, R.ev_hold_fstr, R.ev_hold_ftup, R.ev_hold_fbl, R.ev_settle_int, R.ev_settle_str, R.ev_settle_tup, R.ev_settle_bl, R.ev_settle_non, R.ev_share_int, R.ev_share_str, R.ev_share_tup, R.ev_lent_int, R.ev_lent_str, R.ev_lent_tup, R.hmd, e1, sCopy, sMove, sClear, ew, l4, e2, e3, sEq, ts, tl, hn1]
      rfl
    · obtain ⟨b3, md3, r3, e3, hb3, p3, q3⟩ := draw b2 (n - 1) hb2 (by omega) (by omega)
      have ho := other p2 q2 p3 q3
      have hnn : v.length = n.toNat := by omega
      have hL : mLc [7] (.nm 7) (iRng1M (mACons (mVarZ 1) mANil)) (tAndM (tBool (mOpV 7 (cop .NotEq) (mVar 4))) (tBool (mOp true (cop .NotEq) (mOpV 2 fIdx (mVar 7)) (mC (.str "."))))) (mVar 7) [.io b3, .frz (.int n), .frz (txD v), .frz (.str (SX.S w)), .frz (.int t), .frz (.int ((t + 1 + r3) % n)), .un, .un] = .ok ⟨.N, .lst (((List.range v.length).filter (pF v t)).map fun i : Nat => R.D.int (0 + (i : Nat)))⟩ [.io b3, .frz (.int n), .frz (txD v), .frz (.str (SX.S w)), .frz (.int t), .frz (.int ((t + 1 + r3) % n)), .un, .un] := by
        have hm : mACons (mVarZ 1) mANil [.io b3, .frz (.int n), .frz (txD v), .frz (.str (SX.S w)), .frz (.int t), .frz (.int ((t + 1 + r3) % n)), .un, .un] = .ok [.int n] [.io b3, .frz (.int n), .frz (txD v), .frz (.str (SX.S w)), .frz (.int t), .frz (.int ((t + 1 + r3) % n)), .un, .un] := by simp [R.ev_mC, R.ev_mVar, R.ev_mVarZ, R.ev_mOp, R.ev_mOpV, R.ev_mUn, R.ev_mANil, R.ev_mACons, R.ev_mTup, R.ev_mLst, R.ev_mNoPart, R.ev_mPart, R.ev_mSl, R.ev_tTrue, R.ev_tBool, R.ev_mCh, R.ev_tAndM, R.ev_tOrM, R.ev_tNotM, R.ev_mIfE, R.ev_mAndV, R.ev_mOrV, R.ev_mNotV, R.ev_cNil, R.ev_cPl, R.ev_cRv, R.ev_mBlt, R.ev_mM1, R.ev_mCall, R.ev_mNext, R.ev_mSeq, R.ev_mFl, R.ev_mDrop, R.ev_mRet, R.ev_mRetV, R.ev_mIfS, R.ev_mAsg, R.ev_mAug, R.ev_mSetP, R.ev_mLM, R.ev_iAnyM, R.ev_iRng2M, R.ev_iEn1M, R.ev_iEnM, R.ev_iZipM, R.ev_mJoined, R.ev_slotRV, R.ev_frzSl, R.ev_relSl, R.ev_setSl, R.ev_lend, R.ev_setT_nm, R.ev_setT_tp, R.ev_setTs_nil, R.ev_setTs_cons, R.ev_hold_N, R.ev_hold_Z, R.ev_hold_B, R.ev_settle_N, R.ev_settle_Z, R.ev_settle_B, R.ev_isLst_lst, R.ev_isLst_tup, R.ev_isLst_int, R.ev_isLst_bl, R.ev_isLst_str, R.ev_isLst_non, R.ev_isLst_scr, R.ev_idx_lst, R.ev_idx_tup, R.ev_idx_scr, R.ev_idx_str, R.ev_neg, R.ev_add_int, R.ev_sub_int, R.ev_mul_int, R.ev_div_int, R.ev_mod_int, R.ev_pow_int, R.ev_add_str, R.ev_add_tup, R.ev_add_lst, R.ev_eq_int, R.ev_ne_int, R.ev_eq_str, R.ev_ne_str, R.ev_lt, R.ev_le, R.ev_gt, R.ev_ge, R.ev_is, R.ev_isNot, R.ev_none_tup, R.ev_none_lst, R.ev_none_int, R.ev_none_str, R.ev_none_non, R.ev_len_lst, R.ev_len_tup, R.ev_len_scr, R.ev_len_str, R.ev_abs, R.ev_int1, R.ev_str_int, R.ev_str_str, R.ev_list_lst, R.ev_list_tup, R.ev_tup_lst, R.ev_tup_tup, R.ev_fmt_str, R.ev_fmt_int, R.ev_sl_lst, R.ev_sl_tup, R.ev_sl_scr, R.ev_split, R.ev_join, R.ev_tru_bl, R.ev_tru_int, R.ev_tru_non, R.ev_tru_lst, R.ev_tru_tup, R.ev_avRVs_nil, R.ev_avRVs_pl, R.ev_avRVs_rv, R.ev_share_pl, R.ev_share_N, R.ev_share_Z, R.ev_share_B, R.ev_lent_pl, R.ev_lent_N, R.ev_lent_Z, R.ev_lent_B, R.ev_fin_ret, R.ev_fin_next, R.ev_io_t, R.ev_io_f, R.ev_jGo_nil, R.ev_jGo_cons, R.ev_isi, R.ev_hold_t, R.ev_hold_fint, R.ev_hold_fstr, R.ev_hold_ftup, R.ev_hold_fbl, R.ev_settle_int, R.ev_settle_str, R.ev_settle_tup, R.ev_settle_bl, R.ev_settle_non, R.ev_share_int, R.ev_share_str, R.ev_share_tup, R.ev_lent_int, R.ev_lent_str, R.ev_lent_tup, R.hmd]
        have ow : okW [.io b3, .frz (.int n), .frz (txD v), .frz (.str (SX.S w)), .frz (.int t), .frz (.int ((t + 1 + r3) % n)), .un, .un] [7] = true := rfl
        have ws : wipeS [.io b3, .frz (.int n), .frz (txD v), .frz (.str (SX.S w)), .frz (.int t), .frz (.int ((t + 1 + r3) % n)), .un, .un] [7] = [.io b3, .frz (.int n), .frz (txD v), .frz (.str (SX.S w)), .frz (.int t), .frz (.int ((t + 1 + r3) % n)), .un, .un] := rfl
        have ln : lenOk (((List.range v.length).filter (pF v t)).map fun i : Nat => R.D.int (0 + (i : Nat))).length = true := by
          rw [List.length_map]
          refine lenOk_of (Nat.le_trans (List.length_filter_le ..) ?_)
          rw [List.length_range]; omega
        rw [R.ev_mLc, R.ev_iRng1M, hm]
        dsimp only
        rw [if_pos (smallZ n (by omega) (by omega))]
        dsimp only
        rw [if_pos ow, ws, ← hnn, filled_lc v t (by omega)]
        dsimp only
        rw [if_pos ln]
      have hfl : ∀ i ∈ (List.range v.length).filter (pF v t), i < v.length ∧ (0 : Int) + (i : Nat) ≠ t := fun i hi => by
        obtain ⟨h1, h2⟩ := List.mem_filter.mp hi
        unfold pF at h2
        rw [Bool.and_eq_true] at h2
        exact ⟨List.mem_range.mp h1, of_decide_eq_true h2.1⟩
      have hfn : ((List.range v.length).filter (pF v t)).length ≤ 12 := by
        refine Nat.le_trans (List.length_filter_le ..) ?_
        rw [List.length_range]; omega
      generalize (List.range v.length).filter (pF v t) = fl at hL hfl hfn
      have nn := ne_nil (fun i : Nat => (0 : Int) + (i : Nat)) fl
      have l0 : lenOk 0 = true := by decide
      have stay : ∀ (b5 : R.D), Bag b5 → ∃ b' md g, g_law_guard [b5, .int n, txD v] = .ret md (txD g) (some b') ∧ Bag b' ∧ (g = [] ∨ g.length = v.length) ∧ ∀ c ∈ g, c ∈ SIGNS := fun b5 h5 => guard b5 n v h5 hv h0 hn hk
      have hnp : 0 < n := by omega
      cases hfe : fl with
      | nil =>
        subst hfe
        obtain ⟨b5, md5, g, e5, hb5, hg, hgs⟩ := stay b3 hb3
        refine ⟨b5, w, t, (t + 1 + r3) % n, g, ?_, hb5, fin1 p2 q2 (fun h => absurd h hc) (fun _ => ho) hg hgs hww⟩
        have nn' := nn
        simp only [List.map_nil, List.isEmpty_nil, Bool.not_true] at nn' hL
        clear nn stay
        simp [R.ev_mC, R.ev_mVar, R.ev_mVarZ, R.ev_mOp, R.ev_mOpV, R.ev_mUn, R.ev_mANil, R.ev_mACons, R.ev_mTup, R.ev_mLst, R.ev_mNoPart, R.ev_mPart, R.ev_mSl, R.ev_tTrue, R.ev_tBool, R.ev_mCh, R.ev_tAndM, R.ev_tOrM, R.ev_tNotM, R.ev_mIfE, R.ev_mAndV, R.ev_mOrV, R.ev_mNotV, R.ev_cNil, R.ev_cPl, R.ev_cRv, R.ev_mBlt, R.ev_mM1, R.ev_mCall, R.ev_mNext, R.ev_mSeq, R.ev_mFl, R.ev_mDrop, R.ev_mRet, R.ev_mRetV, R.ev_mIfS, R.ev_mAsg, R.ev_mAug, R.ev_mSetP, R.ev_mLM, R.ev_iAnyM, R.ev_iRng2M, R.ev_iEn1M, R.ev_iEnM, R.ev_iZipM, R.ev_mJoined, R.ev_slotRV, R.ev_frzSl, R.ev_relSl, R.ev_setSl, R.ev_lend, R.ev_setT_nm, R.ev_setT_tp, R.ev_setTs_nil, R.ev_setTs_cons, R.ev_hold_N, R.ev_hold_Z, R.ev_hold_B, R.ev_settle_N, R.ev_settle_Z, R.ev_settle_B, R.ev_isLst_lst, R.ev_isLst_tup, R.ev_isLst_int, R.ev_isLst_bl, R.ev_isLst_str, R.ev_isLst_non, R.ev_isLst_scr, R.ev_idx_lst, R.ev_idx_tup, R.ev_idx_scr, R.ev_idx_str, R.ev_neg, R.ev_add_int, R.ev_sub_int, R.ev_mul_int, R.ev_div_int, R.ev_mod_int, R.ev_pow_int, R.ev_add_str, R.ev_add_tup, R.ev_add_lst, R.ev_eq_int, R.ev_ne_int, R.ev_eq_str, R.ev_ne_str, R.ev_lt, R.ev_le, R.ev_gt, R.ev_ge, R.ev_is, R.ev_isNot, R.ev_none_tup, R.ev_none_lst, R.ev_none_int, R.ev_none_str, R.ev_none_non, R.ev_len_lst, R.ev_len_tup, R.ev_len_scr, R.ev_len_str, R.ev_abs, R.ev_int1, R.ev_str_int, R.ev_str_str, R.ev_list_lst, R.ev_list_tup, R.ev_tup_lst, R.ev_tup_tup, R.ev_fmt_str, R.ev_fmt_int, R.ev_sl_lst, R.ev_sl_tup, R.ev_sl_scr, R.ev_split, R.ev_join, R.ev_tru_bl, R.ev_tru_int, R.ev_tru_non, R.ev_tru_lst, R.ev_tru_tup, R.ev_avRVs_nil, R.ev_avRVs_pl, R.ev_avRVs_rv, R.ev_share_pl, R.ev_share_N, R.ev_share_Z, R.ev_share_B, R.ev_lent_pl, R.ev_lent_N, R.ev_lent_Z, R.ev_lent_B, R.ev_fin_ret, R.ev_fin_next, R.ev_io_t, R.ev_io_f, R.ev_jGo_nil, R.ev_jGo_cons, R.ev_isi, R.ev_hold_t, R.ev_hold_fint, R.ev_hold_fstr, R.ev_hold_ftup, R.ev_hold_fbl, R.ev_settle_int, R.ev_settle_str, R.ev_settle_tup, R.ev_settle_bl, R.ev_settle_non, R.ev_share_int, R.ev_share_str, R.ev_share_tup, R.ev_lent_int, R.ev_lent_str, R.ev_lent_tup, R.hmd, e1, sCopy, sMove, sClear, ew, l4, l0, e2, e3, e5, sEq, ts, tl, hn1, hc, hnp, hL, nn']
        rfl
      | cons f0 fr =>
        have hne : fl.isEmpty = false := by rw [hfe]; rfl
        have hlen : 0 < fl.length := by rw [hfe]; simp
        rw [← hfe] at *
        clear hfe
        rw [hne] at nn
        obtain ⟨b4, md4, r4, e4, hb4, p4, q4⟩ := draw b3 3 hb3 (by decide) (by decide)
        by_cases hr : 0 < r4
        · obtain ⟨b6, md6, r6, e6, hb6, p6, q6⟩ := draw b4 (fl.length : Nat) hb4 (by omega) (by omega)
          have hi6 : r6.toNat < fl.length := by omega
          have hat : L2.atI (fl.map fun i : Nat => R.D.int (0 + (i : Nat))) r6 = some (.int (0 + ((fl[r6.toNat] : Nat) : Int))) := atI_of p6 (by rw [List.getElem?_map, List.getElem?_eq_getElem hi6]; rfl)
          obtain ⟨f1, f2⟩ := hfl _ (List.getElem_mem hi6)
          generalize fl[r6.toNat] = f at hat f1 f2
          obtain ⟨b5, md5, g, e5, hb5, hg, hgs⟩ := stay b6 hb6
          refine ⟨b5, w, t, 0 + (f : Nat), g, ?_, hb5, fin1 p2 q2 (fun h => absurd h hc) (fun _ => ⟨by omega, by omega, f2⟩) hg hgs hww⟩
          generalize ((0 : Int) + (f : Nat)) = ff at hat ⊢
          clear stay hfl
          generalize hLL : (fl.map fun i : Nat => R.D.int (0 + (i : Nat))) = L at hL nn hat
          have hll : L.length = fl.length := by rw [← hLL, List.length_map]
          clear hLL
          simp [R.ev_mC, R.ev_mVar, R.ev_mVarZ, R.ev_mOp, R.ev_mOpV, R.ev_mUn, R.ev_mANil, R.ev_mACons, R.ev_mTup, R.ev_mLst, R.ev_mNoPart, R.ev_mPart, R.ev_mSl, R.ev_tTrue, R.ev_tBool, R.ev_mCh, R.ev_tAndM, R.ev_tOrM, R.ev_tNotM, R.ev_mIfE, R.ev_mAndV, R.ev_mOrV, R.ev_mNotV, R.ev_cNil, R.ev_cPl, R.ev_cRv, R.ev_mBlt, R.ev_mM1, R.ev_mCall, R.ev_mNext, R.ev_mSeq, R.ev_mFl, R.ev_mDrop, R.ev_mRet, R.ev_mRetV, R.ev_mIfS, R.ev_mAsg, R.ev_mAug, R.ev_mSetP, R.ev_mLM, R.ev_iAnyM, R.ev_iRng2M, R.ev_iEn1M, R.ev_iEnM, R.ev_iZipM, R.ev_mJoined, R.ev_slotRV, R.ev_frzSl, R.ev_relSl, R.ev_setSl, R.ev_lend, R.ev_setT_nm, R.ev_setT_tp, R.ev_setTs_nil, R.ev_setTs_cons, R.ev_hold_N, R.ev_hold_Z, R.ev_hold_B, R.ev_settle_N, R.ev_settle_Z, R.ev_settle_B, R.ev_isLst_lst, R.ev_isLst_tup, R.ev_isLst_int, R.ev_isLst_bl, R.ev_isLst_str, R.ev_isLst_non, R.ev_isLst_scr, R.ev_idx_lst, R.ev_idx_tup, R.ev_idx_scr, R.ev_idx_str, R.ev_neg, R.ev_add_int, R.ev_sub_int, R.ev_mul_int, R.ev_div_int, R.ev_mod_int, R.ev_pow_int, R.ev_add_str, R.ev_add_tup, R.ev_add_lst, R.ev_eq_int, R.ev_ne_int, R.ev_eq_str, R.ev_ne_str, R.ev_lt, R.ev_le, R.ev_gt, R.ev_ge, R.ev_is, R.ev_isNot, R.ev_none_tup, R.ev_none_lst, R.ev_none_int, R.ev_none_str, R.ev_none_non, R.ev_len_lst, R.ev_len_tup, R.ev_len_scr, R.ev_len_str, R.ev_abs, R.ev_int1, R.ev_str_int, R.ev_str_str, R.ev_list_lst, R.ev_list_tup, R.ev_tup_lst, R.ev_tup_tup, R.ev_fmt_str, R.ev_fmt_int, R.ev_sl_lst, R.ev_sl_tup, R.ev_sl_scr, R.ev_split, R.ev_join, R.ev_tru_bl, R.ev_tru_int, R.ev_tru_non, R.ev_tru_lst, R.ev_tru_tup, R.ev_avRVs_nil, R.ev_avRVs_pl, R.ev_avRVs_rv, R.ev_share_pl, R.ev_share_N, R.ev_share_Z, R.ev_share_B, R.ev_lent_pl, R.ev_lent_N, R.ev_lent_Z, R.ev_lent_B, R.ev_fin_ret, R.ev_fin_next, R.ev_io_t, R.ev_io_f, R.ev_jGo_nil, R.ev_jGo_cons, R.ev_isi, R.ev_hold_t, R.ev_hold_fint, R.ev_hold_fstr, R.ev_hold_ftup, R.ev_hold_fbl, R.ev_settle_int, R.ev_settle_str, R.ev_settle_tup, R.ev_settle_bl, R.ev_settle_non, R.ev_share_int, R.ev_share_str, R.ev_share_tup, R.ev_lent_int, R.ev_lent_str, R.ev_lent_tup, R.hmd, e1, sCopy, sMove, sClear, ew, l4, l0, e2, e3, e4, e5, e6, sEq, ts, tl, hn1, hc, hnp, hL, nn, hr, hat, hll]
          rfl
        · obtain ⟨b5, md5, g, e5, hb5, hg, hgs⟩ := stay b4 hb4
          refine ⟨b5, w, t, (t + 1 + r3) % n, g, ?_, hb5, fin1 p2 q2 (fun h => absurd h hc) (fun _ => ho) hg hgs hww⟩
          clear stay hfl
          generalize hLL : (fl.map fun i : Nat => R.D.int (0 + (i : Nat))) = L at hL nn
          simp [R.ev_mC, R.ev_mVar, R.ev_mVarZ, R.ev_mOp, R.ev_mOpV, R.ev_mUn, R.ev_mANil, R.ev_mACons, R.ev_mTup, R.ev_mLst, R.ev_mNoPart, R.ev_mPart, R.ev_mSl, R.ev_tTrue, R.ev_tBool, R.ev_mCh, R.ev_tAndM, R.ev_tOrM, R.ev_tNotM, R.ev_mIfE, R.ev_mAndV, R.ev_mOrV, R.ev_mNotV, R.ev_cNil, R.ev_cPl, R.ev_cRv, R.ev_mBlt, R.ev_mM1, R.ev_mCall, R.ev_mNext, R.ev_mSeq, R.ev_mFl, R.ev_mDrop, R.ev_mRet, R.ev_mRetV, R.ev_mIfS, R.ev_mAsg, R.ev_mAug, R.ev_mSetP, R.ev_mLM, R.ev_iAnyM, R.ev_iRng2M, R.ev_iEn1M, R.ev_iEnM, R.ev_iZipM, R.ev_mJoined, R.ev_slotRV, R.ev_frzSl, R.ev_relSl, R.ev_setSl, R.ev_lend, R.ev_setT_nm, R.ev_setT_tp, R.ev_setTs_nil, R.ev_setTs_cons, R.ev_hold_N, R.ev_hold_Z, R.ev_hold_B, R.ev_settle_N, R.ev_settle_Z, R.ev_settle_B, R.ev_isLst_lst, R.ev_isLst_tup, R.ev_isLst_int, R.ev_isLst_bl, R.ev_isLst_str, R.ev_isLst_non, R.ev_isLst_scr, R.ev_idx_lst, R.ev_idx_tup, R.ev_idx_scr, R.ev_idx_str, R.ev_neg, R.ev_add_int, R.ev_sub_int, R.ev_mul_int, R.ev_div_int, R.ev_mod_int, R.ev_pow_int, R.ev_add_str, R.ev_add_tup, R.ev_add_lst, R.ev_eq_int, R.ev_ne_int, R.ev_eq_str, R.ev_ne_str, R.ev_lt, R.ev_le, R.ev_gt, R.ev_ge, R.ev_is, R.ev_isNot, R.ev_none_tup, R.ev_none_lst, R.ev_none_int, R.ev_none_str, R.ev_none_non, R.ev_len_lst, R.ev_len_tup, R.ev_len_scr, R.ev_len_str, R.ev_abs, R.ev_int1, R.ev_str_int, R.ev_str_str, R.ev_list_lst, R.ev_list_tup, R.ev_tup_lst, R.ev_tup_tup, R.ev_fmt_str, R.ev_fmt_int, R.ev_sl_lst, R.ev_sl_tup, R.ev_sl_scr, R.ev_split, R.ev_join, R.ev_tru_bl, R.ev_tru_int, R.ev_tru_non, R.ev_tru_lst, R.ev_tru_tup, R.ev_avRVs_nil, R.ev_avRVs_pl, R.ev_avRVs_rv, R.ev_share_pl, R.ev_share_N, R.ev_share_Z, R.ev_share_B, R.ev_lent_pl, R.ev_lent_N, R.ev_lent_Z, R.ev_lent_B, R.ev_fin_ret, R.ev_fin_next, R.ev_io_t, R.ev_io_f, R.ev_jGo_nil, R.ev_jGo_cons, R.ev_isi, R.ev_hold_t, R.ev_hold_fint, R.ev_hold_fstr, R.ev_hold_ftup, R.ev_hold_fbl, R.ev_settle_int, R.ev_settle_str, R.ev_settle_tup, R.ev_settle_bl, R.ev_settle_non, R.ev_share_int, R.ev_share_str, R.ev_share_tup, R.ev_lent_int, R.ev_lent_str, R.ev_lent_tup, R.hmd, e1, sCopy, sMove, sClear, ew, l4, l0, e2, e3, e4, e5, sEq, ts, tl, hn1, hc, hnp, hL, nn, hr]
          rfl
end K02

set_option Elab.async false
set_option linter.all false
set_option maxRecDepth 100000
set_option maxHeartbeats 2000000
namespace K02
open PySem PySem.Spec PyProof.Rows L2 R

/-! ### lines and scripts that are checked -/
theorem is_index {i n : Int} (h0 : 0 ≤ i) (h1 : i < n) : g_is_index [.int i, .int n] = .ret .N (.bl true) none := by
  have st : g_is_index [.int i, .int n] = fin false (m_is_index [.frz (.int i), .frz (.int n)]) := rfl
  rw [st]
  unfold m_is_index
  simp [R.ev_mC, R.ev_mVar, R.ev_mVarZ, R.ev_mOp, R.ev_mOpV, R.ev_mUn, R.ev_mANil, R.ev_mACons, R.ev_mTup, R.ev_mLst, R.ev_mNoPart, R.ev_mPart, R.ev_mSl, R.ev_tTrue, R.ev_tBool, R.ev_mCh, R.ev_tAndM, R.ev_tOrM, R.ev_tNotM, R.ev_mIfE, R.ev_mAndV, R.ev_mOrV, R.ev_mNotV, R.ev_cNil, R.ev_cPl, R.ev_cRv, R.ev_mBlt, R.ev_mM1, R.ev_mCall, R.ev_mNext, R.ev_mSeq, R.ev_mFl, R.ev_mDrop, R.ev_mRet, R.ev_mRetV, R.ev_mIfS, R.ev_mAsg, R.ev_mAug, R.ev_mSetP, R.ev_mLM, R.ev_iAnyM, R.ev_iRng1M, R.ev_iRng2M, R.ev_iEn1M, R.ev_iEnM, R.ev_iZipM, R.ev_mFor, R.ev_mLc, R.ev_mJoined, R.ev_slotRV, R.ev_frzSl, R.ev_relSl, R.ev_setSl, R.ev_lend, R.ev_setT_nm, R.ev_setT_tp, R.ev_setTs_nil, R.ev_setTs_cons, R.ev_hold_N, R.ev_hold_Z, R.ev_hold_B, R.ev_settle_N, R.ev_settle_Z, R.ev_settle_B, R.ev_isLst_lst, R.ev_isLst_tup, R.ev_isLst_int, R.ev_isLst_bl, R.ev_isLst_str, R.ev_isLst_non, R.ev_isLst_scr, R.ev_idx_lst, R.ev_idx_tup, R.ev_idx_scr, R.ev_idx_str, R.ev_neg, R.ev_add_int, R.ev_sub_int, R.ev_mul_int, R.ev_div_int, R.ev_mod_int, R.ev_pow_int, R.ev_add_str, R.ev_add_tup, R.ev_add_lst, R.ev_eq_int, R.ev_ne_int, R.ev_eq_str, R.ev_ne_str, R.ev_lt, R.ev_le, R.ev_gt, R.ev_ge, R.ev_is, R.ev_isNot, R.ev_none_tup, R.ev_none_lst, R.ev_none_int, R.ev_none_str, R.ev_none_non, R.ev_len_lst, R.ev_len_tup, R.ev_len_scr, R.ev_len_str, R.ev_abs, R.ev_int1, R.ev_str_int, R.ev_str_str, R.ev_list_lst, R.ev_list_tup, R.ev_tup_lst, R.ev_tup_tup, R.ev_fmt_str, R.ev_fmt_int, R.ev_sl_lst, R.ev_sl_tup, R.ev_sl_scr, R.ev_split, R.ev_join, R.ev_tru_bl, R.ev_tru_int, R.ev_tru_non, R.ev_tru_lst, R.ev_tru_tup, R.ev_avRVs_nil, R.ev_avRVs_pl, R.ev_avRVs_rv, R.ev_share_pl, R.ev_share_N, R.ev_share_Z, R.ev_share_B, R.ev_lent_pl, R.ev_lent_N, R.ev_lent_Z, R.ev_lent_B, R.ev_fin_ret, R.ev_fin_next, R.ev_io_t, R.ev_io_f, R.ev_jGo_nil, R.ev_jGo_cons, R.ev_isi, R.ev_hold_t, R.ev_hold_fint, R.ev_hold_fstr, R.ev_hold_ftup, R.ev_hold_fbl, R.ev_settle_int, R.ev_settle_str, R.ev_settle_tup, R.ev_settle_bl, R.ev_settle_non, R.ev_share_int, R.ev_share_str, R.ev_share_tup, R.ev_lent_int, R.ev_lent_str, R.ev_lent_tup, R.hmd, is_i, h0, h1]
theorem has_guard (g : List Nat) (h : ∀ c ∈ g, c ∈ SIGNS) : g_has_guard_signs [txD g] = .ret .N (.bl true) none := by
  have st : g_has_guard_signs [txD g] = fin false (m_has_guard_signs [.frz (txD g), .un]) := rfl
  rw [st]
  unfold m_has_guard_signs
  generalize hmb : (mSeq (mIfS (tBool (mOpV 1 (cop .NotIn) (mC (.str ".*-0123456789")))) _ _) mNext) = mb
  obtain ⟨S', e, y, rfl, _⟩ := forGo_inv (tg := .nm 1) (mb := mb) (fun j S => ∃ y, S = [.frz (txD g), y] ∧ NI y) (R.signs (SX.S g)) 0 [.frz (txD g), .un] ⟨.un, rfl, .inl rfl⟩ (by
    rintro j d S hj ⟨y, rfl, n1⟩
    have hs : R.signs (SX.S g) = g.map fun c => R.D.str ⟨#[c]⟩ := rfl
    rw [hs, List.getElem?_map] at hj
    obtain ⟨c, hc, rfl⟩ := Option.map_eq_some_iff.mp hj
    have hc' := h c (List.mem_of_getElem? hc)
    have hni : ∀ md md', cop .NotIn ⟨md, .str ⟨#[c]⟩⟩ ⟨md', .str (Str.ofString ".*-0123456789")⟩ = some ⟨.N, .bl false⟩ := fun md md' => by
      rw [R.notIn_str, sSigns, decide_eq_true hc']; rfl
    refine ⟨[.frz (txD g), .frz (.str ⟨#[c]⟩)], [.frz (txD g), .frz (.str ⟨#[c]⟩)], ?_, .inl ?_, _, rfl, .inr ⟨_, rfl⟩⟩
    · rcases n1 with rfl | ⟨_, rfl⟩ <;> simp [R.ev_mC, R.ev_mVar, R.ev_mVarZ, R.ev_mOp, R.ev_mOpV, R.ev_mUn, R.ev_mANil, R.ev_mACons, R.ev_mTup, R.ev_mLst, R.ev_mNoPart, R.ev_mPart, R.ev_mSl, R.ev_tTrue, R.ev_tBool, R.ev_mCh, R.ev_tAndM, R.ev_tOrM, R.ev_tNotM, R.ev_mIfE, R.ev_mAndV, R.ev_mOrV, R.ev_mNotV, R.ev_cNil, R.ev_cPl, R.ev_cRv, R.ev_mBlt, R.ev_mM1, R.ev_mCall, R.ev_mNext, R.ev_mSeq, R.ev_mFl, R.ev_mDrop, R.ev_mRet, R.ev_mRetV, R.ev_mIfS, R.ev_mAsg, R.ev_mAug, R.ev_mSetP, R.ev_mLM, R.ev_iAnyM, R.ev_iRng1M, R.ev_iRng2M, R.ev_iEn1M, R.ev_iEnM, R.ev_iZipM, R.ev_mFor, R.ev_mLc, R.ev_mJoined, R.ev_slotRV, R.ev_frzSl, R.ev_relSl, R.ev_setSl, R.ev_lend, R.ev_setT_nm, R.ev_setT_tp, R.ev_setTs_nil, R.ev_setTs_cons, R.ev_hold_N, R.ev_hold_Z, R.ev_hold_B, R.ev_settle_N, R.ev_settle_Z, R.ev_settle_B, R.ev_isLst_lst, R.ev_isLst_tup, R.ev_isLst_int, R.ev_isLst_bl, R.ev_isLst_str, R.ev_isLst_non, R.ev_isLst_scr, R.ev_idx_lst, R.ev_idx_tup, R.ev_idx_scr, R.ev_idx_str, R.ev_neg, R.ev_add_int, R.ev_sub_int, R.ev_mul_int, R.ev_div_int, R.ev_mod_int, R.ev_pow_int, R.ev_add_str, R.ev_add_tup, R.ev_add_lst, R.ev_eq_int, R.ev_ne_int, R.ev_eq_str, R.ev_ne_str, R.ev_lt, R.ev_le, R.ev_gt, R.ev_ge, R.ev_is, R.ev_isNot, R.ev_none_tup, R.ev_none_lst, R.ev_none_int, R.ev_none_str, R.ev_none_non, R.ev_len_lst, R.ev_len_tup, R.ev_len_scr, R.ev_len_str, R.ev_abs, R.ev_int1, R.ev_str_int, R.ev_str_str, R.ev_list_lst, R.ev_list_tup, R.ev_tup_lst, R.ev_tup_tup, R.ev_fmt_str, R.ev_fmt_int, R.ev_sl_lst, R.ev_sl_tup, R.ev_sl_scr, R.ev_split, R.ev_join, R.ev_tru_bl, R.ev_tru_int, R.ev_tru_non, R.ev_tru_lst, R.ev_tru_tup, R.ev_avRVs_nil, R.ev_avRVs_pl, R.ev_avRVs_rv, R.ev_share_pl, R.ev_share_N, R.ev_share_Z, R.ev_share_B, R.ev_lent_pl, R.ev_lent_N, R.ev_lent_Z, R.ev_lent_B, R.ev_fin_ret, R.ev_fin_next, R.ev_io_t, R.ev_io_f, R.ev_jGo_nil, R.ev_jGo_cons, R.ev_isi, R.ev_hold_t, R.ev_hold_fint, R.ev_hold_fstr, R.ev_hold_ftup, R.ev_hold_fbl, R.ev_settle_int, R.ev_settle_str, R.ev_settle_tup, R.ev_settle_bl, R.ev_settle_non, R.ev_share_int, R.ev_share_str, R.ev_share_tup, R.ev_lent_int, R.ev_lent_str, R.ev_lent_tup, R.hmd]
    · subst hmb
      simp [R.ev_mC, R.ev_mVar, R.ev_mVarZ, R.ev_mOp, R.ev_mOpV, R.ev_mUn, R.ev_mANil, R.ev_mACons, R.ev_mTup, R.ev_mLst, R.ev_mNoPart, R.ev_mPart, R.ev_mSl, R.ev_tTrue, R.ev_tBool, R.ev_mCh, R.ev_tAndM, R.ev_tOrM, R.ev_tNotM, R.ev_mIfE, R.ev_mAndV, R.ev_mOrV, R.ev_mNotV, R.ev_cNil, R.ev_cPl, R.ev_cRv, R.ev_mBlt, R.ev_mM1, R.ev_mCall, R.ev_mNext, R.ev_mSeq, R.ev_mFl, R.ev_mDrop, R.ev_mRet, R.ev_mRetV, R.ev_mIfS, R.ev_mAsg, R.ev_mAug, R.ev_mSetP, R.ev_mLM, R.ev_iAnyM, R.ev_iRng1M, R.ev_iRng2M, R.ev_iEn1M, R.ev_iEnM, R.ev_iZipM, R.ev_mFor, R.ev_mLc, R.ev_mJoined, R.ev_slotRV, R.ev_frzSl, R.ev_relSl, R.ev_setSl, R.ev_lend, R.ev_setT_nm, R.ev_setT_tp, R.ev_setTs_nil, R.ev_setTs_cons, R.ev_hold_N, R.ev_hold_Z, R.ev_hold_B, R.ev_settle_N, R.ev_settle_Z, R.ev_settle_B, R.ev_isLst_lst, R.ev_isLst_tup, R.ev_isLst_int, R.ev_isLst_bl, R.ev_isLst_str, R.ev_isLst_non, R.ev_isLst_scr, R.ev_idx_lst, R.ev_idx_tup, R.ev_idx_scr, R.ev_idx_str, R.ev_neg, R.ev_add_int, R.ev_sub_int, R.ev_mul_int, R.ev_div_int, R.ev_mod_int, R.ev_pow_int, R.ev_add_str, R.ev_add_tup, R.ev_add_lst, R.ev_eq_int, R.ev_ne_int, R.ev_eq_str, R.ev_ne_str, R.ev_lt, R.ev_le, R.ev_gt, R.ev_ge, R.ev_is, R.ev_isNot, R.ev_none_tup, R.ev_none_lst, R.ev_none_int, R.ev_none_str, R.ev_none_non, R.ev_len_lst, R.ev_len_tup, R.ev_len_scr, R.ev_len_str, R.ev_abs, R.ev_int1, R.ev_str_int, R.ev_str_str, R.ev_list_lst, R.ev_list_tup, R.ev_tup_lst, R.ev_tup_tup, R.ev_fmt_str, R.ev_fmt_int, R.ev_sl_lst, R.ev_sl_tup, R.ev_sl_scr, R.ev_split, R.ev_join, R.ev_tru_bl, R.ev_tru_int, R.ev_tru_non, R.ev_tru_lst, R.ev_tru_tup, R.ev_avRVs_nil, R.ev_avRVs_pl, R.ev_avRVs_rv, R.ev_share_pl, R.ev_share_N, R.ev_share_Z, R.ev_share_B, R.ev_lent_pl, R.ev_lent_N, R.ev_lent_Z, R.ev_lent_B, R.ev_fin_ret, R.ev_fin_next, R.ev_io_t, R.ev_io_f, R.ev_jGo_nil, R.ev_jGo_cons, R.ev_isi, R.ev_hold_t, R.ev_hold_fint, R.ev_hold_fstr, R.ev_hold_ftup, R.ev_hold_fbl, R.ev_settle_int, R.ev_settle_str, R.ev_settle_tup, R.ev_settle_bl, R.ev_settle_non, R.ev_share_int, R.ev_share_str, R.ev_share_tup, R.ev_lent_int, R.ev_lent_str, R.ev_lent_tup, R.hmd, hni])
  have hI : iAnyM (mVarZ 0) [.frz (txD g), .un] = .ok (R.signs (SX.S g)) [.frz (txD g), .un] := rfl
  rw [R.ev_mSeq, R.ev_mFor, hI]
  dsimp only
  rw [e]; rfl
theorem is_guard {n : Nat} (g : List Nat) (h : ∀ c ∈ g, c ∈ SIGNS) (hl : g = [] ∨ g.length = n) (hn : n ≤ 12) : g_is_guard [txD g, .int n] = .ret .N (.bl true) none := by
  have st : g_is_guard [txD g, .int n] = fin false (m_is_guard [.frz (txD g), .frz (.int n)]) := rfl
  rw [st]
  unfold m_is_guard
  have hg := has_guard g h
  by_cases hz : g = []
  · subst hz
    have e : txD [] = .str (SX.S []) := rfl
    rw [e]
    simp [R.ev_mC, R.ev_mVar, R.ev_mVarZ, R.ev_mOp, R.ev_mOpV, R.ev_mUn, R.ev_mANil, R.ev_mACons, R.ev_mTup, R.ev_mLst, R.ev_mNoPart, R.ev_mPart, R.ev_mSl, R.ev_tTrue, R.ev_tBool, R.ev_mCh, R.ev_tAndM, R.ev_tOrM, R.ev_tNotM, R.ev_mIfE, R.ev_mAndV, R.ev_mOrV, R.ev_mNotV, R.ev_cNil, R.ev_cPl, R.ev_cRv, R.ev_mBlt, R.ev_mM1, R.ev_mCall, R.ev_mNext, R.ev_mSeq, R.ev_mFl, R.ev_mDrop, R.ev_mRet, R.ev_mRetV, R.ev_mIfS, R.ev_mAsg, R.ev_mAug, R.ev_mSetP, R.ev_mLM, R.ev_iAnyM, R.ev_iRng1M, R.ev_iRng2M, R.ev_iEn1M, R.ev_iEnM, R.ev_iZipM, R.ev_mFor, R.ev_mLc, R.ev_mJoined, R.ev_slotRV, R.ev_frzSl, R.ev_relSl, R.ev_setSl, R.ev_lend, R.ev_setT_nm, R.ev_setT_tp, R.ev_setTs_nil, R.ev_setTs_cons, R.ev_hold_N, R.ev_hold_Z, R.ev_hold_B, R.ev_settle_N, R.ev_settle_Z, R.ev_settle_B, R.ev_isLst_lst, R.ev_isLst_tup, R.ev_isLst_int, R.ev_isLst_bl, R.ev_isLst_str, R.ev_isLst_non, R.ev_isLst_scr, R.ev_idx_lst, R.ev_idx_tup, R.ev_idx_scr, R.ev_idx_str, R.ev_neg, R.ev_add_int, R.ev_sub_int, R.ev_mul_int, R.ev_div_int, R.ev_mod_int, R.ev_pow_int, R.ev_add_str, R.ev_add_tup, R.ev_add_lst, R.ev_eq_int, R.ev_ne_int, R.ev_eq_str, R.ev_ne_str, R.ev_lt, R.ev_le, R.ev_gt, R.ev_ge, R.ev_is, R.ev_isNot, R.ev_none_tup, R.ev_none_lst, R.ev_none_int, R.ev_none_str, R.ev_none_non, R.ev_len_lst, R.ev_len_tup, R.ev_len_scr, R.ev_len_str, R.ev_abs, R.ev_int1, R.ev_str_int, R.ev_str_str, R.ev_list_lst, R.ev_list_tup, R.ev_tup_lst, R.ev_tup_tup, R.ev_fmt_str, R.ev_fmt_int, R.ev_sl_lst, R.ev_sl_tup, R.ev_sl_scr, R.ev_split, R.ev_join, R.ev_tru_bl, R.ev_tru_int, R.ev_tru_non, R.ev_tru_lst, R.ev_tru_tup, R.ev_avRVs_nil, R.ev_avRVs_pl, R.ev_avRVs_rv, R.ev_share_pl, R.ev_share_N, R.ev_share_Z, R.ev_share_B, R.ev_lent_pl, R.ev_lent_N, R.ev_lent_Z, R.ev_lent_B, R.ev_fin_ret, R.ev_fin_next, R.ev_io_t, R.ev_io_f, R.ev_jGo_nil, R.ev_jGo_cons, R.ev_isi, R.ev_hold_t, R.ev_hold_fint, R.ev_hold_fstr, R.ev_hold_ftup, R.ev_hold_fbl, R.ev_settle_int, R.ev_settle_str, R.ev_settle_tup, R.ev_settle_bl, R.ev_settle_non, R.ev_share_int, R.ev_share_str, R.ev_share_tup, R.ev_lent_int, R.ev_lent_str, R.ev_lent_tup, R.hmd, is_s, sNo]
  · have hgl := hl.resolve_left hz
    have lo : lenOk n = true := lenOk_of (by omega)
    unfold txD at hg ⊢
    simp [R.ev_mC, R.ev_mVar, R.ev_mVarZ, R.ev_mOp, R.ev_mOpV, R.ev_mUn, R.ev_mANil, R.ev_mACons, R.ev_mTup, R.ev_mLst, R.ev_mNoPart, R.ev_mPart, R.ev_mSl, R.ev_tTrue, R.ev_tBool, R.ev_mCh, R.ev_tAndM, R.ev_tOrM, R.ev_tNotM, R.ev_mIfE, R.ev_mAndV, R.ev_mOrV, R.ev_mNotV, R.ev_cNil, R.ev_cPl, R.ev_cRv, R.ev_mBlt, R.ev_mM1, R.ev_mCall, R.ev_mNext, R.ev_mSeq, R.ev_mFl, R.ev_mDrop, R.ev_mRet, R.ev_mRetV, R.ev_mIfS, R.ev_mAsg, R.ev_mAug, R.ev_mSetP, R.ev_mLM, R.ev_iAnyM, R.ev_iRng1M, R.ev_iRng2M, R.ev_iEn1M, R.ev_iEnM, R.ev_iZipM, R.ev_mFor, R.ev_mLc, R.ev_mJoined, R.ev_slotRV, R.ev_frzSl, R.ev_relSl, R.ev_setSl, R.ev_lend, R.ev_setT_nm, R.ev_setT_tp, R.ev_setTs_nil, R.ev_setTs_cons, R.ev_hold_N, R.ev_hold_Z, R.ev_hold_B, R.ev_settle_N, R.ev_settle_Z, R.ev_settle_B, R.ev_isLst_lst, R.ev_isLst_tup, R.ev_isLst_int, R.ev_isLst_bl, R.ev_isLst_str, R.ev_isLst_non, R.ev_isLst_scr, R.ev_idx_lst, R.ev_idx_tup, R.ev_idx_scr, R.ev_idx_str, R.ev_neg, R.ev_add_int, R.ev_sub_int, R.ev_mul_int, R.ev_div_int, R.ev_mod_int, R.ev_pow_int, R.ev_add_str, R.ev_add_tup, R.ev_add_lst, R.ev_eq_int, R.ev_ne_int, R.ev_eq_str, R.ev_ne_str, R.ev_lt, R.ev_le, R.ev_gt, R.ev_ge, R.ev_is, R.ev_isNot, R.ev_none_tup, R.ev_none_lst, R.ev_none_int, R.ev_none_str, R.ev_none_non, R.ev_len_lst, R.ev_len_tup, R.ev_len_scr, R.ev_len_str, R.ev_abs, R.ev_int1, R.ev_str_int, R.ev_str_str, R.ev_list_lst, R.ev_list_tup, R.ev_tup_lst, R.ev_tup_tup, R.ev_fmt_str, R.ev_fmt_int, R.ev_sl_lst, R.ev_sl_tup, R.ev_sl_scr, R.ev_split, R.ev_join, R.ev_tru_bl, R.ev_tru_int, R.ev_tru_non, R.ev_tru_lst, R.ev_tru_tup, R.ev_avRVs_nil, R.ev_avRVs_pl, R.ev_avRVs_rv, R.ev_share_pl, R.ev_share_N, R.ev_share_Z, R.ev_share_B, R.ev_lent_pl, R.ev_lent_N, R.ev_lent_Z, R.ev_lent_B, R.ev_fin_ret, R.ev_fin_next, R.ev_io_t, R.ev_io_f, R.ev_jGo_nil, R.ev_jGo_cons, R.ev_isi, R.ev_hold_t, R.ev_hold_fint, R.ev_hold_fstr, R.ev_hold_ftup, R.ev_hold_fbl, R.ev_settle_int, R.ev_settle_str, R.ev_settle_tup, R.ev_settle_bl, R.ev_settle_non, R.ev_share_int, R.ev_share_str, R.ev_share_tup, R.ev_lent_int, R.ev_lent_str, R.ev_lent_tup, R.hmd, is_s, sNo, sEq, hz, hg, SX.S_len, lo, hgl]
theorem check_line {n : Nat} {w : List Nat} {t o : Int} {g : List Nat} (r : RowL n w t o g) (hn : n ≤ 12) : g_check_line [rowD w t o g, .int n] = .ret .N (.bl true) none := by
  have st : g_check_line [rowD w t o g, .int n] = fin false (m_check_line [.frz (rowD w t o g), .frz (.int n), .un, .un, .un, .un]) := rfl
  rw [st]
  unfold m_check_line rowD
  have i1 := is_index r.tt.1 r.tt.2
  have i2 := is_guard g r.gs r.gl hn
  have gl : isLst (txD g) = false := rfl
  by_cases hc : w = clearL
  · subst hc
    have ho := r.oc rfl
    subst ho
    simp [R.ev_mC, R.ev_mVar, R.ev_mVarZ, R.ev_mOp, R.ev_mOpV, R.ev_mUn, R.ev_mANil, R.ev_mACons, R.ev_mTup, R.ev_mLst, R.ev_mNoPart, R.ev_mPart, R.ev_mSl, R.ev_tTrue, R.ev_tBool, R.ev_mCh, R.ev_tAndM, R.ev_tOrM, R.ev_tNotM, R.ev_mIfE, R.ev_mAndV, R.ev_mOrV, R.ev_mNotV, R.ev_cNil, R.ev_cPl, R.ev_cRv, R.ev_mBlt, R.ev_mM1, R.ev_mCall, R.ev_mNext, R.ev_mSeq, R.ev_mFl, R.ev_mDrop, R.ev_mRet, R.ev_mRetV, R.ev_mIfS, R.ev_mAsg, R.ev_mAug, R.ev_mSetP, R.ev_mLM, R.ev_iAnyM, R.ev_iRng1M, R.ev_iRng2M, R.ev_iEn1M, R.ev_iEnM, R.ev_iZipM, R.ev_mFor, R.ev_mLc, R.ev_mJoined, R.ev_slotRV, R.ev_frzSl, R.ev_relSl, R.ev_setSl, R.ev_lend, R.ev_setT_nm, R.ev_setT_tp, R.ev_setTs_nil, R.ev_setTs_cons, R.ev_hold_N, R.ev_hold_Z, R.ev_hold_B, R.ev_settle_N, R.ev_settle_Z, R.ev_settle_B, R.ev_isLst_lst, R.ev_isLst_tup, R.ev_isLst_int, R.ev_isLst_bl, R.ev_isLst_str, R.ev_isLst_non, R.ev_isLst_scr, R.ev_idx_lst, R.ev_idx_tup, R.ev_idx_scr, R.ev_idx_str, R.ev_neg, R.ev_add_int, R.ev_sub_int, R.ev_mul_int, R.ev_div_int, R.ev_mod_int, R.ev_pow_int, R.ev_add_str, R.ev_add_tup, R.ev_add_lst, R.ev_eq_int, R.ev_ne_int, R.ev_eq_str, R.ev_ne_str, R.ev_lt, R.ev_le, R.ev_gt, R.ev_ge, R.ev_is, R.ev_isNot, R.ev_none_tup, R.ev_none_lst, R.ev_none_int, R.ev_none_str, R.ev_none_non, R.ev_len_lst, R.ev_len_tup, R.ev_len_scr, R.ev_len_str, R.ev_abs, R.ev_int1, R.ev_str_int, R.ev_str_str, R.ev_list_lst, R.ev_list_tup, R.ev_tup_lst, R.ev_tup_tup, R.ev_fmt_str, R.ev_fmt_int, R.ev_sl_lst, R.ev_sl_tup, R.ev_sl_scr, R.ev_split, R.ev_join, R.ev_tru_bl, R.ev_tru_int, R.ev_tru_non, R.ev_tru_lst, R.ev_tru_tup, R.ev_avRVs_nil, R.ev_avRVs_pl, R.ev_avRVs_rv, R.ev_share_pl, R.ev_share_N, R.ev_share_Z, R.ev_share_B, R.ev_lent_pl, R.ev_lent_N, R.ev_lent_Z, R.ev_lent_B, R.ev_fin_ret, R.ev_fin_next, R.ev_io_t, R.ev_io_f, R.ev_jGo_nil, R.ev_jGo_cons, R.ev_isi, R.ev_hold_t, R.ev_hold_fint, R.ev_hold_fstr, R.ev_hold_ftup, R.ev_hold_fbl, R.ev_settle_int, R.ev_settle_str, R.ev_settle_tup, R.ev_settle_bl, R.ev_settle_non, R.ev_share_int, R.ev_share_str, R.ev_share_tup, R.ev_lent_int, R.ev_lent_str, R.ev_lent_tup, R.hmd, is_t, is_i, i1, i2, gl, sClear, sEq]
  · obtain ⟨o0, o1, o2⟩ := r.on hc
    have i3 := is_index o0 o1
    rcases r.ww with h | h | h
    · exact absurd h hc
    · subst h
      simp [R.ev_mC, R.ev_mVar, R.ev_mVarZ, R.ev_mOp, R.ev_mOpV, R.ev_mUn, R.ev_mANil, R.ev_mACons, R.ev_mTup, R.ev_mLst, R.ev_mNoPart, R.ev_mPart, R.ev_mSl, R.ev_tTrue, R.ev_tBool, R.ev_mCh, R.ev_tAndM, R.ev_tOrM, R.ev_tNotM, R.ev_mIfE, R.ev_mAndV, R.ev_mOrV, R.ev_mNotV, R.ev_cNil, R.ev_cPl, R.ev_cRv, R.ev_mBlt, R.ev_mM1, R.ev_mCall, R.ev_mNext, R.ev_mSeq, R.ev_mFl, R.ev_mDrop, R.ev_mRet, R.ev_mRetV, R.ev_mIfS, R.ev_mAsg, R.ev_mAug, R.ev_mSetP, R.ev_mLM, R.ev_iAnyM, R.ev_iRng1M, R.ev_iRng2M, R.ev_iEn1M, R.ev_iEnM, R.ev_iZipM, R.ev_mFor, R.ev_mLc, R.ev_mJoined, R.ev_slotRV, R.ev_frzSl, R.ev_relSl, R.ev_setSl, R.ev_lend, R.ev_setT_nm, R.ev_setT_tp, R.ev_setTs_nil, R.ev_setTs_cons, R.ev_hold_N, R.ev_hold_Z, R.ev_hold_B, R.ev_settle_N, R.ev_settle_Z, R.ev_settle_B, R.ev_isLst_lst, R.ev_isLst_tup, R.ev_isLst_int, R.ev_isLst_bl, R.ev_isLst_str, R.ev_isLst_non, R.ev_isLst_scr, R.ev_idx_lst, R.ev_idx_tup, R.ev_idx_scr, R.ev_idx_str, R.ev_neg, R.ev_add_int, R.ev_sub_int, R.ev_mul_int, R.ev_div_int, R.ev_mod_int, R.ev_pow_int, R.ev_add_str, R.ev_add_tup, R.ev_add_lst, R.ev_eq_int, R.ev_ne_int, R.ev_eq_str, R.ev_ne_str, R.ev_lt, R.ev_le, R.ev_gt, R.ev_ge, R.ev_is, R.ev_isNot, R.ev_none_tup, R.ev_none_lst, R.ev_none_int, R.ev_none_str, R.ev_none_non, R.ev_len_lst, R.ev_len_tup, R.ev_len_scr, R.ev_len_str, R.ev_abs, R.ev_int1, R.ev_str_int, R.ev_str_str, R.ev_list_lst, R.ev_list_tup, R.ev_tup_lst, R.ev_tup_tup, R.ev_fmt_str, R.ev_fmt_int, R.ev_sl_lst, R.ev_sl_tup, R.ev_sl_scr, R.ev_split, R.ev_join, R.ev_tru_bl, R.ev_tru_int, R.ev_tru_non, R.ev_tru_lst, R.ev_tru_tup, R.ev_avRVs_nil, R.ev_avRVs_pl, R.ev_avRVs_rv, R.ev_share_pl, R.ev_share_N, R.ev_share_Z, R.ev_share_B, R.ev_lent_pl, R.ev_lent_N, R.ev_lent_Z, R.ev_lent_B, R.ev_fin_ret, R.ev_fin_next, R.ev_io_t, R.ev_io_f, R.ev_jGo_nil, R.ev_jGo_cons, R.ev_isi, R.ev_hold_t, R.ev_hold_fint, R.ev_hold_fstr, R.ev_hold_ftup, R.ev_hold_fbl, R.ev_settle_int, R.ev_settle_str, R.ev_settle_tup, R.ev_settle_bl, R.ev_settle_non, R.ev_share_int, R.ev_share_str, R.ev_share_tup, R.ev_lent_int, R.ev_lent_str, R.ev_lent_tup, R.hmd, is_t, is_i, i1, i2, i3, gl, sClear, sCopy, sMove, sEq, o2]
    · subst h
      simp [R.ev_mC, R.ev_mVar, R.ev_mVarZ, R.ev_mOp, R.ev_mOpV, R.ev_mUn, R.ev_mANil, R.ev_mACons, R.ev_mTup, R.ev_mLst, R.ev_mNoPart, R.ev_mPart, R.ev_mSl, R.ev_tTrue, R.ev_tBool, R.ev_mCh, R.ev_tAndM, R.ev_tOrM, R.ev_tNotM, R.ev_mIfE, R.ev_mAndV, R.ev_mOrV, R.ev_mNotV, R.ev_cNil, R.ev_cPl, R.ev_cRv, R.ev_mBlt, R.ev_mM1, R.ev_mCall, R.ev_mNext, R.ev_mSeq, R.ev_mFl, R.ev_mDrop, R.ev_mRet, R.ev_mRetV, R.ev_mIfS, R.ev_mAsg, R.ev_mAug, R.ev_mSetP, R.ev_mLM, R.ev_iAnyM, R.ev_iRng1M, R.ev_iRng2M, R.ev_iEn1M, R.ev_iEnM, R.ev_iZipM, R.ev_mFor, R.ev_mLc, R.ev_mJoined, R.ev_slotRV, R.ev_frzSl, R.ev_relSl, R.ev_setSl, R.ev_lend, R.ev_setT_nm, R.ev_setT_tp, R.ev_setTs_nil, R.ev_setTs_cons, R.ev_hold_N, R.ev_hold_Z, R.ev_hold_B, R.ev_settle_N, R.ev_settle_Z, R.ev_settle_B, R.ev_isLst_lst, R.ev_isLst_tup, R.ev_isLst_int, R.ev_isLst_bl, R.ev_isLst_str, R.ev_isLst_non, R.ev_isLst_scr, R.ev_idx_lst, R.ev_idx_tup, R.ev_idx_scr, R.ev_idx_str, R.ev_neg, R.ev_add_int, R.ev_sub_int, R.ev_mul_int, R.ev_div_int, R.ev_mod_int, R.ev_pow_int, R.ev_add_str, R.ev_add_tup, R.ev_add_lst, R.ev_eq_int, R.ev_ne_int, R.ev_eq_str, R.ev_ne_str, R.ev_lt, R.ev_le, R.ev_gt, R.ev_ge, R.ev_is, R.ev_isNot, R.ev_none_tup, R.ev_none_lst, R.ev_none_int, R.ev_none_str, R.ev_none_non, R.ev_len_lst, R.ev_len_tup, R.ev_len_scr, R.ev_len_str, R.ev_abs, R.ev_int1, R.ev_str_int, R.ev_str_str, R.ev_list_lst, R.ev_list_tup, R.ev_tup_lst, R.ev_tup_tup, R.ev_fmt_str, R.ev_fmt_int, R.ev_sl_lst, R.ev_sl_tup, R.ev_sl_scr, R.ev_split, R.ev_join, R.ev_tru_bl, R.ev_tru_int, R.ev_tru_non, R.ev_tru_lst, R.ev_tru_tup, R.ev_avRVs_nil, R.ev_avRVs_pl, R.ev_avRVs_rv, R.ev_share_pl, R.ev_share_N, R.ev_share_Z, R.ev_share_B, R.ev_lent_pl, R.ev_lent_N, R.ev_lent_Z, R.ev_lent_B, R.ev_fin_ret, R.ev_fin_next, R.ev_io_t, R.ev_io_f, R.ev_jGo_nil, R.ev_jGo_cons, R.ev_isi, R.ev_hold_t, R.ev_hold_fint, R.ev_hold_fstr, R.ev_hold_ftup, R.ev_hold_fbl, R.ev_settle_int, R.ev_settle_str, R.ev_settle_tup, R.ev_settle_bl, R.ev_settle_non, R.ev_share_int, R.ev_share_str, R.ev_share_tup, R.ev_lent_int, R.ev_lent_str, R.ev_lent_tup, R.hmd, is_t, is_i, i1, i2, i3, gl, sClear, sCopy, sMove, sEq, o2]
end K02

set_option Elab.async false
set_option linter.all false
set_option maxRecDepth 100000
set_option maxHeartbeats 2000000
namespace K02
open PySem PySem.Spec PyProof.Rows L2 R
/-! ### scripts -/
structure Rw where
  w : List Nat
  t : Int
  o : Int
  g : List Nat
def rD (r : Rw) : R.D := rowD r.w r.t r.o r.g
def RwOk (n : Nat) (r : Rw) : Prop := RowL n r.w r.t r.o r.g
def scD (rs : List Rw) : R.D := .lst (rs.map rD)
theorem check_script {n : Nat} {rs : List Rw} {es : List Int} (hr : ∀ r ∈ rs, RwOk n r) (hl : rs.length ≤ 60) (hi : ImOk es) (he : es.length = n) : g_check_script [scD rs, imD es] = .ret .N .non none := by
  have st : g_check_script [scD rs, imD es] = fin false (m_check_script [.frz (scD rs), .frz (imD es), .un, .un]) := rfl
  rw [st]
  unfold m_check_script
  have ci := check_image es hi
  have hn : n ≤ 12 := by have := hi.1.2; omega
  have lo : lenOk es.length = true := lenOk_of (by omega)
  have ls : lenOk rs.length = true := lenOk_of (by omega)
  have ng : ¬ ((60 : Int) < (rs.length : Nat)) := by omega
  generalize hmb : (mSeq (mIfS (tNotM (tTrue (mCall 2 g_check_line _))) _ _) mNext) = mb
  obtain ⟨S', e, y, z, rfl, _⟩ := forGo_inv (tg := .tp [.nm 2, .nm 3]) (mb := mb) (fun j S => ∃ y z, S = [.frz (scD rs), .frz (imD es), y, z] ∧ NI y ∧ NI z) (enumD 0 (rs.map rD)) 0 [.frz (scD rs), .frz (imD es), .un, .un] ⟨.un, .un, rfl, .inl rfl, .inl rfl⟩ (by
    rintro j d S hj ⟨y, z, rfl, n1, n2⟩
    rw [enumD_get, List.getElem?_map] at hj
    obtain ⟨d', hd', rfl⟩ := Option.map_eq_some_iff.mp hj
    obtain ⟨r, hr', rfl⟩ := Option.map_eq_some_iff.mp hd'
    have ck := check_line (hr r (List.mem_of_getElem? hr')) hn
    unfold rD
    generalize ((0 : Int) + (j : Nat)) = k
    have a1 : ∀ w t o g, isLst (rowD w t o g) = false := fun _ _ _ _ => rfl
    refine ⟨[.frz (scD rs), .frz (imD es), .frz (.int k), .frz (rowD r.w r.t r.o r.g)], [.frz (scD rs), .frz (imD es), .frz (.int k), .frz (rowD r.w r.t r.o r.g)], ?_, .inl ?_, _, _, rfl, .inr ⟨_, rfl⟩, .inr ⟨_, rfl⟩⟩
    · rcases n1 with rfl | ⟨_, rfl⟩ <;> rcases n2 with rfl | ⟨_, rfl⟩ <;> (rw [setT]; simp [R.ev_mC, R.ev_mVar, R.ev_mVarZ, R.ev_mOp, R.ev_mOpV, R.ev_mUn, R.ev_mANil, R.ev_mACons, R.ev_mTup, R.ev_mLst, R.ev_mNoPart, R.ev_mPart, R.ev_mSl, R.ev_tTrue, R.ev_tBool, R.ev_mCh, R.ev_tAndM, R.ev_tOrM, R.ev_tNotM, R.ev_mIfE, R.ev_mAndV, R.ev_mOrV, R.ev_mNotV, R.ev_cNil, R.ev_cPl, R.ev_cRv, R.ev_mBlt, R.ev_mM1, R.ev_mCall, R.ev_mNext, R.ev_mSeq, R.ev_mFl, R.ev_mDrop, R.ev_mRet, R.ev_mRetV, R.ev_mIfS, R.ev_mAsg, R.ev_mAug, R.ev_mSetP, R.ev_mLM, R.ev_iAnyM, R.ev_iRng1M, R.ev_iRng2M, R.ev_iEn1M, R.ev_iEnM, R.ev_iZipM, R.ev_mFor, R.ev_mLc, R.ev_mJoined, R.ev_slotRV, R.ev_frzSl, R.ev_relSl, R.ev_setSl, R.ev_lend, R.ev_setT_nm, R.ev_setT_tp, R.ev_setTs_nil, R.ev_setTs_cons, R.ev_hold_N, R.ev_hold_Z, R.ev_hold_B, R.ev_settle_N, R.ev_settle_Z, R.ev_settle_B, R.ev_isLst_lst, R.ev_isLst_tup, R.ev_isLst_int, R.ev_isLst_bl, R.ev_isLst_str, R.ev_isLst_non, R.ev_isLst_scr, R.ev_idx_lst, R.ev_idx_tup, R.ev_idx_scr, R.ev_idx_str, R.ev_neg, R.ev_add_int, R.ev_sub_int, R.ev_mul_int, R.ev_div_int, R.ev_mod_int, R.ev_pow_int, R.ev_add_str, R.ev_add_tup, R.ev_add_lst, R.ev_eq_int, R.ev_ne_int, R.ev_eq_str, R.ev_ne_str, R.ev_lt, R.ev_le, R.ev_gt, R.ev_ge, R.ev_is, R.ev_isNot, R.ev_none_tup, R.ev_none_lst, R.ev_none_int, R.ev_none_str, R.ev_none_non, R.ev_len_lst, R.ev_len_tup, R.ev_len_scr, R.ev_len_str, R.ev_abs, R.ev_int1, R.ev_str_int, R.ev_str_str, R.ev_list_lst, R.ev_list_tup, R.ev_tup_lst, R.ev_tup_tup, R.ev_fmt_str, R.ev_fmt_int, R.ev_sl_lst, R.ev_sl_tup, R.ev_sl_scr, R.ev_split, R.ev_join, R.ev_tru_bl, R.ev_tru_int, R.ev_tru_non, R.ev_tru_lst, R.ev_tru_tup, R.ev_avRVs_nil, R.ev_avRVs_pl, R.ev_avRVs_rv, R.ev_share_pl, R.ev_share_N, R.ev_share_Z, R.ev_share_B, R.ev_lent_pl, R.ev_lent_N, R.ev_lent_Z, R.ev_lent_B, R.ev_fin_ret, R.ev_fin_next, R.ev_io_t, R.ev_io_f, R.ev_jGo_nil, R.ev_jGo_cons, R.ev_isi, R.ev_hold_t, R.ev_hold_fint, R.ev_hold_fstr, R.ev_hold_ftup, R.ev_hold_fbl, R.ev_settle_int, R.ev_settle_str, R.ev_settle_tup, R.ev_settle_bl, R.ev_settle_non, R.ev_share_int, R.ev_share_str, R.ev_share_tup, R.ev_lent_int, R.ev_lent_str, R.ev_lent_tup, R.hmd, a1]) <;> rfl
    · subst hmb
      have lf : ∀ md, fLen [⟨md, imD es⟩] = some ⟨.N, .int n⟩ := fun md => by
        show some (⟨.N, .int ((es.map R.D.int).length : Nat)⟩ : RV) = _
        rw [List.length_map, he]
      unfold rowD at ck ⊢
      simp [R.ev_mC, R.ev_mVar, R.ev_mVarZ, R.ev_mOp, R.ev_mOpV, R.ev_mUn, R.ev_mANil, R.ev_mACons, R.ev_mTup, R.ev_mLst, R.ev_mNoPart, R.ev_mPart, R.ev_mSl, R.ev_tTrue, R.ev_tBool, R.ev_mCh, R.ev_tAndM, R.ev_tOrM, R.ev_tNotM, R.ev_mIfE, R.ev_mAndV, R.ev_mOrV, R.ev_mNotV, R.ev_cNil, R.ev_cPl, R.ev_cRv, R.ev_mBlt, R.ev_mM1, R.ev_mCall, R.ev_mNext, R.ev_mSeq, R.ev_mFl, R.ev_mDrop, R.ev_mRet, R.ev_mRetV, R.ev_mIfS, R.ev_mAsg, R.ev_mAug, R.ev_mSetP, R.ev_mLM, R.ev_iAnyM, R.ev_iRng1M, R.ev_iRng2M, R.ev_iEn1M, R.ev_iEnM, R.ev_iZipM, R.ev_mFor, R.ev_mLc, R.ev_mJoined, R.ev_slotRV, R.ev_frzSl, R.ev_relSl, R.ev_setSl, R.ev_lend, R.ev_setT_nm, R.ev_setT_tp, R.ev_setTs_nil, R.ev_setTs_cons, R.ev_hold_N, R.ev_hold_Z, R.ev_hold_B, R.ev_settle_N, R.ev_settle_Z, R.ev_settle_B, R.ev_isLst_lst, R.ev_isLst_tup, R.ev_isLst_int, R.ev_isLst_bl, R.ev_isLst_str, R.ev_isLst_non, R.ev_isLst_scr, R.ev_idx_lst, R.ev_idx_tup, R.ev_idx_scr, R.ev_idx_str, R.ev_neg, R.ev_add_int, R.ev_sub_int, R.ev_mul_int, R.ev_div_int, R.ev_mod_int, R.ev_pow_int, R.ev_add_str, R.ev_add_tup, R.ev_add_lst, R.ev_eq_int, R.ev_ne_int, R.ev_eq_str, R.ev_ne_str, R.ev_lt, R.ev_le, R.ev_gt, R.ev_ge, R.ev_is, R.ev_isNot, R.ev_none_tup, R.ev_none_lst, R.ev_none_int, R.ev_none_str, R.ev_none_non, R.ev_len_lst, R.ev_len_tup, R.ev_len_scr, R.ev_len_str, R.ev_abs, R.ev_int1, R.ev_str_int, R.ev_str_str, R.ev_list_lst, R.ev_list_tup, R.ev_tup_lst, R.ev_tup_tup, R.ev_fmt_str, R.ev_fmt_int, R.ev_sl_lst, R.ev_sl_tup, R.ev_sl_scr, R.ev_split, R.ev_join, R.ev_tru_bl, R.ev_tru_int, R.ev_tru_non, R.ev_tru_lst, R.ev_tru_tup, R.ev_avRVs_nil, R.ev_avRVs_pl, R.ev_avRVs_rv, R.ev_share_pl, R.ev_share_N, R.ev_share_Z, R.ev_share_B, R.ev_lent_pl, R.ev_lent_N, R.ev_lent_Z, R.ev_lent_B, R.ev_fin_ret, R.ev_fin_next, R.ev_io_t, R.ev_io_f, R.ev_jGo_nil, R.ev_jGo_cons, R.ev_isi, R.ev_hold_t, R.ev_hold_fint, R.ev_hold_fstr, R.ev_hold_ftup, R.ev_hold_fbl, R.ev_settle_int, R.ev_settle_str, R.ev_settle_tup, R.ev_settle_bl, R.ev_settle_non, R.ev_share_int, R.ev_share_str, R.ev_share_tup, R.ev_lent_int, R.ev_lent_str, R.ev_lent_tup, R.hmd, ck, lf])
  have hI : iEn1M (mACons (mVarZ 0) mANil) [.frz (scD rs), .frz (imD es), .un, .un] = .ok (enumD 0 (rs.map rD)) [.frz (scD rs), .frz (imD es), .un, .un] := rfl
  have hF : mFor (.tp [(.nm 2), (.nm 3)]) (iEn1M (mACons (mVarZ 0) mANil)) mb [.frz (scD rs), .frz (imD es), .un, .un] = .ok .next [.frz (scD rs), .frz (imD es), y, z] := by
    rw [R.ev_mFor, hI]
    exact e
  have a2 : isiB (scD rs) .list = true := rfl
  have a3 : ∀ md, fLen [⟨md, scD rs⟩] = some ⟨.N, .int rs.length⟩ := fun md => by
    show some (⟨.N, .int ((rs.map rD).length : Nat)⟩ : RV) = _
    rw [List.length_map]
  simp [R.ev_mC, R.ev_mVar, R.ev_mVarZ, R.ev_mOp, R.ev_mOpV, R.ev_mUn, R.ev_mANil, R.ev_mACons, R.ev_mTup, R.ev_mLst, R.ev_mNoPart, R.ev_mPart, R.ev_mSl, R.ev_tTrue, R.ev_tBool, R.ev_mCh, R.ev_tAndM, R.ev_tOrM, R.ev_tNotM, R.ev_mIfE, R.ev_mAndV, R.ev_mOrV, R.ev_mNotV, R.ev_cNil, R.ev_cPl, R.ev_cRv, R.ev_mBlt, R.ev_mM1, R.ev_mCall, R.ev_mNext, R.ev_mSeq, R.ev_mFl, R.ev_mDrop, R.ev_mRet, R.ev_mRetV, R.ev_mIfS, R.ev_mAsg, R.ev_mAug, R.ev_mSetP, R.ev_mLM, R.ev_iAnyM, R.ev_iRng2M, R.ev_iEn1M, R.ev_iEnM, R.ev_iZipM, R.ev_mJoined, R.ev_slotRV, R.ev_frzSl, R.ev_relSl, R.ev_setSl, R.ev_lend, R.ev_setT_nm, R.ev_setT_tp, R.ev_setTs_nil, R.ev_setTs_cons, R.ev_hold_N, R.ev_hold_Z, R.ev_hold_B, R.ev_settle_N, R.ev_settle_Z, R.ev_settle_B, R.ev_isLst_lst, R.ev_isLst_tup, R.ev_isLst_int, R.ev_isLst_bl, R.ev_isLst_str, R.ev_isLst_non, R.ev_isLst_scr, R.ev_idx_lst, R.ev_idx_tup, R.ev_idx_scr, R.ev_idx_str, R.ev_neg, R.ev_add_int, R.ev_sub_int, R.ev_mul_int, R.ev_div_int, R.ev_mod_int, R.ev_pow_int, R.ev_add_str, R.ev_add_tup, R.ev_add_lst, R.ev_eq_int, R.ev_ne_int, R.ev_eq_str, R.ev_ne_str, R.ev_lt, R.ev_le, R.ev_gt, R.ev_ge, R.ev_is, R.ev_isNot, R.ev_none_tup, R.ev_none_lst, R.ev_none_int, R.ev_none_str, R.ev_none_non, R.ev_len_lst, R.ev_len_tup, R.ev_len_scr, R.ev_len_str, R.ev_abs, R.ev_int1, R.ev_str_int, R.ev_str_str, R.ev_list_lst, R.ev_list_tup, R.ev_tup_lst, R.ev_tup_tup, R.ev_fmt_str, R.ev_fmt_int, R.ev_sl_lst, R.ev_sl_tup, R.ev_sl_scr, R.ev_split, R.ev_join, R.ev_tru_bl, R.ev_tru_int, R.ev_tru_non, R.ev_tru_lst, R.ev_tru_tup, R.ev_avRVs_nil, R.ev_avRVs_pl, R.ev_avRVs_rv, R.ev_share_pl, R.ev_share_N, R.ev_share_Z, R.ev_share_B, R.ev_lent_pl, R.ev_lent_N, R.ev_lent_Z, R.ev_lent_B, R.ev_fin_ret, R.ev_fin_next, R.ev_io_t, R.ev_io_f, R.ev_jGo_nil, R.ev_jGo_cons, R.ev_isi, R.ev_hold_t, R.ev_hold_fint, R.ev_hold_fstr, R.ev_hold_ftup, R.ev_hold_fbl, R.ev_settle_int, R.ev_settle_str, R.ev_settle_tup, R.ev_settle_bl, R.ev_settle_non, R.ev_share_int, R.ev_share_str, R.ev_share_tup, R.ev_lent_int, R.ev_lent_str, R.ev_lent_tup, R.hmd, ci, hF, a2, a3, ng]
end K02

set_option Elab.async false
set_option linter.all false
set_option maxRecDepth 100000
set_option maxHeartbeats 2000000
namespace K02
open PySem PySem.Spec PyProof.Rows L2 R
def stepE (r : Rw) (es : List Int) : List Int := (srcL r.w r.t r.o r.g (view es)).map (pick es)
def runE : List Rw → List Int → List Int
  | [], es => es
  | r :: rs, es => runE rs (stepE r es)
def path : List Rw → List Int → List (List Int)
  | [], es => [es]
  | r :: rs, es => es :: path rs (stepE r es)
theorem runE_snoc : ∀ (l : List Rw) (r : Rw) (es : List Int), runE (l ++ [r]) es = stepE r (runE l es)
  | [], _, _ => rfl
  | _ :: l, r, _ => runE_snoc l r _
theorem path_snoc : ∀ (l : List Rw) (r : Rw) (es : List Int), path (l ++ [r]) es = path l es ++ [stepE r (runE l es)]
  | [], _, _ => rfl
  | x :: l, r, es => by
    show es :: path (l ++ [r]) (stepE x es) = _
    rw [path_snoc l r]; rfl
theorem path_len : ∀ (l : List Rw) (es : List Int), (path l es).length = l.length + 1
  | [], _ => rfl
  | _ :: l, es => by rw [path, List.length_cons, path_len l, List.length_cons]
theorem path_last : ∀ (l : List Rw) (es : List Int), ∃ pre, path l es = pre ++ [runE l es]
  | [], es => ⟨[], rfl⟩
  | r :: l, es => by
    obtain ⟨pre, h⟩ := path_last l (stepE r es)
    exact ⟨es :: pre, by rw [path, h]; rfl⟩
theorem step_ok {n : Nat} {r : Rw} {es : List Int} (hr : RwOk n r) (hi : ImOk es) (he : es.length = n) : ImOk (stepE r es) ∧ (stepE r es).length = n := by
  have hs := src_ok (v := view es) hr (by rw [view_len]; exact he)
  refine ⟨pick_ok hs hi he, ?_⟩
  unfold stepE
  rw [List.length_map]; exact hs.1
theorem run_ok {n : Nat} : ∀ {rs : List Rw} {es : List Int}, (∀ r ∈ rs, RwOk n r) → ImOk es → es.length = n → ImOk (runE rs es) ∧ (runE rs es).length = n
  | [], _, _, hi, he => ⟨hi, he⟩
  | r :: rs, es, hr, hi, he => by
    obtain ⟨a, b⟩ := step_ok (hr r (List.mem_cons_self ..)) hi he
    exact run_ok (rs := rs) (fun x hx => hr x (List.mem_cons_of_mem _ hx)) a b
theorem take_snoc {α : Type} {l : List α} {j : Nat} {a : α} (h : l[j]? = some a) : l.take (j + 1) = l.take j ++ [a] := by
  rw [List.take_add_one, h]; rfl
def imsD (l : List (List Int)) : R.D := .lst (l.map imD)
theorem images {n : Nat} {rs : List Rw} {es : List Int} (hr : ∀ r ∈ rs, RwOk n r) (hl : rs.length ≤ 60) (hi : ImOk es) (he : es.length = n) : g_images [scD rs, imD es] = .ret .N (imsD (path rs es)) none := by
  have st : g_images [scD rs, imD es] = fin false (m_images [.frz (scD rs), .frz (imD es), .un, .un, .un]) := rfl
  rw [st]
  unfold m_images
  have cs := check_script hr hl hi he
  generalize hmb : (mSeq (mAsg (.nm 2) (mCall 2 g_apply_line _)) _) = mb
  have a1 : ∀ l, isLst (imD l) = false := fun _ => rfl
  have a2 : ∀ q md l, hold q ⟨md, imD l⟩ = some ⟨hmd q md, imD l⟩ := fun q md l => R.ev_hold_ftup
  have a5 : ∀ w t o g, isLst (rowD w t o g) = false := fun _ _ _ _ => rfl
  have a6 : ∀ q md w t o g, hold q ⟨md, rowD w t o g⟩ = some ⟨hmd q md, rowD w t o g⟩ := fun q md w t o g => R.ev_hold_ftup
  have a9 : ∀ md l, R.settle ⟨md, imD l⟩ = some ⟨hmd false md, imD l⟩ := fun md l => R.ev_settle_tup
  have a10 : ∀ md l, apart md (imD l) = true := fun md l => ap_ints md _
  obtain ⟨S', e, y, rfl, _⟩ := forGo_inv (tg := .nm 4) (mb := mb) (fun j S => ∃ y, S = [.frz (scD rs), .frz (imD es), .frz (imD (runE (rs.take j) es)), .own (imsD (path (rs.take j) es)), y] ∧ NI y) (rs.map rD) 0 [.frz (scD rs), .frz (imD es), .frz (imD es), .own (.lst [imD es]), .un] ⟨.un, rfl, .inl rfl⟩ (by
    rintro j d S hj ⟨y, rfl, n1⟩
    rw [List.getElem?_map] at hj
    obtain ⟨r, hr', rfl⟩ := Option.map_eq_some_iff.mp hj
    rw [Nat.zero_add, take_snoc hr', runE_snoc, path_snoc]
    have hro := hr r (List.mem_of_getElem? hr')
    have hk := run_ok (rs := rs.take j) (fun x hx => hr x (List.mem_of_mem_take hx)) hi he
    have pl : (path (rs.take j) es).length ≤ 61 := by
      rw [path_len, List.length_take]
      omega
    have ap := apply_line hro hk.1 hk.2
    have hst : (srcL r.w r.t r.o r.g (view (runE (rs.take j) es))).map (pick (runE (rs.take j) es)) = stepE r (runE (rs.take j) es) := rfl
    rw [hst] at ap
    generalize stepE r (runE (rs.take j) es) = e2 at ap ⊢
    generalize runE (rs.take j) es = e1 at ap ⊢
    generalize path (rs.take j) es = pp at pl ⊢
    have hln : lenOk pp.length = true := lenOk_of (by omega)
    refine ⟨[.frz (scD rs), .frz (imD es), .frz (imD e1), .own (imsD pp), .frz (rD r)], [.frz (scD rs), .frz (imD es), .frz (imD e2), .own (imsD (pp ++ [e2])), .frz (rD r)], ?_, .inl ?_, _, rfl, .inr ⟨_, rfl⟩⟩
    · unfold rD
      rcases n1 with rfl | ⟨_, rfl⟩ <;> simp [R.ev_mC, R.ev_mVar, R.ev_mVarZ, R.ev_mOp, R.ev_mOpV, R.ev_mUn, R.ev_mANil, R.ev_mACons, R.ev_mTup, R.ev_mLst, R.ev_mNoPart, R.ev_mPart, R.ev_mSl, R.ev_tTrue, R.ev_tBool, R.ev_mCh, R.ev_tAndM, R.ev_tOrM, R.ev_tNotM, R.ev_mIfE, R.ev_mAndV, R.ev_mOrV, R.ev_mNotV, R.ev_cNil, R.ev_cPl, R.ev_cRv, R.ev_mBlt, R.ev_mM1, R.ev_mCall, R.ev_mNext, R.ev_mSeq, R.ev_mFl, R.ev_mDrop, R.ev_mRet, R.ev_mRetV, R.ev_mIfS, R.ev_mAsg, R.ev_mAug, R.ev_mSetP, R.ev_mLM, R.ev_iAnyM, R.ev_iRng1M, R.ev_iRng2M, R.ev_iEn1M, R.ev_iEnM, R.ev_iZipM, R.ev_mFor, R.ev_mLc, R.ev_mJoined, R.ev_slotRV, R.ev_frzSl, R.ev_relSl, R.ev_setSl, R.ev_lend, R.ev_setT_nm, R.ev_setT_tp, R.ev_setTs_nil, R.ev_setTs_cons, R.ev_hold_N, R.ev_hold_Z, R.ev_hold_B, R.ev_settle_N, R.ev_settle_Z, R.ev_settle_B, R.ev_isLst_lst, R.ev_isLst_tup, R.ev_isLst_int, R.ev_isLst_bl, R.ev_isLst_str, R.ev_isLst_non, R.ev_isLst_scr, R.ev_idx_lst, R.ev_idx_tup, R.ev_idx_scr, R.ev_idx_str, R.ev_neg, R.ev_add_int, R.ev_sub_int, R.ev_mul_int, R.ev_div_int, R.ev_mod_int, R.ev_pow_int, R.ev_add_str, R.ev_add_tup, R.ev_add_lst, R.ev_eq_int, R.ev_ne_int, R.ev_eq_str, R.ev_ne_str, R.ev_lt, R.ev_le, R.ev_gt, R.ev_ge, R.ev_is, R.ev_isNot, R.ev_none_tup, R.ev_none_lst, R.ev_none_int, R.ev_none_str, R.ev_none_non, R.ev_len_lst, R.ev_len_tup, R.ev_len_scr, R.ev_len_str, R.ev_abs, R.ev_int1, R.ev_str_int, R.ev_str_str, R.ev_list_lst, R.ev_list_tup, R.ev_tup_lst, R.ev_tup_tup, R.ev_fmt_str, R.ev_fmt_int, R.ev_sl_lst, R.ev_sl_tup, R.ev_sl_scr, R.ev_split, R.ev_join, R.ev_tru_bl, R.ev_tru_int, R.ev_tru_non, R.ev_tru_lst, R.ev_tru_tup, R.ev_avRVs_nil, R.ev_avRVs_pl, R.ev_avRVs_rv, R.ev_share_pl, R.ev_share_N, R.ev_share_Z, R.ev_share_B, R.ev_lent_pl, R.ev_lent_N, R.ev_lent_Z, R.ev_lent_B, R.ev_fin_ret, R.ev_fin_next, R.ev_io_t, R.ev_io_f, R.ev_jGo_nil, R.ev_jGo_cons, R.ev_isi, R.ev_hold_t, R.ev_hold_fint, R.ev_hold_fstr, R.ev_hold_ftup, R.ev_hold_fbl, R.ev_settle_int, R.ev_settle_str, R.ev_settle_tup, R.ev_settle_bl, R.ev_settle_non, R.ev_share_int, R.ev_share_str, R.ev_share_tup, R.ev_lent_int, R.ev_lent_str, R.ev_lent_tup, R.hmd, a5]
    · subst hmb
      unfold rD imsD
      simp [R.ev_mC, R.ev_mVar, R.ev_mVarZ, R.ev_mOp, R.ev_mOpV, R.ev_mUn, R.ev_mANil, R.ev_mACons, R.ev_mTup, R.ev_mLst, R.ev_mNoPart, R.ev_mPart, R.ev_mSl, R.ev_tTrue, R.ev_tBool, R.ev_mCh, R.ev_tAndM, R.ev_tOrM, R.ev_tNotM, R.ev_mIfE, R.ev_mAndV, R.ev_mOrV, R.ev_mNotV, R.ev_cNil, R.ev_cPl, R.ev_cRv, R.ev_mBlt, R.ev_mM1, R.ev_mCall, R.ev_mNext, R.ev_mSeq, R.ev_mFl, R.ev_mDrop, R.ev_mRet, R.ev_mRetV, R.ev_mIfS, R.ev_mAsg, R.ev_mAug, R.ev_mSetP, R.ev_mLM, R.ev_iAnyM, R.ev_iRng1M, R.ev_iRng2M, R.ev_iEn1M, R.ev_iEnM, R.ev_iZipM, R.ev_mFor, R.ev_mLc, R.ev_mJoined, R.ev_slotRV, R.ev_frzSl, R.ev_relSl, R.ev_setSl, R.ev_lend, R.ev_setT_nm, R.ev_setT_tp, R.ev_setTs_nil, R.ev_setTs_cons, R.ev_hold_N, R.ev_hold_Z, R.ev_hold_B, R.ev_settle_N, R.ev_settle_Z, R.ev_settle_B, R.ev_isLst_lst, R.ev_isLst_tup, R.ev_isLst_int, R.ev_isLst_bl, R.ev_isLst_str, R.ev_isLst_non, R.ev_isLst_scr, R.ev_idx_lst, R.ev_idx_tup, R.ev_idx_scr, R.ev_idx_str, R.ev_neg, R.ev_add_int, R.ev_sub_int, R.ev_mul_int, R.ev_div_int, R.ev_mod_int, R.ev_pow_int, R.ev_add_str, R.ev_add_tup, R.ev_add_lst, R.ev_eq_int, R.ev_ne_int, R.ev_eq_str, R.ev_ne_str, R.ev_lt, R.ev_le, R.ev_gt, R.ev_ge, R.ev_is, R.ev_isNot, R.ev_none_tup, R.ev_none_lst, R.ev_none_int, R.ev_none_str, R.ev_none_non, R.ev_len_lst, R.ev_len_tup, R.ev_len_scr, R.ev_len_str, R.ev_abs, R.ev_int1, R.ev_str_int, R.ev_str_str, R.ev_list_lst, R.ev_list_tup, R.ev_tup_lst, R.ev_tup_tup, R.ev_fmt_str, R.ev_fmt_int, R.ev_sl_lst, R.ev_sl_tup, R.ev_sl_scr, R.ev_split, R.ev_join, R.ev_tru_bl, R.ev_tru_int, R.ev_tru_non, R.ev_tru_lst, R.ev_tru_tup, R.ev_avRVs_nil, R.ev_avRVs_pl, R.ev_avRVs_rv, R.ev_share_pl, R.ev_share_N, R.ev_share_Z, R.ev_share_B, R.ev_lent_pl, R.ev_lent_N, R.ev_lent_Z, R.ev_lent_B, R.ev_fin_ret, R.ev_fin_next, R.ev_io_t, R.ev_io_f, R.ev_jGo_nil, R.ev_jGo_cons, R.ev_isi, R.ev_hold_t, R.ev_hold_fint, R.ev_hold_fstr, R.ev_hold_ftup, R.ev_hold_fbl, R.ev_settle_int, R.ev_settle_str, R.ev_settle_tup, R.ev_settle_bl, R.ev_settle_non, R.ev_share_int, R.ev_share_str, R.ev_share_tup, R.ev_lent_int, R.ev_lent_str, R.ev_lent_tup, R.hmd, ap, a1, a2, a5, a6, a9, a10, lmAppend, isL, hln])
  have hI : iAnyM (mVarZ 0) [.frz (scD rs), .frz (imD es), .frz (imD es), .own (.lst [imD es]), .un] = .ok (rs.map rD) [.frz (scD rs), .frz (imD es), .frz (imD es), .own (.lst [imD es]), .un] := rfl
  have hF : mFor (.nm 4) (iAnyM (mVarZ 0)) mb [.frz (scD rs), .frz (imD es), .frz (imD es), .own (.lst [imD es]), .un] = .ok .next [.frz (scD rs), .frz (imD es), .frz (imD (runE (rs.take (0 + (rs.map rD).length)) es)), .own (imsD (path (rs.take (0 + (rs.map rD).length)) es)), y] := by
    rw [R.ev_mFor, hI]
    exact e
  rw [Nat.zero_add, List.length_map, List.take_length] at hF
  have l1 : lenOk 1 = true := by decide
  simp [R.ev_mC, R.ev_mVar, R.ev_mVarZ, R.ev_mOp, R.ev_mOpV, R.ev_mUn, R.ev_mANil, R.ev_mACons, R.ev_mTup, R.ev_mLst, R.ev_mNoPart, R.ev_mPart, R.ev_mSl, R.ev_tTrue, R.ev_tBool, R.ev_mCh, R.ev_tAndM, R.ev_tOrM, R.ev_tNotM, R.ev_mIfE, R.ev_mAndV, R.ev_mOrV, R.ev_mNotV, R.ev_cNil, R.ev_cPl, R.ev_cRv, R.ev_mBlt, R.ev_mM1, R.ev_mCall, R.ev_mNext, R.ev_mSeq, R.ev_mFl, R.ev_mDrop, R.ev_mRet, R.ev_mRetV, R.ev_mIfS, R.ev_mAsg, R.ev_mAug, R.ev_mSetP, R.ev_mLM, R.ev_iAnyM, R.ev_iRng2M, R.ev_iEn1M, R.ev_iEnM, R.ev_iZipM, R.ev_mJoined, R.ev_slotRV, R.ev_frzSl, R.ev_relSl, R.ev_setSl, R.ev_lend, R.ev_setT_nm, R.ev_setT_tp, R.ev_setTs_nil, R.ev_setTs_cons, R.ev_hold_N, R.ev_hold_Z, R.ev_hold_B, R.ev_settle_N, R.ev_settle_Z, R.ev_settle_B, R.ev_isLst_lst, R.ev_isLst_tup, R.ev_isLst_int, R.ev_isLst_bl, R.ev_isLst_str, R.ev_isLst_non, R.ev_isLst_scr, R.ev_idx_lst, R.ev_idx_tup, R.ev_idx_scr, R.ev_idx_str, R.ev_neg, R.ev_add_int, R.ev_sub_int, R.ev_mul_int, R.ev_div_int, R.ev_mod_int, R.ev_pow_int, R.ev_add_str, R.ev_add_tup, R.ev_add_lst, R.ev_eq_int, R.ev_ne_int, R.ev_eq_str, R.ev_ne_str, R.ev_lt, R.ev_le, R.ev_gt, R.ev_ge, R.ev_is, R.ev_isNot, R.ev_none_tup, R.ev_none_lst, R.ev_none_int, R.ev_none_str, R.ev_none_non, R.ev_len_lst, R.ev_len_tup, R.ev_len_scr, R.ev_len_str, R.ev_abs, R.ev_int1, R.ev_str_int, R.ev_str_str, R.ev_list_lst, R.ev_list_tup, R.ev_tup_lst, R.ev_tup_tup, R.ev_fmt_str, R.ev_fmt_int, R.ev_sl_lst, R.ev_sl_tup, R.ev_sl_scr, R.ev_split, R.ev_join, R.ev_tru_bl, R.ev_tru_int, R.ev_tru_non, R.ev_tru_lst, R.ev_tru_tup, R.ev_avRVs_nil, R.ev_avRVs_pl, R.ev_avRVs_rv, R.ev_share_pl, R.ev_share_N, R.ev_share_Z, R.ev_share_B, R.ev_lent_pl, R.ev_lent_N, R.ev_lent_Z, R.ev_lent_B, R.ev_fin_ret, R.ev_fin_next, R.ev_io_t, R.ev_io_f, R.ev_jGo_nil, R.ev_jGo_cons, R.ev_isi, R.ev_hold_t, R.ev_hold_fint, R.ev_hold_fstr, R.ev_hold_ftup, R.ev_hold_fbl, R.ev_settle_int, R.ev_settle_str, R.ev_settle_tup, R.ev_settle_bl, R.ev_settle_non, R.ev_share_int, R.ev_share_str, R.ev_share_tup, R.ev_lent_int, R.ev_lent_str, R.ev_lent_tup, R.hmd, cs, a1, a2, a9, a10, l1, hF]
end K02

set_option Elab.async false
set_option linter.all false
set_option maxRecDepth 100000
set_option maxHeartbeats 2000000
namespace K02
open PySem PySem.Spec PyProof.Rows L2 R
theorem plain_run {n : Nat} {rs : List Rw} {es : List Int} (hr : ∀ r ∈ rs, RwOk n r) (hl : rs.length ≤ 60) (hi : ImOk es) (he : es.length = n) : ∃ md, g_plain_run [scD rs, imD es] = .ret md (imD (runE rs es)) none := by
  have st : g_plain_run [scD rs, imD es] = fin false (m_plain_run [.frz (scD rs), .frz (imD es)]) := rfl
  rw [st]
  unfold m_plain_run
  have im := images hr hl hi he
  obtain ⟨pre, hp⟩ := path_last rs es
  have hx : ∀ md md', fIdx ⟨md, imsD (path rs es)⟩ ⟨md', .int (-1)⟩ = some ⟨.Z, imD (runE rs es)⟩ := fun md md' => by
    show (L2.atI ((path rs es).map imD) (-1)).map _ = _
    rw [hp, List.map_append, List.map_singleton, at_m1]; rfl
  have a9 : ∀ md l, R.settle ⟨md, imD l⟩ = some ⟨hmd false md, imD l⟩ := fun md l => R.ev_settle_tup
  have a3 : isLst (scD rs) = true := rfl
  have a1 : ∀ l, isLst (imD l) = false := fun _ => rfl
  refine ⟨.Z, ?_⟩
  simp [R.ev_mC, R.ev_mVar, R.ev_mVarZ, R.ev_mOp, R.ev_mOpV, R.ev_mUn, R.ev_mANil, R.ev_mACons, R.ev_mTup, R.ev_mLst, R.ev_mNoPart, R.ev_mPart, R.ev_mSl, R.ev_tTrue, R.ev_tBool, R.ev_mCh, R.ev_tAndM, R.ev_tOrM, R.ev_tNotM, R.ev_mIfE, R.ev_mAndV, R.ev_mOrV, R.ev_mNotV, R.ev_cNil, R.ev_cPl, R.ev_cRv, R.ev_mBlt, R.ev_mM1, R.ev_mCall, R.ev_mNext, R.ev_mSeq, R.ev_mFl, R.ev_mDrop, R.ev_mRet, R.ev_mRetV, R.ev_mIfS, R.ev_mAsg, R.ev_mAug, R.ev_mSetP, R.ev_mLM, R.ev_iAnyM, R.ev_iRng1M, R.ev_iRng2M, R.ev_iEn1M, R.ev_iEnM, R.ev_iZipM, R.ev_mFor, R.ev_mLc, R.ev_mJoined, R.ev_slotRV, R.ev_frzSl, R.ev_relSl, R.ev_setSl, R.ev_lend, R.ev_setT_nm, R.ev_setT_tp, R.ev_setTs_nil, R.ev_setTs_cons, R.ev_hold_N, R.ev_hold_Z, R.ev_hold_B, R.ev_settle_N, R.ev_settle_Z, R.ev_settle_B, R.ev_isLst_lst, R.ev_isLst_tup, R.ev_isLst_int, R.ev_isLst_bl, R.ev_isLst_str, R.ev_isLst_non, R.ev_isLst_scr, R.ev_idx_lst, R.ev_idx_tup, R.ev_idx_scr, R.ev_idx_str, R.ev_neg, R.ev_add_int, R.ev_sub_int, R.ev_mul_int, R.ev_div_int, R.ev_mod_int, R.ev_pow_int, R.ev_add_str, R.ev_add_tup, R.ev_add_lst, R.ev_eq_int, R.ev_ne_int, R.ev_eq_str, R.ev_ne_str, R.ev_lt, R.ev_le, R.ev_gt, R.ev_ge, R.ev_is, R.ev_isNot, R.ev_none_tup, R.ev_none_lst, R.ev_none_int, R.ev_none_str, R.ev_none_non, R.ev_len_lst, R.ev_len_tup, R.ev_len_scr, R.ev_len_str, R.ev_abs, R.ev_int1, R.ev_str_int, R.ev_str_str, R.ev_list_lst, R.ev_list_tup, R.ev_tup_lst, R.ev_tup_tup, R.ev_fmt_str, R.ev_fmt_int, R.ev_sl_lst, R.ev_sl_tup, R.ev_sl_scr, R.ev_split, R.ev_join, R.ev_tru_bl, R.ev_tru_int, R.ev_tru_non, R.ev_tru_lst, R.ev_tru_tup, R.ev_avRVs_nil, R.ev_avRVs_pl, R.ev_avRVs_rv, R.ev_share_pl, R.ev_share_N, R.ev_share_Z, R.ev_share_B, R.ev_lent_pl, R.ev_lent_N, R.ev_lent_Z, R.ev_lent_B, R.ev_fin_ret, R.ev_fin_next, R.ev_io_t, R.ev_io_f, R.ev_jGo_nil, R.ev_jGo_cons, R.ev_isi, R.ev_hold_t, R.ev_hold_fint, R.ev_hold_fstr, R.ev_hold_ftup, R.ev_hold_fbl, R.ev_settle_int, R.ev_settle_str, R.ev_settle_tup, R.ev_settle_bl, R.ev_settle_non, R.ev_share_int, R.ev_share_str, R.ev_share_tup, R.ev_lent_int, R.ev_lent_str, R.ev_lent_tup, R.hmd, im, hx, a9, a1, a3]
def lookE (r : Rw) (v : List Nat) : List Nat := (srcL r.w r.t r.o r.g v).map (pickV v)
def flowE : List Rw → List Nat → List Int → List Int
  | [], _, os => os
  | r :: rs, v, os => flowE rs (lookE r v) ((srcL r.w r.t r.o r.g v).map (pick os))
theorem size (b : R.D) (hb : Bag b) : ∃ b' md r, g_law_size [b] = .ret md (.int r) (some b') ∧ Bag b' ∧ 0 ≤ r ∧ r ≤ 60 := by
  have st : g_law_size [b] = fin true (m_law_size [.io b, .un]) := rfl
  rw [st]
  unfold m_law_size
  obtain ⟨b1, md1, r1, e1, hb1, p1, q1⟩ := draw b 7 hb (by decide) (by decide)
  obtain ⟨b2, md2, r2, e2, hb2, p2, q2⟩ := draw b1 6 hb1 (by decide) (by decide)
  obtain ⟨b3, md3, r3, e3, hb3, p3, q3⟩ := draw b2 41 hb2 (by decide) (by decide)
  by_cases h : r2 = 1
  · refine ⟨b3, .Z, 20 + r3, ?_, hb3, by omega, by omega⟩
    simp [R.ev_mC, R.ev_mVar, R.ev_mVarZ, R.ev_mOp, R.ev_mOpV, R.ev_mUn, R.ev_mANil, R.ev_mACons, R.ev_mTup, R.ev_mLst, R.ev_mNoPart, R.ev_mPart, R.ev_mSl, R.ev_tTrue, R.ev_tBool, R.ev_mCh, R.ev_tAndM, R.ev_tOrM, R.ev_tNotM, R.ev_mIfE, R.ev_mAndV, R.ev_mOrV, R.ev_mNotV, R.ev_cNil, R.ev_cPl, R.ev_cRv, R.ev_mBlt, R.ev_mM1, R.ev_mCall, R.ev_mNext, R.ev_mSeq, R.ev_mFl, R.ev_mDrop, R.ev_mRet, R.ev_mRetV, R.ev_mIfS, R.ev_mAsg, R.ev_mAug, R.ev_mSetP, R.ev_mLM, R.ev_iAnyM, R.ev_iRng1M, R.ev_iRng2M, R.ev_iEn1M, R.ev_iEnM, R.ev_iZipM, R.ev_mFor, R.ev_mLc, R.ev_mJoined, R.ev_slotRV, R.ev_frzSl, R.ev_relSl, R.ev_setSl, R.ev_lend, R.ev_setT_nm, R.ev_setT_tp, R.ev_setTs_nil, R.ev_setTs_cons, R.ev_hold_N, R.ev_hold_Z, R.ev_hold_B, R.ev_settle_N, R.ev_settle_Z, R.ev_settle_B, R.ev_isLst_lst, R.ev_isLst_tup, R.ev_isLst_int, R.ev_isLst_bl, R.ev_isLst_str, R.ev_isLst_non, R.ev_isLst_scr, R.ev_idx_lst, R.ev_idx_tup, R.ev_idx_scr, R.ev_idx_str, R.ev_neg, R.ev_add_int, R.ev_sub_int, R.ev_mul_int, R.ev_div_int, R.ev_mod_int, R.ev_pow_int, R.ev_add_str, R.ev_add_tup, R.ev_add_lst, R.ev_eq_int, R.ev_ne_int, R.ev_eq_str, R.ev_ne_str, R.ev_lt, R.ev_le, R.ev_gt, R.ev_ge, R.ev_is, R.ev_isNot, R.ev_none_tup, R.ev_none_lst, R.ev_none_int, R.ev_none_str, R.ev_none_non, R.ev_len_lst, R.ev_len_tup, R.ev_len_scr, R.ev_len_str, R.ev_abs, R.ev_int1, R.ev_str_int, R.ev_str_str, R.ev_list_lst, R.ev_list_tup, R.ev_tup_lst, R.ev_tup_tup, R.ev_fmt_str, R.ev_fmt_int, R.ev_sl_lst, R.ev_sl_tup, R.ev_sl_scr, R.ev_split, R.ev_join, R.ev_tru_bl, R.ev_tru_int, R.ev_tru_non, R.ev_tru_lst, R.ev_tru_tup, R.ev_avRVs_nil, R.ev_avRVs_pl, R.ev_avRVs_rv, R.ev_share_pl, R.ev_share_N, R.ev_share_Z, R.ev_share_B, R.ev_lent_pl, R.ev_lent_N, R.ev_lent_Z, R.ev_lent_B, R.ev_fin_ret, R.ev_fin_next, R.ev_io_t, R.ev_io_f, R.ev_jGo_nil, R.ev_jGo_cons, R.ev_isi, R.ev_hold_t, R.ev_hold_fint, R.ev_hold_fstr, R.ev_hold_ftup, R.ev_hold_fbl, R.ev_settle_int, R.ev_settle_str, R.ev_settle_tup, R.ev_settle_bl, R.ev_settle_non, R.ev_share_int, R.ev_share_str, R.ev_share_tup, R.ev_lent_int, R.ev_lent_str, R.ev_lent_tup, R.hmd, e1, e2, e3, h]
  · refine ⟨b2, .Z, r1, ?_, hb2, by omega, by omega⟩
    simp [R.ev_mC, R.ev_mVar, R.ev_mVarZ, R.ev_mOp, R.ev_mOpV, R.ev_mUn, R.ev_mANil, R.ev_mACons, R.ev_mTup, R.ev_mLst, R.ev_mNoPart, R.ev_mPart, R.ev_mSl, R.ev_tTrue, R.ev_tBool, R.ev_mCh, R.ev_tAndM, R.ev_tOrM, R.ev_tNotM, R.ev_mIfE, R.ev_mAndV, R.ev_mOrV, R.ev_mNotV, R.ev_cNil, R.ev_cPl, R.ev_cRv, R.ev_mBlt, R.ev_mM1, R.ev_mCall, R.ev_mNext, R.ev_mSeq, R.ev_mFl, R.ev_mDrop, R.ev_mRet, R.ev_mRetV, R.ev_mIfS, R.ev_mAsg, R.ev_mAug, R.ev_mSetP, R.ev_mLM, R.ev_iAnyM, R.ev_iRng1M, R.ev_iRng2M, R.ev_iEn1M, R.ev_iEnM, R.ev_iZipM, R.ev_mFor, R.ev_mLc, R.ev_mJoined, R.ev_slotRV, R.ev_frzSl, R.ev_relSl, R.ev_setSl, R.ev_lend, R.ev_setT_nm, R.ev_setT_tp, R.ev_setTs_nil, R.ev_setTs_cons, R.ev_hold_N, R.ev_hold_Z, R.ev_hold_B, R.ev_settle_N, R.ev_settle_Z, R.ev_settle_B, R.ev_isLst_lst, R.ev_isLst_tup, R.ev_isLst_int, R.ev_isLst_bl, R.ev_isLst_str, R.ev_isLst_non, R.ev_isLst_scr, R.ev_idx_lst, R.ev_idx_tup, R.ev_idx_scr, R.ev_idx_str, R.ev_neg, R.ev_add_int, R.ev_sub_int, R.ev_mul_int, R.ev_div_int, R.ev_mod_int, R.ev_pow_int, R.ev_add_str, R.ev_add_tup, R.ev_add_lst, R.ev_eq_int, R.ev_ne_int, R.ev_eq_str, R.ev_ne_str, R.ev_lt, R.ev_le, R.ev_gt, R.ev_ge, R.ev_is, R.ev_isNot, R.ev_none_tup, R.ev_none_lst, R.ev_none_int, R.ev_none_str, R.ev_none_non, R.ev_len_lst, R.ev_len_tup, R.ev_len_scr, R.ev_len_str, R.ev_abs, R.ev_int1, R.ev_str_int, R.ev_str_str, R.ev_list_lst, R.ev_list_tup, R.ev_tup_lst, R.ev_tup_tup, R.ev_fmt_str, R.ev_fmt_int, R.ev_sl_lst, R.ev_sl_tup, R.ev_sl_scr, R.ev_split, R.ev_join, R.ev_tru_bl, R.ev_tru_int, R.ev_tru_non, R.ev_tru_lst, R.ev_tru_tup, R.ev_avRVs_nil, R.ev_avRVs_pl, R.ev_avRVs_rv, R.ev_share_pl, R.ev_share_N, R.ev_share_Z, R.ev_share_B, R.ev_lent_pl, R.ev_lent_N, R.ev_lent_Z, R.ev_lent_B, R.ev_fin_ret, R.ev_fin_next, R.ev_io_t, R.ev_io_f, R.ev_jGo_nil, R.ev_jGo_cons, R.ev_isi, R.ev_hold_t, R.ev_hold_fint, R.ev_hold_fstr, R.ev_hold_ftup, R.ev_hold_fbl, R.ev_settle_int, R.ev_settle_str, R.ev_settle_tup, R.ev_settle_bl, R.ev_settle_non, R.ev_share_int, R.ev_share_str, R.ev_share_tup, R.ev_lent_int, R.ev_lent_str, R.ev_lent_tup, R.hmd, e1, e2, h]
theorem count (b : R.D) (m : Int) (hb : Bag b) (h0 : 0 ≤ m) (hm : m ≤ 60) : ∃ b' md r, g_law_count [b, .int m] = .ret md (.int r) (some b') ∧ Bag b' ∧ 0 ≤ r ∧ r ≤ m := by
  have st : g_law_count [b, .int m] = fin true (m_law_count [.io b, .frz (.int m), .un]) := rfl
  rw [st]
  unfold m_law_count
  obtain ⟨b1, md1, r1, e1, hb1, p1, q1⟩ := draw b 4 hb (by decide) (by decide)
  obtain ⟨b2, md2, r2, e2, hb2, p2, q2⟩ := draw b1 8 hb1 (by decide) (by decide)
  obtain ⟨b3, md3, r3, e3, hb3, p3, q3⟩ := draw b2 60 hb2 (by decide) (by decide)
  by_cases h : r2 = 1
  · refine ⟨b3, .N, if m < 1 + r3 then m else 1 + r3, ?_, hb3, by omega, by omega⟩
    simp [R.ev_mC, R.ev_mVar, R.ev_mVarZ, R.ev_mOp, R.ev_mOpV, R.ev_mUn, R.ev_mANil, R.ev_mACons, R.ev_mTup, R.ev_mLst, R.ev_mNoPart, R.ev_mPart, R.ev_mSl, R.ev_tTrue, R.ev_tBool, R.ev_mCh, R.ev_tAndM, R.ev_tOrM, R.ev_tNotM, R.ev_mIfE, R.ev_mAndV, R.ev_mOrV, R.ev_mNotV, R.ev_cNil, R.ev_cPl, R.ev_cRv, R.ev_mBlt, R.ev_mM1, R.ev_mCall, R.ev_mNext, R.ev_mSeq, R.ev_mFl, R.ev_mDrop, R.ev_mRet, R.ev_mRetV, R.ev_mIfS, R.ev_mAsg, R.ev_mAug, R.ev_mSetP, R.ev_mLM, R.ev_iAnyM, R.ev_iRng1M, R.ev_iRng2M, R.ev_iEn1M, R.ev_iEnM, R.ev_iZipM, R.ev_mFor, R.ev_mLc, R.ev_mJoined, R.ev_slotRV, R.ev_frzSl, R.ev_relSl, R.ev_setSl, R.ev_lend, R.ev_setT_nm, R.ev_setT_tp, R.ev_setTs_nil, R.ev_setTs_cons, R.ev_hold_N, R.ev_hold_Z, R.ev_hold_B, R.ev_settle_N, R.ev_settle_Z, R.ev_settle_B, R.ev_isLst_lst, R.ev_isLst_tup, R.ev_isLst_int, R.ev_isLst_bl, R.ev_isLst_str, R.ev_isLst_non, R.ev_isLst_scr, R.ev_idx_lst, R.ev_idx_tup, R.ev_idx_scr, R.ev_idx_str, R.ev_neg, R.ev_add_int, R.ev_sub_int, R.ev_mul_int, R.ev_div_int, R.ev_mod_int, R.ev_pow_int, R.ev_add_str, R.ev_add_tup, R.ev_add_lst, R.ev_eq_int, R.ev_ne_int, R.ev_eq_str, R.ev_ne_str, R.ev_lt, R.ev_le, R.ev_gt, R.ev_ge, R.ev_is, R.ev_isNot, R.ev_none_tup, R.ev_none_lst, R.ev_none_int, R.ev_none_str, R.ev_none_non, R.ev_len_lst, R.ev_len_tup, R.ev_len_scr, R.ev_len_str, R.ev_abs, R.ev_int1, R.ev_str_int, R.ev_str_str, R.ev_list_lst, R.ev_list_tup, R.ev_tup_lst, R.ev_tup_tup, R.ev_fmt_str, R.ev_fmt_int, R.ev_sl_lst, R.ev_sl_tup, R.ev_sl_scr, R.ev_split, R.ev_join, R.ev_tru_bl, R.ev_tru_int, R.ev_tru_non, R.ev_tru_lst, R.ev_tru_tup, R.ev_avRVs_nil, R.ev_avRVs_pl, R.ev_avRVs_rv, R.ev_share_pl, R.ev_share_N, R.ev_share_Z, R.ev_share_B, R.ev_lent_pl, R.ev_lent_N, R.ev_lent_Z, R.ev_lent_B, R.ev_fin_ret, R.ev_fin_next, R.ev_io_t, R.ev_io_f, R.ev_jGo_nil, R.ev_jGo_cons, R.ev_isi, R.ev_hold_t, R.ev_hold_fint, R.ev_hold_fstr, R.ev_hold_ftup, R.ev_hold_fbl, R.ev_settle_int, R.ev_settle_str, R.ev_settle_tup, R.ev_settle_bl, R.ev_settle_non, R.ev_share_int, R.ev_share_str, R.ev_share_tup, R.ev_lent_int, R.ev_lent_str, R.ev_lent_tup, R.hmd, e1, e2, e3, h, fMin2]
  · refine ⟨b2, .N, if m < 1 + r1 then m else 1 + r1, ?_, hb2, by omega, by omega⟩
    simp [R.ev_mC, R.ev_mVar, R.ev_mVarZ, R.ev_mOp, R.ev_mOpV, R.ev_mUn, R.ev_mANil, R.ev_mACons, R.ev_mTup, R.ev_mLst, R.ev_mNoPart, R.ev_mPart, R.ev_mSl, R.ev_tTrue, R.ev_tBool, R.ev_mCh, R.ev_tAndM, R.ev_tOrM, R.ev_tNotM, R.ev_mIfE, R.ev_mAndV, R.ev_mOrV, R.ev_mNotV, R.ev_cNil, R.ev_cPl, R.ev_cRv, R.ev_mBlt, R.ev_mM1, R.ev_mCall, R.ev_mNext, R.ev_mSeq, R.ev_mFl, R.ev_mDrop, R.ev_mRet, R.ev_mRetV, R.ev_mIfS, R.ev_mAsg, R.ev_mAug, R.ev_mSetP, R.ev_mLM, R.ev_iAnyM, R.ev_iRng1M, R.ev_iRng2M, R.ev_iEn1M, R.ev_iEnM, R.ev_iZipM, R.ev_mFor, R.ev_mLc, R.ev_mJoined, R.ev_slotRV, R.ev_frzSl, R.ev_relSl, R.ev_setSl, R.ev_lend, R.ev_setT_nm, R.ev_setT_tp, R.ev_setTs_nil, R.ev_setTs_cons, R.ev_hold_N, R.ev_hold_Z, R.ev_hold_B, R.ev_settle_N, R.ev_settle_Z, R.ev_settle_B, R.ev_isLst_lst, R.ev_isLst_tup, R.ev_isLst_int, R.ev_isLst_bl, R.ev_isLst_str, R.ev_isLst_non, R.ev_isLst_scr, R.ev_idx_lst, R.ev_idx_tup, R.ev_idx_scr, R.ev_idx_str, R.ev_neg, R.ev_add_int, R.ev_sub_int, R.ev_mul_int, R.ev_div_int, R.ev_mod_int, R.ev_pow_int, R.ev_add_str, R.ev_add_tup, R.ev_add_lst, R.ev_eq_int, R.ev_ne_int, R.ev_eq_str, R.ev_ne_str, R.ev_lt, R.ev_le, R.ev_gt, R.ev_ge, R.ev_is, R.ev_isNot, R.ev_none_tup, R.ev_none_lst, R.ev_none_int, R.ev_none_str, R.ev_none_non, R.ev_len_lst, R.ev_len_tup, R.ev_len_scr, R.ev_len_str, R.ev_abs, R.ev_int1, R.ev_str_int, R.ev_str_str, R.ev_list_lst, R.ev_list_tup, R.ev_tup_lst, R.ev_tup_tup, R.ev_fmt_str, R.ev_fmt_int, R.ev_sl_lst, R.ev_sl_tup, R.ev_sl_scr, R.ev_split, R.ev_join, R.ev_tru_bl, R.ev_tru_int, R.ev_tru_non, R.ev_tru_lst, R.ev_tru_tup, R.ev_avRVs_nil, R.ev_avRVs_pl, R.ev_avRVs_rv, R.ev_share_pl, R.ev_share_N, R.ev_share_Z, R.ev_share_B, R.ev_lent_pl, R.ev_lent_N, R.ev_lent_Z, R.ev_lent_B, R.ev_fin_ret, R.ev_fin_next, R.ev_io_t, R.ev_io_f, R.ev_jGo_nil, R.ev_jGo_cons, R.ev_isi, R.ev_hold_t, R.ev_hold_fint, R.ev_hold_fstr, R.ev_hold_ftup, R.ev_hold_fbl, R.ev_settle_int, R.ev_settle_str, R.ev_settle_tup, R.ev_settle_bl, R.ev_settle_non, R.ev_share_int, R.ev_share_str, R.ev_share_tup, R.ev_lent_int, R.ev_lent_str, R.ev_lent_tup, R.hmd, e1, e2, h, fMin2]
end K02

set_option Elab.async false
set_option linter.all false
set_option maxRecDepth 100000
set_option maxHeartbeats 2000000
namespace K02
open PySem PySem.Spec PyProof.Rows L2 R
def vE : List Rw → List Nat → List Nat
  | [], v => v
  | r :: rs, v => vE rs (lookE r v)
theorem vE_snoc : ∀ (l : List Rw) (r : Rw) (v : List Nat), vE (l ++ [r]) v = lookE r (vE l v)
  | [], _, _ => rfl
  | _ :: l, r, _ => vE_snoc l r _
theorem flowE_snoc : ∀ (l : List Rw) (r : Rw) (v : List Nat) (os : List Int), flowE (l ++ [r]) v os = (srcL r.w r.t r.o r.g (vE l v)).map (pick (flowE l v os))
  | [], _, _, _ => rfl
  | _ :: l, r, _, _ => flowE_snoc l r _ _
theorem vE_len {n : Nat} : ∀ {rs : List Rw} {v : List Nat}, (∀ r ∈ rs, RwOk n r) → v.length = n → (vE rs v).length = n
  | [], _, _, h => h
  | r :: rs, v, hr, h => vE_len (rs := rs) (fun x hx => hr x (List.mem_cons_of_mem _ hx)) (by
    unfold lookE
    rw [List.length_map]
    exact (src_ok (hr r (List.mem_cons_self ..)) h).1)
theorem flowE_len {n : Nat} : ∀ {rs : List Rw} {v : List Nat} {os : List Int}, (∀ r ∈ rs, RwOk n r) → v.length = n → os.length = n → (flowE rs v os).length = n
  | [], _, _, _, _, h => h
  | r :: rs, v, os, hr, h, ho => flowE_len (rs := rs) (fun x hx => hr x (List.mem_cons_of_mem _ hx)) (by
    unfold lookE
    rw [List.length_map]
    exact (src_ok (hr r (List.mem_cons_self ..)) h).1) (by
    rw [List.length_map]
    exact (src_ok (hr r (List.mem_cons_self ..)) h).1)
theorem flow {n : Nat} {rs : List Rw} {v : List Nat} (hr : ∀ r ∈ rs, RwOk n r) (hv : v.length = n) (hn : n ≤ 12) : ∃ md, g_flow [scD rs, txD v] = .ret md (imD (flowE rs v (own v))) none := by
  have st : g_flow [scD rs, txD v] = fin false (m_flow [.frz (scD rs), .frz (txD v), .un, .un, .un]) := rfl
  rw [st]
  unfold m_flow
  have ho := own_sources v (by omega)
  generalize hmb : (mSeq (mAsg (.nm 3) (mCall 2 g_image_from _)) _) = mb
  have a1 : ∀ l, isLst (imD l) = false := fun _ => rfl
  have a2 : ∀ q md l, hold q ⟨md, imD l⟩ = some ⟨hmd q md, imD l⟩ := fun q md l => R.ev_hold_ftup
  have a3 : ∀ l, isLst (txD l) = false := fun _ => rfl
  have a4 : ∀ q md l, hold q ⟨md, txD l⟩ = some ⟨hmd q md, txD l⟩ := fun q md l => R.ev_hold_fstr
  have a5 : ∀ w t o g, isLst (rowD w t o g) = false := fun _ _ _ _ => rfl
  have a6 : ∀ q md w t o g, hold q ⟨md, rowD w t o g⟩ = some ⟨hmd q md, rowD w t o g⟩ := fun q md w t o g => R.ev_hold_ftup
  have a7 : ∀ md l, R.settle ⟨md, txD l⟩ = some ⟨hmd false md, txD l⟩ := fun md l => R.ev_settle_str
  have a9 : ∀ md l, R.settle ⟨md, imD l⟩ = some ⟨hmd false md, imD l⟩ := fun md l => R.ev_settle_tup
  have a10 : ∀ md l, apart md (imD l) = true := fun md l => ap_ints md _
  have a11 : ∀ md l, apart md (txD l) = true := fun md l => ap_str md _
  obtain ⟨S', e, y, rfl, _⟩ := forGo_inv (tg := .nm 4) (mb := mb) (fun j S => ∃ y, S = [.frz (scD rs), .frz (txD v), .frz (txD (vE (rs.take j) v)), .frz (imD (flowE (rs.take j) v (own v))), y] ∧ NI y) (rs.map rD) 0 [.frz (scD rs), .frz (txD v), .frz (txD v), .frz (imD (own v)), .un] ⟨.un, rfl, .inl rfl⟩ (by
    rintro j d S hj ⟨y, rfl, n1⟩
    rw [List.getElem?_map] at hj
    obtain ⟨r, hr', rfl⟩ := Option.map_eq_some_iff.mp hj
    rw [Nat.zero_add, take_snoc hr', vE_snoc, flowE_snoc]
    have hro := hr r (List.mem_of_getElem? hr')
    have ht : ∀ x ∈ rs.take j, RwOk n x := fun x hx => hr x (List.mem_of_mem_take hx)
    have hlv := vE_len ht hv
    have hlo := flowE_len ht hv (show (own v).length = n by rw [own_len, hv])
    have hs := sources hro hlv hn
    have hk := src_ok hro hlv
    have hif := image_from hk hlo hn
    have hla := look_after hro hlv hn
    have hlk : (srcL r.w r.t r.o r.g (vE (rs.take j) v)).map (pickV (vE (rs.take j) v)) = lookE r (vE (rs.take j) v) := rfl
    rw [hlk] at hla
    generalize lookE r (vE (rs.take j) v) = v2 at hla ⊢
    generalize (srcL r.w r.t r.o r.g (vE (rs.take j) v)).map (pick (flowE (rs.take j) v (own v))) = o2 at hif ⊢
    generalize srcL r.w r.t r.o r.g (vE (rs.take j) v) = s1 at hs hif
    generalize vE (rs.take j) v = v1 at hs hla ⊢
    generalize flowE (rs.take j) v (own v) = o1 at hif ⊢
    refine ⟨[.frz (scD rs), .frz (txD v), .frz (txD v1), .frz (imD o1), .frz (rD r)], [.frz (scD rs), .frz (txD v), .frz (txD v2), .frz (imD o2), .frz (rD r)], ?_, .inl ?_, _, rfl, .inr ⟨_, rfl⟩⟩
    · unfold rD
      rcases n1 with rfl | ⟨_, rfl⟩ <;> simp [R.ev_mC, R.ev_mVar, R.ev_mVarZ, R.ev_mOp, R.ev_mOpV, R.ev_mUn, R.ev_mANil, R.ev_mACons, R.ev_mTup, R.ev_mLst, R.ev_mNoPart, R.ev_mPart, R.ev_mSl, R.ev_tTrue, R.ev_tBool, R.ev_mCh, R.ev_tAndM, R.ev_tOrM, R.ev_tNotM, R.ev_mIfE, R.ev_mAndV, R.ev_mOrV, R.ev_mNotV, R.ev_cNil, R.ev_cPl, R.ev_cRv, R.ev_mBlt, R.ev_mM1, R.ev_mCall, R.ev_mNext, R.ev_mSeq, R.ev_mFl, R.ev_mDrop, R.ev_mRet, R.ev_mRetV, R.ev_mIfS, R.ev_mAsg, R.ev_mAug, R.ev_mSetP, R.ev_mLM, R.ev_iAnyM, R.ev_iRng1M, R.ev_iRng2M, R.ev_iEn1M, R.ev_iEnM, R.ev_iZipM, R.ev_mFor, R.ev_mLc, R.ev_mJoined, R.ev_slotRV, R.ev_frzSl, R.ev_relSl, R.ev_setSl, R.ev_lend, R.ev_setT_nm, R.ev_setT_tp, R.ev_setTs_nil, R.ev_setTs_cons, R.ev_hold_N, R.ev_hold_Z, R.ev_hold_B, R.ev_settle_N, R.ev_settle_Z, R.ev_settle_B, R.ev_isLst_lst, R.ev_isLst_tup, R.ev_isLst_int, R.ev_isLst_bl, R.ev_isLst_str, R.ev_isLst_non, R.ev_isLst_scr, R.ev_idx_lst, R.ev_idx_tup, R.ev_idx_scr, R.ev_idx_str, R.ev_neg, R.ev_add_int, R.ev_sub_int, R.ev_mul_int, R.ev_div_int, R.ev_mod_int, R.ev_pow_int, R.ev_add_str, R.ev_add_tup, R.ev_add_lst, R.ev_eq_int, R.ev_ne_int, R.ev_eq_str, R.ev_ne_str, R.ev_lt, R.ev_le, R.ev_gt, R.ev_ge, R.ev_is, R.ev_isNot, R.ev_none_tup, R.ev_none_lst, R.ev_none_int, R.ev_none_str, R.ev_none_non, R.ev_len_lst, R.ev_len_tup, R.ev_len_scr, R.ev_len_str, R.ev_abs, R.ev_int1, R.ev_str_int, R.ev_str_str, R.ev_list_lst, R.ev_list_tup, R.ev_tup_lst, R.ev_tup_tup, R.ev_fmt_str, R.ev_fmt_int, R.ev_sl_lst, R.ev_sl_tup, R.ev_sl_scr, R.ev_split, R.ev_join, R.ev_tru_bl, R.ev_tru_int, R.ev_tru_non, R.ev_tru_lst, R.ev_tru_tup, R.ev_avRVs_nil, R.ev_avRVs_pl, R.ev_avRVs_rv, R.ev_share_pl, R.ev_share_N, R.ev_share_Z, R.ev_share_B, R.ev_lent_pl, R.ev_lent_N, R.ev_lent_Z, R.ev_lent_B, R.ev_fin_ret, R.ev_fin_next, R.ev_io_t, R.ev_io_f, R.ev_jGo_nil, R.ev_jGo_cons, R.ev_isi, R.ev_hold_t, R.ev_hold_fint, R.ev_hold_fstr, R.ev_hold_ftup, R.ev_hold_fbl, R.ev_settle_int, R.ev_settle_str, R.ev_settle_tup, R.ev_settle_bl, R.ev_settle_non, R.ev_share_int, R.ev_share_str, R.ev_share_tup, R.ev_lent_int, R.ev_lent_str, R.ev_lent_tup, R.hmd, a5]
    · subst hmb
      unfold rD
      simp [R.ev_mC, R.ev_mVar, R.ev_mVarZ, R.ev_mOp, R.ev_mOpV, R.ev_mUn, R.ev_mANil, R.ev_mACons, R.ev_mTup, R.ev_mLst, R.ev_mNoPart, R.ev_mPart, R.ev_mSl, R.ev_tTrue, R.ev_tBool, R.ev_mCh, R.ev_tAndM, R.ev_tOrM, R.ev_tNotM, R.ev_mIfE, R.ev_mAndV, R.ev_mOrV, R.ev_mNotV, R.ev_cNil, R.ev_cPl, R.ev_cRv, R.ev_mBlt, R.ev_mM1, R.ev_mCall, R.ev_mNext, R.ev_mSeq, R.ev_mFl, R.ev_mDrop, R.ev_mRet, R.ev_mRetV, R.ev_mIfS, R.ev_mAsg, R.ev_mAug, R.ev_mSetP, R.ev_mLM, R.ev_iAnyM, R.ev_iRng1M, R.ev_iRng2M, R.ev_iEn1M, R.ev_iEnM, R.ev_iZipM, R.ev_mFor, R.ev_mLc, R.ev_mJoined, R.ev_slotRV, R.ev_frzSl, R.ev_relSl, R.ev_setSl, R.ev_lend, R.ev_setT_nm, R.ev_setT_tp, R.ev_setTs_nil, R.ev_setTs_cons, R.ev_hold_N, R.ev_hold_Z, R.ev_hold_B, R.ev_settle_N, R.ev_settle_Z, R.ev_settle_B, R.ev_isLst_lst, R.ev_isLst_tup, R.ev_isLst_int, R.ev_isLst_bl, R.ev_isLst_str, R.ev_isLst_non, R.ev_isLst_scr, R.ev_idx_lst, R.ev_idx_tup, R.ev_idx_scr, R.ev_idx_str, R.ev_neg, R.ev_add_int, R.ev_sub_int, R.ev_mul_int, R.ev_div_int, R.ev_mod_int, R.ev_pow_int, R.ev_add_str, R.ev_add_tup, R.ev_add_lst, R.ev_eq_int, R.ev_ne_int, R.ev_eq_str, R.ev_ne_str, R.ev_lt, R.ev_le, R.ev_gt, R.ev_ge, R.ev_is, R.ev_isNot, R.ev_none_tup, R.ev_none_lst, R.ev_none_int, R.ev_none_str, R.ev_none_non, R.ev_len_lst, R.ev_len_tup, R.ev_len_scr, R.ev_len_str, R.ev_abs, R.ev_int1, R.ev_str_int, R.ev_str_str, R.ev_list_lst, R.ev_list_tup, R.ev_tup_lst, R.ev_tup_tup, R.ev_fmt_str, R.ev_fmt_int, R.ev_sl_lst, R.ev_sl_tup, R.ev_sl_scr, R.ev_split, R.ev_join, R.ev_tru_bl, R.ev_tru_int, R.ev_tru_non, R.ev_tru_lst, R.ev_tru_tup, R.ev_avRVs_nil, R.ev_avRVs_pl, R.ev_avRVs_rv, R.ev_share_pl, R.ev_share_N, R.ev_share_Z, R.ev_share_B, R.ev_lent_pl, R.ev_lent_N, R.ev_lent_Z, R.ev_lent_B, R.ev_fin_ret, R.ev_fin_next, R.ev_io_t, R.ev_io_f, R.ev_jGo_nil, R.ev_jGo_cons, R.ev_isi, R.ev_hold_t, R.ev_hold_fint, R.ev_hold_fstr, R.ev_hold_ftup, R.ev_hold_fbl, R.ev_settle_int, R.ev_settle_str, R.ev_settle_tup, R.ev_settle_bl, R.ev_settle_non, R.ev_share_int, R.ev_share_str, R.ev_share_tup, R.ev_lent_int, R.ev_lent_str, R.ev_lent_tup, R.hmd, hs, hif, hla, a1, a2, a3, a4, a5, a6, a7, a9, a10, a11])
  have hI : iAnyM (mVarZ 0) [.frz (scD rs), .frz (txD v), .frz (txD v), .frz (imD (own v)), .un] = .ok (rs.map rD) [.frz (scD rs), .frz (txD v), .frz (txD v), .frz (imD (own v)), .un] := rfl
  have hF : mFor (.nm 4) (iAnyM (mVarZ 0)) mb [.frz (scD rs), .frz (txD v), .frz (txD v), .frz (imD (own v)), .un] = .ok .next [.frz (scD rs), .frz (txD v), .frz (txD (vE (rs.take (0 + (rs.map rD).length)) v)), .frz (imD (flowE (rs.take (0 + (rs.map rD).length)) v (own v))), y] := by
    rw [R.ev_mFor, hI]
    exact e
  rw [Nat.zero_add, List.length_map, List.take_length] at hF
  refine ⟨.Z, ?_⟩
  simp [R.ev_mC, R.ev_mVar, R.ev_mVarZ, R.ev_mOp, R.ev_mOpV, R.ev_mUn, R.ev_mANil, R.ev_mACons, R.ev_mTup, R.ev_mLst, R.ev_mNoPart, R.ev_mPart, R.ev_mSl, R.ev_tTrue, R.ev_tBool, R.ev_mCh, R.ev_tAndM, R.ev_tOrM, R.ev_tNotM, R.ev_mIfE, R.ev_mAndV, R.ev_mOrV, R.ev_mNotV, R.ev_cNil, R.ev_cPl, R.ev_cRv, R.ev_mBlt, R.ev_mM1, R.ev_mCall, R.ev_mNext, R.ev_mSeq, R.ev_mFl, R.ev_mDrop, R.ev_mRet, R.ev_mRetV, R.ev_mIfS, R.ev_mAsg, R.ev_mAug, R.ev_mSetP, R.ev_mLM, R.ev_iAnyM, R.ev_iRng2M, R.ev_iEn1M, R.ev_iEnM, R.ev_iZipM, R.ev_mJoined, R.ev_slotRV, R.ev_frzSl, R.ev_relSl, R.ev_setSl, R.ev_lend, R.ev_setT_nm, R.ev_setT_tp, R.ev_setTs_nil, R.ev_setTs_cons, R.ev_hold_N, R.ev_hold_Z, R.ev_hold_B, R.ev_settle_N, R.ev_settle_Z, R.ev_settle_B, R.ev_isLst_lst, R.ev_isLst_tup, R.ev_isLst_int, R.ev_isLst_bl, R.ev_isLst_str, R.ev_isLst_non, R.ev_isLst_scr, R.ev_idx_lst, R.ev_idx_tup, R.ev_idx_scr, R.ev_idx_str, R.ev_neg, R.ev_add_int, R.ev_sub_int, R.ev_mul_int, R.ev_div_int, R.ev_mod_int, R.ev_pow_int, R.ev_add_str, R.ev_add_tup, R.ev_add_lst, R.ev_eq_int, R.ev_ne_int, R.ev_eq_str, R.ev_ne_str, R.ev_lt, R.ev_le, R.ev_gt, R.ev_ge, R.ev_is, R.ev_isNot, R.ev_none_tup, R.ev_none_lst, R.ev_none_int, R.ev_none_str, R.ev_none_non, R.ev_len_lst, R.ev_len_tup, R.ev_len_scr, R.ev_len_str, R.ev_abs, R.ev_int1, R.ev_str_int, R.ev_str_str, R.ev_list_lst, R.ev_list_tup, R.ev_tup_lst, R.ev_tup_tup, R.ev_fmt_str, R.ev_fmt_int, R.ev_sl_lst, R.ev_sl_tup, R.ev_sl_scr, R.ev_split, R.ev_join, R.ev_tru_bl, R.ev_tru_int, R.ev_tru_non, R.ev_tru_lst, R.ev_tru_tup, R.ev_avRVs_nil, R.ev_avRVs_pl, R.ev_avRVs_rv, R.ev_share_pl, R.ev_share_N, R.ev_share_Z, R.ev_share_B, R.ev_lent_pl, R.ev_lent_N, R.ev_lent_Z, R.ev_lent_B, R.ev_fin_ret, R.ev_fin_next, R.ev_io_t, R.ev_io_f, R.ev_jGo_nil, R.ev_jGo_cons, R.ev_isi, R.ev_hold_t, R.ev_hold_fint, R.ev_hold_fstr, R.ev_hold_ftup, R.ev_hold_fbl, R.ev_settle_int, R.ev_settle_str, R.ev_settle_tup, R.ev_settle_bl, R.ev_settle_non, R.ev_share_int, R.ev_share_str, R.ev_share_tup, R.ev_lent_int, R.ev_lent_str, R.ev_lent_tup, R.hmd, ho, a1, a2, a3, a4, a7, a9, a10, hF]
end K02

set_option Elab.async false
set_option linter.all false
set_option maxRecDepth 100000
set_option maxHeartbeats 2000000
namespace K02
open PySem PySem.Spec PyProof.Rows L2 R
theorem same_list (a : List (List Int)) (hn : a.length ≤ 61) (ha : ∀ x ∈ a, x.length ≤ 12) : g_law_same_list [imsD a, imsD a] = .ret .N (.bl true) none := by
  have st : g_law_same_list [imsD a, imsD a] = fin false (m_law_same_list [.frz (imsD a), .frz (imsD a), .un]) := rfl
  rw [st]
  unfold m_law_same_list
  have a2 : isiB (imsD a) .list = true := rfl
  have a3 : ∀ md, fLen [⟨md, imsD a⟩] = some ⟨.N, .int a.length⟩ := fun md => by
    show some (⟨.N, .int ((a.map imD).length : Nat)⟩ : RV) = _
    rw [List.length_map]
  have a1 : ∀ l, isLst (imD l) = false := fun _ => rfl
  have a5 : ∀ q md l, hold q ⟨md, imD l⟩ = some ⟨hmd q md, imD l⟩ := fun q md l => R.ev_hold_ftup
  have a9 : ∀ md l, R.settle ⟨md, imD l⟩ = some ⟨hmd false md, imD l⟩ := fun md l => R.ev_settle_tup
  have a10 : ∀ md l, apart md (imD l) = true := fun md l => ap_ints md _
  generalize hmb : (mSeq (mIfS (tNotM (tTrue (mCall 2 g_law_same _))) _ _) mNext) = mb
  obtain ⟨S', e, y, rfl, _⟩ := forGo_inv (tg := .nm 2) (mb := mb) (fun j S => ∃ y, S = [.frz (imsD a), .frz (imsD a), y] ∧ NI y) (rangeD 0 a.length) 0 [.frz (imsD a), .frz (imsD a), .un] ⟨.un, rfl, .inl rfl⟩ (by
    rintro j d S hj ⟨y, rfl, n1⟩
    obtain ⟨hjl, rfl⟩ := rangeD_get hj
    have hx : ∀ md md', fIdx ⟨md, imsD a⟩ ⟨md', .int ((0 : Int) + (j : Nat))⟩ = some ⟨.Z, imD a[j]⟩ := fun md md' => by
      show (L2.atI (a.map imD) _).map _ = _
      rw [Int.zero_add, at_nat (x := imD a[j]) (by rw [List.getElem?_map, List.getElem?_eq_getElem hjl]; rfl)]
      rfl
    have sm := same a[j] (ha _ (List.getElem_mem hjl))
    generalize ((0 : Int) + (j : Nat)) = k at hx ⊢
    generalize a[j] = aj at hx sm
    refine ⟨[.frz (imsD a), .frz (imsD a), .frz (.int k)], [.frz (imsD a), .frz (imsD a), .frz (.int k)], ?_, .inl ?_, _, rfl, .inr ⟨_, rfl⟩⟩
    · rcases n1 with rfl | ⟨_, rfl⟩ <;> simp [R.ev_mC, R.ev_mVar, R.ev_mVarZ, R.ev_mOp, R.ev_mOpV, R.ev_mUn, R.ev_mANil, R.ev_mACons, R.ev_mTup, R.ev_mLst, R.ev_mNoPart, R.ev_mPart, R.ev_mSl, R.ev_tTrue, R.ev_tBool, R.ev_mCh, R.ev_tAndM, R.ev_tOrM, R.ev_tNotM, R.ev_mIfE, R.ev_mAndV, R.ev_mOrV, R.ev_mNotV, R.ev_cNil, R.ev_cPl, R.ev_cRv, R.ev_mBlt, R.ev_mM1, R.ev_mCall, R.ev_mNext, R.ev_mSeq, R.ev_mFl, R.ev_mDrop, R.ev_mRet, R.ev_mRetV, R.ev_mIfS, R.ev_mAsg, R.ev_mAug, R.ev_mSetP, R.ev_mLM, R.ev_iAnyM, R.ev_iRng1M, R.ev_iRng2M, R.ev_iEn1M, R.ev_iEnM, R.ev_iZipM, R.ev_mFor, R.ev_mLc, R.ev_mJoined, R.ev_slotRV, R.ev_frzSl, R.ev_relSl, R.ev_setSl, R.ev_lend, R.ev_setT_nm, R.ev_setT_tp, R.ev_setTs_nil, R.ev_setTs_cons, R.ev_hold_N, R.ev_hold_Z, R.ev_hold_B, R.ev_settle_N, R.ev_settle_Z, R.ev_settle_B, R.ev_isLst_lst, R.ev_isLst_tup, R.ev_isLst_int, R.ev_isLst_bl, R.ev_isLst_str, R.ev_isLst_non, R.ev_isLst_scr, R.ev_idx_lst, R.ev_idx_tup, R.ev_idx_scr, R.ev_idx_str, R.ev_neg, R.ev_add_int, R.ev_sub_int, R.ev_mul_int, R.ev_div_int, R.ev_mod_int, R.ev_pow_int, R.ev_add_str, R.ev_add_tup, R.ev_add_lst, R.ev_eq_int, R.ev_ne_int, R.ev_eq_str, R.ev_ne_str, R.ev_lt, R.ev_le, R.ev_gt, R.ev_ge, R.ev_is, R.ev_isNot, R.ev_none_tup, R.ev_none_lst, R.ev_none_int, R.ev_none_str, R.ev_none_non, R.ev_len_lst, R.ev_len_tup, R.ev_len_scr, R.ev_len_str, R.ev_abs, R.ev_int1, R.ev_str_int, R.ev_str_str, R.ev_list_lst, R.ev_list_tup, R.ev_tup_lst, R.ev_tup_tup, R.ev_fmt_str, R.ev_fmt_int, R.ev_sl_lst, R.ev_sl_tup, R.ev_sl_scr, R.ev_split, R.ev_join, R.ev_tru_bl, R.ev_tru_int, R.ev_tru_non, R.ev_tru_lst, R.ev_tru_tup, R.ev_avRVs_nil, R.ev_avRVs_pl, R.ev_avRVs_rv, R.ev_share_pl, R.ev_share_N, R.ev_share_Z, R.ev_share_B, R.ev_lent_pl, R.ev_lent_N, R.ev_lent_Z, R.ev_lent_B, R.ev_fin_ret, R.ev_fin_next, R.ev_io_t, R.ev_io_f, R.ev_jGo_nil, R.ev_jGo_cons, R.ev_isi, R.ev_hold_t, R.ev_hold_fint, R.ev_hold_fstr, R.ev_hold_ftup, R.ev_hold_fbl, R.ev_settle_int, R.ev_settle_str, R.ev_settle_tup, R.ev_settle_bl, R.ev_settle_non, R.ev_share_int, R.ev_share_str, R.ev_share_tup, R.ev_lent_int, R.ev_lent_str, R.ev_lent_tup, R.hmd]
    · subst hmb
      simp [R.ev_mC, R.ev_mVar, R.ev_mVarZ, R.ev_mOp, R.ev_mOpV, R.ev_mUn, R.ev_mANil, R.ev_mACons, R.ev_mTup, R.ev_mLst, R.ev_mNoPart, R.ev_mPart, R.ev_mSl, R.ev_tTrue, R.ev_tBool, R.ev_mCh, R.ev_tAndM, R.ev_tOrM, R.ev_tNotM, R.ev_mIfE, R.ev_mAndV, R.ev_mOrV, R.ev_mNotV, R.ev_cNil, R.ev_cPl, R.ev_cRv, R.ev_mBlt, R.ev_mM1, R.ev_mCall, R.ev_mNext, R.ev_mSeq, R.ev_mFl, R.ev_mDrop, R.ev_mRet, R.ev_mRetV, R.ev_mIfS, R.ev_mAsg, R.ev_mAug, R.ev_mSetP, R.ev_mLM, R.ev_iAnyM, R.ev_iRng1M, R.ev_iRng2M, R.ev_iEn1M, R.ev_iEnM, R.ev_iZipM, R.ev_mFor, R.ev_mLc, R.ev_mJoined, R.ev_slotRV, R.ev_frzSl, R.ev_relSl, R.ev_setSl, R.ev_lend, R.ev_setT_nm, R.ev_setT_tp, R.ev_setTs_nil, R.ev_setTs_cons, R.ev_hold_N, R.ev_hold_Z, R.ev_hold_B, R.ev_settle_N, R.ev_settle_Z, R.ev_settle_B, R.ev_isLst_lst, R.ev_isLst_tup, R.ev_isLst_int, R.ev_isLst_bl, R.ev_isLst_str, R.ev_isLst_non, R.ev_isLst_scr, R.ev_idx_lst, R.ev_idx_tup, R.ev_idx_scr, R.ev_idx_str, R.ev_neg, R.ev_add_int, R.ev_sub_int, R.ev_mul_int, R.ev_div_int, R.ev_mod_int, R.ev_pow_int, R.ev_add_str, R.ev_add_tup, R.ev_add_lst, R.ev_eq_int, R.ev_ne_int, R.ev_eq_str, R.ev_ne_str, R.ev_lt, R.ev_le, R.ev_gt, R.ev_ge, R.ev_is, R.ev_isNot, R.ev_none_tup, R.ev_none_lst, R.ev_none_int, R.ev_none_str, R.ev_none_non, R.ev_len_lst, R.ev_len_tup, R.ev_len_scr, R.ev_len_str, R.ev_abs, R.ev_int1, R.ev_str_int, R.ev_str_str, R.ev_list_lst, R.ev_list_tup, R.ev_tup_lst, R.ev_tup_tup, R.ev_fmt_str, R.ev_fmt_int, R.ev_sl_lst, R.ev_sl_tup, R.ev_sl_scr, R.ev_split, R.ev_join, R.ev_tru_bl, R.ev_tru_int, R.ev_tru_non, R.ev_tru_lst, R.ev_tru_tup, R.ev_avRVs_nil, R.ev_avRVs_pl, R.ev_avRVs_rv, R.ev_share_pl, R.ev_share_N, R.ev_share_Z, R.ev_share_B, R.ev_lent_pl, R.ev_lent_N, R.ev_lent_Z, R.ev_lent_B, R.ev_fin_ret, R.ev_fin_next, R.ev_io_t, R.ev_io_f, R.ev_jGo_nil, R.ev_jGo_cons, R.ev_isi, R.ev_hold_t, R.ev_hold_fint, R.ev_hold_fstr, R.ev_hold_ftup, R.ev_hold_fbl, R.ev_settle_int, R.ev_settle_str, R.ev_settle_tup, R.ev_settle_bl, R.ev_settle_non, R.ev_share_int, R.ev_share_str, R.ev_share_tup, R.ev_lent_int, R.ev_lent_str, R.ev_lent_tup, R.hmd, hx, sm, a1, a5, a9, a10])
  have hm : mACons (mBlt fLen (cPl 1 cNil)) mANil [.frz (imsD a), .frz (imsD a), .un] = .ok [.int a.length] [.frz (imsD a), .frz (imsD a), .un] := by simp [R.ev_mC, R.ev_mVar, R.ev_mVarZ, R.ev_mOp, R.ev_mOpV, R.ev_mUn, R.ev_mANil, R.ev_mACons, R.ev_mTup, R.ev_mLst, R.ev_mNoPart, R.ev_mPart, R.ev_mSl, R.ev_tTrue, R.ev_tBool, R.ev_mCh, R.ev_tAndM, R.ev_tOrM, R.ev_tNotM, R.ev_mIfE, R.ev_mAndV, R.ev_mOrV, R.ev_mNotV, R.ev_cNil, R.ev_cPl, R.ev_cRv, R.ev_mBlt, R.ev_mM1, R.ev_mCall, R.ev_mNext, R.ev_mSeq, R.ev_mFl, R.ev_mDrop, R.ev_mRet, R.ev_mRetV, R.ev_mIfS, R.ev_mAsg, R.ev_mAug, R.ev_mSetP, R.ev_mLM, R.ev_iAnyM, R.ev_iRng2M, R.ev_iEn1M, R.ev_iEnM, R.ev_iZipM, R.ev_mJoined, R.ev_slotRV, R.ev_frzSl, R.ev_relSl, R.ev_setSl, R.ev_lend, R.ev_setT_nm, R.ev_setT_tp, R.ev_setTs_nil, R.ev_setTs_cons, R.ev_hold_N, R.ev_hold_Z, R.ev_hold_B, R.ev_settle_N, R.ev_settle_Z, R.ev_settle_B, R.ev_isLst_lst, R.ev_isLst_tup, R.ev_isLst_int, R.ev_isLst_bl, R.ev_isLst_str, R.ev_isLst_non, R.ev_isLst_scr, R.ev_idx_lst, R.ev_idx_tup, R.ev_idx_scr, R.ev_idx_str, R.ev_neg, R.ev_add_int, R.ev_sub_int, R.ev_mul_int, R.ev_div_int, R.ev_mod_int, R.ev_pow_int, R.ev_add_str, R.ev_add_tup, R.ev_add_lst, R.ev_eq_int, R.ev_ne_int, R.ev_eq_str, R.ev_ne_str, R.ev_lt, R.ev_le, R.ev_gt, R.ev_ge, R.ev_is, R.ev_isNot, R.ev_none_tup, R.ev_none_lst, R.ev_none_int, R.ev_none_str, R.ev_none_non, R.ev_len_lst, R.ev_len_tup, R.ev_len_scr, R.ev_len_str, R.ev_abs, R.ev_int1, R.ev_str_int, R.ev_str_str, R.ev_list_lst, R.ev_list_tup, R.ev_tup_lst, R.ev_tup_tup, R.ev_fmt_str, R.ev_fmt_int, R.ev_sl_lst, R.ev_sl_tup, R.ev_sl_scr, R.ev_split, R.ev_join, R.ev_tru_bl, R.ev_tru_int, R.ev_tru_non, R.ev_tru_lst, R.ev_tru_tup, R.ev_avRVs_nil, R.ev_avRVs_pl, R.ev_avRVs_rv, R.ev_share_pl, R.ev_share_N, R.ev_share_Z, R.ev_share_B, R.ev_lent_pl, R.ev_lent_N, R.ev_lent_Z, R.ev_lent_B, R.ev_fin_ret, R.ev_fin_next, R.ev_io_t, R.ev_io_f, R.ev_jGo_nil, R.ev_jGo_cons, R.ev_isi, R.ev_hold_t, R.ev_hold_fint, R.ev_hold_fstr, R.ev_hold_ftup, R.ev_hold_fbl, R.ev_settle_int, R.ev_settle_str, R.ev_settle_tup, R.ev_settle_bl, R.ev_settle_non, R.ev_share_int, R.ev_share_str, R.ev_share_tup, R.ev_lent_int, R.ev_lent_str, R.ev_lent_tup, R.hmd, imsD]
  have hF : mFor (.nm 2) (iRng1M (mACons (mBlt fLen (cPl 1 cNil)) mANil)) mb [.frz (imsD a), .frz (imsD a), .un] = .ok .next [.frz (imsD a), .frz (imsD a), y] := by
    have hI : iRng1M (mACons (mBlt fLen (cPl 1 cNil)) mANil) [.frz (imsD a), .frz (imsD a), .un] = .ok (rangeD 0 a.length) [.frz (imsD a), .frz (imsD a), .un] := by
      rw [R.ev_iRng1M, hm]
      dsimp only
      rw [if_pos (smallN a.length (by omega))]
      rfl
    rw [R.ev_mFor, hI]
    exact e
  have hC : mIfS (tOrM (tNotM (tTrue (mUn (fIsi .list) (mVar 0)))) (tBool (mOp true (cop .NotEq) (mBlt fLen (cPl 0 cNil)) (mBlt fLen (cPl 1 cNil))))) (mSeq (mRet (mC (.bl false))) mNext) mNext [.frz (imsD a), .frz (imsD a), .un] = .ok .next [.frz (imsD a), .frz (imsD a), .un] := by
    unfold imsD
    simp [R.ev_mC, R.ev_mVar, R.ev_mVarZ, R.ev_mOp, R.ev_mOpV, R.ev_mUn, R.ev_mANil, R.ev_mACons, R.ev_mTup, R.ev_mLst, R.ev_mNoPart, R.ev_mPart, R.ev_mSl, R.ev_tTrue, R.ev_tBool, R.ev_mCh, R.ev_tAndM, R.ev_tOrM, R.ev_tNotM, R.ev_mIfE, R.ev_mAndV, R.ev_mOrV, R.ev_mNotV, R.ev_cNil, R.ev_cPl, R.ev_cRv, R.ev_mBlt, R.ev_mM1, R.ev_mCall, R.ev_mNext, R.ev_mSeq, R.ev_mFl, R.ev_mDrop, R.ev_mRet, R.ev_mRetV, R.ev_mIfS, R.ev_mAsg, R.ev_mAug, R.ev_mSetP, R.ev_mLM, R.ev_iAnyM, R.ev_iRng2M, R.ev_iEn1M, R.ev_iEnM, R.ev_iZipM, R.ev_mJoined, R.ev_slotRV, R.ev_frzSl, R.ev_relSl, R.ev_setSl, R.ev_lend, R.ev_setT_nm, R.ev_setT_tp, R.ev_setTs_nil, R.ev_setTs_cons, R.ev_hold_N, R.ev_hold_Z, R.ev_hold_B, R.ev_settle_N, R.ev_settle_Z, R.ev_settle_B, R.ev_isLst_lst, R.ev_isLst_tup, R.ev_isLst_int, R.ev_isLst_bl, R.ev_isLst_str, R.ev_isLst_non, R.ev_isLst_scr, R.ev_idx_lst, R.ev_idx_tup, R.ev_idx_scr, R.ev_idx_str, R.ev_neg, R.ev_add_int, R.ev_sub_int, R.ev_mul_int, R.ev_div_int, R.ev_mod_int, R.ev_pow_int, R.ev_add_str, R.ev_add_tup, R.ev_add_lst, R.ev_eq_int, R.ev_ne_int, R.ev_eq_str, R.ev_ne_str, R.ev_lt, R.ev_le, R.ev_gt, R.ev_ge, R.ev_is, R.ev_isNot, R.ev_none_tup, R.ev_none_lst, R.ev_none_int, R.ev_none_str, R.ev_none_non, R.ev_len_lst, R.ev_len_tup, R.ev_len_scr, R.ev_len_str, R.ev_abs, R.ev_int1, R.ev_str_int, R.ev_str_str, R.ev_list_lst, R.ev_list_tup, R.ev_tup_lst, R.ev_tup_tup, R.ev_fmt_str, R.ev_fmt_int, R.ev_sl_lst, R.ev_sl_tup, R.ev_sl_scr, R.ev_split, R.ev_join, R.ev_tru_bl, R.ev_tru_int, R.ev_tru_non, R.ev_tru_lst, R.ev_tru_tup, R.ev_avRVs_nil, R.ev_avRVs_pl, R.ev_avRVs_rv, R.ev_share_pl, R.ev_share_N, R.ev_share_Z, R.ev_share_B, R.ev_lent_pl, R.ev_lent_N, R.ev_lent_Z, R.ev_lent_B, R.ev_fin_ret, R.ev_fin_next, R.ev_io_t, R.ev_io_f, R.ev_jGo_nil, R.ev_jGo_cons, R.ev_isi, R.ev_hold_t, R.ev_hold_fint, R.ev_hold_fstr, R.ev_hold_ftup, R.ev_hold_fbl, R.ev_settle_int, R.ev_settle_str, R.ev_settle_tup, R.ev_settle_bl, R.ev_settle_non, R.ev_share_int, R.ev_share_str, R.ev_share_tup, R.ev_lent_int, R.ev_lent_str, R.ev_lent_tup, R.hmd, is_l]
  rw [R.ev_mSeq, hC]
  dsimp only
  rw [R.ev_mSeq, hF]
  rfl
end K02

set_option Elab.async false
set_option linter.all false
set_option maxRecDepth 100000
set_option maxHeartbeats 2000000
namespace K02
open PySem PySem.Spec PyProof.Rows L2 R
/-! ### a line done twice -/
def Cv (v : List Nat) (os : List Int) : Prop := os.length = v.length ∧ ∀ i : Nat, v[i]? = some 46 → os[i]? = some (-1)
theorem own_at {v : List Nat} {i c : Nat} (h : v[i]? = some c) : (own v)[i]? = some (if c = 46 then -1 else (i : Int)) := by
  have := own_get v 0 i c h
  rw [Nat.zero_add] at this
  exact this
theorem own_pick {v : List Nat} {os : List Int} (h : Cv v os) : (own v).map (pick os) = os := by
  refine List.ext_getElem? fun i => ?_
  rw [List.getElem?_map]
  cases hv : v[i]? with
  | none =>
    have h1 := List.getElem?_eq_none_iff.mp hv
    rw [List.getElem?_eq_none (by rw [own_len]; exact h1), List.getElem?_eq_none (by rw [h.1]; exact h1)]
    rfl
  | some c =>
    rw [own_at hv]
    have hi : i < os.length := by
      rw [h.1]; exact (List.getElem?_eq_some_iff.mp hv).1
    by_cases hc : c = 46
    · subst hc
      rw [h.2 i hv]; rfl
    · rw [if_neg hc]
      show some (pick os (i : Int)) = _
      unfold pick
      rw [if_neg (by omega), Int.toNat_natCast, List.getD_eq_getElem?_getD, List.getElem?_eq_getElem hi]
      rfl
end K02

set_option Elab.async false
set_option linter.all false
set_option maxRecDepth 100000
set_option maxHeartbeats 2000000
namespace K02
open PySem PySem.Spec PyProof.Rows L2 R
theorem pick_m (os : List Int) : pick os (-1) = -1 := rfl
theorem stepO_form {w : List Nat} {t o : Int} {g v : List Nat} {os : List Int} (h : Cv v os) : (srcL w t o g v).map (pick os) = if fireB w o g v then (if w = clearL then os.set t.toNat (-1) else if w = moveL then (os.set t.toNat (pick os o)).set o.toNat (-1) else os.set t.toNat (pick os o)) else os := by
  unfold srcL
  by_cases hf : fireB w o g v = true
  · rw [if_pos hf, if_pos hf]
    by_cases hc : w = clearL
    · rw [if_pos hc, if_pos hc, List.map_set, own_pick h, pick_m]
    · rw [if_neg hc, if_neg hc]
      by_cases hm : w = moveL
      · rw [if_pos hm, if_pos hm, List.map_set, List.map_set, own_pick h, pick_m]
      · rw [if_neg hm, if_neg hm, List.map_set, own_pick h]
  · rw [if_neg hf, if_neg hf, own_pick h]
theorem ownV_pick (v : List Nat) : (own v).map (pickV v) = v := by
  refine List.ext_getElem? fun i => ?_
  rw [List.getElem?_map]
  cases hv : v[i]? with
  | none =>
    rw [List.getElem?_eq_none (by rw [own_len]; exact List.getElem?_eq_none_iff.mp hv)]
    rfl
  | some c =>
    rw [own_at hv]
    by_cases hc : c = 46
    · subst hc; rfl
    · rw [if_neg hc]
      show some (pickV v (i : Int)) = _
      unfold pickV
      rw [if_neg (by omega), Int.toNat_natCast, List.getD_eq_getElem?_getD, hv]
      rfl
theorem pickV_m (v : List Nat) : pickV v (-1) = 46 := rfl
theorem lookE_form (r : Rw) (v : List Nat) : lookE r v = if fireB r.w r.o r.g v then (if r.w = clearL then v.set r.t.toNat 46 else if r.w = moveL then (v.set r.t.toNat (pickV v r.o)).set r.o.toNat 46 else v.set r.t.toNat (pickV v r.o)) else v := by
  unfold lookE srcL
  by_cases hf : fireB r.w r.o r.g v = true
  · rw [if_pos hf, if_pos hf]
    by_cases hc : r.w = clearL
    · rw [if_pos hc, if_pos hc, List.map_set, ownV_pick, pickV_m]
    · rw [if_neg hc, if_neg hc]
      by_cases hm : r.w = moveL
      · rw [if_pos hm, if_pos hm, List.map_set, List.map_set, ownV_pick, pickV_m]
      · rw [if_neg hm, if_neg hm, List.map_set, ownV_pick]
  · rw [if_neg hf, if_neg hf, ownV_pick]
end K02

set_option Elab.async false
set_option linter.all false
set_option maxRecDepth 100000
set_option maxHeartbeats 2000000
namespace K02
open PySem PySem.Spec PyProof.Rows L2 R
def stepO (r : Rw) (v : List Nat) (os : List Int) : List Int := (srcL r.w r.t r.o r.g v).map (pick os)
theorem getD_46 {v : List Nat} {i : Nat} (h : v.getD i 0 = 46) : v[i]? = some 46 := by
  rw [List.getD_eq_getElem?_getD] at h
  cases hv : v[i]? with
  | none => rw [hv] at h; exact absurd h (by decide)
  | some c => rw [hv] at h; exact congrArg some h
theorem Cv_step {v : List Nat} {os : List Int} (r : Rw) (h : Cv v os) : Cv (lookE r v) (stepO r v os) := by
  unfold lookE stepO
  refine ⟨by rw [List.length_map, List.length_map], fun i hi => ?_⟩
  rw [List.getElem?_map] at hi ⊢
  cases hs : (srcL r.w r.t r.o r.g v)[i]? with
  | none => rw [hs] at hi; cases hi
  | some b =>
    rw [hs] at hi
    have hb : pickV v b = 46 := Option.some.inj hi
    show some (pick os b) = _
    unfold pickV at hb
    unfold pick
    by_cases h1 : b = -1
    · rw [if_pos h1]
    · rw [if_neg h1] at hb ⊢
      rw [List.getD_eq_getElem?_getD, h.2 _ (getD_46 hb)]
      rfl
end K02

set_option Elab.async false
set_option linter.all false
set_option maxRecDepth 100000
set_option maxHeartbeats 2000000
namespace K02
open PySem PySem.Spec PyProof.Rows L2 R
theorem twiceO {n : Nat} {r : Rw} {v : List Nat} {os : List Int} (hr : RwOk n r) (hv : v.length = n) (h : Cv v os) : stepO r (lookE r v) (stepO r v os) = stepO r v os := by
  by_cases f1 : fireB r.w r.o r.g v = true
  · have hc := Cv_step r h
    by_cases f2 : fireB r.w r.o r.g (lookE r v) = true
    · have e1 : stepO r v os = _ := stepO_form h
      rw [if_pos f1] at e1
      have e2 : stepO r (lookE r v) (stepO r v os) = _ := stepO_form hc
      rw [if_pos f2] at e2
      rw [e2]
      by_cases c1 : r.w = clearL
      · rw [if_pos c1] at e1 ⊢
        rw [e1, List.set_set]
      · obtain ⟨o0, o1, o2⟩ := hr.on c1
        have t0 := hr.tt
        by_cases c2 : r.w = moveL
        · exfalso
          have e3 := lookE_form r v
          rw [if_pos f1, if_neg c1, if_pos c2] at e3
          have e4 : (lookE r v)[r.o.toNat]? = some 46 := by
            rw [e3, List.getElem?_set_self (by rw [List.length_set]; omega)]
          unfold fireB at f2
          rw [if_pos ⟨c1, e4⟩] at f2
          cases f2
        · rw [if_neg c1, if_neg c2] at e1 ⊢
          have ep : pick (stepO r v os) r.o = pick os r.o := by
            unfold pick
            rw [if_neg (by omega), if_neg (by omega), e1, List.getD_eq_getElem?_getD, List.getD_eq_getElem?_getD, List.getElem?_set_ne (by omega)]
          rw [ep, e1, List.set_set]
    · have e2 : stepO r (lookE r v) (stepO r v os) = _ := stepO_form hc
      rw [if_neg f2] at e2
      exact e2
  · have e1 : stepO r v os = _ := stepO_form h
    have e3 := lookE_form r v
    rw [if_neg f1] at e1 e3
    rw [e3, e1, e1]
end K02

set_option Elab.async false
set_option linter.all false
set_option maxRecDepth 100000
set_option maxHeartbeats 2000000
namespace K02
open PySem PySem.Spec PyProof.Rows L2 R
theorem Cv_own (v : List Nat) : Cv v (own v) := ⟨own_len v, fun i h => by rw [own_at h]; rfl⟩
theorem sgn_46 {e : Int} (h0 : -1 ≤ e) (h : sgn e = 46) : e = -1 := by
  unfold sgn at h
  by_cases h1 : e = -1
  · exact h1
  · rw [if_neg h1] at h; omega
theorem Cv_view {es : List Int} (h : ImOk es) : Cv (view es) es := ⟨(view_len es).symm, fun i hi => by
  unfold view at hi
  rw [List.getElem?_map] at hi
  cases he : es[i]? with
  | none => rw [he] at hi; cases hi
  | some e =>
    rw [he] at hi
    have h1 : sgn e = 46 := Option.some.inj hi
    rw [sgn_46 (h.2 e (List.mem_of_getElem? he)).1 h1]⟩
theorem view_step {n : Nat} {r : Rw} {es : List Int} (hr : RwOk n r) (he : es.length = n) : view (stepE r es) = lookE r (view es) := view_pick (src_ok hr (by rw [view_len]; exact he)) he
theorem twiceE {n : Nat} {r : Rw} {es : List Int} (hr : RwOk n r) (hi : ImOk es) (he : es.length = n) : stepE r (stepE r es) = stepE r es := by
  have h := twiceO hr (by rw [view_len]; exact he) (Cv_view hi)
  rw [← view_step hr he] at h
  exact h
end K02

set_option Elab.async false
set_option linter.all false
set_option maxRecDepth 100000
set_option maxHeartbeats 2000000
namespace K02
open PySem PySem.Spec PyProof.Rows L2 R
theorem held_eq {n : Nat} {r : Rw} {v : List Nat} (hr : RwOk n r) (hv : v.length = n) : stepO r v (own v) = srcL r.w r.t r.o r.g v := by
  have e1 : stepO r v (own v) = _ := stepO_form (Cv_own v)
  rw [e1]
  unfold srcL
  by_cases f1 : fireB r.w r.o r.g v = true
  · rw [if_pos f1, if_pos f1]
    by_cases c1 : r.w = clearL
    · rw [if_pos c1, if_pos c1]
    · obtain ⟨o0, o1, o2⟩ := hr.on c1
      have hlt : r.o.toNat < v.length := by omega
      have hg : v[r.o.toNat]? = some v[r.o.toNat] := List.getElem?_eq_getElem hlt
      have hne : v[r.o.toNat] ≠ 46 := fun h => by
        unfold fireB at f1
        rw [if_pos ⟨c1, by rw [hg, h]⟩] at f1
        cases f1
      have ep : pick (own v) r.o = r.o := by
        unfold pick
        rw [if_neg (by omega), List.getD_eq_getElem?_getD, own_at hg, if_neg hne]
        exact Int.toNat_of_nonneg o0
      rw [if_neg c1, if_neg c1, ep]
  · rw [if_neg f1, if_neg f1]
end K02

set_option Elab.async false
set_option linter.all false
set_option maxRecDepth 100000
set_option maxHeartbeats 2000000
namespace K02
open PySem PySem.Spec PyProof.Rows L2 R
theorem law_twice {n : Nat} {r : Rw} {es : List Int} (hr : RwOk n r) (hi : ImOk es) (he : es.length = n) : ∃ md, g_law_twice [rD r, imD es] = .ret md (.bl true) none := by
  have st : g_law_twice [rD r, imD es] = fin false (m_law_twice [.frz (rD r), .frz (imD es), .un, .un, .un, .un, .un]) := rfl
  rw [st]
  unfold m_law_twice
  have hn : n ≤ 12 := by have := hi.1.2; omega
  have hvl : (view es).length = n := by rw [view_len]; exact he
  have b1 := law_view es hi
  have b2 := law_origins hr hvl hn
  have sk := src_ok hr hvl
  have b3 := carried sk he hn
  have b4 := apply_line hr hi he
  obtain ⟨i2, l2⟩ := step_ok hr hi he
  have b5 := apply_line hr i2 l2
  have b6 := look_after hr hvl hn
  have b7 := law_view _ i2
  have tw := twiceE hr hi he
  have vs := view_step hr he
  have vl2 : (lookE r (view es)).length = n := by rw [← vs, view_len]; exact l2
  have b8 := sources hr vl2 hn
  have b9 := sources hr hvl hn
  have b10 := law_origins hr vl2 hn
  have hq := held_eq hr hvl
  have h2 := twiceO hr hvl (Cv_own (view es))
  rw [hq] at h2
  have b11 := carried (src_ok hr vl2) sk.1 hn
  have s1 := same (stepE r es) (by omega)
  have s2 := same (srcL r.w r.t r.o r.g (view es)) (by have := sk.1; omega)
  have s3 := same (srcL r.w r.t r.o r.g (lookE r (view es))) (by have := (src_ok hr vl2).1; omega)
  have g1 : (srcL r.w r.t r.o r.g (view es)).map (pick es) = stepE r es := rfl
  have g2 : (srcL r.w r.t r.o r.g (view (stepE r es))).map (pick (stepE r es)) = stepE r es := tw
  have g3 : (srcL r.w r.t r.o r.g (view es)).map (pickV (view es)) = lookE r (view es) := rfl
  have g4 : (srcL r.w r.t r.o r.g (lookE r (view es))).map (pick (srcL r.w r.t r.o r.g (view es))) = srcL r.w r.t r.o r.g (view es) := h2
  rw [g1] at b3 b4
  rw [g2] at b5
  rw [g3] at b6
  rw [g4] at b11
  rw [vs] at b7
  have a1 : ∀ l, isLst (imD l) = false := fun _ => rfl
  have a2 : ∀ q md l, hold q ⟨md, imD l⟩ = some ⟨hmd q md, imD l⟩ := fun q md l => R.ev_hold_ftup
  have a3 : ∀ l, isLst (txD l) = false := fun _ => rfl
  have a4 : ∀ q md l, hold q ⟨md, txD l⟩ = some ⟨hmd q md, txD l⟩ := fun q md l => R.ev_hold_fstr
  have a5 : ∀ w t o g, isLst (rowD w t o g) = false := fun _ _ _ _ => rfl
  have a7 : ∀ md l, R.settle ⟨md, txD l⟩ = some ⟨hmd false md, txD l⟩ := fun md l => R.ev_settle_str
  have a9 : ∀ md l, R.settle ⟨md, imD l⟩ = some ⟨hmd false md, imD l⟩ := fun md l => R.ev_settle_tup
  have a10 : ∀ md l, apart md (imD l) = true := fun md l => ap_ints md _
  have a11 : ∀ md l, apart md (txD l) = true := fun md l => ap_str md _
  have a12 : ∀ md md' l, cop .NotEq ⟨md, txD l⟩ ⟨md', txD l⟩ = some ⟨.N, .bl false⟩ := fun md md' l => by unfold txD; simp [R.ev_mC, R.ev_mVar, R.ev_mVarZ, R.ev_mOp, R.ev_mOpV, R.ev_mUn, R.ev_mANil, R.ev_mACons, R.ev_mTup, R.ev_mLst, R.ev_mNoPart, R.ev_mPart, R.ev_mSl, R.ev_tTrue, R.ev_tBool, R.ev_mCh, R.ev_tAndM, R.ev_tOrM, R.ev_tNotM, R.ev_mIfE, R.ev_mAndV, R.ev_mOrV, R.ev_mNotV, R.ev_cNil, R.ev_cPl, R.ev_cRv, R.ev_mBlt, R.ev_mM1, R.ev_mCall, R.ev_mNext, R.ev_mSeq, R.ev_mFl, R.ev_mDrop, R.ev_mRet, R.ev_mRetV, R.ev_mIfS, R.ev_mAsg, R.ev_mAug, R.ev_mSetP, R.ev_mLM, R.ev_iAnyM, R.ev_iRng1M, R.ev_iRng2M, R.ev_iEn1M, R.ev_iEnM, R.ev_iZipM, R.ev_mFor, R.ev_mLc, R.ev_mJoined, R.ev_slotRV, R.ev_frzSl, R.ev_relSl, R.ev_setSl, R.ev_lend, R.ev_setT_nm, R.ev_setT_tp, R.ev_setTs_nil, R.ev_setTs_cons, R.ev_hold_N, R.ev_hold_Z, R.ev_hold_B, R.ev_settle_N, R.ev_settle_Z, R.ev_settle_B, R.ev_isLst_lst, R.ev_isLst_tup, R.ev_isLst_int, R.ev_isLst_bl, R.ev_isLst_str, R.ev_isLst_non, R.ev_isLst_scr, R.ev_idx_lst, R.ev_idx_tup, R.ev_idx_scr, R.ev_idx_str, R.ev_neg, R.ev_add_int, R.ev_sub_int, R.ev_mul_int, R.ev_div_int, R.ev_mod_int, R.ev_pow_int, R.ev_add_str, R.ev_add_tup, R.ev_add_lst, R.ev_eq_int, R.ev_ne_int, R.ev_eq_str, R.ev_ne_str, R.ev_lt, R.ev_le, R.ev_gt, R.ev_ge, R.ev_is, R.ev_isNot, R.ev_none_tup, R.ev_none_lst, R.ev_none_int, R.ev_none_str, R.ev_none_non, R.ev_len_lst, R.ev_len_tup, R.ev_len_scr, R.ev_len_str, R.ev_abs, R.ev_int1, R.ev_str_int, R.ev_str_str, R.ev_list_lst, R.ev_list_tup, R.ev_tup_lst, R.ev_tup_tup, R.ev_fmt_str, R.ev_fmt_int, R.ev_sl_lst, R.ev_sl_tup, R.ev_sl_scr, R.ev_split, R.ev_join, R.ev_tru_bl, R.ev_tru_int, R.ev_tru_non, R.ev_tru_lst, R.ev_tru_tup, R.ev_avRVs_nil, R.ev_avRVs_pl, R.ev_avRVs_rv, R.ev_share_pl, R.ev_share_N, R.ev_share_Z, R.ev_share_B, R.ev_lent_pl, R.ev_lent_N, R.ev_lent_Z, R.ev_lent_B, R.ev_fin_ret, R.ev_fin_next, R.ev_io_t, R.ev_io_f, R.ev_jGo_nil, R.ev_jGo_cons, R.ev_isi, R.ev_hold_t, R.ev_hold_fint, R.ev_hold_fstr, R.ev_hold_ftup, R.ev_hold_fbl, R.ev_settle_int, R.ev_settle_str, R.ev_settle_tup, R.ev_settle_bl, R.ev_settle_non, R.ev_share_int, R.ev_share_str, R.ev_share_tup, R.ev_lent_int, R.ev_lent_str, R.ev_lent_tup, R.hmd, sEq]
  have a13 : ∀ l, isiB (txD l) .str = true := fun _ => rfl
  unfold rD
  refine ⟨.N, ?_⟩
  simp [R.ev_mC, R.ev_mVar, R.ev_mVarZ, R.ev_mOp, R.ev_mOpV, R.ev_mUn, R.ev_mANil, R.ev_mACons, R.ev_mTup, R.ev_mLst, R.ev_mNoPart, R.ev_mPart, R.ev_mSl, R.ev_tTrue, R.ev_tBool, R.ev_mCh, R.ev_tAndM, R.ev_tOrM, R.ev_tNotM, R.ev_mIfE, R.ev_mAndV, R.ev_mOrV, R.ev_mNotV, R.ev_cNil, R.ev_cPl, R.ev_cRv, R.ev_mBlt, R.ev_mM1, R.ev_mCall, R.ev_mNext, R.ev_mSeq, R.ev_mFl, R.ev_mDrop, R.ev_mRet, R.ev_mRetV, R.ev_mIfS, R.ev_mAsg, R.ev_mAug, R.ev_mSetP, R.ev_mLM, R.ev_iAnyM, R.ev_iRng1M, R.ev_iRng2M, R.ev_iEn1M, R.ev_iEnM, R.ev_iZipM, R.ev_mFor, R.ev_mLc, R.ev_mJoined, R.ev_slotRV, R.ev_frzSl, R.ev_relSl, R.ev_setSl, R.ev_lend, R.ev_setT_nm, R.ev_setT_tp, R.ev_setTs_nil, R.ev_setTs_cons, R.ev_hold_N, R.ev_hold_Z, R.ev_hold_B, R.ev_settle_N, R.ev_settle_Z, R.ev_settle_B, R.ev_isLst_lst, R.ev_isLst_tup, R.ev_isLst_int, R.ev_isLst_bl, R.ev_isLst_str, R.ev_isLst_non, R.ev_isLst_scr, R.ev_idx_lst, R.ev_idx_tup, R.ev_idx_scr, R.ev_idx_str, R.ev_neg, R.ev_add_int, R.ev_sub_int, R.ev_mul_int, R.ev_div_int, R.ev_mod_int, R.ev_pow_int, R.ev_add_str, R.ev_add_tup, R.ev_add_lst, R.ev_eq_int, R.ev_ne_int, R.ev_eq_str, R.ev_ne_str, R.ev_lt, R.ev_le, R.ev_gt, R.ev_ge, R.ev_is, R.ev_isNot, R.ev_none_tup, R.ev_none_lst, R.ev_none_int, R.ev_none_str, R.ev_none_non, R.ev_len_lst, R.ev_len_tup, R.ev_len_scr, R.ev_len_str, R.ev_abs, R.ev_int1, R.ev_str_int, R.ev_str_str, R.ev_list_lst, R.ev_list_tup, R.ev_tup_lst, R.ev_tup_tup, R.ev_fmt_str, R.ev_fmt_int, R.ev_sl_lst, R.ev_sl_tup, R.ev_sl_scr, R.ev_split, R.ev_join, R.ev_tru_bl, R.ev_tru_int, R.ev_tru_non, R.ev_tru_lst, R.ev_tru_tup, R.ev_avRVs_nil, R.ev_avRVs_pl, R.ev_avRVs_rv, R.ev_share_pl, R.ev_share_N, R.ev_share_Z, R.ev_share_B, R.ev_lent_pl, R.ev_lent_N, R.ev_lent_Z, R.ev_lent_B, R.ev_fin_ret, R.ev_fin_next, R.ev_io_t, R.ev_io_f, R.ev_jGo_nil, R.ev_jGo_cons, R.ev_isi, R.ev_hold_t, R.ev_hold_fint, R.ev_hold_fstr, R.ev_hold_ftup, R.ev_hold_fbl, R.ev_settle_int, R.ev_settle_str, R.ev_settle_tup, R.ev_settle_bl, R.ev_settle_non, R.ev_share_int, R.ev_share_str, R.ev_share_tup, R.ev_lent_int, R.ev_lent_str, R.ev_lent_tup, R.hmd, b1, b2, b3, b4, b5, b6, b7, b8, b9, b10, b11, s1, s2, s3, a1, a2, a3, a4, a5, a7, a9, a10, a11, a12, a13]
end K02

set_option Elab.async false
set_option linter.all false
set_option maxRecDepth 100000
set_option maxHeartbeats 2000000
namespace K02
open PySem PySem.Spec PyProof.Rows L2 R
/-! ### a block of the same line -/
theorem runE_app : ∀ (l m : List Rw) (es : List Int), runE (l ++ m) es = runE m (runE l es)
  | [], _, _ => rfl
  | _ :: l, m, _ => runE_app l m _
theorem vE_app : ∀ (l m : List Rw) (v : List Nat), vE (l ++ m) v = vE m (vE l v)
  | [], _, _ => rfl
  | _ :: l, m, _ => vE_app l m _
theorem flowE_app : ∀ (l m : List Rw) (v : List Nat) (os : List Int), flowE (l ++ m) v os = flowE m (vE l v) (flowE l v os)
  | [], _, _, _ => rfl
  | _ :: l, m, _, _ => flowE_app l m _ _
theorem path_app1 : ∀ (l m : List Rw) (es : List Int), path (l ++ m) es = path l es ++ (path m (runE l es)).tail
  | [], m, es => by
    show path m es = [es] ++ (path m es).tail
    cases m <;> rfl
  | x :: l, m, es => by
    show es :: path (l ++ m) (stepE x es) = es :: path l (stepE x es) ++ _
    rw [path_app1 l m]; rfl
theorem path_cons_tail (l : List Rw) (es : List Int) : path l es = es :: (path l es).tail := by cases l <;> rfl
theorem run_fix {r : Rw} {es : List Int} (h : stepE r es = es) : ∀ k, runE (List.replicate k r) es = es
  | 0 => rfl
  | k + 1 => by
    rw [List.replicate_succ]
    show runE (List.replicate k r) (stepE r es) = es
    rw [h, run_fix h k]
theorem path_fix {r : Rw} {es : List Int} (h : stepE r es = es) : ∀ k, path (List.replicate k r) es = es :: List.replicate k es
  | 0 => rfl
  | k + 1 => by
    rw [List.replicate_succ, List.replicate_succ]
    show es :: path (List.replicate k r) (stepE r es) = _
    rw [h, path_fix h k]
theorem run_rep {r : Rw} {es : List Int} (h : stepE r (stepE r es) = stepE r es) (k : Nat) : runE (List.replicate (k + 1) r) es = stepE r es := by
  rw [List.replicate_succ]
  exact run_fix h k
theorem path_rep {r : Rw} {es : List Int} (h : stepE r (stepE r es) = stepE r es) (k : Nat) : (path (List.replicate k r) es).tail = List.replicate k (stepE r es) := by
  cases k with
  | zero => rfl
  | succ k =>
    rw [List.replicate_succ]
    show path (List.replicate k r) (stepE r es) = _
    rw [path_fix h k]; rfl
theorem v_fix {r : Rw} {v : List Nat} (h : lookE r v = v) : ∀ k, vE (List.replicate k r) v = v
  | 0 => rfl
  | k + 1 => by
    rw [List.replicate_succ]
    show vE (List.replicate k r) (lookE r v) = v
    rw [h, v_fix h k]
theorem flow_fix {r : Rw} {v : List Nat} {os : List Int} (h : lookE r v = v) (h2 : stepO r v os = os) : ∀ k, flowE (List.replicate k r) v os = os
  | 0 => rfl
  | k + 1 => by
    rw [List.replicate_succ]
    show flowE (List.replicate k r) (lookE r v) (stepO r v os) = os
    rw [h, h2, flow_fix h h2 k]
theorem vE_view {n : Nat} : ∀ {rs : List Rw} {es : List Int}, (∀ r ∈ rs, RwOk n r) → ImOk es → es.length = n → vE rs (view es) = view (runE rs es)
  | [], _, _, _, _ => rfl
  | r :: rs, es, hr, hi, he => by
    obtain ⟨a, b⟩ := step_ok (hr r (List.mem_cons_self ..)) hi he
    show vE rs (lookE r (view es)) = view (runE rs (stepE r es))
    rw [← view_step (hr r (List.mem_cons_self ..)) he]
    exact vE_view (rs := rs) (fun x hx => hr x (List.mem_cons_of_mem _ hx)) a b
theorem Cv_run {n : Nat} : ∀ {rs : List Rw} {v : List Nat} {os : List Int}, (∀ r ∈ rs, RwOk n r) → Cv v os → Cv (vE rs v) (flowE rs v os)
  | [], _, _, _, h => h
  | r :: rs, v, os, hr, h => Cv_run (rs := rs) (fun x hx => hr x (List.mem_cons_of_mem _ hx)) (Cv_step r h)
/-- the flow behind a block -/
theorem flow_rep {n : Nat} {r : Rw} {es : List Int} {os : List Int} (hr : RwOk n r) (hi : ImOk es) (he : es.length = n) (hc : Cv (view es) os) (k : Nat) : flowE (List.replicate (k + 1) r) (view es) os = stepO r (view es) os := by
  rw [List.replicate_succ]
  show flowE (List.replicate k r) (lookE r (view es)) (stepO r (view es) os) = _
  have e1 := twiceE hr hi he
  have e2 : lookE r (lookE r (view es)) = lookE r (view es) := by
    obtain ⟨i2, l2⟩ := step_ok hr hi he
    have h1 := view_step hr l2
    rw [e1, view_step hr he] at h1
    exact h1.symm
  exact flow_fix e2 (twiceO hr (by rw [view_len]; exact he) hc) k
theorem rep_flat {α : Type} (a : α) : ∀ k : Nat, (List.replicate k [a]).flatten = List.replicate k a
  | 0 => rfl
  | k + 1 => by rw [List.replicate_succ, List.flatten_cons, rep_flat a k]; rfl
end K02

set_option Elab.async false
set_option linter.all false
set_option maxRecDepth 100000
set_option maxHeartbeats 2000000
namespace K02
open PySem PySem.Spec PyProof.Rows L2 R
/-- the body of the loop -/
def mbT : M Fl := (mSeq (mAsg (.nm 12) (mCall 3 g_law_row (cPl 1 (cPl 2 (cRv true (mCall 1 g_law_view (cPl 4 cNil)) cNil))))) (mSeq (mAsg (.nm 13) (mCall 2 g_law_count (cPl 1 (cRv true (mOp true (bop .Sub) (mC (.int 60)) (mBlt fLen (cPl 7 cNil))) cNil)))) (mSeq (mIfS (tBool (mOpV 13 (cop .Gt) (mC (.int 0)))) (mSeq (mIfS (tNotM (tTrue (mCall 2 g_law_twice (cPl 12 (cPl 4 cNil))))) (mSeq (mRet (mC (.bl false))) mNext) mNext) (mSeq (mAsg (.nm 14) (mCall 2 g_law_origins (cPl 12 (cRv true (mCall 1 g_law_view (cPl 4 cNil)) cNil)))) (mSeq (mAsg (.nm 4) (mCall 2 g_law_carried (cPl 14 (cPl 4 cNil)))) (mSeq (mAsg (.nm 5) (mCall 2 g_law_carried (cPl 14 (cPl 5 cNil)))) (mSeq (mDrop (mLM 6 lmAppend (mACons (mVarZ 12) mANil))) (mSeq (mDrop (mLM 7 lmExtend (mACons (mOp true (bop .Mult) (mLst (mACons (mVarZ 12) mANil)) (mVar 13)) mANil))) (mSeq (mDrop (mLM 8 lmExtend (mACons (mOp true (bop .Mult) (mLst (mACons (mVarZ 4) mANil)) (mVar 13)) mANil))) mNext))))))) mNext) mNext)))
def stT (x0 b n es : R.D) (s w : List Int) (sh lo : List Rw) (pa : List (List Int)) (y9 y12 y13 y14 : Sl) : State := [x0 |> .frz, .own b, .frz n, .frz es, .frz (imD s), .frz (imD w), .own (scD sh), .own (scD lo), .own (imsD pa), y9, .un, .un, y12, y13, y14, .un]
theorem mulL (md md' : Md) (d : R.D) (k : Int) (h0 : 0 ≤ k) (h1 : k ≤ 60) : bop .Mult ⟨md, .lst [d]⟩ ⟨md', .int k⟩ = some ⟨.N, .lst (List.replicate k.toNat d)⟩ := by
  show (if decide (0 ≤ k ∧ k ≤ 1000) && decide ([d].length ≤ 1000) then some (⟨.N, .lst (List.replicate k.toNat [d]).flatten⟩ : RV) else none) = _
  rw [if_pos (by rw [decide_eq_true (show 0 ≤ k ∧ k ≤ 1000 by omega)]; rfl), rep_flat]
theorem turn {n : Nat} {x0 b es : R.D} {s w : List Int} {sh lo : List Rw} {pa : List (List Int)} {y9 y12 y13 y14 : Sl} (hb : Bag b) (hn0 : 1 ≤ n) (hn : n ≤ 12) (hi : ImOk s) (hs : s.length = n) (hw : w.length = n) (hl : lo.length ≤ 60) (hsh : sh.length ≤ 60) (hp : pa.length ≤ 61) (n12 : NI y12) (n13 : NI y13) (n14 : NI y14) :
    ∃ (b' : R.D) (r : Rw) (k : Int) (z12 z13 z14 : Sl), Bag b' ∧ RwOk n r ∧ 0 ≤ k ∧ k ≤ 60 - lo.length ∧ NI z12 ∧ NI z13 ∧ NI z14 ∧ mbT (stT x0 b (.int n) es s w sh lo pa y9 y12 y13 y14) = .ok .next (if 0 < k then stT x0 b' (.int n) es (stepE r s) (stepO r (view s) w) (sh ++ [r]) (lo ++ List.replicate k.toNat r) (pa ++ List.replicate k.toNat (stepE r s)) y9 z12 z13 z14 else stT x0 b' (.int n) es s w sh lo pa y9 z12 z13 z14) := by
  have ev := law_view s hi
  have hvl : (view s).length = n := by rw [view_len]; exact hs
  obtain ⟨b1, w1, t1, o1, g1, e1, hb1, hr⟩ := row b n (view s) hb (by omega) (by omega) (by omega) (view_ok hi)
  rw [hvl] at hr
  obtain ⟨b2, md2, k, e2, hb2, k0, k1⟩ := count b1 (60 - (lo.length : Nat)) hb1 (by omega) (by omega)
  have hro : RwOk n ⟨w1, t1, o1, g1⟩ := hr
  refine ⟨b2, ⟨w1, t1, o1, g1⟩, k, .frz (rowD w1 t1 o1 g1), .frz (.int k), if 0 < k then .frz (imD (srcL w1 t1 o1 g1 (view s))) else y14, hb2, hro, k0, k1, .inr ⟨_, rfl⟩, .inr ⟨_, rfl⟩, ?_, ?_⟩
  · split
    · exact .inr ⟨_, rfl⟩
    · exact n14
  obtain ⟨md3, e3⟩ := law_twice hro hi hs
  have e4 := law_origins hr hvl hn
  have sk := src_ok hr hvl
  have e5 := carried sk hs hn
  have e6 := carried sk hw hn
  have g5 : (srcL w1 t1 o1 g1 (view s)).map (pick s) = stepE ⟨w1, t1, o1, g1⟩ s := rfl
  have g6 : (srcL w1 t1 o1 g1 (view s)).map (pick w) = stepO ⟨w1, t1, o1, g1⟩ (view s) w := rfl
  rw [g5] at e5
  rw [g6] at e6
  generalize stepE ⟨w1, t1, o1, g1⟩ s = s2 at e5 ⊢
  generalize stepO ⟨w1, t1, o1, g1⟩ (view s) w = w2 at e6 ⊢
  have hlen : ∀ md, fLen [⟨md, scD lo⟩] = some ⟨.N, .int lo.length⟩ := fun md => by
    show some (⟨.N, .int ((lo.map rD).length : Nat)⟩ : RV) = _
    rw [List.length_map]
  have a1 : ∀ l, isLst (imD l) = false := fun _ => rfl
  have a2 : ∀ q md l, hold q ⟨md, imD l⟩ = some ⟨hmd q md, imD l⟩ := fun q md l => R.ev_hold_ftup
  have a3 : ∀ l, isLst (txD l) = false := fun _ => rfl
  have a4 : ∀ q md l, hold q ⟨md, txD l⟩ = some ⟨hmd q md, txD l⟩ := fun q md l => R.ev_hold_fstr
  have a5 : ∀ w t o g, isLst (rowD w t o g) = false := fun _ _ _ _ => rfl
  have a6 : ∀ q md w t o g, hold q ⟨md, rowD w t o g⟩ = some ⟨hmd q md, rowD w t o g⟩ := fun q md w t o g => R.ev_hold_ftup
  have a7 : ∀ md l, R.settle ⟨md, txD l⟩ = some ⟨hmd false md, txD l⟩ := fun md l => R.ev_settle_str
  have a8 : ∀ md w t o g, R.settle ⟨md, rowD w t o g⟩ = some ⟨hmd false md, rowD w t o g⟩ := fun md w t o g => R.ev_settle_tup
  have a9 : ∀ md l, R.settle ⟨md, imD l⟩ = some ⟨hmd false md, imD l⟩ := fun md l => R.ev_settle_tup
  have a10 : ∀ md l, apart md (imD l) = true := fun md l => ap_ints md _
  have a11 : ∀ md l, apart md (txD l) = true := fun md l => ap_str md _
  have l0 : lenOk 1 = true := by decide
  have l1 : lenOk sh.length = true := lenOk_of (by omega)
  have l2 : lenOk (lo.length + k.toNat) = true := lenOk_of (by omega)
  have l3 : lenOk (pa.length + k.toNat) = true := lenOk_of (by omega)
  have rd : rD ⟨w1, t1, o1, g1⟩ = rowD w1 t1 o1 g1 := rfl
  rw [rd] at e3
  unfold mbT stT
  generalize srcL w1 t1 o1 g1 (view s) = sl at e4 e5 e6 ⊢
  generalize view s = vs at ev e1 e4 ⊢
  by_cases hk : 0 < k
  · rw [if_pos hk, if_pos hk]
    have ml : ∀ md md' d, bop .Mult ⟨md, .lst [d]⟩ ⟨md', .int k⟩ = some ⟨.N, .lst (List.replicate k.toNat d)⟩ := fun md md' d => mulL md md' d k k0 (by omega)
    rcases n12 with rfl | ⟨_, rfl⟩ <;> rcases n13 with rfl | ⟨_, rfl⟩ <;> rcases n14 with rfl | ⟨_, rfl⟩ <;> (simp [R.ev_mC, R.ev_mVar, R.ev_mVarZ, R.ev_mOp, R.ev_mOpV, R.ev_mUn, R.ev_mANil, R.ev_mACons, R.ev_mTup, R.ev_mLst, R.ev_mNoPart, R.ev_mPart, R.ev_mSl, R.ev_tTrue, R.ev_tBool, R.ev_mCh, R.ev_tAndM, R.ev_tOrM, R.ev_tNotM, R.ev_mIfE, R.ev_mAndV, R.ev_mOrV, R.ev_mNotV, R.ev_cNil, R.ev_cPl, R.ev_cRv, R.ev_mBlt, R.ev_mM1, R.ev_mCall, R.ev_mNext, R.ev_mSeq, R.ev_mFl, R.ev_mDrop, R.ev_mRet, R.ev_mRetV, R.ev_mIfS, R.ev_mAsg, R.ev_mAug, R.ev_mSetP, R.ev_mLM, R.ev_iAnyM, R.ev_iRng1M, R.ev_iRng2M, R.ev_iEn1M, R.ev_iEnM, R.ev_iZipM, R.ev_mFor, R.ev_mLc, R.ev_mJoined, R.ev_slotRV, R.ev_frzSl, R.ev_relSl, R.ev_setSl, R.ev_lend, R.ev_setT_nm, R.ev_setT_tp, R.ev_setTs_nil, R.ev_setTs_cons, R.ev_hold_N, R.ev_hold_Z, R.ev_hold_B, R.ev_settle_N, R.ev_settle_Z, R.ev_settle_B, R.ev_isLst_lst, R.ev_isLst_tup, R.ev_isLst_int, R.ev_isLst_bl, R.ev_isLst_str, R.ev_isLst_non, R.ev_isLst_scr, R.ev_idx_lst, R.ev_idx_tup, R.ev_idx_scr, R.ev_idx_str, R.ev_neg, R.ev_add_int, R.ev_sub_int, R.ev_mul_int, R.ev_div_int, R.ev_mod_int, R.ev_pow_int, R.ev_add_str, R.ev_add_tup, R.ev_add_lst, R.ev_eq_int, R.ev_ne_int, R.ev_eq_str, R.ev_ne_str, R.ev_lt, R.ev_le, R.ev_gt, R.ev_ge, R.ev_is, R.ev_isNot, R.ev_none_tup, R.ev_none_lst, R.ev_none_int, R.ev_none_str, R.ev_none_non, R.ev_len_lst, R.ev_len_tup, R.ev_len_scr, R.ev_len_str, R.ev_abs, R.ev_int1, R.ev_str_int, R.ev_str_str, R.ev_list_lst, R.ev_list_tup, R.ev_tup_lst, R.ev_tup_tup, R.ev_fmt_str, R.ev_fmt_int, R.ev_sl_lst, R.ev_sl_tup, R.ev_sl_scr, R.ev_split, R.ev_join, R.ev_tru_bl, R.ev_tru_int, R.ev_tru_non, R.ev_tru_lst, R.ev_tru_tup, R.ev_avRVs_nil, R.ev_avRVs_pl, R.ev_avRVs_rv, R.ev_share_pl, R.ev_share_N, R.ev_share_Z, R.ev_share_B, R.ev_lent_pl, R.ev_lent_N, R.ev_lent_Z, R.ev_lent_B, R.ev_fin_ret, R.ev_fin_next, R.ev_io_t, R.ev_io_f, R.ev_jGo_nil, R.ev_jGo_cons, R.ev_isi, R.ev_hold_t, R.ev_hold_fint, R.ev_hold_fstr, R.ev_hold_ftup, R.ev_hold_fbl, R.ev_settle_int, R.ev_settle_str, R.ev_settle_tup, R.ev_settle_bl, R.ev_settle_non, R.ev_share_int, R.ev_share_str, R.ev_share_tup, R.ev_lent_int, R.ev_lent_str, R.ev_lent_tup, R.hmd, ev, e1, e2, e3, e4, e5, e6, hlen, a1, a2, a3, a4, a5, a6, a7, a8, a9, a10, a11, hk, ml, scD, imsD, lmAppend, lmExtend, isL, l0, l1, l2, l3, rd, List.map_append, List.map_replicate])
  · rw [if_neg hk, if_neg hk]
    rcases n12 with rfl | ⟨_, rfl⟩ <;> rcases n13 with rfl | ⟨_, rfl⟩ <;> (simp [R.ev_mC, R.ev_mVar, R.ev_mVarZ, R.ev_mOp, R.ev_mOpV, R.ev_mUn, R.ev_mANil, R.ev_mACons, R.ev_mTup, R.ev_mLst, R.ev_mNoPart, R.ev_mPart, R.ev_mSl, R.ev_tTrue, R.ev_tBool, R.ev_mCh, R.ev_tAndM, R.ev_tOrM, R.ev_tNotM, R.ev_mIfE, R.ev_mAndV, R.ev_mOrV, R.ev_mNotV, R.ev_cNil, R.ev_cPl, R.ev_cRv, R.ev_mBlt, R.ev_mM1, R.ev_mCall, R.ev_mNext, R.ev_mSeq, R.ev_mFl, R.ev_mDrop, R.ev_mRet, R.ev_mRetV, R.ev_mIfS, R.ev_mAsg, R.ev_mAug, R.ev_mSetP, R.ev_mLM, R.ev_iAnyM, R.ev_iRng1M, R.ev_iRng2M, R.ev_iEn1M, R.ev_iEnM, R.ev_iZipM, R.ev_mFor, R.ev_mLc, R.ev_mJoined, R.ev_slotRV, R.ev_frzSl, R.ev_relSl, R.ev_setSl, R.ev_lend, R.ev_setT_nm, R.ev_setT_tp, R.ev_setTs_nil, R.ev_setTs_cons, R.ev_hold_N, R.ev_hold_Z, R.ev_hold_B, R.ev_settle_N, R.ev_settle_Z, R.ev_settle_B, R.ev_isLst_lst, R.ev_isLst_tup, R.ev_isLst_int, R.ev_isLst_bl, R.ev_isLst_str, R.ev_isLst_non, R.ev_isLst_scr, R.ev_idx_lst, R.ev_idx_tup, R.ev_idx_scr, R.ev_idx_str, R.ev_neg, R.ev_add_int, R.ev_sub_int, R.ev_mul_int, R.ev_div_int, R.ev_mod_int, R.ev_pow_int, R.ev_add_str, R.ev_add_tup, R.ev_add_lst, R.ev_eq_int, R.ev_ne_int, R.ev_eq_str, R.ev_ne_str, R.ev_lt, R.ev_le, R.ev_gt, R.ev_ge, R.ev_is, R.ev_isNot, R.ev_none_tup, R.ev_none_lst, R.ev_none_int, R.ev_none_str, R.ev_none_non, R.ev_len_lst, R.ev_len_tup, R.ev_len_scr, R.ev_len_str, R.ev_abs, R.ev_int1, R.ev_str_int, R.ev_str_str, R.ev_list_lst, R.ev_list_tup, R.ev_tup_lst, R.ev_tup_tup, R.ev_fmt_str, R.ev_fmt_int, R.ev_sl_lst, R.ev_sl_tup, R.ev_sl_scr, R.ev_split, R.ev_join, R.ev_tru_bl, R.ev_tru_int, R.ev_tru_non, R.ev_tru_lst, R.ev_tru_tup, R.ev_avRVs_nil, R.ev_avRVs_pl, R.ev_avRVs_rv, R.ev_share_pl, R.ev_share_N, R.ev_share_Z, R.ev_share_B, R.ev_lent_pl, R.ev_lent_N, R.ev_lent_Z, R.ev_lent_B, R.ev_fin_ret, R.ev_fin_next, R.ev_io_t, R.ev_io_f, R.ev_jGo_nil, R.ev_jGo_cons, R.ev_isi, R.ev_hold_t, R.ev_hold_fint, R.ev_hold_fstr, R.ev_hold_ftup, R.ev_hold_fbl, R.ev_settle_int, R.ev_settle_str, R.ev_settle_tup, R.ev_settle_bl, R.ev_settle_non, R.ev_share_int, R.ev_share_str, R.ev_share_tup, R.ev_lent_int, R.ev_lent_str, R.ev_lent_tup, R.hmd, ev, e1, e2, hlen, a1, a2, a3, a4, a5, a6, a7, a8, a9, a10, a11, hk])
end K02

set_option Elab.async false
set_option linter.all false
set_option maxRecDepth 100000
set_option maxHeartbeats 2000000
namespace K02
open PySem PySem.Spec PyProof.Rows L2 R
theorem same_end {n : Nat} {r : Rw} {es : List Int} (hr : RwOk n r) (hi : ImOk es) (he : es.length = n) (k : Int) (hk : 0 < k) : runE (List.replicate k.toNat r) es = stepE r es := by
  obtain ⟨j, hj⟩ : ∃ j, k.toNat = j + 1 := ⟨k.toNat - 1, by omega⟩
  rw [hj]
  exact run_rep (twiceE hr hi he) j
/-- what the loop keeps -/
structure Kept (n : Nat) (es s w : List Int) (sh lo : List Rw) (pa : List (List Int)) : Prop where
  rs : ∀ r ∈ sh, RwOk n r
  rl : ∀ r ∈ lo, RwOk n r
  ll : lo.length ≤ 60
  ls : sh.length ≤ lo.length
  sl : s = runE lo es
  ss : s = runE sh es
  pl : pa = path lo es
  wl : w = flowE lo (view es) (own (view es))
  ws : w = flowE sh (view es) (own (view es))
theorem Kept.step {n : Nat} {es s w : List Int} {sh lo : List Rw} {pa : List (List Int)} (h : Kept n es s w sh lo pa) (hi : ImOk es) (he : es.length = n) {r : Rw} (hr : RwOk n r) {k : Int} (k0 : 0 < k) (k1 : k ≤ 60 - lo.length) :
    Kept n es (stepE r s) (stepO r (view s) w) (sh ++ [r]) (lo ++ List.replicate k.toNat r) (pa ++ List.replicate k.toNat (stepE r s)) := by
  have hkl := run_ok h.rl hi he
  have hks := run_ok h.rs hi he
  have vl := vE_view h.rl hi he
  have vs := vE_view h.rs hi he
  have cv := Cv_run h.rl (Cv_own (view es))
  rw [vl, ← h.sl, ← h.wl] at cv
  have hs : ImOk s ∧ s.length = n := by rw [h.sl]; exact hkl
  obtain ⟨j, hj⟩ : ∃ j, k.toNat = j + 1 := ⟨k.toNat - 1, by omega⟩
  refine ⟨fun x hx => ?_, fun x hx => ?_, ?_, ?_, ?_, ?_, ?_, ?_, ?_⟩
  · rcases List.mem_append.mp hx with hx | hx
    · exact h.rs x hx
    · rw [List.mem_singleton.mp hx]; exact hr
  · rcases List.mem_append.mp hx with hx | hx
    · exact h.rl x hx
    · rw [List.eq_of_mem_replicate hx]; exact hr
  · rw [List.length_append, List.length_replicate]; omega
  · rw [List.length_append, List.length_append, List.length_replicate, List.length_singleton]
    have := h.ls; omega
  · rw [runE_app, ← h.sl, same_end hr hs.1 hs.2 k k0]
  · rw [runE_snoc, ← h.ss]
  · rw [path_app1, ← h.pl, ← h.sl, path_rep (twiceE hr hs.1 hs.2)]
  · rw [flowE_app, vl, ← h.sl, ← h.wl, hj, flow_rep hr hs.1 hs.2 cv]
  · rw [flowE_snoc, vs, ← h.ss, ← h.ws]; rfl
theorem path_mem {n : Nat} : ∀ {rs : List Rw} {es : List Int}, (∀ r ∈ rs, RwOk n r) → es.length = n → n ≤ 12 → ∀ x ∈ path rs es, x.length ≤ 12
  | [], es, _, he, hn, x, hx => by
    rw [List.mem_singleton.mp hx]; omega
  | r :: rs, es, hr, he, hn, x, hx => by
    rcases List.mem_cons.mp hx with hx | hx
    · rw [hx]; omega
    · refine path_mem (rs := rs) (es := stepE r es) (fun y hy => hr y (List.mem_cons_of_mem _ hy)) ?_ hn x hx
      unfold stepE
      rw [List.length_map]
      exact (src_ok (hr r (List.mem_cons_self ..)) (by rw [view_len]; exact he)).1
theorem whole_lc (es : List Int) (hi : ImOk es) (x0 x1 x2 : Sl) (hx : okW [x0, x1, x2, .frz (imD es), .frz (imD es), .un, .un, .un, .un, .un, .un, .un, .un, .un, .un, .un] [15] = true) : lcGo [15] (.nm 15) (fun S => .ok true S) (mIfE (tBool (mOp true (cop .NotEq) (mOpV 3 fIdx (mVar 15)) (mUn fNeg (mC (.int 1))))) (mVar 15) (mUn fNeg (mC (.int 1)))) (rangeD 0 es.length) [x0, x1, x2, .frz (imD es), .frz (imD es), .un, .un, .un, .un, .un, .un, .un, .un, .un, .un, .un] = .ok ((own (view es)).map R.D.int) [x0, x1, x2, .frz (imD es), .frz (imD es), .un, .un, .un, .un, .un, .un, .un, .un, .un, .un, .un] := by
  have lc := lcGo_map (vs := [15]) (tg := .nm 15) (mt := fun S => .ok true S) (me := mIfE (tBool (mOp true (cop .NotEq) (mOpV 3 fIdx (mVar 15)) (mUn fNeg (mC (.int 1))))) (mVar 15) (mUn fNeg (mC (.int 1)))) (fun i : Nat => R.D.int (if (view es).getD i 0 = 46 then -1 else (i : Int))) (fun i : Nat => R.D.int (0 + (i : Nat))) [x0, x1, x2, .frz (imD es), .frz (imD es), .un, .un, .un, .un, .un, .un, .un, .un, .un, .un, .un] (List.range es.length) (fun i hl => by
    have hil : i < es.length := List.mem_range.mp hl
    have e0 : (0 : Int) + (i : Nat) = (i : Nat) := by omega
    rw [e0]
    have ha : ∀ md md', fIdx ⟨md, imD es⟩ ⟨md', .int ((i : Nat) : Int)⟩ = some ⟨.Z, .int (es.getD i 0)⟩ := fun md md' => by
      show (L2.atI (es.map R.D.int) _).map _ = _
      rw [at_nat (x := R.D.int (es.getD i 0)) (by rw [List.getElem?_map, List.getD_eq_getElem?_getD, List.getElem?_eq_getElem hil]; rfl)]
      rfl
    have hv : (view es).getD i 0 = sgn (es.getD i 0) := by
      unfold view
      rw [List.getD_eq_getElem?_getD, List.getElem?_map, List.getD_eq_getElem?_getD, List.getElem?_eq_getElem hil]; rfl
    have hb := hi.2 es[i] (List.getElem_mem hil)
    have hg : es.getD i 0 = es[i] := by rw [List.getD_eq_getElem?_getD, List.getElem?_eq_getElem hil]; rfl
    rw [hv]
    rw [← hg] at hb
    generalize es.getD i 0 = e at ha hb
    generalize ((i : Nat) : Int) = k at ha ⊢
    by_cases h : e = -1
    · subst h
      exact ⟨[x0, x1, x2, .frz (imD es), .frz (imD es), .un, .un, .un, .un, .un, .un, .un, .un, .un, .un, .frz (.int k)], [x0, x1, x2, .frz (imD es), .frz (imD es), .un, .un, .un, .un, .un, .un, .un, .un, .un, .un, .frz (.int k)], ⟨.N, .int (-1)⟩, [x0, x1, x2, .frz (imD es), .frz (imD es), .un, .un, .un, .un, .un, .un, .un, .un, .un, .un, .frz (.int k)], ⟨.N, .int (-1)⟩, by simp [R.ev_mC, R.ev_mVar, R.ev_mVarZ, R.ev_mOp, R.ev_mOpV, R.ev_mUn, R.ev_mANil, R.ev_mACons, R.ev_mTup, R.ev_mLst, R.ev_mNoPart, R.ev_mPart, R.ev_mSl, R.ev_tTrue, R.ev_tBool, R.ev_mCh, R.ev_tAndM, R.ev_tOrM, R.ev_tNotM, R.ev_mIfE, R.ev_mAndV, R.ev_mOrV, R.ev_mNotV, R.ev_cNil, R.ev_cPl, R.ev_cRv, R.ev_mBlt, R.ev_mM1, R.ev_mCall, R.ev_mNext, R.ev_mSeq, R.ev_mFl, R.ev_mDrop, R.ev_mRet, R.ev_mRetV, R.ev_mIfS, R.ev_mAsg, R.ev_mAug, R.ev_mSetP, R.ev_mLM, R.ev_iAnyM, R.ev_iRng1M, R.ev_iRng2M, R.ev_iEn1M, R.ev_iEnM, R.ev_iZipM, R.ev_mFor, R.ev_mLc, R.ev_mJoined, R.ev_slotRV, R.ev_frzSl, R.ev_relSl, R.ev_setSl, R.ev_lend, R.ev_setT_nm, R.ev_setT_tp, R.ev_setTs_nil, R.ev_setTs_cons, R.ev_hold_N, R.ev_hold_Z, R.ev_hold_B, R.ev_settle_N, R.ev_settle_Z, R.ev_settle_B, R.ev_isLst_lst, R.ev_isLst_tup, R.ev_isLst_int, R.ev_isLst_bl, R.ev_isLst_str, R.ev_isLst_non, R.ev_isLst_scr, R.ev_idx_lst, R.ev_idx_tup, R.ev_idx_scr, R.ev_idx_str, R.ev_neg, R.ev_add_int, R.ev_sub_int, R.ev_mul_int, R.ev_div_int, R.ev_mod_int, R.ev_pow_int, R.ev_add_str, R.ev_add_tup, R.ev_add_lst, R.ev_eq_int, R.ev_ne_int, R.ev_eq_str, R.ev_ne_str, R.ev_lt, R.ev_le, R.ev_gt, R.ev_ge, R.ev_is, R.ev_isNot, R.ev_none_tup, R.ev_none_lst, R.ev_none_int, R.ev_none_str, R.ev_none_non, R.ev_len_lst, R.ev_len_tup, R.ev_len_scr, R.ev_len_str, R.ev_abs, R.ev_int1, R.ev_str_int, R.ev_str_str, R.ev_list_lst, R.ev_list_tup, R.ev_tup_lst, R.ev_tup_tup, R.ev_fmt_str, R.ev_fmt_int, R.ev_sl_lst, R.ev_sl_tup, R.ev_sl_scr, R.ev_split, R.ev_join, R.ev_tru_bl, R.ev_tru_int, R.ev_tru_non, R.ev_tru_lst, R.ev_tru_tup, R.ev_avRVs_nil, R.ev_avRVs_pl, R.ev_avRVs_rv, R.ev_share_pl, R.ev_share_N, R.ev_share_Z, R.ev_share_B, R.ev_lent_pl, R.ev_lent_N, R.ev_lent_Z, R.ev_lent_B, R.ev_fin_ret, R.ev_fin_next, R.ev_io_t, R.ev_io_f, R.ev_jGo_nil, R.ev_jGo_cons, R.ev_isi, R.ev_hold_t, R.ev_hold_fint, R.ev_hold_fstr, R.ev_hold_ftup, R.ev_hold_fbl, R.ev_settle_int, R.ev_settle_str, R.ev_settle_tup, R.ev_settle_bl, R.ev_settle_non, R.ev_share_int, R.ev_share_str, R.ev_share_tup, R.ev_lent_int, R.ev_lent_str, R.ev_lent_tup, R.hmd], rfl, by simp [R.ev_mC, R.ev_mVar, R.ev_mVarZ, R.ev_mOp, R.ev_mOpV, R.ev_mUn, R.ev_mANil, R.ev_mACons, R.ev_mTup, R.ev_mLst, R.ev_mNoPart, R.ev_mPart, R.ev_mSl, R.ev_tTrue, R.ev_tBool, R.ev_mCh, R.ev_tAndM, R.ev_tOrM, R.ev_tNotM, R.ev_mIfE, R.ev_mAndV, R.ev_mOrV, R.ev_mNotV, R.ev_cNil, R.ev_cPl, R.ev_cRv, R.ev_mBlt, R.ev_mM1, R.ev_mCall, R.ev_mNext, R.ev_mSeq, R.ev_mFl, R.ev_mDrop, R.ev_mRet, R.ev_mRetV, R.ev_mIfS, R.ev_mAsg, R.ev_mAug, R.ev_mSetP, R.ev_mLM, R.ev_iAnyM, R.ev_iRng1M, R.ev_iRng2M, R.ev_iEn1M, R.ev_iEnM, R.ev_iZipM, R.ev_mFor, R.ev_mLc, R.ev_mJoined, R.ev_slotRV, R.ev_frzSl, R.ev_relSl, R.ev_setSl, R.ev_lend, R.ev_setT_nm, R.ev_setT_tp, R.ev_setTs_nil, R.ev_setTs_cons, R.ev_hold_N, R.ev_hold_Z, R.ev_hold_B, R.ev_settle_N, R.ev_settle_Z, R.ev_settle_B, R.ev_isLst_lst, R.ev_isLst_tup, R.ev_isLst_int, R.ev_isLst_bl, R.ev_isLst_str, R.ev_isLst_non, R.ev_isLst_scr, R.ev_idx_lst, R.ev_idx_tup, R.ev_idx_scr, R.ev_idx_str, R.ev_neg, R.ev_add_int, R.ev_sub_int, R.ev_mul_int, R.ev_div_int, R.ev_mod_int, R.ev_pow_int, R.ev_add_str, R.ev_add_tup, R.ev_add_lst, R.ev_eq_int, R.ev_ne_int, R.ev_eq_str, R.ev_ne_str, R.ev_lt, R.ev_le, R.ev_gt, R.ev_ge, R.ev_is, R.ev_isNot, R.ev_none_tup, R.ev_none_lst, R.ev_none_int, R.ev_none_str, R.ev_none_non, R.ev_len_lst, R.ev_len_tup, R.ev_len_scr, R.ev_len_str, R.ev_abs, R.ev_int1, R.ev_str_int, R.ev_str_str, R.ev_list_lst, R.ev_list_tup, R.ev_tup_lst, R.ev_tup_tup, R.ev_fmt_str, R.ev_fmt_int, R.ev_sl_lst, R.ev_sl_tup, R.ev_sl_scr, R.ev_split, R.ev_join, R.ev_tru_bl, R.ev_tru_int, R.ev_tru_non, R.ev_tru_lst, R.ev_tru_tup, R.ev_avRVs_nil, R.ev_avRVs_pl, R.ev_avRVs_rv, R.ev_share_pl, R.ev_share_N, R.ev_share_Z, R.ev_share_B, R.ev_lent_pl, R.ev_lent_N, R.ev_lent_Z, R.ev_lent_B, R.ev_fin_ret, R.ev_fin_next, R.ev_io_t, R.ev_io_f, R.ev_jGo_nil, R.ev_jGo_cons, R.ev_isi, R.ev_hold_t, R.ev_hold_fint, R.ev_hold_fstr, R.ev_hold_ftup, R.ev_hold_fbl, R.ev_settle_int, R.ev_settle_str, R.ev_settle_tup, R.ev_settle_bl, R.ev_settle_non, R.ev_share_int, R.ev_share_str, R.ev_share_tup, R.ev_lent_int, R.ev_lent_str, R.ev_lent_tup, R.hmd, ha], rfl, by simp [okW] at hx ⊢, rfl, rfl⟩
    · have h46 : sgn e ≠ 46 := fun q => h (sgn_46 hb.1 q)
      exact ⟨[x0, x1, x2, .frz (imD es), .frz (imD es), .un, .un, .un, .un, .un, .un, .un, .un, .un, .un, .frz (.int k)], [x0, x1, x2, .frz (imD es), .frz (imD es), .un, .un, .un, .un, .un, .un, .un, .un, .un, .un, .frz (.int k)], ⟨.Z, .int k⟩, [x0, x1, x2, .frz (imD es), .frz (imD es), .un, .un, .un, .un, .un, .un, .un, .un, .un, .un, .frz (.int k)], ⟨.Z, .int k⟩, by simp [R.ev_mC, R.ev_mVar, R.ev_mVarZ, R.ev_mOp, R.ev_mOpV, R.ev_mUn, R.ev_mANil, R.ev_mACons, R.ev_mTup, R.ev_mLst, R.ev_mNoPart, R.ev_mPart, R.ev_mSl, R.ev_tTrue, R.ev_tBool, R.ev_mCh, R.ev_tAndM, R.ev_tOrM, R.ev_tNotM, R.ev_mIfE, R.ev_mAndV, R.ev_mOrV, R.ev_mNotV, R.ev_cNil, R.ev_cPl, R.ev_cRv, R.ev_mBlt, R.ev_mM1, R.ev_mCall, R.ev_mNext, R.ev_mSeq, R.ev_mFl, R.ev_mDrop, R.ev_mRet, R.ev_mRetV, R.ev_mIfS, R.ev_mAsg, R.ev_mAug, R.ev_mSetP, R.ev_mLM, R.ev_iAnyM, R.ev_iRng1M, R.ev_iRng2M, R.ev_iEn1M, R.ev_iEnM, R.ev_iZipM, R.ev_mFor, R.ev_mLc, R.ev_mJoined, R.ev_slotRV, R.ev_frzSl, R.ev_relSl, R.ev_setSl, R.ev_lend, R.ev_setT_nm, R.ev_setT_tp, R.ev_setTs_nil, R.ev_setTs_cons, R.ev_hold_N, R.ev_hold_Z, R.ev_hold_B, R.ev_settle_N, R.ev_settle_Z, R.ev_settle_B, R.ev_isLst_lst, R.ev_isLst_tup, R.ev_isLst_int, R.ev_isLst_bl, R.ev_isLst_str, R.ev_isLst_non, R.ev_isLst_scr, R.ev_idx_lst, R.ev_idx_tup, R.ev_idx_scr, R.ev_idx_str, R.ev_neg, R.ev_add_int, R.ev_sub_int, R.ev_mul_int, R.ev_div_int, R.ev_mod_int, R.ev_pow_int, R.ev_add_str, R.ev_add_tup, R.ev_add_lst, R.ev_eq_int, R.ev_ne_int, R.ev_eq_str, R.ev_ne_str, R.ev_lt, R.ev_le, R.ev_gt, R.ev_ge, R.ev_is, R.ev_isNot, R.ev_none_tup, R.ev_none_lst, R.ev_none_int, R.ev_none_str, R.ev_none_non, R.ev_len_lst, R.ev_len_tup, R.ev_len_scr, R.ev_len_str, R.ev_abs, R.ev_int1, R.ev_str_int, R.ev_str_str, R.ev_list_lst, R.ev_list_tup, R.ev_tup_lst, R.ev_tup_tup, R.ev_fmt_str, R.ev_fmt_int, R.ev_sl_lst, R.ev_sl_tup, R.ev_sl_scr, R.ev_split, R.ev_join, R.ev_tru_bl, R.ev_tru_int, R.ev_tru_non, R.ev_tru_lst, R.ev_tru_tup, R.ev_avRVs_nil, R.ev_avRVs_pl, R.ev_avRVs_rv, R.ev_share_pl, R.ev_share_N, R.ev_share_Z, R.ev_share_B, R.ev_lent_pl, R.ev_lent_N, R.ev_lent_Z, R.ev_lent_B, R.ev_fin_ret, R.ev_fin_next, R.ev_io_t, R.ev_io_f, R.ev_jGo_nil, R.ev_jGo_cons, R.ev_isi, R.ev_hold_t, R.ev_hold_fint, R.ev_hold_fstr, R.ev_hold_ftup, R.ev_hold_fbl, R.ev_settle_int, R.ev_settle_str, R.ev_settle_tup, R.ev_settle_bl, R.ev_settle_non, R.ev_share_int, R.ev_share_str, R.ev_share_tup, R.ev_lent_int, R.ev_lent_str, R.ev_lent_tup, R.hmd], rfl, by simp [R.ev_mC, R.ev_mVar, R.ev_mVarZ, R.ev_mOp, R.ev_mOpV, R.ev_mUn, R.ev_mANil, R.ev_mACons, R.ev_mTup, R.ev_mLst, R.ev_mNoPart, R.ev_mPart, R.ev_mSl, R.ev_tTrue, R.ev_tBool, R.ev_mCh, R.ev_tAndM, R.ev_tOrM, R.ev_tNotM, R.ev_mIfE, R.ev_mAndV, R.ev_mOrV, R.ev_mNotV, R.ev_cNil, R.ev_cPl, R.ev_cRv, R.ev_mBlt, R.ev_mM1, R.ev_mCall, R.ev_mNext, R.ev_mSeq, R.ev_mFl, R.ev_mDrop, R.ev_mRet, R.ev_mRetV, R.ev_mIfS, R.ev_mAsg, R.ev_mAug, R.ev_mSetP, R.ev_mLM, R.ev_iAnyM, R.ev_iRng1M, R.ev_iRng2M, R.ev_iEn1M, R.ev_iEnM, R.ev_iZipM, R.ev_mFor, R.ev_mLc, R.ev_mJoined, R.ev_slotRV, R.ev_frzSl, R.ev_relSl, R.ev_setSl, R.ev_lend, R.ev_setT_nm, R.ev_setT_tp, R.ev_setTs_nil, R.ev_setTs_cons, R.ev_hold_N, R.ev_hold_Z, R.ev_hold_B, R.ev_settle_N, R.ev_settle_Z, R.ev_settle_B, R.ev_isLst_lst, R.ev_isLst_tup, R.ev_isLst_int, R.ev_isLst_bl, R.ev_isLst_str, R.ev_isLst_non, R.ev_isLst_scr, R.ev_idx_lst, R.ev_idx_tup, R.ev_idx_scr, R.ev_idx_str, R.ev_neg, R.ev_add_int, R.ev_sub_int, R.ev_mul_int, R.ev_div_int, R.ev_mod_int, R.ev_pow_int, R.ev_add_str, R.ev_add_tup, R.ev_add_lst, R.ev_eq_int, R.ev_ne_int, R.ev_eq_str, R.ev_ne_str, R.ev_lt, R.ev_le, R.ev_gt, R.ev_ge, R.ev_is, R.ev_isNot, R.ev_none_tup, R.ev_none_lst, R.ev_none_int, R.ev_none_str, R.ev_none_non, R.ev_len_lst, R.ev_len_tup, R.ev_len_scr, R.ev_len_str, R.ev_abs, R.ev_int1, R.ev_str_int, R.ev_str_str, R.ev_list_lst, R.ev_list_tup, R.ev_tup_lst, R.ev_tup_tup, R.ev_fmt_str, R.ev_fmt_int, R.ev_sl_lst, R.ev_sl_tup, R.ev_sl_scr, R.ev_split, R.ev_join, R.ev_tru_bl, R.ev_tru_int, R.ev_tru_non, R.ev_tru_lst, R.ev_tru_tup, R.ev_avRVs_nil, R.ev_avRVs_pl, R.ev_avRVs_rv, R.ev_share_pl, R.ev_share_N, R.ev_share_Z, R.ev_share_B, R.ev_lent_pl, R.ev_lent_N, R.ev_lent_Z, R.ev_lent_B, R.ev_fin_ret, R.ev_fin_next, R.ev_io_t, R.ev_io_f, R.ev_jGo_nil, R.ev_jGo_cons, R.ev_isi, R.ev_hold_t, R.ev_hold_fint, R.ev_hold_fstr, R.ev_hold_ftup, R.ev_hold_fbl, R.ev_settle_int, R.ev_settle_str, R.ev_settle_tup, R.ev_settle_bl, R.ev_settle_non, R.ev_share_int, R.ev_share_str, R.ev_share_tup, R.ev_lent_int, R.ev_lent_str, R.ev_lent_tup, R.hmd, ha, h], rfl, by simp [okW] at hx ⊢, by rw [if_neg h46], rfl⟩)
  have h1 := own_range (view es)
  rw [view_len] at h1
  rw [h1] at lc
  exact lc
end K02

set_option Elab.async false
set_option linter.all false
set_option maxRecDepth 100000
set_option maxHeartbeats 2000000
namespace K02
open PySem PySem.Spec PyProof.Rows L2 R
theorem fin_seq {p : Bool} {m1 m2 : M Fl} {S S1 : State} {r : FRes} (h : m1 S = .ok .next S1) (k : fin p (m2 S1) = r) : fin p (mSeq m1 m2 S) = r := by
  unfold mSeq
  rw [h]; exact k
theorem law_true : LawSem 63 g_law := fun ns hns _ => by
  have st : g_law [.scr ns] = fin false (m_law [.frz (.scr ns), .un, .un, .un, .un, .un, .un, .un, .un, .un, .un, .un, .un, .un, .un, .un]) := rfl
  rw [st]
  unfold m_law
  obtain ⟨b0, e0, hb0, lb⟩ := bag_ok ns hns
  obtain ⟨b1, md1, n1, e1, hb1, p1, q1⟩ := draw b0 12 hb0 (by decide) (by decide)
  have eb : bop .Add ⟨.N, .int 1⟩ ⟨md1, .int n1⟩ = some ⟨.N, .int (1 + n1)⟩ := R.ev_add_int
  have hn1 : 1 ≤ 1 + n1 := by omega
  have hn2 : 1 + n1 ≤ 12 := by omega
  generalize 1 + n1 = n at eb hn1 hn2
  obtain ⟨b2, es, e2, hb2, he, hel⟩ := image b1 n hb1 hn1 hn2
  obtain ⟨b3, md3, sz, e3, hb3, p3, q3⟩ := size b2 hb2
  have hn0 : 1 ≤ es.length := he.1.1
  have hn : es.length ≤ 12 := he.1.2
  have hnt : n.toNat = es.length := by omega
  have hL : mLc [15] (.nm 15) (iRng1M (mACons (mVarZ 2) mANil)) (fun S => .ok true S) (mIfE (tBool (mOp true (cop .NotEq) (mOpV 3 fIdx (mVar 15)) (mUn fNeg (mC (.int 1))))) (mVar 15) (mUn fNeg (mC (.int 1)))) [.frz (.scr ns), .own b2, .frz (.int n), .frz (imD es), .frz (imD es), .un, .un, .un, .un, .un, .un, .un, .un, .un, .un, .un] = .ok ⟨.N, .lst ((own (view es)).map R.D.int)⟩ [.frz (.scr ns), .own b2, .frz (.int n), .frz (imD es), .frz (imD es), .un, .un, .un, .un, .un, .un, .un, .un, .un, .un, .un] := by
    have ow : okW [.frz (.scr ns), .own b2, .frz (.int n), .frz (imD es), .frz (imD es), .un, .un, .un, .un, .un, .un, .un, .un, .un, .un, .un] [15] = true := rfl
    have ws : wipeS [.frz (.scr ns), .own b2, .frz (.int n), .frz (imD es), .frz (imD es), .un, .un, .un, .un, .un, .un, .un, .un, .un, .un, .un] [15] = [.frz (.scr ns), .own b2, .frz (.int n), .frz (imD es), .frz (imD es), .un, .un, .un, .un, .un, .un, .un, .un, .un, .un, .un] := rfl
    have hm : mACons (mVarZ 2) mANil [.frz (.scr ns), .own b2, .frz (.int n), .frz (imD es), .frz (imD es), .un, .un, .un, .un, .un, .un, .un, .un, .un, .un, .un] = .ok [.int n] [.frz (.scr ns), .own b2, .frz (.int n), .frz (imD es), .frz (imD es), .un, .un, .un, .un, .un, .un, .un, .un, .un, .un, .un] := rfl
    have ln : lenOk ((own (view es)).map R.D.int).length = true := by rw [List.length_map, own_len, view_len]; exact lenOk_of (by omega)
    rw [R.ev_mLc, R.ev_iRng1M, hm]
    dsimp only
    rw [if_pos (smallZ n (by omega) (by omega))]
    dsimp only
    rw [if_pos ow, ws, hnt, whole_lc es he _ _ _ ow]
    dsimp only
    rw [if_pos ln]
  generalize hmb : (mSeq (mAsg (.nm 12) (mCall 3 g_law_row _)) _) = mb
  obtain ⟨S', ef, b, s, w, sh, lo, pa, y9, y12, y13, y14, rfl, hb, n9, n12, n13, n14, K⟩ := forGo_inv (tg := .nm 9) (mb := mb) (fun j S => ∃ b s w sh lo pa y9 y12 y13 y14, S = stT (.scr ns) b (.int n) (imD es) s w sh lo pa y9 y12 y13 y14 ∧ Bag b ∧ NI y9 ∧ NI y12 ∧ NI y13 ∧ NI y14 ∧ Kept es.length es s w sh lo pa) (rangeD 0 sz.toNat) 0 (stT (.scr ns) b3 (.int n) (imD es) es (own (view es)) [] [] [es] .un .un .un .un)
    ⟨b3, es, own (view es), [], [], [es], .un, .un, .un, .un, rfl, hb3, .inl rfl, .inl rfl, .inl rfl, .inl rfl, { rs := (fun _ h => nomatch h), rl := (fun _ h => nomatch h), ll := Nat.zero_le _, ls := Nat.zero_le _, sl := rfl, ss := rfl, pl := rfl, wl := rfl, ws := rfl }⟩ (by
    rintro j d S hj ⟨b, s, w, sh, lo, pa, y9, y12, y13, y14, rfl, hb, n9, n12, n13, n14, K⟩
    obtain ⟨hjl, rfl⟩ := rangeD_get hj
    generalize ((0 : Int) + (j : Nat)) = k
    have hs := run_ok K.rl he rfl
    rw [← K.sl] at hs
    have hw : w.length = es.length := by
      rw [K.wl]
      exact flowE_len K.rl (view_len es) (by rw [own_len, view_len])
    have hp : pa.length ≤ 61 := by
      rw [K.pl, path_len]
      have := K.ll; omega
    obtain ⟨b', r, c, z12, z13, z14, hb', hr, c0, c1, m12, m13, m14, ev⟩ := turn (x0 := .scr ns) (es := imD es) (y9 := .frz (.int k)) hb hn0 hn hs.1 hs.2 hw K.ll (Nat.le_trans K.ls K.ll) hp n12 n13 n14
    rw [hel] at ev
    have e : mb = mbT := hmb.symm
    rw [e]
    refine ⟨stT (.scr ns) b (.int n) (imD es) s w sh lo pa (.frz (.int k)) y12 y13 y14, _, ?_, .inl ev, ?_⟩
    · unfold stT
      rcases n9 with rfl | ⟨_, rfl⟩ <;> simp [R.ev_mC, R.ev_mVar, R.ev_mVarZ, R.ev_mOp, R.ev_mOpV, R.ev_mUn, R.ev_mANil, R.ev_mACons, R.ev_mTup, R.ev_mLst, R.ev_mNoPart, R.ev_mPart, R.ev_mSl, R.ev_tTrue, R.ev_tBool, R.ev_mCh, R.ev_tAndM, R.ev_tOrM, R.ev_tNotM, R.ev_mIfE, R.ev_mAndV, R.ev_mOrV, R.ev_mNotV, R.ev_cNil, R.ev_cPl, R.ev_cRv, R.ev_mBlt, R.ev_mM1, R.ev_mCall, R.ev_mNext, R.ev_mSeq, R.ev_mFl, R.ev_mDrop, R.ev_mRet, R.ev_mRetV, R.ev_mIfS, R.ev_mAsg, R.ev_mAug, R.ev_mSetP, R.ev_mLM, R.ev_iAnyM, R.ev_iRng1M, R.ev_iRng2M, R.ev_iEn1M, R.ev_iEnM, R.ev_iZipM, R.ev_mFor, R.ev_mLc, R.ev_mJoined, R.ev_slotRV, R.ev_frzSl, R.ev_relSl, R.ev_setSl, R.ev_lend, R.ev_setT_nm, R.ev_setT_tp, R.ev_setTs_nil, R.ev_setTs_cons, R.ev_hold_N, R.ev_hold_Z, R.ev_hold_B, R.ev_settle_N, R.ev_settle_Z, R.ev_settle_B, R.ev_isLst_lst, R.ev_isLst_tup, R.ev_isLst_int, R.ev_isLst_bl, R.ev_isLst_str, R.ev_isLst_non, R.ev_isLst_scr, R.ev_idx_lst, R.ev_idx_tup, R.ev_idx_scr, R.ev_idx_str, R.ev_neg, R.ev_add_int, R.ev_sub_int, R.ev_mul_int, R.ev_div_int, R.ev_mod_int, R.ev_pow_int, R.ev_add_str, R.ev_add_tup, R.ev_add_lst, R.ev_eq_int, R.ev_ne_int, R.ev_eq_str, R.ev_ne_str, R.ev_lt, R.ev_le, R.ev_gt, R.ev_ge, R.ev_is, R.ev_isNot, R.ev_none_tup, R.ev_none_lst, R.ev_none_int, R.ev_none_str, R.ev_none_non, R.ev_len_lst, R.ev_len_tup, R.ev_len_scr, R.ev_len_str, R.ev_abs, R.ev_int1, R.ev_str_int, R.ev_str_str, R.ev_list_lst, R.ev_list_tup, R.ev_tup_lst, R.ev_tup_tup, R.ev_fmt_str, R.ev_fmt_int, R.ev_sl_lst, R.ev_sl_tup, R.ev_sl_scr, R.ev_split, R.ev_join, R.ev_tru_bl, R.ev_tru_int, R.ev_tru_non, R.ev_tru_lst, R.ev_tru_tup, R.ev_avRVs_nil, R.ev_avRVs_pl, R.ev_avRVs_rv, R.ev_share_pl, R.ev_share_N, R.ev_share_Z, R.ev_share_B, R.ev_lent_pl, R.ev_lent_N, R.ev_lent_Z, R.ev_lent_B, R.ev_fin_ret, R.ev_fin_next, R.ev_io_t, R.ev_io_f, R.ev_jGo_nil, R.ev_jGo_cons, R.ev_isi, R.ev_hold_t, R.ev_hold_fint, R.ev_hold_fstr, R.ev_hold_ftup, R.ev_hold_fbl, R.ev_settle_int, R.ev_settle_str, R.ev_settle_tup, R.ev_settle_bl, R.ev_settle_non, R.ev_share_int, R.ev_share_str, R.ev_share_tup, R.ev_lent_int, R.ev_lent_str, R.ev_lent_tup, R.hmd]
    · by_cases hc : 0 < c
      · rw [if_pos hc]
        exact ⟨_, _, _, _, _, _, _, _, _, _, rfl, hb', .inr ⟨_, rfl⟩, m12, m13, m14, K.step he rfl hr hc c1⟩
      · rw [if_neg hc]
        exact ⟨_, _, _, _, _, _, _, _, _, _, rfl, hb', .inr ⟨_, rfl⟩, m12, m13, m14, K⟩)
  have a1 : ∀ l, isLst (imD l) = false := fun _ => rfl
  have a2 : ∀ q md l, hold q ⟨md, imD l⟩ = some ⟨hmd q md, imD l⟩ := fun q md l => R.ev_hold_ftup
  have a3 : ∀ l, isLst (txD l) = false := fun _ => rfl
  have a4 : ∀ q md l, hold q ⟨md, txD l⟩ = some ⟨hmd q md, txD l⟩ := fun q md l => R.ev_hold_fstr
  have a7 : ∀ md l, R.settle ⟨md, txD l⟩ = some ⟨hmd false md, txD l⟩ := fun md l => R.ev_settle_str
  have a9 : ∀ md l, R.settle ⟨md, imD l⟩ = some ⟨hmd false md, imD l⟩ := fun md l => R.ev_settle_tup
  have a10 : ∀ md l, apart md (imD l) = true := fun md l => ap_ints md _
  have a11 : ∀ md l, apart md (txD l) = true := fun md l => ap_str md _
  have hs := run_ok K.rl he rfl
  rw [← K.sl] at hs
  have hw : w.length = es.length := by
    rw [K.wl]
    exact flowE_len K.rl (view_len es) (by rw [own_len, view_len])
  have im := images K.rl K.ll he rfl
  rw [← K.pl] at im
  have hpl : pa.length ≤ 61 := by
    rw [K.pl, path_len]
    have := K.ll; omega
  have hpm : ∀ x ∈ pa, x.length ≤ 12 := by
    rw [K.pl]
    exact path_mem K.rl rfl hn
  have sl := same_list pa hpl hpm
  have ev := law_view es he
  have s1 := same s (by omega)
  have s2 := same w (by omega)
  generalize hmb2 : (mSeq (mIfS (tNotM (tTrue (mCall 2 g_law_same (cRv true (mCall 2 g_plain_run _) _)))) _ _) _) = mb2
  have body : ∀ rs : List Rw, (∀ r ∈ rs, RwOk es.length r) → rs.length ≤ 60 → s = runE rs es → w = flowE rs (view es) (own (view es)) → ∀ x6 x7 : R.D, mb2 [.frz (.scr ns), .own b, .frz (.int n), .frz (imD es), .frz (imD s), .frz (imD w), .frz x6, .frz x7, .own (imsD pa), y9, .frz (txD (view es)), .frz (scD rs), y12, y13, y14, .un] = .ok .next [.frz (.scr ns), .own b, .frz (.int n), .frz (imD es), .frz (imD s), .frz (imD w), .frz x6, .frz x7, .own (imsD pa), y9, .frz (txD (view es)), .frz (scD rs), y12, y13, y14, .un] := fun rs hr hl h1 h2 x6 x7 => by
    obtain ⟨md5, e5⟩ := plain_run hr hl he rfl
    obtain ⟨md6, e6⟩ := flow (v := view es) hr (view_len es) hn
    rw [← h1] at e5
    rw [← h2] at e6
    have fl : ∀ md, fList1 [⟨md, scD rs⟩] = some ⟨.N, scD rs⟩ := fun md => rfl
    have hN : ∀ q, hold q ⟨.N, scD rs⟩ = some ⟨.N, scD rs⟩ := fun q => rfl
    subst hmb2
    simp [R.ev_mC, R.ev_mVar, R.ev_mVarZ, R.ev_mOp, R.ev_mOpV, R.ev_mUn, R.ev_mANil, R.ev_mACons, R.ev_mTup, R.ev_mLst, R.ev_mNoPart, R.ev_mPart, R.ev_mSl, R.ev_tTrue, R.ev_tBool, R.ev_mCh, R.ev_tAndM, R.ev_tOrM, R.ev_tNotM, R.ev_mIfE, R.ev_mAndV, R.ev_mOrV, R.ev_mNotV, R.ev_cNil, R.ev_cPl, R.ev_cRv, R.ev_mBlt, R.ev_mM1, R.ev_mCall, R.ev_mNext, R.ev_mSeq, R.ev_mFl, R.ev_mDrop, R.ev_mRet, R.ev_mRetV, R.ev_mIfS, R.ev_mAsg, R.ev_mAug, R.ev_mSetP, R.ev_mLM, R.ev_iAnyM, R.ev_iRng1M, R.ev_iRng2M, R.ev_iEn1M, R.ev_iEnM, R.ev_iZipM, R.ev_mFor, R.ev_mLc, R.ev_mJoined, R.ev_slotRV, R.ev_frzSl, R.ev_relSl, R.ev_setSl, R.ev_lend, R.ev_setT_nm, R.ev_setT_tp, R.ev_setTs_nil, R.ev_setTs_cons, R.ev_hold_N, R.ev_hold_Z, R.ev_hold_B, R.ev_settle_N, R.ev_settle_Z, R.ev_settle_B, R.ev_isLst_lst, R.ev_isLst_tup, R.ev_isLst_int, R.ev_isLst_bl, R.ev_isLst_str, R.ev_isLst_non, R.ev_isLst_scr, R.ev_idx_lst, R.ev_idx_tup, R.ev_idx_scr, R.ev_idx_str, R.ev_neg, R.ev_add_int, R.ev_sub_int, R.ev_mul_int, R.ev_div_int, R.ev_mod_int, R.ev_pow_int, R.ev_add_str, R.ev_add_tup, R.ev_add_lst, R.ev_eq_int, R.ev_ne_int, R.ev_eq_str, R.ev_ne_str, R.ev_lt, R.ev_le, R.ev_gt, R.ev_ge, R.ev_is, R.ev_isNot, R.ev_none_tup, R.ev_none_lst, R.ev_none_int, R.ev_none_str, R.ev_none_non, R.ev_len_lst, R.ev_len_tup, R.ev_len_scr, R.ev_len_str, R.ev_abs, R.ev_int1, R.ev_str_int, R.ev_str_str, R.ev_list_lst, R.ev_list_tup, R.ev_tup_lst, R.ev_tup_tup, R.ev_fmt_str, R.ev_fmt_int, R.ev_sl_lst, R.ev_sl_tup, R.ev_sl_scr, R.ev_split, R.ev_join, R.ev_tru_bl, R.ev_tru_int, R.ev_tru_non, R.ev_tru_lst, R.ev_tru_tup, R.ev_avRVs_nil, R.ev_avRVs_pl, R.ev_avRVs_rv, R.ev_share_pl, R.ev_share_N, R.ev_share_Z, R.ev_share_B, R.ev_lent_pl, R.ev_lent_N, R.ev_lent_Z, R.ev_lent_B, R.ev_fin_ret, R.ev_fin_next, R.ev_io_t, R.ev_io_f, R.ev_jGo_nil, R.ev_jGo_cons, R.ev_isi, R.ev_hold_t, R.ev_hold_fint, R.ev_hold_fstr, R.ev_hold_ftup, R.ev_hold_fbl, R.ev_settle_int, R.ev_settle_str, R.ev_settle_tup, R.ev_settle_bl, R.ev_settle_non, R.ev_share_int, R.ev_share_str, R.ev_share_tup, R.ev_lent_int, R.ev_lent_str, R.ev_lent_tup, R.hmd, e5, e6, s1, s2, a1, a2, a3, a4, a7, a9, a10, a11, fl, hN, ap_bl]
  have hF : mFor (.nm 9) (iRng1M (mACons (mCall 1 g_law_size (cPl 1 cNil)) mANil)) mb [.frz (.scr ns), .own b2, .frz (.int n), .frz (imD es), .frz (imD es), .frz (imD (own (view es))), .own (.lst []), .own (.lst []), .own (.lst [imD es]), .un, .un, .un, .un, .un, .un, .un] = .ok .next (stT (.scr ns) b (.int n) (imD es) s w sh lo pa y9 y12 y13 y14) := by
    have hm : mACons (mCall 1 g_law_size (cPl 1 cNil)) mANil [.frz (.scr ns), .own b2, .frz (.int n), .frz (imD es), .frz (imD es), .frz (imD (own (view es))), .own (.lst []), .own (.lst []), .own (.lst [imD es]), .un, .un, .un, .un, .un, .un, .un] = .ok [.int sz] [.frz (.scr ns), .own b3, .frz (.int n), .frz (imD es), .frz (imD es), .frz (imD (own (view es))), .own (.lst []), .own (.lst []), .own (.lst [imD es]), .un, .un, .un, .un, .un, .un, .un] := by simp [R.ev_mC, R.ev_mVar, R.ev_mVarZ, R.ev_mOp, R.ev_mOpV, R.ev_mUn, R.ev_mANil, R.ev_mACons, R.ev_mTup, R.ev_mLst, R.ev_mNoPart, R.ev_mPart, R.ev_mSl, R.ev_tTrue, R.ev_tBool, R.ev_mCh, R.ev_tAndM, R.ev_tOrM, R.ev_tNotM, R.ev_mIfE, R.ev_mAndV, R.ev_mOrV, R.ev_mNotV, R.ev_cNil, R.ev_cPl, R.ev_cRv, R.ev_mBlt, R.ev_mM1, R.ev_mCall, R.ev_mNext, R.ev_mSeq, R.ev_mFl, R.ev_mDrop, R.ev_mRet, R.ev_mRetV, R.ev_mIfS, R.ev_mAsg, R.ev_mAug, R.ev_mSetP, R.ev_mLM, R.ev_iAnyM, R.ev_iRng2M, R.ev_iEn1M, R.ev_iEnM, R.ev_iZipM, R.ev_mJoined, R.ev_slotRV, R.ev_frzSl, R.ev_relSl, R.ev_setSl, R.ev_lend, R.ev_setT_nm, R.ev_setT_tp, R.ev_setTs_nil, R.ev_setTs_cons, R.ev_hold_N, R.ev_hold_Z, R.ev_hold_B, R.ev_settle_N, R.ev_settle_Z, R.ev_settle_B, R.ev_isLst_lst, R.ev_isLst_tup, R.ev_isLst_int, R.ev_isLst_bl, R.ev_isLst_str, R.ev_isLst_non, R.ev_isLst_scr, R.ev_idx_lst, R.ev_idx_tup, R.ev_idx_scr, R.ev_idx_str, R.ev_neg, R.ev_add_int, R.ev_sub_int, R.ev_mul_int, R.ev_div_int, R.ev_mod_int, R.ev_pow_int, R.ev_add_str, R.ev_add_tup, R.ev_add_lst, R.ev_eq_int, R.ev_ne_int, R.ev_eq_str, R.ev_ne_str, R.ev_lt, R.ev_le, R.ev_gt, R.ev_ge, R.ev_is, R.ev_isNot, R.ev_none_tup, R.ev_none_lst, R.ev_none_int, R.ev_none_str, R.ev_none_non, R.ev_len_lst, R.ev_len_tup, R.ev_len_scr, R.ev_len_str, R.ev_abs, R.ev_int1, R.ev_str_int, R.ev_str_str, R.ev_list_lst, R.ev_list_tup, R.ev_tup_lst, R.ev_tup_tup, R.ev_fmt_str, R.ev_fmt_int, R.ev_sl_lst, R.ev_sl_tup, R.ev_sl_scr, R.ev_split, R.ev_join, R.ev_tru_bl, R.ev_tru_int, R.ev_tru_non, R.ev_tru_lst, R.ev_tru_tup, R.ev_avRVs_nil, R.ev_avRVs_pl, R.ev_avRVs_rv, R.ev_share_pl, R.ev_share_N, R.ev_share_Z, R.ev_share_B, R.ev_lent_pl, R.ev_lent_N, R.ev_lent_Z, R.ev_lent_B, R.ev_fin_ret, R.ev_fin_next, R.ev_io_t, R.ev_io_f, R.ev_jGo_nil, R.ev_jGo_cons, R.ev_isi, R.ev_hold_t, R.ev_hold_fint, R.ev_hold_fstr, R.ev_hold_ftup, R.ev_hold_fbl, R.ev_settle_int, R.ev_settle_str, R.ev_settle_tup, R.ev_settle_bl, R.ev_settle_non, R.ev_share_int, R.ev_share_str, R.ev_share_tup, R.ev_lent_int, R.ev_lent_str, R.ev_lent_tup, R.hmd, e3]
    rw [R.ev_mFor, R.ev_iRng1M, hm]
    dsimp only
    rw [if_pos (smallZ sz p3 (by omega))]
    exact ef
  have hB : mFor (.nm 11) (iAnyM (mLst (mACons (mVarZ 7) (mACons (mVarZ 6) mANil)))) mb2 [.frz (.scr ns), .own b, .frz (.int n), .frz (imD es), .frz (imD s), .frz (imD w), .own (scD sh), .own (scD lo), .own (imsD pa), y9, .frz (txD (view es)), .un, y12, y13, y14, .un] = .ok .next [.frz (.scr ns), .own b, .frz (.int n), .frz (imD es), .frz (imD s), .frz (imD w), .frz (scD sh), .frz (scD lo), .own (imsD pa), y9, .frz (txD (view es)), .frz (scD sh), y12, y13, y14, .un] := by
    have hI : iAnyM (mLst (mACons (mVarZ 7) (mACons (mVarZ 6) mANil))) [.frz (.scr ns), .own b, .frz (.int n), .frz (imD es), .frz (imD s), .frz (imD w), .own (scD sh), .own (scD lo), .own (imsD pa), y9, .frz (txD (view es)), .un, y12, y13, y14, .un] = .ok [scD lo, scD sh] [.frz (.scr ns), .own b, .frz (.int n), .frz (imD es), .frz (imD s), .frz (imD w), .frz (scD sh), .frz (scD lo), .own (imsD pa), y9, .frz (txD (view es)), .un, y12, y13, y14, .un] := rfl
    have t1 : setT (.nm 11) [.frz (.scr ns), .own b, .frz (.int n), .frz (imD es), .frz (imD s), .frz (imD w), .frz (scD sh), .frz (scD lo), .own (imsD pa), y9, .frz (txD (view es)), .un, y12, y13, y14, .un] ⟨.Z, scD lo⟩ = some [.frz (.scr ns), .own b, .frz (.int n), .frz (imD es), .frz (imD s), .frz (imD w), .frz (scD sh), .frz (scD lo), .own (imsD pa), y9, .frz (txD (view es)), .frz (scD lo), y12, y13, y14, .un] := by rw [setT]; rfl
    have t2 : setT (.nm 11) [.frz (.scr ns), .own b, .frz (.int n), .frz (imD es), .frz (imD s), .frz (imD w), .frz (scD sh), .frz (scD lo), .own (imsD pa), y9, .frz (txD (view es)), .frz (scD lo), y12, y13, y14, .un] ⟨.Z, scD sh⟩ = some [.frz (.scr ns), .own b, .frz (.int n), .frz (imD es), .frz (imD s), .frz (imD w), .frz (scD sh), .frz (scD lo), .own (imsD pa), y9, .frz (txD (view es)), .frz (scD sh), y12, y13, y14, .un] := by rw [setT]; rfl
    rw [R.ev_mFor, hI]
    dsimp only
    rw [forGo, t1]
    dsimp only
    rw [body lo K.rl K.ll K.sl K.wl]
    dsimp only
    rw [forGo, t2]
    dsimp only
    rw [body sh K.rs (Nat.le_trans K.ls K.ll) K.ss K.ws]
    dsimp only
    rw [forGo]
  clear body ef
  have l0 : lenOk 0 = true := by decide
  have l1 : lenOk 1 = true := by decide
  have fl : ∀ md, fList1 [⟨md, scD lo⟩] = some ⟨.N, scD lo⟩ := fun md => rfl
  have hI : imD es = .tup (es.map R.D.int) := rfl
  have hZ : imD (own (view es)) = .tup ((own (view es)).map R.D.int) := rfl
  unfold stT at hF
  have hp1 : isLst (imsD pa) = true := rfl
  have hN : ∀ q, hold q ⟨.N, scD lo⟩ = some ⟨.N, scD lo⟩ := fun q => rfl
  refine ⟨.N, ?_⟩
  refine fin_seq (S1 := [.frz (.scr ns), .own b0, .un, .un, .un, .un, .un, .un, .un, .un, .un, .un, .un, .un, .un, .un]) (by simp [R.ev_mC, R.ev_mVar, R.ev_mVarZ, R.ev_mOp, R.ev_mOpV, R.ev_mUn, R.ev_mANil, R.ev_mACons, R.ev_mTup, R.ev_mLst, R.ev_mNoPart, R.ev_mPart, R.ev_mSl, R.ev_tTrue, R.ev_tBool, R.ev_mCh, R.ev_tAndM, R.ev_tOrM, R.ev_tNotM, R.ev_mIfE, R.ev_mAndV, R.ev_mOrV, R.ev_mNotV, R.ev_cNil, R.ev_cPl, R.ev_cRv, R.ev_mBlt, R.ev_mM1, R.ev_mCall, R.ev_mNext, R.ev_mSeq, R.ev_mFl, R.ev_mDrop, R.ev_mRet, R.ev_mRetV, R.ev_mIfS, R.ev_mAsg, R.ev_mAug, R.ev_mSetP, R.ev_mLM, R.ev_iAnyM, R.ev_iRng2M, R.ev_iEn1M, R.ev_iEnM, R.ev_iZipM, R.ev_mJoined, R.ev_slotRV, R.ev_frzSl, R.ev_relSl, R.ev_setSl, R.ev_lend, R.ev_setT_nm, R.ev_setT_tp, R.ev_setTs_nil, R.ev_setTs_cons, R.ev_hold_N, R.ev_hold_Z, R.ev_hold_B, R.ev_settle_N, R.ev_settle_Z, R.ev_settle_B, R.ev_isLst_lst, R.ev_isLst_tup, R.ev_isLst_int, R.ev_isLst_bl, R.ev_isLst_str, R.ev_isLst_non, R.ev_isLst_scr, R.ev_idx_lst, R.ev_idx_tup, R.ev_idx_scr, R.ev_idx_str, R.ev_neg, R.ev_add_int, R.ev_sub_int, R.ev_mul_int, R.ev_div_int, R.ev_mod_int, R.ev_pow_int, R.ev_add_str, R.ev_add_tup, R.ev_add_lst, R.ev_eq_int, R.ev_ne_int, R.ev_eq_str, R.ev_ne_str, R.ev_lt, R.ev_le, R.ev_gt, R.ev_ge, R.ev_is, R.ev_isNot, R.ev_none_tup, R.ev_none_lst, R.ev_none_int, R.ev_none_str, R.ev_none_non, R.ev_len_lst, R.ev_len_tup, R.ev_len_scr, R.ev_len_str, R.ev_abs, R.ev_int1, R.ev_str_int, R.ev_str_str, R.ev_list_lst, R.ev_list_tup, R.ev_tup_lst, R.ev_tup_tup, R.ev_fmt_str, R.ev_fmt_int, R.ev_sl_lst, R.ev_sl_tup, R.ev_sl_scr, R.ev_split, R.ev_join, R.ev_tru_bl, R.ev_tru_int, R.ev_tru_non, R.ev_tru_lst, R.ev_tru_tup, R.ev_avRVs_nil, R.ev_avRVs_pl, R.ev_avRVs_rv, R.ev_share_pl, R.ev_share_N, R.ev_share_Z, R.ev_share_B, R.ev_lent_pl, R.ev_lent_N, R.ev_lent_Z, R.ev_lent_B, R.ev_fin_ret, R.ev_fin_next, R.ev_io_t, R.ev_io_f, R.ev_jGo_nil, R.ev_jGo_cons, R.ev_isi, R.ev_hold_t, R.ev_hold_fint, R.ev_hold_fstr, R.ev_hold_ftup, R.ev_hold_fbl, R.ev_settle_int, R.ev_settle_str, R.ev_settle_tup, R.ev_settle_bl, R.ev_settle_non, R.ev_share_int, R.ev_share_str, R.ev_share_tup, R.ev_lent_int, R.ev_lent_str, R.ev_lent_tup, R.hmd, e0, lb]) ?_
  refine fin_seq (S1 := [.frz (.scr ns), .own b1, .frz (.int n), .un, .un, .un, .un, .un, .un, .un, .un, .un, .un, .un, .un, .un]) (by simp [R.ev_mC, R.ev_mVar, R.ev_mVarZ, R.ev_mOp, R.ev_mOpV, R.ev_mUn, R.ev_mANil, R.ev_mACons, R.ev_mTup, R.ev_mLst, R.ev_mNoPart, R.ev_mPart, R.ev_mSl, R.ev_tTrue, R.ev_tBool, R.ev_mCh, R.ev_tAndM, R.ev_tOrM, R.ev_tNotM, R.ev_mIfE, R.ev_mAndV, R.ev_mOrV, R.ev_mNotV, R.ev_cNil, R.ev_cPl, R.ev_cRv, R.ev_mBlt, R.ev_mM1, R.ev_mCall, R.ev_mNext, R.ev_mSeq, R.ev_mFl, R.ev_mDrop, R.ev_mRet, R.ev_mRetV, R.ev_mIfS, R.ev_mAsg, R.ev_mAug, R.ev_mSetP, R.ev_mLM, R.ev_iAnyM, R.ev_iRng2M, R.ev_iEn1M, R.ev_iEnM, R.ev_iZipM, R.ev_mJoined, R.ev_slotRV, R.ev_frzSl, R.ev_relSl, R.ev_setSl, R.ev_lend, R.ev_setT_nm, R.ev_setT_tp, R.ev_setTs_nil, R.ev_setTs_cons, R.ev_hold_N, R.ev_hold_Z, R.ev_hold_B, R.ev_settle_N, R.ev_settle_Z, R.ev_settle_B, R.ev_isLst_lst, R.ev_isLst_tup, R.ev_isLst_int, R.ev_isLst_bl, R.ev_isLst_str, R.ev_isLst_non, R.ev_isLst_scr, R.ev_idx_lst, R.ev_idx_tup, R.ev_idx_scr, R.ev_idx_str, R.ev_neg, R.ev_add_int, R.ev_sub_int, R.ev_mul_int, R.ev_div_int, R.ev_mod_int, R.ev_pow_int, R.ev_add_str, R.ev_add_tup, R.ev_add_lst, R.ev_eq_int, R.ev_ne_int, R.ev_eq_str, R.ev_ne_str, R.ev_lt, R.ev_le, R.ev_gt, R.ev_ge, R.ev_is, R.ev_isNot, R.ev_none_tup, R.ev_none_lst, R.ev_none_int, R.ev_none_str, R.ev_none_non, R.ev_len_lst, R.ev_len_tup, R.ev_len_scr, R.ev_len_str, R.ev_abs, R.ev_int1, R.ev_str_int, R.ev_str_str, R.ev_list_lst, R.ev_list_tup, R.ev_tup_lst, R.ev_tup_tup, R.ev_fmt_str, R.ev_fmt_int, R.ev_sl_lst, R.ev_sl_tup, R.ev_sl_scr, R.ev_split, R.ev_join, R.ev_tru_bl, R.ev_tru_int, R.ev_tru_non, R.ev_tru_lst, R.ev_tru_tup, R.ev_avRVs_nil, R.ev_avRVs_pl, R.ev_avRVs_rv, R.ev_share_pl, R.ev_share_N, R.ev_share_Z, R.ev_share_B, R.ev_lent_pl, R.ev_lent_N, R.ev_lent_Z, R.ev_lent_B, R.ev_fin_ret, R.ev_fin_next, R.ev_io_t, R.ev_io_f, R.ev_jGo_nil, R.ev_jGo_cons, R.ev_isi, R.ev_hold_t, R.ev_hold_fint, R.ev_hold_fstr, R.ev_hold_ftup, R.ev_hold_fbl, R.ev_settle_int, R.ev_settle_str, R.ev_settle_tup, R.ev_settle_bl, R.ev_settle_non, R.ev_share_int, R.ev_share_str, R.ev_share_tup, R.ev_lent_int, R.ev_lent_str, R.ev_lent_tup, R.hmd, e1, eb, ap_int]) ?_
  refine fin_seq (S1 := [.frz (.scr ns), .own b2, .frz (.int n), .frz (imD es), .un, .un, .un, .un, .un, .un, .un, .un, .un, .un, .un, .un]) (by simp [R.ev_mC, R.ev_mVar, R.ev_mVarZ, R.ev_mOp, R.ev_mOpV, R.ev_mUn, R.ev_mANil, R.ev_mACons, R.ev_mTup, R.ev_mLst, R.ev_mNoPart, R.ev_mPart, R.ev_mSl, R.ev_tTrue, R.ev_tBool, R.ev_mCh, R.ev_tAndM, R.ev_tOrM, R.ev_tNotM, R.ev_mIfE, R.ev_mAndV, R.ev_mOrV, R.ev_mNotV, R.ev_cNil, R.ev_cPl, R.ev_cRv, R.ev_mBlt, R.ev_mM1, R.ev_mCall, R.ev_mNext, R.ev_mSeq, R.ev_mFl, R.ev_mDrop, R.ev_mRet, R.ev_mRetV, R.ev_mIfS, R.ev_mAsg, R.ev_mAug, R.ev_mSetP, R.ev_mLM, R.ev_iAnyM, R.ev_iRng2M, R.ev_iEn1M, R.ev_iEnM, R.ev_iZipM, R.ev_mJoined, R.ev_slotRV, R.ev_frzSl, R.ev_relSl, R.ev_setSl, R.ev_lend, R.ev_setT_nm, R.ev_setT_tp, R.ev_setTs_nil, R.ev_setTs_cons, R.ev_hold_N, R.ev_hold_Z, R.ev_hold_B, R.ev_settle_N, R.ev_settle_Z, R.ev_settle_B, R.ev_isLst_lst, R.ev_isLst_tup, R.ev_isLst_int, R.ev_isLst_bl, R.ev_isLst_str, R.ev_isLst_non, R.ev_isLst_scr, R.ev_idx_lst, R.ev_idx_tup, R.ev_idx_scr, R.ev_idx_str, R.ev_neg, R.ev_add_int, R.ev_sub_int, R.ev_mul_int, R.ev_div_int, R.ev_mod_int, R.ev_pow_int, R.ev_add_str, R.ev_add_tup, R.ev_add_lst, R.ev_eq_int, R.ev_ne_int, R.ev_eq_str, R.ev_ne_str, R.ev_lt, R.ev_le, R.ev_gt, R.ev_ge, R.ev_is, R.ev_isNot, R.ev_none_tup, R.ev_none_lst, R.ev_none_int, R.ev_none_str, R.ev_none_non, R.ev_len_lst, R.ev_len_tup, R.ev_len_scr, R.ev_len_str, R.ev_abs, R.ev_int1, R.ev_str_int, R.ev_str_str, R.ev_list_lst, R.ev_list_tup, R.ev_tup_lst, R.ev_tup_tup, R.ev_fmt_str, R.ev_fmt_int, R.ev_sl_lst, R.ev_sl_tup, R.ev_sl_scr, R.ev_split, R.ev_join, R.ev_tru_bl, R.ev_tru_int, R.ev_tru_non, R.ev_tru_lst, R.ev_tru_tup, R.ev_avRVs_nil, R.ev_avRVs_pl, R.ev_avRVs_rv, R.ev_share_pl, R.ev_share_N, R.ev_share_Z, R.ev_share_B, R.ev_lent_pl, R.ev_lent_N, R.ev_lent_Z, R.ev_lent_B, R.ev_fin_ret, R.ev_fin_next, R.ev_io_t, R.ev_io_f, R.ev_jGo_nil, R.ev_jGo_cons, R.ev_isi, R.ev_hold_t, R.ev_hold_fint, R.ev_hold_fstr, R.ev_hold_ftup, R.ev_hold_fbl, R.ev_settle_int, R.ev_settle_str, R.ev_settle_tup, R.ev_settle_bl, R.ev_settle_non, R.ev_share_int, R.ev_share_str, R.ev_share_tup, R.ev_lent_int, R.ev_lent_str, R.ev_lent_tup, R.hmd, e2, a1, a9, a10]) ?_
  refine fin_seq (S1 := [.frz (.scr ns), .own b2, .frz (.int n), .frz (imD es), .frz (imD es), .un, .un, .un, .un, .un, .un, .un, .un, .un, .un, .un]) (by simp [R.ev_mC, R.ev_mVar, R.ev_mVarZ, R.ev_mOp, R.ev_mOpV, R.ev_mUn, R.ev_mANil, R.ev_mACons, R.ev_mTup, R.ev_mLst, R.ev_mNoPart, R.ev_mPart, R.ev_mSl, R.ev_tTrue, R.ev_tBool, R.ev_mCh, R.ev_tAndM, R.ev_tOrM, R.ev_tNotM, R.ev_mIfE, R.ev_mAndV, R.ev_mOrV, R.ev_mNotV, R.ev_cNil, R.ev_cPl, R.ev_cRv, R.ev_mBlt, R.ev_mM1, R.ev_mCall, R.ev_mNext, R.ev_mSeq, R.ev_mFl, R.ev_mDrop, R.ev_mRet, R.ev_mRetV, R.ev_mIfS, R.ev_mAsg, R.ev_mAug, R.ev_mSetP, R.ev_mLM, R.ev_iAnyM, R.ev_iRng2M, R.ev_iEn1M, R.ev_iEnM, R.ev_iZipM, R.ev_mJoined, R.ev_slotRV, R.ev_frzSl, R.ev_relSl, R.ev_setSl, R.ev_lend, R.ev_setT_nm, R.ev_setT_tp, R.ev_setTs_nil, R.ev_setTs_cons, R.ev_hold_N, R.ev_hold_Z, R.ev_hold_B, R.ev_settle_N, R.ev_settle_Z, R.ev_settle_B, R.ev_isLst_lst, R.ev_isLst_tup, R.ev_isLst_int, R.ev_isLst_bl, R.ev_isLst_str, R.ev_isLst_non, R.ev_isLst_scr, R.ev_idx_lst, R.ev_idx_tup, R.ev_idx_scr, R.ev_idx_str, R.ev_neg, R.ev_add_int, R.ev_sub_int, R.ev_mul_int, R.ev_div_int, R.ev_mod_int, R.ev_pow_int, R.ev_add_str, R.ev_add_tup, R.ev_add_lst, R.ev_eq_int, R.ev_ne_int, R.ev_eq_str, R.ev_ne_str, R.ev_lt, R.ev_le, R.ev_gt, R.ev_ge, R.ev_is, R.ev_isNot, R.ev_none_tup, R.ev_none_lst, R.ev_none_int, R.ev_none_str, R.ev_none_non, R.ev_len_lst, R.ev_len_tup, R.ev_len_scr, R.ev_len_str, R.ev_abs, R.ev_int1, R.ev_str_int, R.ev_str_str, R.ev_list_lst, R.ev_list_tup, R.ev_tup_lst, R.ev_tup_tup, R.ev_fmt_str, R.ev_fmt_int, R.ev_sl_lst, R.ev_sl_tup, R.ev_sl_scr, R.ev_split, R.ev_join, R.ev_tru_bl, R.ev_tru_int, R.ev_tru_non, R.ev_tru_lst, R.ev_tru_tup, R.ev_avRVs_nil, R.ev_avRVs_pl, R.ev_avRVs_rv, R.ev_share_pl, R.ev_share_N, R.ev_share_Z, R.ev_share_B, R.ev_lent_pl, R.ev_lent_N, R.ev_lent_Z, R.ev_lent_B, R.ev_fin_ret, R.ev_fin_next, R.ev_io_t, R.ev_io_f, R.ev_jGo_nil, R.ev_jGo_cons, R.ev_isi, R.ev_hold_t, R.ev_hold_fint, R.ev_hold_fstr, R.ev_hold_ftup, R.ev_hold_fbl, R.ev_settle_int, R.ev_settle_str, R.ev_settle_tup, R.ev_settle_bl, R.ev_settle_non, R.ev_share_int, R.ev_share_str, R.ev_share_tup, R.ev_lent_int, R.ev_lent_str, R.ev_lent_tup, R.hmd, a1]) ?_
  refine fin_seq (S1 := [.frz (.scr ns), .own b2, .frz (.int n), .frz (imD es), .frz (imD es), .frz (imD (own (view es))), .un, .un, .un, .un, .un, .un, .un, .un, .un, .un]) (by rw [hZ]; simp [R.ev_mC, R.ev_mVar, R.ev_mVarZ, R.ev_mOp, R.ev_mOpV, R.ev_mUn, R.ev_mANil, R.ev_mACons, R.ev_mTup, R.ev_mLst, R.ev_mNoPart, R.ev_mPart, R.ev_mSl, R.ev_tTrue, R.ev_tBool, R.ev_mCh, R.ev_tAndM, R.ev_tOrM, R.ev_tNotM, R.ev_mIfE, R.ev_mAndV, R.ev_mOrV, R.ev_mNotV, R.ev_cNil, R.ev_cPl, R.ev_cRv, R.ev_mBlt, R.ev_mM1, R.ev_mCall, R.ev_mNext, R.ev_mSeq, R.ev_mFl, R.ev_mDrop, R.ev_mRet, R.ev_mRetV, R.ev_mIfS, R.ev_mAsg, R.ev_mAug, R.ev_mSetP, R.ev_mLM, R.ev_iAnyM, R.ev_iRng2M, R.ev_iEn1M, R.ev_iEnM, R.ev_iZipM, R.ev_mJoined, R.ev_slotRV, R.ev_frzSl, R.ev_relSl, R.ev_setSl, R.ev_lend, R.ev_setT_nm, R.ev_setT_tp, R.ev_setTs_nil, R.ev_setTs_cons, R.ev_hold_N, R.ev_hold_Z, R.ev_hold_B, R.ev_settle_N, R.ev_settle_Z, R.ev_settle_B, R.ev_isLst_lst, R.ev_isLst_tup, R.ev_isLst_int, R.ev_isLst_bl, R.ev_isLst_str, R.ev_isLst_non, R.ev_isLst_scr, R.ev_idx_lst, R.ev_idx_tup, R.ev_idx_scr, R.ev_idx_str, R.ev_neg, R.ev_add_int, R.ev_sub_int, R.ev_mul_int, R.ev_div_int, R.ev_mod_int, R.ev_pow_int, R.ev_add_str, R.ev_add_tup, R.ev_add_lst, R.ev_eq_int, R.ev_ne_int, R.ev_eq_str, R.ev_ne_str, R.ev_lt, R.ev_le, R.ev_gt, R.ev_ge, R.ev_is, R.ev_isNot, R.ev_none_tup, R.ev_none_lst, R.ev_none_int, R.ev_none_str, R.ev_none_non, R.ev_len_lst, R.ev_len_tup, R.ev_len_scr, R.ev_len_str, R.ev_abs, R.ev_int1, R.ev_str_int, R.ev_str_str, R.ev_list_lst, R.ev_list_tup, R.ev_tup_lst, R.ev_tup_tup, R.ev_fmt_str, R.ev_fmt_int, R.ev_sl_lst, R.ev_sl_tup, R.ev_sl_scr, R.ev_split, R.ev_join, R.ev_tru_bl, R.ev_tru_int, R.ev_tru_non, R.ev_tru_lst, R.ev_tru_tup, R.ev_avRVs_nil, R.ev_avRVs_pl, R.ev_avRVs_rv, R.ev_share_pl, R.ev_share_N, R.ev_share_Z, R.ev_share_B, R.ev_lent_pl, R.ev_lent_N, R.ev_lent_Z, R.ev_lent_B, R.ev_fin_ret, R.ev_fin_next, R.ev_io_t, R.ev_io_f, R.ev_jGo_nil, R.ev_jGo_cons, R.ev_isi, R.ev_hold_t, R.ev_hold_fint, R.ev_hold_fstr, R.ev_hold_ftup, R.ev_hold_fbl, R.ev_settle_int, R.ev_settle_str, R.ev_settle_tup, R.ev_settle_bl, R.ev_settle_non, R.ev_share_int, R.ev_share_str, R.ev_share_tup, R.ev_lent_int, R.ev_lent_str, R.ev_lent_tup, R.hmd, hL]) ?_
  refine fin_seq (S1 := [.frz (.scr ns), .own b2, .frz (.int n), .frz (imD es), .frz (imD es), .frz (imD (own (view es))), .own (.lst []), .un, .un, .un, .un, .un, .un, .un, .un, .un]) (by simp [R.ev_mC, R.ev_mVar, R.ev_mVarZ, R.ev_mOp, R.ev_mOpV, R.ev_mUn, R.ev_mANil, R.ev_mACons, R.ev_mTup, R.ev_mLst, R.ev_mNoPart, R.ev_mPart, R.ev_mSl, R.ev_tTrue, R.ev_tBool, R.ev_mCh, R.ev_tAndM, R.ev_tOrM, R.ev_tNotM, R.ev_mIfE, R.ev_mAndV, R.ev_mOrV, R.ev_mNotV, R.ev_cNil, R.ev_cPl, R.ev_cRv, R.ev_mBlt, R.ev_mM1, R.ev_mCall, R.ev_mNext, R.ev_mSeq, R.ev_mFl, R.ev_mDrop, R.ev_mRet, R.ev_mRetV, R.ev_mIfS, R.ev_mAsg, R.ev_mAug, R.ev_mSetP, R.ev_mLM, R.ev_iAnyM, R.ev_iRng2M, R.ev_iEn1M, R.ev_iEnM, R.ev_iZipM, R.ev_mJoined, R.ev_slotRV, R.ev_frzSl, R.ev_relSl, R.ev_setSl, R.ev_lend, R.ev_setT_nm, R.ev_setT_tp, R.ev_setTs_nil, R.ev_setTs_cons, R.ev_hold_N, R.ev_hold_Z, R.ev_hold_B, R.ev_settle_N, R.ev_settle_Z, R.ev_settle_B, R.ev_isLst_lst, R.ev_isLst_tup, R.ev_isLst_int, R.ev_isLst_bl, R.ev_isLst_str, R.ev_isLst_non, R.ev_isLst_scr, R.ev_idx_lst, R.ev_idx_tup, R.ev_idx_scr, R.ev_idx_str, R.ev_neg, R.ev_add_int, R.ev_sub_int, R.ev_mul_int, R.ev_div_int, R.ev_mod_int, R.ev_pow_int, R.ev_add_str, R.ev_add_tup, R.ev_add_lst, R.ev_eq_int, R.ev_ne_int, R.ev_eq_str, R.ev_ne_str, R.ev_lt, R.ev_le, R.ev_gt, R.ev_ge, R.ev_is, R.ev_isNot, R.ev_none_tup, R.ev_none_lst, R.ev_none_int, R.ev_none_str, R.ev_none_non, R.ev_len_lst, R.ev_len_tup, R.ev_len_scr, R.ev_len_str, R.ev_abs, R.ev_int1, R.ev_str_int, R.ev_str_str, R.ev_list_lst, R.ev_list_tup, R.ev_tup_lst, R.ev_tup_tup, R.ev_fmt_str, R.ev_fmt_int, R.ev_sl_lst, R.ev_sl_tup, R.ev_sl_scr, R.ev_split, R.ev_join, R.ev_tru_bl, R.ev_tru_int, R.ev_tru_non, R.ev_tru_lst, R.ev_tru_tup, R.ev_avRVs_nil, R.ev_avRVs_pl, R.ev_avRVs_rv, R.ev_share_pl, R.ev_share_N, R.ev_share_Z, R.ev_share_B, R.ev_lent_pl, R.ev_lent_N, R.ev_lent_Z, R.ev_lent_B, R.ev_fin_ret, R.ev_fin_next, R.ev_io_t, R.ev_io_f, R.ev_jGo_nil, R.ev_jGo_cons, R.ev_isi, R.ev_hold_t, R.ev_hold_fint, R.ev_hold_fstr, R.ev_hold_ftup, R.ev_hold_fbl, R.ev_settle_int, R.ev_settle_str, R.ev_settle_tup, R.ev_settle_bl, R.ev_settle_non, R.ev_share_int, R.ev_share_str, R.ev_share_tup, R.ev_lent_int, R.ev_lent_str, R.ev_lent_tup, R.hmd, l0]) ?_
  refine fin_seq (S1 := [.frz (.scr ns), .own b2, .frz (.int n), .frz (imD es), .frz (imD es), .frz (imD (own (view es))), .own (.lst []), .own (.lst []), .un, .un, .un, .un, .un, .un, .un, .un]) (by simp [R.ev_mC, R.ev_mVar, R.ev_mVarZ, R.ev_mOp, R.ev_mOpV, R.ev_mUn, R.ev_mANil, R.ev_mACons, R.ev_mTup, R.ev_mLst, R.ev_mNoPart, R.ev_mPart, R.ev_mSl, R.ev_tTrue, R.ev_tBool, R.ev_mCh, R.ev_tAndM, R.ev_tOrM, R.ev_tNotM, R.ev_mIfE, R.ev_mAndV, R.ev_mOrV, R.ev_mNotV, R.ev_cNil, R.ev_cPl, R.ev_cRv, R.ev_mBlt, R.ev_mM1, R.ev_mCall, R.ev_mNext, R.ev_mSeq, R.ev_mFl, R.ev_mDrop, R.ev_mRet, R.ev_mRetV, R.ev_mIfS, R.ev_mAsg, R.ev_mAug, R.ev_mSetP, R.ev_mLM, R.ev_iAnyM, R.ev_iRng2M, R.ev_iEn1M, R.ev_iEnM, R.ev_iZipM, R.ev_mJoined, R.ev_slotRV, R.ev_frzSl, R.ev_relSl, R.ev_setSl, R.ev_lend, R.ev_setT_nm, R.ev_setT_tp, R.ev_setTs_nil, R.ev_setTs_cons, R.ev_hold_N, R.ev_hold_Z, R.ev_hold_B, R.ev_settle_N, R.ev_settle_Z, R.ev_settle_B, R.ev_isLst_lst, R.ev_isLst_tup, R.ev_isLst_int, R.ev_isLst_bl, R.ev_isLst_str, R.ev_isLst_non, R.ev_isLst_scr, R.ev_idx_lst, R.ev_idx_tup, R.ev_idx_scr, R.ev_idx_str, R.ev_neg, R.ev_add_int, R.ev_sub_int, R.ev_mul_int, R.ev_div_int, R.ev_mod_int, R.ev_pow_int, R.ev_add_str, R.ev_add_tup, R.ev_add_lst, R.ev_eq_int, R.ev_ne_int, R.ev_eq_str, R.ev_ne_str, R.ev_lt, R.ev_le, R.ev_gt, R.ev_ge, R.ev_is, R.ev_isNot, R.ev_none_tup, R.ev_none_lst, R.ev_none_int, R.ev_none_str, R.ev_none_non, R.ev_len_lst, R.ev_len_tup, R.ev_len_scr, R.ev_len_str, R.ev_abs, R.ev_int1, R.ev_str_int, R.ev_str_str, R.ev_list_lst, R.ev_list_tup, R.ev_tup_lst, R.ev_tup_tup, R.ev_fmt_str, R.ev_fmt_int, R.ev_sl_lst, R.ev_sl_tup, R.ev_sl_scr, R.ev_split, R.ev_join, R.ev_tru_bl, R.ev_tru_int, R.ev_tru_non, R.ev_tru_lst, R.ev_tru_tup, R.ev_avRVs_nil, R.ev_avRVs_pl, R.ev_avRVs_rv, R.ev_share_pl, R.ev_share_N, R.ev_share_Z, R.ev_share_B, R.ev_lent_pl, R.ev_lent_N, R.ev_lent_Z, R.ev_lent_B, R.ev_fin_ret, R.ev_fin_next, R.ev_io_t, R.ev_io_f, R.ev_jGo_nil, R.ev_jGo_cons, R.ev_isi, R.ev_hold_t, R.ev_hold_fint, R.ev_hold_fstr, R.ev_hold_ftup, R.ev_hold_fbl, R.ev_settle_int, R.ev_settle_str, R.ev_settle_tup, R.ev_settle_bl, R.ev_settle_non, R.ev_share_int, R.ev_share_str, R.ev_share_tup, R.ev_lent_int, R.ev_lent_str, R.ev_lent_tup, R.hmd, l0]) ?_
  refine fin_seq (S1 := [.frz (.scr ns), .own b2, .frz (.int n), .frz (imD es), .frz (imD es), .frz (imD (own (view es))), .own (.lst []), .own (.lst []), .own (.lst [imD es]), .un, .un, .un, .un, .un, .un, .un]) (by simp [R.ev_mC, R.ev_mVar, R.ev_mVarZ, R.ev_mOp, R.ev_mOpV, R.ev_mUn, R.ev_mANil, R.ev_mACons, R.ev_mTup, R.ev_mLst, R.ev_mNoPart, R.ev_mPart, R.ev_mSl, R.ev_tTrue, R.ev_tBool, R.ev_mCh, R.ev_tAndM, R.ev_tOrM, R.ev_tNotM, R.ev_mIfE, R.ev_mAndV, R.ev_mOrV, R.ev_mNotV, R.ev_cNil, R.ev_cPl, R.ev_cRv, R.ev_mBlt, R.ev_mM1, R.ev_mCall, R.ev_mNext, R.ev_mSeq, R.ev_mFl, R.ev_mDrop, R.ev_mRet, R.ev_mRetV, R.ev_mIfS, R.ev_mAsg, R.ev_mAug, R.ev_mSetP, R.ev_mLM, R.ev_iAnyM, R.ev_iRng2M, R.ev_iEn1M, R.ev_iEnM, R.ev_iZipM, R.ev_mJoined, R.ev_slotRV, R.ev_frzSl, R.ev_relSl, R.ev_setSl, R.ev_lend, R.ev_setT_nm, R.ev_setT_tp, R.ev_setTs_nil, R.ev_setTs_cons, R.ev_hold_N, R.ev_hold_Z, R.ev_hold_B, R.ev_settle_N, R.ev_settle_Z, R.ev_settle_B, R.ev_isLst_lst, R.ev_isLst_tup, R.ev_isLst_int, R.ev_isLst_bl, R.ev_isLst_str, R.ev_isLst_non, R.ev_isLst_scr, R.ev_idx_lst, R.ev_idx_tup, R.ev_idx_scr, R.ev_idx_str, R.ev_neg, R.ev_add_int, R.ev_sub_int, R.ev_mul_int, R.ev_div_int, R.ev_mod_int, R.ev_pow_int, R.ev_add_str, R.ev_add_tup, R.ev_add_lst, R.ev_eq_int, R.ev_ne_int, R.ev_eq_str, R.ev_ne_str, R.ev_lt, R.ev_le, R.ev_gt, R.ev_ge, R.ev_is, R.ev_isNot, R.ev_none_tup, R.ev_none_lst, R.ev_none_int, R.ev_none_str, R.ev_none_non, R.ev_len_lst, R.ev_len_tup, R.ev_len_scr, R.ev_len_str, R.ev_abs, R.ev_int1, R.ev_str_int, R.ev_str_str, R.ev_list_lst, R.ev_list_tup, R.ev_tup_lst, R.ev_tup_tup, R.ev_fmt_str, R.ev_fmt_int, R.ev_sl_lst, R.ev_sl_tup, R.ev_sl_scr, R.ev_split, R.ev_join, R.ev_tru_bl, R.ev_tru_int, R.ev_tru_non, R.ev_tru_lst, R.ev_tru_tup, R.ev_avRVs_nil, R.ev_avRVs_pl, R.ev_avRVs_rv, R.ev_share_pl, R.ev_share_N, R.ev_share_Z, R.ev_share_B, R.ev_lent_pl, R.ev_lent_N, R.ev_lent_Z, R.ev_lent_B, R.ev_fin_ret, R.ev_fin_next, R.ev_io_t, R.ev_io_f, R.ev_jGo_nil, R.ev_jGo_cons, R.ev_isi, R.ev_hold_t, R.ev_hold_fint, R.ev_hold_fstr, R.ev_hold_ftup, R.ev_hold_fbl, R.ev_settle_int, R.ev_settle_str, R.ev_settle_tup, R.ev_settle_bl, R.ev_settle_non, R.ev_share_int, R.ev_share_str, R.ev_share_tup, R.ev_lent_int, R.ev_lent_str, R.ev_lent_tup, R.hmd, l1, a1]) ?_
  refine fin_seq hF ?_
  refine fin_seq (S1 := [.frz (.scr ns), .own b, .frz (.int n), .frz (imD es), .frz (imD s), .frz (imD w), .own (scD sh), .own (scD lo), .own (imsD pa), y9, .un, .un, y12, y13, y14, .un]) (by simp [R.ev_mC, R.ev_mVar, R.ev_mVarZ, R.ev_mOp, R.ev_mOpV, R.ev_mUn, R.ev_mANil, R.ev_mACons, R.ev_mTup, R.ev_mLst, R.ev_mNoPart, R.ev_mPart, R.ev_mSl, R.ev_tTrue, R.ev_tBool, R.ev_mCh, R.ev_tAndM, R.ev_tOrM, R.ev_tNotM, R.ev_mIfE, R.ev_mAndV, R.ev_mOrV, R.ev_mNotV, R.ev_cNil, R.ev_cPl, R.ev_cRv, R.ev_mBlt, R.ev_mM1, R.ev_mCall, R.ev_mNext, R.ev_mSeq, R.ev_mFl, R.ev_mDrop, R.ev_mRet, R.ev_mRetV, R.ev_mIfS, R.ev_mAsg, R.ev_mAug, R.ev_mSetP, R.ev_mLM, R.ev_iAnyM, R.ev_iRng2M, R.ev_iEn1M, R.ev_iEnM, R.ev_iZipM, R.ev_mJoined, R.ev_slotRV, R.ev_frzSl, R.ev_relSl, R.ev_setSl, R.ev_lend, R.ev_setT_nm, R.ev_setT_tp, R.ev_setTs_nil, R.ev_setTs_cons, R.ev_hold_N, R.ev_hold_Z, R.ev_hold_B, R.ev_settle_N, R.ev_settle_Z, R.ev_settle_B, R.ev_isLst_lst, R.ev_isLst_tup, R.ev_isLst_int, R.ev_isLst_bl, R.ev_isLst_str, R.ev_isLst_non, R.ev_isLst_scr, R.ev_idx_lst, R.ev_idx_tup, R.ev_idx_scr, R.ev_idx_str, R.ev_neg, R.ev_add_int, R.ev_sub_int, R.ev_mul_int, R.ev_div_int, R.ev_mod_int, R.ev_pow_int, R.ev_add_str, R.ev_add_tup, R.ev_add_lst, R.ev_eq_int, R.ev_ne_int, R.ev_eq_str, R.ev_ne_str, R.ev_lt, R.ev_le, R.ev_gt, R.ev_ge, R.ev_is, R.ev_isNot, R.ev_none_tup, R.ev_none_lst, R.ev_none_int, R.ev_none_str, R.ev_none_non, R.ev_len_lst, R.ev_len_tup, R.ev_len_scr, R.ev_len_str, R.ev_abs, R.ev_int1, R.ev_str_int, R.ev_str_str, R.ev_list_lst, R.ev_list_tup, R.ev_tup_lst, R.ev_tup_tup, R.ev_fmt_str, R.ev_fmt_int, R.ev_sl_lst, R.ev_sl_tup, R.ev_sl_scr, R.ev_split, R.ev_join, R.ev_tru_bl, R.ev_tru_int, R.ev_tru_non, R.ev_tru_lst, R.ev_tru_tup, R.ev_avRVs_nil, R.ev_avRVs_pl, R.ev_avRVs_rv, R.ev_share_pl, R.ev_share_N, R.ev_share_Z, R.ev_share_B, R.ev_lent_pl, R.ev_lent_N, R.ev_lent_Z, R.ev_lent_B, R.ev_fin_ret, R.ev_fin_next, R.ev_io_t, R.ev_io_f, R.ev_jGo_nil, R.ev_jGo_cons, R.ev_isi, R.ev_hold_t, R.ev_hold_fint, R.ev_hold_fstr, R.ev_hold_ftup, R.ev_hold_fbl, R.ev_settle_int, R.ev_settle_str, R.ev_settle_tup, R.ev_settle_bl, R.ev_settle_non, R.ev_share_int, R.ev_share_str, R.ev_share_tup, R.ev_lent_int, R.ev_lent_str, R.ev_lent_tup, R.hmd, fl, hN, im, sl, a1, a2, a9, a10, ap_bl, hp1]) ?_
  refine fin_seq (S1 := [.frz (.scr ns), .own b, .frz (.int n), .frz (imD es), .frz (imD s), .frz (imD w), .own (scD sh), .own (scD lo), .own (imsD pa), y9, .frz (txD (view es)), .un, y12, y13, y14, .un]) (by simp [R.ev_mC, R.ev_mVar, R.ev_mVarZ, R.ev_mOp, R.ev_mOpV, R.ev_mUn, R.ev_mANil, R.ev_mACons, R.ev_mTup, R.ev_mLst, R.ev_mNoPart, R.ev_mPart, R.ev_mSl, R.ev_tTrue, R.ev_tBool, R.ev_mCh, R.ev_tAndM, R.ev_tOrM, R.ev_tNotM, R.ev_mIfE, R.ev_mAndV, R.ev_mOrV, R.ev_mNotV, R.ev_cNil, R.ev_cPl, R.ev_cRv, R.ev_mBlt, R.ev_mM1, R.ev_mCall, R.ev_mNext, R.ev_mSeq, R.ev_mFl, R.ev_mDrop, R.ev_mRet, R.ev_mRetV, R.ev_mIfS, R.ev_mAsg, R.ev_mAug, R.ev_mSetP, R.ev_mLM, R.ev_iAnyM, R.ev_iRng2M, R.ev_iEn1M, R.ev_iEnM, R.ev_iZipM, R.ev_mJoined, R.ev_slotRV, R.ev_frzSl, R.ev_relSl, R.ev_setSl, R.ev_lend, R.ev_setT_nm, R.ev_setT_tp, R.ev_setTs_nil, R.ev_setTs_cons, R.ev_hold_N, R.ev_hold_Z, R.ev_hold_B, R.ev_settle_N, R.ev_settle_Z, R.ev_settle_B, R.ev_isLst_lst, R.ev_isLst_tup, R.ev_isLst_int, R.ev_isLst_bl, R.ev_isLst_str, R.ev_isLst_non, R.ev_isLst_scr, R.ev_idx_lst, R.ev_idx_tup, R.ev_idx_scr, R.ev_idx_str, R.ev_neg, R.ev_add_int, R.ev_sub_int, R.ev_mul_int, R.ev_div_int, R.ev_mod_int, R.ev_pow_int, R.ev_add_str, R.ev_add_tup, R.ev_add_lst, R.ev_eq_int, R.ev_ne_int, R.ev_eq_str, R.ev_ne_str, R.ev_lt, R.ev_le, R.ev_gt, R.ev_ge, R.ev_is, R.ev_isNot, R.ev_none_tup, R.ev_none_lst, R.ev_none_int, R.ev_none_str, R.ev_none_non, R.ev_len_lst, R.ev_len_tup, R.ev_len_scr, R.ev_len_str, R.ev_abs, R.ev_int1, R.ev_str_int, R.ev_str_str, R.ev_list_lst, R.ev_list_tup, R.ev_tup_lst, R.ev_tup_tup, R.ev_fmt_str, R.ev_fmt_int, R.ev_sl_lst, R.ev_sl_tup, R.ev_sl_scr, R.ev_split, R.ev_join, R.ev_tru_bl, R.ev_tru_int, R.ev_tru_non, R.ev_tru_lst, R.ev_tru_tup, R.ev_avRVs_nil, R.ev_avRVs_pl, R.ev_avRVs_rv, R.ev_share_pl, R.ev_share_N, R.ev_share_Z, R.ev_share_B, R.ev_lent_pl, R.ev_lent_N, R.ev_lent_Z, R.ev_lent_B, R.ev_fin_ret, R.ev_fin_next, R.ev_io_t, R.ev_io_f, R.ev_jGo_nil, R.ev_jGo_cons, R.ev_isi, R.ev_hold_t, R.ev_hold_fint, R.ev_hold_fstr, R.ev_hold_ftup, R.ev_hold_fbl, R.ev_settle_int, R.ev_settle_str, R.ev_settle_tup, R.ev_settle_bl, R.ev_settle_non, R.ev_share_int, R.ev_share_str, R.ev_share_tup, R.ev_lent_int, R.ev_lent_str, R.ev_lent_tup, R.hmd, ev, a1, a3, a7, a11]) ?_
  refine fin_seq hB ?_
  rfl
end K02

set_option Elab.async false
set_option linter.all false
set_option maxRecDepth 100000
set_option maxHeartbeats 2000000
namespace K02
open PySem PySem.Spec PyProof.Rows L2 R
/-! ### what the top has written; the law's own head -/
theorem all_mk {w : World} {K : PySem.W.Frag} {h : Heap} {mg : Str → Option Value} {fa : Addr} (X : K.In h) (G : h.Ns mainGlobals mg) (hfa : mg "law" = some (.ref fa))
    {f0 : Addr} {od0 an0 : Option Addr} {sl0 : Array (Option Value)} {oc0 kV0 dc0 pm0 cd0 ct0 : Value}
    (a0 : PySem.W.nsIn K mainGlobals "check_image" = some (some (.ref f0))) (l0 : K.lookup f0 = some ⟨oc0, od0, .func (PySem.W.fnOf "check_image" "check_image" (defArgs s_check_image) (defBody s_check_image) (defScope s_check_image) .none kV0 dc0 pm0 an0 cd0 ct0), sl0⟩) (c0 : PySem.W.codeIn K cd0 "check_image" = true) (k0 : PySem.W.keepIn K (.ref f0) = true)
    {f1 : Addr} {od1 an1 : Option Addr} {sl1 : Array (Option Value)} {oc1 kV1 dc1 pm1 cd1 ct1 : Value}
    (a1 : PySem.W.nsIn K mainGlobals "entry_sign" = some (some (.ref f1))) (l1 : K.lookup f1 = some ⟨oc1, od1, .func (PySem.W.fnOf "entry_sign" "entry_sign" (defArgs s_entry_sign) (defBody s_entry_sign) (defScope s_entry_sign) .none kV1 dc1 pm1 an1 cd1 ct1), sl1⟩) (c1 : PySem.W.codeIn K cd1 "entry_sign" = true) (k1 : PySem.W.keepIn K (.ref f1) = true)
    {f2 : Addr} {od2 an2 : Option Addr} {sl2 : Array (Option Value)} {oc2 kV2 dc2 pm2 cd2 ct2 : Value}
    (a2 : PySem.W.nsIn K mainGlobals "look" = some (some (.ref f2))) (l2 : K.lookup f2 = some ⟨oc2, od2, .func (PySem.W.fnOf "look" "look" (defArgs s_look) (defBody s_look) (defScope s_look) .none kV2 dc2 pm2 an2 cd2 ct2), sl2⟩) (c2 : PySem.W.codeIn K cd2 "look" = true) (k2 : PySem.W.keepIn K (.ref f2) = true)
    {f3 : Addr} {od3 an3 : Option Addr} {sl3 : Array (Option Value)} {oc3 kV3 dc3 pm3 cd3 ct3 : Value}
    (a3 : PySem.W.nsIn K mainGlobals "has_guard_signs" = some (some (.ref f3))) (l3 : K.lookup f3 = some ⟨oc3, od3, .func (PySem.W.fnOf "has_guard_signs" "has_guard_signs" (defArgs s_has_guard_signs) (defBody s_has_guard_signs) (defScope s_has_guard_signs) .none kV3 dc3 pm3 an3 cd3 ct3), sl3⟩) (c3 : PySem.W.codeIn K cd3 "has_guard_signs" = true) (k3 : PySem.W.keepIn K (.ref f3) = true)
    {f4 : Addr} {od4 an4 : Option Addr} {sl4 : Array (Option Value)} {oc4 kV4 dc4 pm4 cd4 ct4 : Value}
    (a4 : PySem.W.nsIn K mainGlobals "is_index" = some (some (.ref f4))) (l4 : K.lookup f4 = some ⟨oc4, od4, .func (PySem.W.fnOf "is_index" "is_index" (defArgs s_is_index) (defBody s_is_index) (defScope s_is_index) .none kV4 dc4 pm4 an4 cd4 ct4), sl4⟩) (c4 : PySem.W.codeIn K cd4 "is_index" = true) (k4 : PySem.W.keepIn K (.ref f4) = true)
    {f5 : Addr} {od5 an5 : Option Addr} {sl5 : Array (Option Value)} {oc5 kV5 dc5 pm5 cd5 ct5 : Value}
    (a5 : PySem.W.nsIn K mainGlobals "is_guard" = some (some (.ref f5))) (l5 : K.lookup f5 = some ⟨oc5, od5, .func (PySem.W.fnOf "is_guard" "is_guard" (defArgs s_is_guard) (defBody s_is_guard) (defScope s_is_guard) .none kV5 dc5 pm5 an5 cd5 ct5), sl5⟩) (c5 : PySem.W.codeIn K cd5 "is_guard" = true) (k5 : PySem.W.keepIn K (.ref f5) = true)
    {f6 : Addr} {od6 an6 : Option Addr} {sl6 : Array (Option Value)} {oc6 kV6 dc6 pm6 cd6 ct6 : Value}
    (a6 : PySem.W.nsIn K mainGlobals "check_line" = some (some (.ref f6))) (l6 : K.lookup f6 = some ⟨oc6, od6, .func (PySem.W.fnOf "check_line" "check_line" (defArgs s_check_line) (defBody s_check_line) (defScope s_check_line) .none kV6 dc6 pm6 an6 cd6 ct6), sl6⟩) (c6 : PySem.W.codeIn K cd6 "check_line" = true) (k6 : PySem.W.keepIn K (.ref f6) = true)
    {f7 : Addr} {od7 an7 : Option Addr} {sl7 : Array (Option Value)} {oc7 kV7 dc7 pm7 cd7 ct7 : Value}
    (a7 : PySem.W.nsIn K mainGlobals "check_script" = some (some (.ref f7))) (l7 : K.lookup f7 = some ⟨oc7, od7, .func (PySem.W.fnOf "check_script" "check_script" (defArgs s_check_script) (defBody s_check_script) (defScope s_check_script) .none kV7 dc7 pm7 an7 cd7 ct7), sl7⟩) (c7 : PySem.W.codeIn K cd7 "check_script" = true) (k7 : PySem.W.keepIn K (.ref f7) = true)
    {f8 : Addr} {od8 an8 : Option Addr} {sl8 : Array (Option Value)} {oc8 kV8 dc8 pm8 cd8 ct8 : Value}
    (a8 : PySem.W.nsIn K mainGlobals "sign_matches" = some (some (.ref f8))) (l8 : K.lookup f8 = some ⟨oc8, od8, .func (PySem.W.fnOf "sign_matches" "sign_matches" (defArgs s_sign_matches) (defBody s_sign_matches) (defScope s_sign_matches) .none kV8 dc8 pm8 an8 cd8 ct8), sl8⟩) (c8 : PySem.W.codeIn K cd8 "sign_matches" = true) (k8 : PySem.W.keepIn K (.ref f8) = true)
    {f9 : Addr} {od9 an9 : Option Addr} {sl9 : Array (Option Value)} {oc9 kV9 dc9 pm9 cd9 ct9 : Value}
    (a9 : PySem.W.nsIn K mainGlobals "matches" = some (some (.ref f9))) (l9 : K.lookup f9 = some ⟨oc9, od9, .func (PySem.W.fnOf "matches" "matches" (defArgs s_matches) (defBody s_matches) (defScope s_matches) .none kV9 dc9 pm9 an9 cd9 ct9), sl9⟩) (c9 : PySem.W.codeIn K cd9 "matches" = true) (k9 : PySem.W.keepIn K (.ref f9) = true)
    {f10 : Addr} {od10 an10 : Option Addr} {sl10 : Array (Option Value)} {oc10 kV10 dc10 pm10 cd10 ct10 : Value}
    (a10 : PySem.W.nsIn K mainGlobals "fires" = some (some (.ref f10))) (l10 : K.lookup f10 = some ⟨oc10, od10, .func (PySem.W.fnOf "fires" "fires" (defArgs s_fires) (defBody s_fires) (defScope s_fires) .none kV10 dc10 pm10 an10 cd10 ct10), sl10⟩) (c10 : PySem.W.codeIn K cd10 "fires" = true) (k10 : PySem.W.keepIn K (.ref f10) = true)
    {f11 : Addr} {od11 an11 : Option Addr} {sl11 : Array (Option Value)} {oc11 kV11 dc11 pm11 cd11 ct11 : Value}
    (a11 : PySem.W.nsIn K mainGlobals "own_sources" = some (some (.ref f11))) (l11 : K.lookup f11 = some ⟨oc11, od11, .func (PySem.W.fnOf "own_sources" "own_sources" (defArgs s_own_sources) (defBody s_own_sources) (defScope s_own_sources) .none kV11 dc11 pm11 an11 cd11 ct11), sl11⟩) (c11 : PySem.W.codeIn K cd11 "own_sources" = true) (k11 : PySem.W.keepIn K (.ref f11) = true)
    {f12 : Addr} {od12 an12 : Option Addr} {sl12 : Array (Option Value)} {oc12 kV12 dc12 pm12 cd12 ct12 : Value}
    (a12 : PySem.W.nsIn K mainGlobals "sources" = some (some (.ref f12))) (l12 : K.lookup f12 = some ⟨oc12, od12, .func (PySem.W.fnOf "sources" "sources" (defArgs s_sources) (defBody s_sources) (defScope s_sources) .none kV12 dc12 pm12 an12 cd12 ct12), sl12⟩) (c12 : PySem.W.codeIn K cd12 "sources" = true) (k12 : PySem.W.keepIn K (.ref f12) = true)
    {f13 : Addr} {od13 an13 : Option Addr} {sl13 : Array (Option Value)} {oc13 kV13 dc13 pm13 cd13 ct13 : Value}
    (a13 : PySem.W.nsIn K mainGlobals "image_from" = some (some (.ref f13))) (l13 : K.lookup f13 = some ⟨oc13, od13, .func (PySem.W.fnOf "image_from" "image_from" (defArgs s_image_from) (defBody s_image_from) (defScope s_image_from) .none kV13 dc13 pm13 an13 cd13 ct13), sl13⟩) (c13 : PySem.W.codeIn K cd13 "image_from" = true) (k13 : PySem.W.keepIn K (.ref f13) = true)
    {f14 : Addr} {od14 an14 : Option Addr} {sl14 : Array (Option Value)} {oc14 kV14 dc14 pm14 cd14 ct14 : Value}
    (a14 : PySem.W.nsIn K mainGlobals "apply_line" = some (some (.ref f14))) (l14 : K.lookup f14 = some ⟨oc14, od14, .func (PySem.W.fnOf "apply_line" "apply_line" (defArgs s_apply_line) (defBody s_apply_line) (defScope s_apply_line) .none kV14 dc14 pm14 an14 cd14 ct14), sl14⟩) (c14 : PySem.W.codeIn K cd14 "apply_line" = true) (k14 : PySem.W.keepIn K (.ref f14) = true)
    {f15 : Addr} {od15 an15 : Option Addr} {sl15 : Array (Option Value)} {oc15 kV15 dc15 pm15 cd15 ct15 : Value}
    (a15 : PySem.W.nsIn K mainGlobals "look_after" = some (some (.ref f15))) (l15 : K.lookup f15 = some ⟨oc15, od15, .func (PySem.W.fnOf "look_after" "look_after" (defArgs s_look_after) (defBody s_look_after) (defScope s_look_after) .none kV15 dc15 pm15 an15 cd15 ct15), sl15⟩) (c15 : PySem.W.codeIn K cd15 "look_after" = true) (k15 : PySem.W.keepIn K (.ref f15) = true)
    {f16 : Addr} {od16 an16 : Option Addr} {sl16 : Array (Option Value)} {oc16 kV16 dc16 pm16 cd16 ct16 : Value}
    (a16 : PySem.W.nsIn K mainGlobals "images" = some (some (.ref f16))) (l16 : K.lookup f16 = some ⟨oc16, od16, .func (PySem.W.fnOf "images" "images" (defArgs s_images) (defBody s_images) (defScope s_images) .none kV16 dc16 pm16 an16 cd16 ct16), sl16⟩) (c16 : PySem.W.codeIn K cd16 "images" = true) (k16 : PySem.W.keepIn K (.ref f16) = true)
    {f17 : Addr} {od17 an17 : Option Addr} {sl17 : Array (Option Value)} {oc17 kV17 dc17 pm17 cd17 ct17 : Value}
    (a17 : PySem.W.nsIn K mainGlobals "plain_run" = some (some (.ref f17))) (l17 : K.lookup f17 = some ⟨oc17, od17, .func (PySem.W.fnOf "plain_run" "plain_run" (defArgs s_plain_run) (defBody s_plain_run) (defScope s_plain_run) .none kV17 dc17 pm17 an17 cd17 ct17), sl17⟩) (c17 : PySem.W.codeIn K cd17 "plain_run" = true) (k17 : PySem.W.keepIn K (.ref f17) = true)
    {f18 : Addr} {od18 an18 : Option Addr} {sl18 : Array (Option Value)} {oc18 kV18 dc18 pm18 cd18 ct18 : Value}
    (a18 : PySem.W.nsIn K mainGlobals "flow" = some (some (.ref f18))) (l18 : K.lookup f18 = some ⟨oc18, od18, .func (PySem.W.fnOf "flow" "flow" (defArgs s_flow) (defBody s_flow) (defScope s_flow) .none kV18 dc18 pm18 an18 cd18 ct18), sl18⟩) (c18 : PySem.W.codeIn K cd18 "flow" = true) (k18 : PySem.W.keepIn K (.ref f18) = true)
    {f19 : Addr} {od19 an19 : Option Addr} {sl19 : Array (Option Value)} {oc19 kV19 dc19 pm19 cd19 ct19 : Value}
    (a19 : PySem.W.nsIn K mainGlobals "_law_bag" = some (some (.ref f19))) (l19 : K.lookup f19 = some ⟨oc19, od19, .func (PySem.W.fnOf "_law_bag" "_law_bag" (defArgs s_law_bag) (defBody s_law_bag) (defScope s_law_bag) .none kV19 dc19 pm19 an19 cd19 ct19), sl19⟩) (c19 : PySem.W.codeIn K cd19 "_law_bag" = true) (k19 : PySem.W.keepIn K (.ref f19) = true)
    {f20 : Addr} {od20 an20 : Option Addr} {sl20 : Array (Option Value)} {oc20 kV20 dc20 pm20 cd20 ct20 : Value}
    (a20 : PySem.W.nsIn K mainGlobals "_law_draw" = some (some (.ref f20))) (l20 : K.lookup f20 = some ⟨oc20, od20, .func (PySem.W.fnOf "_law_draw" "_law_draw" (defArgs s_law_draw) (defBody s_law_draw) (defScope s_law_draw) .none kV20 dc20 pm20 an20 cd20 ct20), sl20⟩) (c20 : PySem.W.codeIn K cd20 "_law_draw" = true) (k20 : PySem.W.keepIn K (.ref f20) = true)
    {f21 : Addr} {od21 an21 : Option Addr} {sl21 : Array (Option Value)} {oc21 kV21 dc21 pm21 cd21 ct21 : Value}
    (a21 : PySem.W.nsIn K mainGlobals "_law_image" = some (some (.ref f21))) (l21 : K.lookup f21 = some ⟨oc21, od21, .func (PySem.W.fnOf "_law_image" "_law_image" (defArgs s_law_image) (defBody s_law_image) (defScope s_law_image) .none kV21 dc21 pm21 an21 cd21 ct21), sl21⟩) (c21 : PySem.W.codeIn K cd21 "_law_image" = true) (k21 : PySem.W.keepIn K (.ref f21) = true)
    {f22 : Addr} {od22 an22 : Option Addr} {sl22 : Array (Option Value)} {oc22 kV22 dc22 pm22 cd22 ct22 : Value}
    (a22 : PySem.W.nsIn K mainGlobals "_law_view" = some (some (.ref f22))) (l22 : K.lookup f22 = some ⟨oc22, od22, .func (PySem.W.fnOf "_law_view" "_law_view" (defArgs s_law_view) (defBody s_law_view) (defScope s_law_view) .none kV22 dc22 pm22 an22 cd22 ct22), sl22⟩) (c22 : PySem.W.codeIn K cd22 "_law_view" = true) (k22 : PySem.W.keepIn K (.ref f22) = true)
    {f23 : Addr} {od23 an23 : Option Addr} {sl23 : Array (Option Value)} {oc23 kV23 dc23 pm23 cd23 ct23 : Value}
    (a23 : PySem.W.nsIn K mainGlobals "_law_guard" = some (some (.ref f23))) (l23 : K.lookup f23 = some ⟨oc23, od23, .func (PySem.W.fnOf "_law_guard" "_law_guard" (defArgs s_law_guard) (defBody s_law_guard) (defScope s_law_guard) .none kV23 dc23 pm23 an23 cd23 ct23), sl23⟩) (c23 : PySem.W.codeIn K cd23 "_law_guard" = true) (k23 : PySem.W.keepIn K (.ref f23) = true)
    {f24 : Addr} {od24 an24 : Option Addr} {sl24 : Array (Option Value)} {oc24 kV24 dc24 pm24 cd24 ct24 : Value}
    (a24 : PySem.W.nsIn K mainGlobals "_law_row" = some (some (.ref f24))) (l24 : K.lookup f24 = some ⟨oc24, od24, .func (PySem.W.fnOf "_law_row" "_law_row" (defArgs s_law_row) (defBody s_law_row) (defScope s_law_row) .none kV24 dc24 pm24 an24 cd24 ct24), sl24⟩) (c24 : PySem.W.codeIn K cd24 "_law_row" = true) (k24 : PySem.W.keepIn K (.ref f24) = true)
    {f25 : Addr} {od25 an25 : Option Addr} {sl25 : Array (Option Value)} {oc25 kV25 dc25 pm25 cd25 ct25 : Value}
    (a25 : PySem.W.nsIn K mainGlobals "_law_fits" = some (some (.ref f25))) (l25 : K.lookup f25 = some ⟨oc25, od25, .func (PySem.W.fnOf "_law_fits" "_law_fits" (defArgs s_law_fits) (defBody s_law_fits) (defScope s_law_fits) .none kV25 dc25 pm25 an25 cd25 ct25), sl25⟩) (c25 : PySem.W.codeIn K cd25 "_law_fits" = true) (k25 : PySem.W.keepIn K (.ref f25) = true)
    {f26 : Addr} {od26 an26 : Option Addr} {sl26 : Array (Option Value)} {oc26 kV26 dc26 pm26 cd26 ct26 : Value}
    (a26 : PySem.W.nsIn K mainGlobals "_law_works" = some (some (.ref f26))) (l26 : K.lookup f26 = some ⟨oc26, od26, .func (PySem.W.fnOf "_law_works" "_law_works" (defArgs s_law_works) (defBody s_law_works) (defScope s_law_works) .none kV26 dc26 pm26 an26 cd26 ct26), sl26⟩) (c26 : PySem.W.codeIn K cd26 "_law_works" = true) (k26 : PySem.W.keepIn K (.ref f26) = true)
    {f27 : Addr} {od27 an27 : Option Addr} {sl27 : Array (Option Value)} {oc27 kV27 dc27 pm27 cd27 ct27 : Value}
    (a27 : PySem.W.nsIn K mainGlobals "_law_origins" = some (some (.ref f27))) (l27 : K.lookup f27 = some ⟨oc27, od27, .func (PySem.W.fnOf "_law_origins" "_law_origins" (defArgs s_law_origins) (defBody s_law_origins) (defScope s_law_origins) .none kV27 dc27 pm27 an27 cd27 ct27), sl27⟩) (c27 : PySem.W.codeIn K cd27 "_law_origins" = true) (k27 : PySem.W.keepIn K (.ref f27) = true)
    {f28 : Addr} {od28 an28 : Option Addr} {sl28 : Array (Option Value)} {oc28 kV28 dc28 pm28 cd28 ct28 : Value}
    (a28 : PySem.W.nsIn K mainGlobals "_law_carried" = some (some (.ref f28))) (l28 : K.lookup f28 = some ⟨oc28, od28, .func (PySem.W.fnOf "_law_carried" "_law_carried" (defArgs s_law_carried) (defBody s_law_carried) (defScope s_law_carried) .none kV28 dc28 pm28 an28 cd28 ct28), sl28⟩) (c28 : PySem.W.codeIn K cd28 "_law_carried" = true) (k28 : PySem.W.keepIn K (.ref f28) = true)
    {f29 : Addr} {od29 an29 : Option Addr} {sl29 : Array (Option Value)} {oc29 kV29 dc29 pm29 cd29 ct29 : Value}
    (a29 : PySem.W.nsIn K mainGlobals "_law_is_whole" = some (some (.ref f29))) (l29 : K.lookup f29 = some ⟨oc29, od29, .func (PySem.W.fnOf "_law_is_whole" "_law_is_whole" (defArgs s_law_is_whole) (defBody s_law_is_whole) (defScope s_law_is_whole) .none kV29 dc29 pm29 an29 cd29 ct29), sl29⟩) (c29 : PySem.W.codeIn K cd29 "_law_is_whole" = true) (k29 : PySem.W.keepIn K (.ref f29) = true)
    {f30 : Addr} {od30 an30 : Option Addr} {sl30 : Array (Option Value)} {oc30 kV30 dc30 pm30 cd30 ct30 : Value}
    (a30 : PySem.W.nsIn K mainGlobals "_law_same" = some (some (.ref f30))) (l30 : K.lookup f30 = some ⟨oc30, od30, .func (PySem.W.fnOf "_law_same" "_law_same" (defArgs s_law_same) (defBody s_law_same) (defScope s_law_same) .none kV30 dc30 pm30 an30 cd30 ct30), sl30⟩) (c30 : PySem.W.codeIn K cd30 "_law_same" = true) (k30 : PySem.W.keepIn K (.ref f30) = true)
    {f31 : Addr} {od31 an31 : Option Addr} {sl31 : Array (Option Value)} {oc31 kV31 dc31 pm31 cd31 ct31 : Value}
    (a31 : PySem.W.nsIn K mainGlobals "_law_size" = some (some (.ref f31))) (l31 : K.lookup f31 = some ⟨oc31, od31, .func (PySem.W.fnOf "_law_size" "_law_size" (defArgs s_law_size) (defBody s_law_size) (defScope s_law_size) .none kV31 dc31 pm31 an31 cd31 ct31), sl31⟩) (c31 : PySem.W.codeIn K cd31 "_law_size" = true) (k31 : PySem.W.keepIn K (.ref f31) = true)
    {f32 : Addr} {od32 an32 : Option Addr} {sl32 : Array (Option Value)} {oc32 kV32 dc32 pm32 cd32 ct32 : Value}
    (a32 : PySem.W.nsIn K mainGlobals "_law_count" = some (some (.ref f32))) (l32 : K.lookup f32 = some ⟨oc32, od32, .func (PySem.W.fnOf "_law_count" "_law_count" (defArgs s_law_count) (defBody s_law_count) (defScope s_law_count) .none kV32 dc32 pm32 an32 cd32 ct32), sl32⟩) (c32 : PySem.W.codeIn K cd32 "_law_count" = true) (k32 : PySem.W.keepIn K (.ref f32) = true)
    {f33 : Addr} {od33 an33 : Option Addr} {sl33 : Array (Option Value)} {oc33 kV33 dc33 pm33 cd33 ct33 : Value}
    (a33 : PySem.W.nsIn K mainGlobals "_law_twice" = some (some (.ref f33))) (l33 : K.lookup f33 = some ⟨oc33, od33, .func (PySem.W.fnOf "_law_twice" "_law_twice" (defArgs s_law_twice) (defBody s_law_twice) (defScope s_law_twice) .none kV33 dc33 pm33 an33 cd33 ct33), sl33⟩) (c33 : PySem.W.codeIn K cd33 "_law_twice" = true) (k33 : PySem.W.keepIn K (.ref f33) = true)
    {f34 : Addr} {od34 an34 : Option Addr} {sl34 : Array (Option Value)} {oc34 kV34 dc34 pm34 cd34 ct34 : Value}
    (a34 : PySem.W.nsIn K mainGlobals "_law_same_list" = some (some (.ref f34))) (l34 : K.lookup f34 = some ⟨oc34, od34, .func (PySem.W.fnOf "_law_same_list" "_law_same_list" (defArgs s_law_same_list) (defBody s_law_same_list) (defScope s_law_same_list) .none kV34 dc34 pm34 an34 cd34 ct34), sl34⟩) (c34 : PySem.W.codeIn K cd34 "_law_same_list" = true) (k34 : PySem.W.keepIn K (.ref f34) = true)
    {f35 : Addr} {od35 an35 : Option Addr} {sl35 : Array (Option Value)} {oc35 kV35 dc35 pm35 cd35 ct35 : Value}
    (a35 : PySem.W.nsIn K mainGlobals "law" = some (some (.ref f35))) (l35 : K.lookup f35 = some ⟨oc35, od35, .func (PySem.W.fnOf "law" "law" (defArgs s_law) (defBody s_law) (defScope s_law) .none kV35 dc35 pm35 an35 cd35 ct35), sl35⟩) (c35 : PySem.W.codeIn K cd35 "law" = true) (k35 : PySem.W.keepIn K (.ref f35) = true)
    {tk0 : Tok} (y0 : PySem.W.nsIn K mainGlobals "MOST_BLOCKS" = some (some (Value.int 12 tk0)))
    {tk1 : Tok} (y1 : PySem.W.nsIn K mainGlobals "EMPTY" = some (some (Value.int (-1) tk1)))
    {tk2 : Tok} (y2 : PySem.W.nsIn K mainGlobals "MOST_VALUE" = some (some (Value.int 999 tk2)))
    {tk3 : Tok} (y3 : PySem.W.nsIn K mainGlobals "VALUES_PER_KIND" = some (some (Value.int 100 tk3)))
    {tk4 : Tok} (y4 : PySem.W.nsIn K mainGlobals "GUARD_SIGNS" = some (some (Value.str ".*-0123456789" tk4)))
    {tk5 : Tok} (y5 : PySem.W.nsIn K mainGlobals "MOST_LINES" = some (some (Value.int 60 tk5)))
    (z0 : PySem.W.nsIn K mainGlobals "enumerate" = some none)
    (z1 : PySem.W.nsIn K mainGlobals "isinstance" = some none)
    (z2 : PySem.W.nsIn K mainGlobals "tuple" = some none)
    (z3 : PySem.W.nsIn K mainGlobals "len" = some none)
    (z4 : PySem.W.nsIn K mainGlobals "int" = some none)
    (z5 : PySem.W.nsIn K mainGlobals "str" = some none)
    (z6 : PySem.W.nsIn K mainGlobals "list" = some none)
    (z7 : PySem.W.nsIn K mainGlobals "zip" = some none)
    (z8 : PySem.W.nsIn K mainGlobals "abs" = some none)
    (z9 : PySem.W.nsIn K mainGlobals "range" = some none)
    (z10 : PySem.W.nsIn K mainGlobals "bool" = some none)
    (z11 : PySem.W.nsIn K mainGlobals "min" = some none)
    : ∃ fd : FuncData, (∀ (s : Shared) (v : Value), BindsTo s fd ⟨[v], []⟩ [("_law_script", v)]) ∧ ∀ base : Heap, K.In base → base.Ns mainGlobals mg → FnOk pw w K mg base (L2.CX pw w) 8 fa fd ["_law_script"] (spOf K (fun _ => 0) 1 g_law) := by
  have e := hfa.symm.trans (PySem.W.mg_of X G a35)
  cases e
  have F0 := fun_mk (st := s_check_image) l0 c0 k0
  have b0 := F0.binds (ps := ["image"]) fun _ _ _ _ _ _ us hl => match us, hl with | [_], _ => rfl
  have F1 := fun_mk (st := s_entry_sign) l1 c1 k1
  have b1 := F1.binds (ps := ["entry"]) fun _ _ _ _ _ _ us hl => match us, hl with | [_], _ => rfl
  have F2 := fun_mk (st := s_look) l2 c2 k2
  have b2 := F2.binds (ps := ["image"]) fun _ _ _ _ _ _ us hl => match us, hl with | [_], _ => rfl
  have F3 := fun_mk (st := s_has_guard_signs) l3 c3 k3
  have b3 := F3.binds (ps := ["guard"]) fun _ _ _ _ _ _ us hl => match us, hl with | [_], _ => rfl
  have F4 := fun_mk (st := s_is_index) l4 c4 k4
  have b4 := F4.binds (ps := ["number", "blocks"]) fun _ _ _ _ _ _ us hl => match us, hl with | [_, _], _ => rfl
  have F5 := fun_mk (st := s_is_guard) l5 c5 k5
  have b5 := F5.binds (ps := ["guard", "blocks"]) fun _ _ _ _ _ _ us hl => match us, hl with | [_, _], _ => rfl
  have F6 := fun_mk (st := s_check_line) l6 c6 k6
  have b6 := F6.binds (ps := ["line", "blocks"]) fun _ _ _ _ _ _ us hl => match us, hl with | [_, _], _ => rfl
  have F7 := fun_mk (st := s_check_script) l7 c7 k7
  have b7 := F7.binds (ps := ["script", "image"]) fun _ _ _ _ _ _ us hl => match us, hl with | [_, _], _ => rfl
  have F8 := fun_mk (st := s_sign_matches) l8 c8 k8
  have b8 := F8.binds (ps := ["sign", "seen"]) fun _ _ _ _ _ _ us hl => match us, hl with | [_, _], _ => rfl
  have F9 := fun_mk (st := s_matches) l9 c9 k9
  have b9 := F9.binds (ps := ["guard", "view"]) fun _ _ _ _ _ _ us hl => match us, hl with | [_, _], _ => rfl
  have F10 := fun_mk (st := s_fires) l10 c10 k10
  have b10 := F10.binds (ps := ["line", "view"]) fun _ _ _ _ _ _ us hl => match us, hl with | [_, _], _ => rfl
  have F11 := fun_mk (st := s_own_sources) l11 c11 k11
  have b11 := F11.binds (ps := ["view"]) fun _ _ _ _ _ _ us hl => match us, hl with | [_], _ => rfl
  have F12 := fun_mk (st := s_sources) l12 c12 k12
  have b12 := F12.binds (ps := ["line", "view"]) fun _ _ _ _ _ _ us hl => match us, hl with | [_, _], _ => rfl
  have F13 := fun_mk (st := s_image_from) l13 c13 k13
  have b13 := F13.binds (ps := ["origin", "image"]) fun _ _ _ _ _ _ us hl => match us, hl with | [_, _], _ => rfl
  have F14 := fun_mk (st := s_apply_line) l14 c14 k14
  have b14 := F14.binds (ps := ["line", "image"]) fun _ _ _ _ _ _ us hl => match us, hl with | [_, _], _ => rfl
  have F15 := fun_mk (st := s_look_after) l15 c15 k15
  have b15 := F15.binds (ps := ["line", "view"]) fun _ _ _ _ _ _ us hl => match us, hl with | [_, _], _ => rfl
  have F16 := fun_mk (st := s_images) l16 c16 k16
  have b16 := F16.binds (ps := ["script", "image"]) fun _ _ _ _ _ _ us hl => match us, hl with | [_, _], _ => rfl
  have F17 := fun_mk (st := s_plain_run) l17 c17 k17
  have b17 := F17.binds (ps := ["script", "image"]) fun _ _ _ _ _ _ us hl => match us, hl with | [_, _], _ => rfl
  have F18 := fun_mk (st := s_flow) l18 c18 k18
  have b18 := F18.binds (ps := ["script", "view"]) fun _ _ _ _ _ _ us hl => match us, hl with | [_, _], _ => rfl
  have F19 := fun_mk (st := s_law_bag) l19 c19 k19
  have b19 := F19.binds (ps := ["_law_script"]) fun _ _ _ _ _ _ us hl => match us, hl with | [_], _ => rfl
  have F20 := fun_mk (st := s_law_draw) l20 c20 k20
  have b20 := F20.binds (ps := ["_law_bag_here", "_law_many"]) fun _ _ _ _ _ _ us hl => match us, hl with | [_, _], _ => rfl
  have F21 := fun_mk (st := s_law_image) l21 c21 k21
  have b21 := F21.binds (ps := ["_law_bag_here", "_law_n"]) fun _ _ _ _ _ _ us hl => match us, hl with | [_, _], _ => rfl
  have F22 := fun_mk (st := s_law_view) l22 c22 k22
  have b22 := F22.binds (ps := ["_law_image_here"]) fun _ _ _ _ _ _ us hl => match us, hl with | [_], _ => rfl
  have F23 := fun_mk (st := s_law_guard) l23 c23 k23
  have b23 := F23.binds (ps := ["_law_bag_here", "_law_n", "_law_view_here"]) fun _ _ _ _ _ _ us hl => match us, hl with | [_, _, _], _ => rfl
  have F24 := fun_mk (st := s_law_row) l24 c24 k24
  have b24 := F24.binds (ps := ["_law_bag_here", "_law_n", "_law_view_here"]) fun _ _ _ _ _ _ us hl => match us, hl with | [_, _, _], _ => rfl
  have F25 := fun_mk (st := s_law_fits) l25 c25 k25
  have b25 := F25.binds (ps := ["_law_guard_here", "_law_view_here"]) fun _ _ _ _ _ _ us hl => match us, hl with | [_, _], _ => rfl
  have F26 := fun_mk (st := s_law_works) l26 c26 k26
  have b26 := F26.binds (ps := ["_law_row_here", "_law_view_here"]) fun _ _ _ _ _ _ us hl => match us, hl with | [_, _], _ => rfl
  have F27 := fun_mk (st := s_law_origins) l27 c27 k27
  have b27 := F27.binds (ps := ["_law_row_here", "_law_view_here"]) fun _ _ _ _ _ _ us hl => match us, hl with | [_, _], _ => rfl
  have F28 := fun_mk (st := s_law_carried) l28 c28 k28
  have b28 := F28.binds (ps := ["_law_held", "_law_entries"]) fun _ _ _ _ _ _ us hl => match us, hl with | [_, _], _ => rfl
  have F29 := fun_mk (st := s_law_is_whole) l29 c29 k29
  have b29 := F29.binds (ps := ["_law_told"]) fun _ _ _ _ _ _ us hl => match us, hl with | [_], _ => rfl
  have F30 := fun_mk (st := s_law_same) l30 c30 k30
  have b30 := F30.binds (ps := ["_law_told", "_law_due"]) fun _ _ _ _ _ _ us hl => match us, hl with | [_, _], _ => rfl
  have F31 := fun_mk (st := s_law_size) l31 c31 k31
  have b31 := F31.binds (ps := ["_law_bag_here"]) fun _ _ _ _ _ _ us hl => match us, hl with | [_], _ => rfl
  have F32 := fun_mk (st := s_law_count) l32 c32 k32
  have b32 := F32.binds (ps := ["_law_bag_here", "_law_room"]) fun _ _ _ _ _ _ us hl => match us, hl with | [_, _], _ => rfl
  have F33 := fun_mk (st := s_law_twice) l33 c33 k33
  have b33 := F33.binds (ps := ["_law_row_here", "_law_image_here"]) fun _ _ _ _ _ _ us hl => match us, hl with | [_, _], _ => rfl
  have F34 := fun_mk (st := s_law_same_list) l34 c34 k34
  have b34 := F34.binds (ps := ["_law_told", "_law_due"]) fun _ _ _ _ _ _ us hl => match us, hl with | [_, _], _ => rfl
  have F35 := fun_mk (st := s_law) l35 c35 k35
  refine ⟨PySem.W.fnOf "law" "law" (defArgs s_law) (defBody s_law) (defScope s_law) .none kV35 dc35 pm35 an35 cd35 ct35, fun s v => .of_eq rfl, fun base _ _ => ?_⟩
  have tb0 : TabOk pw w K mg base (fun _ => 0) 0 T_check_image := (TabOk.blt (PySem.W.mg_none_of X G z0) (TabOk.blt (PySem.W.mg_none_of X G z1) (TabOk.blt (PySem.W.mg_none_of X G z2) (TabOk.con rfl (PySem.W.mg_of X G y0) ⟨_, rfl⟩ (TabOk.blt (PySem.W.mg_none_of X G z3) (TabOk.blt (PySem.W.mg_none_of X G z4) (TabOk.con rfl (PySem.W.mg_of X G y1) ⟨_, rfl⟩ (TabOk.con rfl (PySem.W.mg_of X G y2) ⟨_, rfl⟩ TabOk.nil))))))))
  have O0 := fn_ok false F0 sc_check_image tb0
  rw [e_check_image] at O0
  have tb1 : TabOk pw w K mg base (fun _ => 0) 0 T_entry_sign := (TabOk.con rfl (PySem.W.mg_of X G y1) ⟨_, rfl⟩ (TabOk.blt (PySem.W.mg_none_of X G z5) (TabOk.con rfl (PySem.W.mg_of X G y3) ⟨_, rfl⟩ TabOk.nil)))
  have O1 := fn_ok false F1 sc_entry_sign tb1
  rw [e_entry_sign] at O1
  have tb2 : TabOk pw w K mg base (fun _ => 0) 1 T_look := (TabOk.fn (FnOk.mono O0 (by decide)) (PySem.W.mg_of X G a0) k0 b0 (TabOk.fn (FnOk.mono O1 (by decide)) (PySem.W.mg_of X G a1) k1 b1 TabOk.nil))
  have O2 := fn_ok false F2 sc_look tb2
  rw [e_look] at O2
  have tb3 : TabOk pw w K mg base (fun _ => 0) 0 T_has_guard_signs := (TabOk.con rfl (PySem.W.mg_of X G y4) ⟨_, rfl⟩ TabOk.nil)
  have O3 := fn_ok false F3 sc_has_guard_signs tb3
  rw [e_has_guard_signs] at O3
  have tb4 : TabOk pw w K mg base (fun _ => 0) 0 T_is_index := (TabOk.blt (PySem.W.mg_none_of X G z1) (TabOk.blt (PySem.W.mg_none_of X G z4) TabOk.nil))
  have O4 := fn_ok false F4 sc_is_index tb4
  rw [e_is_index] at O4
  have tb5 : TabOk pw w K mg base (fun _ => 0) 1 T_is_guard := (TabOk.blt (PySem.W.mg_none_of X G z1) (TabOk.blt (PySem.W.mg_none_of X G z5) (TabOk.fn (FnOk.mono O3 (by decide)) (PySem.W.mg_of X G a3) k3 b3 (TabOk.blt (PySem.W.mg_none_of X G z3) TabOk.nil))))
  have O5 := fn_ok false F5 sc_is_guard tb5
  rw [e_is_guard] at O5
  have tb6 : TabOk pw w K mg base (fun _ => 0) 2 T_check_line := (TabOk.blt (PySem.W.mg_none_of X G z1) (TabOk.blt (PySem.W.mg_none_of X G z2) (TabOk.blt (PySem.W.mg_none_of X G z3) (TabOk.fn (FnOk.mono O4 (by decide)) (PySem.W.mg_of X G a4) k4 b4 (TabOk.fn (FnOk.mono O5 (by decide)) (PySem.W.mg_of X G a5) k5 b5 (TabOk.blt (PySem.W.mg_none_of X G z4) (TabOk.con rfl (PySem.W.mg_of X G y1) ⟨_, rfl⟩ TabOk.nil)))))))
  have O6 := fn_ok false F6 sc_check_line tb6
  rw [e_check_line] at O6
  have tb7 : TabOk pw w K mg base (fun _ => 0) 3 T_check_script := (TabOk.fn (FnOk.mono O0 (by decide)) (PySem.W.mg_of X G a0) k0 b0 (TabOk.blt (PySem.W.mg_none_of X G z0) (TabOk.con rfl (PySem.W.mg_of X G y5) ⟨_, rfl⟩ (TabOk.blt (PySem.W.mg_none_of X G z1) (TabOk.blt (PySem.W.mg_none_of X G z6) (TabOk.blt (PySem.W.mg_none_of X G z3) (TabOk.fn (FnOk.mono O6 (by decide)) (PySem.W.mg_of X G a6) k6 b6 TabOk.nil)))))))
  have O7 := fn_ok false F7 sc_check_script tb7
  rw [e_check_script] at O7
  have tb8 : TabOk pw w K mg base (fun _ => 0) 0 T_sign_matches := TabOk.nil
  have O8 := fn_ok false F8 sc_sign_matches tb8
  rw [e_sign_matches] at O8
  have tb9 : TabOk pw w K mg base (fun _ => 0) 1 T_matches := (TabOk.blt (PySem.W.mg_none_of X G z7) (TabOk.fn (FnOk.mono O8 (by decide)) (PySem.W.mg_of X G a8) k8 b8 TabOk.nil))
  have O9 := fn_ok false F9 sc_matches tb9
  rw [e_matches] at O9
  have tb10 : TabOk pw w K mg base (fun _ => 0) 2 T_fires := (TabOk.fn (FnOk.mono O9 (by decide)) (PySem.W.mg_of X G a9) k9 b9 TabOk.nil)
  have O10 := fn_ok false F10 sc_fires tb10
  rw [e_fires] at O10
  have tb11 : TabOk pw w K mg base (fun _ => 0) 0 T_own_sources := (TabOk.blt (PySem.W.mg_none_of X G z2) (TabOk.con rfl (PySem.W.mg_of X G y1) ⟨_, rfl⟩ (TabOk.blt (PySem.W.mg_none_of X G z0) TabOk.nil)))
  have O11 := fn_ok false F11 sc_own_sources tb11
  rw [e_own_sources] at O11
  have tb12 : TabOk pw w K mg base (fun _ => 0) 3 T_sources := (TabOk.blt (PySem.W.mg_none_of X G z6) (TabOk.con rfl (PySem.W.mg_of X G y1) ⟨_, rfl⟩ (TabOk.blt (PySem.W.mg_none_of X G z2) (TabOk.fn (FnOk.mono O10 (by decide)) (PySem.W.mg_of X G a10) k10 b10 (TabOk.fn (FnOk.mono O11 (by decide)) (PySem.W.mg_of X G a11) k11 b11 TabOk.nil)))))
  have O12 := fn_ok false F12 sc_sources tb12
  rw [e_sources] at O12
  have tb13 : TabOk pw w K mg base (fun _ => 0) 0 T_image_from := (TabOk.blt (PySem.W.mg_none_of X G z2) (TabOk.con rfl (PySem.W.mg_of X G y1) ⟨_, rfl⟩ TabOk.nil))
  have O13 := fn_ok false F13 sc_image_from tb13
  rw [e_image_from] at O13
  have tb14 : TabOk pw w K mg base (fun _ => 0) 4 T_apply_line := (TabOk.fn (FnOk.mono O13 (by decide)) (PySem.W.mg_of X G a13) k13 b13 (TabOk.fn (FnOk.mono O12 (by decide)) (PySem.W.mg_of X G a12) k12 b12 (TabOk.fn (FnOk.mono O2 (by decide)) (PySem.W.mg_of X G a2) k2 b2 TabOk.nil)))
  have O14 := fn_ok false F14 sc_apply_line tb14
  rw [e_apply_line] at O14
  have tb15 : TabOk pw w K mg base (fun _ => 0) 4 T_look_after := (TabOk.con rfl (PySem.W.mg_of X G y1) ⟨_, rfl⟩ (TabOk.fn (FnOk.mono O12 (by decide)) (PySem.W.mg_of X G a12) k12 b12 TabOk.nil))
  have O15 := fn_ok false F15 sc_look_after tb15
  rw [e_look_after] at O15
  have tb16 : TabOk pw w K mg base (fun _ => 0) 5 T_images := (TabOk.fn (FnOk.mono O7 (by decide)) (PySem.W.mg_of X G a7) k7 b7 (TabOk.fn (FnOk.mono O14 (by decide)) (PySem.W.mg_of X G a14) k14 b14 TabOk.nil))
  have O16 := fn_ok false F16 sc_images tb16
  rw [e_images] at O16
  have tb17 : TabOk pw w K mg base (fun _ => 0) 6 T_plain_run := (TabOk.fn (FnOk.mono O16 (by decide)) (PySem.W.mg_of X G a16) k16 b16 TabOk.nil)
  have O17 := fn_ok false F17 sc_plain_run tb17
  rw [e_plain_run] at O17
  have tb18 : TabOk pw w K mg base (fun _ => 0) 5 T_flow := (TabOk.fn (FnOk.mono O11 (by decide)) (PySem.W.mg_of X G a11) k11 b11 (TabOk.fn (FnOk.mono O13 (by decide)) (PySem.W.mg_of X G a13) k13 b13 (TabOk.fn (FnOk.mono O15 (by decide)) (PySem.W.mg_of X G a15) k15 b15 (TabOk.fn (FnOk.mono O12 (by decide)) (PySem.W.mg_of X G a12) k12 b12 TabOk.nil))))
  have O18 := fn_ok false F18 sc_flow tb18
  rw [e_flow] at O18
  have tb19 : TabOk pw w K mg base (fun _ => 0) 0 T_law_bag := (TabOk.blt (PySem.W.mg_none_of X G z4) TabOk.nil)
  have O19 := fn_ok false F19 sc_law_bag tb19
  rw [e_law_bag] at O19
  have tb20 : TabOk pw w K mg base (fun _ => 0) 0 T_law_draw := (TabOk.blt (PySem.W.mg_none_of X G z4) (TabOk.blt (PySem.W.mg_none_of X G z3) (TabOk.blt (PySem.W.mg_none_of X G z8) TabOk.nil)))
  have O20 := fn_ok true F20 sc_law_draw tb20
  rw [e_law_draw] at O20
  have tb21 : TabOk pw w K mg base (fun _ => 0) 1 T_law_image := (TabOk.fn (FnOk.mono O20 (by decide)) (PySem.W.mg_of X G a20) k20 b20 (TabOk.blt (PySem.W.mg_none_of X G z9) (TabOk.blt (PySem.W.mg_none_of X G z2) TabOk.nil)))
  have O21 := fn_ok true F21 sc_law_image tb21
  rw [e_law_image] at O21
  have tb22 : TabOk pw w K mg base (fun _ => 0) 0 T_law_view := (TabOk.blt (PySem.W.mg_none_of X G z5) TabOk.nil)
  have O22 := fn_ok false F22 sc_law_view tb22
  rw [e_law_view] at O22
  have tb23 : TabOk pw w K mg base (fun _ => 0) 1 T_law_guard := (TabOk.fn (FnOk.mono O20 (by decide)) (PySem.W.mg_of X G a20) k20 b20 (TabOk.blt (PySem.W.mg_none_of X G z9) TabOk.nil))
  have O23 := fn_ok true F23 sc_law_guard tb23
  rw [e_law_guard] at O23
  have tb24 : TabOk pw w K mg base (fun _ => 0) 2 T_law_row := (TabOk.fn (FnOk.mono O20 (by decide)) (PySem.W.mg_of X G a20) k20 b20 (TabOk.fn (FnOk.mono O23 (by decide)) (PySem.W.mg_of X G a23) k23 b23 (TabOk.blt (PySem.W.mg_none_of X G z4) (TabOk.blt (PySem.W.mg_none_of X G z9) (TabOk.blt (PySem.W.mg_none_of X G z3) TabOk.nil)))))
  have O24 := fn_ok true F24 sc_law_row tb24
  rw [e_law_row] at O24
  have tb25 : TabOk pw w K mg base (fun _ => 0) 0 T_law_fits := (TabOk.blt (PySem.W.mg_none_of X G z9) (TabOk.blt (PySem.W.mg_none_of X G z3) TabOk.nil))
  have O25 := fn_ok false F25 sc_law_fits tb25
  rw [e_law_fits] at O25
  have tb26 : TabOk pw w K mg base (fun _ => 0) 1 T_law_works := (TabOk.fn (FnOk.mono O25 (by decide)) (PySem.W.mg_of X G a25) k25 b25 TabOk.nil)
  have O26 := fn_ok false F26 sc_law_works tb26
  rw [e_law_works] at O26
  have tb27 : TabOk pw w K mg base (fun _ => 0) 2 T_law_origins := (TabOk.fn (FnOk.mono O26 (by decide)) (PySem.W.mg_of X G a26) k26 b26 (TabOk.blt (PySem.W.mg_none_of X G z2) (TabOk.blt (PySem.W.mg_none_of X G z9) (TabOk.blt (PySem.W.mg_none_of X G z3) TabOk.nil))))
  have O27 := fn_ok false F27 sc_law_origins tb27
  rw [e_law_origins] at O27
  have tb28 : TabOk pw w K mg base (fun _ => 0) 0 T_law_carried := (TabOk.blt (PySem.W.mg_none_of X G z2) TabOk.nil)
  have O28 := fn_ok false F28 sc_law_carried tb28
  rw [e_law_carried] at O28
  have tb29 : TabOk pw w K mg base (fun _ => 0) 0 T_law_is_whole := (TabOk.blt (PySem.W.mg_none_of X G z1) (TabOk.blt (PySem.W.mg_none_of X G z4) (TabOk.blt (PySem.W.mg_none_of X G z10) TabOk.nil)))
  have O29 := fn_ok false F29 sc_law_is_whole tb29
  rw [e_law_is_whole] at O29
  have tb30 : TabOk pw w K mg base (fun _ => 0) 1 T_law_same := (TabOk.blt (PySem.W.mg_none_of X G z9) (TabOk.blt (PySem.W.mg_none_of X G z3) (TabOk.blt (PySem.W.mg_none_of X G z1) (TabOk.blt (PySem.W.mg_none_of X G z2) (TabOk.fn (FnOk.mono O29 (by decide)) (PySem.W.mg_of X G a29) k29 b29 TabOk.nil)))))
  have O30 := fn_ok false F30 sc_law_same tb30
  rw [e_law_same] at O30
  have tb31 : TabOk pw w K mg base (fun _ => 0) 1 T_law_size := (TabOk.fn (FnOk.mono O20 (by decide)) (PySem.W.mg_of X G a20) k20 b20 TabOk.nil)
  have O31 := fn_ok true F31 sc_law_size tb31
  rw [e_law_size] at O31
  have tb32 : TabOk pw w K mg base (fun _ => 0) 1 T_law_count := (TabOk.blt (PySem.W.mg_none_of X G z11) (TabOk.fn (FnOk.mono O20 (by decide)) (PySem.W.mg_of X G a20) k20 b20 TabOk.nil))
  have O32 := fn_ok true F32 sc_law_count tb32
  rw [e_law_count] at O32
  have tb33 : TabOk pw w K mg base (fun _ => 0) 5 T_law_twice := (TabOk.fn (FnOk.mono O22 (by decide)) (PySem.W.mg_of X G a22) k22 b22 (TabOk.fn (FnOk.mono O27 (by decide)) (PySem.W.mg_of X G a27) k27 b27 (TabOk.fn (FnOk.mono O28 (by decide)) (PySem.W.mg_of X G a28) k28 b28 (TabOk.fn (FnOk.mono O15 (by decide)) (PySem.W.mg_of X G a15) k15 b15 (TabOk.fn (FnOk.mono O12 (by decide)) (PySem.W.mg_of X G a12) k12 b12 (TabOk.fn (FnOk.mono O30 (by decide)) (PySem.W.mg_of X G a30) k30 b30 (TabOk.blt (PySem.W.mg_none_of X G z1) (TabOk.blt (PySem.W.mg_none_of X G z5) (TabOk.fn (FnOk.mono O14 (by decide)) (PySem.W.mg_of X G a14) k14 b14 TabOk.nil)))))))))
  have O33 := fn_ok false F33 sc_law_twice tb33
  rw [e_law_twice] at O33
  have tb34 : TabOk pw w K mg base (fun _ => 0) 2 T_law_same_list := (TabOk.blt (PySem.W.mg_none_of X G z9) (TabOk.blt (PySem.W.mg_none_of X G z3) (TabOk.blt (PySem.W.mg_none_of X G z1) (TabOk.blt (PySem.W.mg_none_of X G z6) (TabOk.fn (FnOk.mono O30 (by decide)) (PySem.W.mg_of X G a30) k30 b30 TabOk.nil)))))
  have O34 := fn_ok false F34 sc_law_same_list tb34
  rw [e_law_same_list] at O34
  have tb35 : TabOk pw w K mg base (fun _ => 0) 7 T_law := (TabOk.fn (FnOk.mono O19 (by decide)) (PySem.W.mg_of X G a19) k19 b19 (TabOk.fn (FnOk.mono O21 (by decide)) (PySem.W.mg_of X G a21) k21 b21 (TabOk.blt (PySem.W.mg_none_of X G z2) (TabOk.blt (PySem.W.mg_none_of X G z9) (TabOk.fn (FnOk.mono O22 (by decide)) (PySem.W.mg_of X G a22) k22 b22 (TabOk.fn (FnOk.mono O20 (by decide)) (PySem.W.mg_of X G a20) k20 b20 (TabOk.fn (FnOk.mono O31 (by decide)) (PySem.W.mg_of X G a31) k31 b31 (TabOk.fn (FnOk.mono O24 (by decide)) (PySem.W.mg_of X G a24) k24 b24 (TabOk.fn (FnOk.mono O32 (by decide)) (PySem.W.mg_of X G a32) k32 b32 (TabOk.fn (FnOk.mono O34 (by decide)) (PySem.W.mg_of X G a34) k34 b34 (TabOk.fn (FnOk.mono O27 (by decide)) (PySem.W.mg_of X G a27) k27 b27 (TabOk.fn (FnOk.mono O28 (by decide)) (PySem.W.mg_of X G a28) k28 b28 (TabOk.fn (FnOk.mono O16 (by decide)) (PySem.W.mg_of X G a16) k16 b16 (TabOk.fn (FnOk.mono O30 (by decide)) (PySem.W.mg_of X G a30) k30 b30 (TabOk.blt (PySem.W.mg_none_of X G z3) (TabOk.fn (FnOk.mono O33 (by decide)) (PySem.W.mg_of X G a33) k33 b33 (TabOk.blt (PySem.W.mg_none_of X G z6) (TabOk.fn (FnOk.mono O17 (by decide)) (PySem.W.mg_of X G a17) k17 b17 (TabOk.fn (FnOk.mono O18 (by decide)) (PySem.W.mg_of X G a18) k18 b18 TabOk.nil)))))))))))))))))))
  have O35 := fn_ok false F35 sc_law tb35
  rw [e_law] at O35
  exact O35
end K02
open PySem PySem.W PyProof.Rows
set_option maxHeartbeats 0 in
theorem PySem.Challenge.cw_redolots_k02_twice_is_once_holds : PySem.Challenge.rw_redolots_k02_twice_is_once.Holds := by
  w_on; o_law; k_head; (case hw => w_witness2)
  k_fill
  refine L2.walk_ofB (l := PySem.Challenge.rw_redolots_k02_twice_is_once) (n := 63) (k := 8) (x := "_law_script") (CX := fun w => L2.CX K02.pw w) (sp := fun w => R.spOf _ (fun _ => 0) 1 K02.g_law) rfl (by decide) rfl ⟨rfl, by decide, by decide⟩ (fun w h Y => PySem.W.kIn_of Y) ?F (fun w H a ns hl hb hO hS => R.law_sp K02.law_true hl hb hO hS) (fun _ _ _ _ _ ⟨_, _, _, _, _, _, _, _, _, _, _, _, z⟩ => z)
  case F =>
    intro w mg fa h KX G hmg
    refine' K02.all_mk KX G hmg ?a0 ?l0 ?c0 ?k0 ?a1 ?l1 ?c1 ?k1 ?a2 ?l2 ?c2 ?k2 ?a3 ?l3 ?c3 ?k3 ?a4 ?l4 ?c4 ?k4 ?a5 ?l5 ?c5 ?k5 ?a6 ?l6 ?c6 ?k6 ?a7 ?l7 ?c7 ?k7 ?a8 ?l8 ?c8 ?k8 ?a9 ?l9 ?c9 ?k9 ?a10 ?l10 ?c10 ?k10 ?a11 ?l11 ?c11 ?k11 ?a12 ?l12 ?c12 ?k12 ?a13 ?l13 ?c13 ?k13 ?a14 ?l14 ?c14 ?k14 ?a15 ?l15 ?c15 ?k15 ?a16 ?l16 ?c16 ?k16 ?a17 ?l17 ?c17 ?k17 ?a18 ?l18 ?c18 ?k18 ?a19 ?l19 ?c19 ?k19 ?a20 ?l20 ?c20 ?k20 ?a21 ?l21 ?c21 ?k21 ?a22 ?l22 ?c22 ?k22 ?a23 ?l23 ?c23 ?k23 ?a24 ?l24 ?c24 ?k24 ?a25 ?l25 ?c25 ?k25 ?a26 ?l26 ?c26 ?k26 ?a27 ?l27 ?c27 ?k27 ?a28 ?l28 ?c28 ?k28 ?a29 ?l29 ?c29 ?k29 ?a30 ?l30 ?c30 ?k30 ?a31 ?l31 ?c31 ?k31 ?a32 ?l32 ?c32 ?k32 ?a33 ?l33 ?c33 ?k33 ?a34 ?l34 ?c34 ?k34 ?a35 ?l35 ?c35 ?k35 ?y0 ?y1 ?y2 ?y3 ?y4 ?y5 ?z0 ?z1 ?z2 ?z3 ?z4 ?z5 ?z6 ?z7 ?z8 ?z9 ?z10 ?z11
    (case a0 => k_is); (case l0 => k_is); (case c0 => k_is); (case k0 => k_is); (case a1 => k_is); (case l1 => k_is); (case c1 => k_is); (case k1 => k_is); (case a2 => k_is); (case l2 => k_is); (case c2 => k_is); (case k2 => k_is); (case a3 => k_is); (case l3 => k_is); (case c3 => k_is); (case k3 => k_is); (case a4 => k_is); (case l4 => k_is); (case c4 => k_is); (case k4 => k_is); (case a5 => k_is); (case l5 => k_is); (case c5 => k_is); (case k5 => k_is); (case a6 => k_is); (case l6 => k_is); (case c6 => k_is); (case k6 => k_is); (case a7 => k_is); (case l7 => k_is); (case c7 => k_is); (case k7 => k_is); (case a8 => k_is); (case l8 => k_is); (case c8 => k_is); (case k8 => k_is); (case a9 => k_is); (case l9 => k_is); (case c9 => k_is); (case k9 => k_is); (case a10 => k_is); (case l10 => k_is); (case c10 => k_is); (case k10 => k_is); (case a11 => k_is); (case l11 => k_is); (case c11 => k_is); (case k11 => k_is); (case a12 => k_is); (case l12 => k_is); (case c12 => k_is); (case k12 => k_is); (case a13 => k_is); (case l13 => k_is); (case c13 => k_is); (case k13 => k_is); (case a14 => k_is); (case l14 => k_is); (case c14 => k_is); (case k14 => k_is); (case a15 => k_is); (case l15 => k_is); (case c15 => k_is); (case k15 => k_is); (case a16 => k_is); (case l16 => k_is); (case c16 => k_is); (case k16 => k_is); (case a17 => k_is); (case l17 => k_is); (case c17 => k_is); (case k17 => k_is); (case a18 => k_is); (case l18 => k_is); (case c18 => k_is); (case k18 => k_is); (case a19 => k_is); (case l19 => k_is); (case c19 => k_is); (case k19 => k_is); (case a20 => k_is); (case l20 => k_is); (case c20 => k_is); (case k20 => k_is); (case a21 => k_is); (case l21 => k_is); (case c21 => k_is); (case k21 => k_is); (case a22 => k_is); (case l22 => k_is); (case c22 => k_is); (case k22 => k_is); (case a23 => k_is); (case l23 => k_is); (case c23 => k_is); (case k23 => k_is); (case a24 => k_is); (case l24 => k_is); (case c24 => k_is); (case k24 => k_is); (case a25 => k_is); (case l25 => k_is); (case c25 => k_is); (case k25 => k_is); (case a26 => k_is); (case l26 => k_is); (case c26 => k_is); (case k26 => k_is); (case a27 => k_is); (case l27 => k_is); (case c27 => k_is); (case k27 => k_is); (case a28 => k_is); (case l28 => k_is); (case c28 => k_is); (case k28 => k_is); (case a29 => k_is); (case l29 => k_is); (case c29 => k_is); (case k29 => k_is); (case a30 => k_is); (case l30 => k_is); (case c30 => k_is); (case k30 => k_is); (case a31 => k_is); (case l31 => k_is); (case c31 => k_is); (case k31 => k_is); (case a32 => k_is); (case l32 => k_is); (case c32 => k_is); (case k32 => k_is); (case a33 => k_is); (case l33 => k_is); (case c33 => k_is); (case k33 => k_is); (case a34 => k_is); (case l34 => k_is); (case c34 => k_is); (case k34 => k_is); (case a35 => k_is); (case l35 => k_is); (case c35 => k_is); (case k35 => k_is); (case y0 => k_is); (case y1 => k_is); (case y2 => k_is); (case y3 => k_is); (case y4 => k_is); (case y5 => k_is); (case z0 => k_is); (case z1 => k_is); (case z2 => k_is); (case z3 => k_is); (case z4 => k_is); (case z5 => k_is); (case z6 => k_is); (case z7 => k_is); (case z8 => k_is); (case z9 => k_is); (case z10 => k_is); (case z11 => k_is)
