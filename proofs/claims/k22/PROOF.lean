import PyProof.Rows.All
import HandS.ForMost
import HandS.TupAny
import HandS.Zip
import HandS.Deep
import HandS.SortInts
import HandS.Strs
import HandS.Style
import HandS.Head0
import HandS.Head1
import HandS.Head2
import HandS.HeadEnd
import HandS.HeadHook1
import HandS.HeadHook2
import HandS.Defaults
import HandS.More
import HandS.WordsExc
import KE.KStateDown
import PySem.Challenge.RW_parttree_k22_whole_around_a_place
set_option Elab.async false
set_option linter.all false
set_option maxRecDepth 100000
/-! ML: a layer of data over HandS. D: a value as data; Mem: the objects that change. Every judgement's reading is lifted from data; what the data's side does not see of the objects (the frame) stays. -/
namespace ML
open PySem PySem.Spec PyProof.Rows L2

/-- a value as data; kt: a tuple that is known to have no dict; fls: a list that is locked; obj: an object that may change, by its address -/
inductive D where
  | non | bl (b : Bool) | int (i : Int) | str (x : Str) | tup (xs : List D) | kt (xs : List D) | lst (xs : List D) | fls (xs : List D) | obj (a : Addr)

/-- an object that may change -/
inductive MO where
  | lst (xs : List D)
  | dk (kvs : List (Key × D))
  | dt (kvs : List (List Key × D))
  | ins (C : Addr) (fs : List (Str × D))
  | hid

abbrev Mem := Addr → Option MO
def up (S : Mem) (a : Addr) (o : MO) : Mem := fun b => if b = a then some o else S b
theorem up_same {S : Mem} {a : Addr} {o : MO} : up S a o a = some o := by unfold up; rw [if_pos rfl]
theorem up_ne {S : Mem} {a b : Addr} {o : MO} (h : b ≠ a) : up S a o b = S b := by unfold up; rw [if_neg h]
theorem up_up {S : Mem} {a : Addr} {o u : MO} : up (up S a o) a u = up S a u := by
  funext b; unfold up; split <;> rfl
/-- an object forgotten -/
def rid (S : Mem) (a : Addr) : Mem := fun b => if b = a then none else S b
theorem rid_ne {S : Mem} {a b : Addr} (h : b ≠ a) : rid S a b = S b := by unfold rid; rw [if_neg h]
theorem rid_same {S : Mem} {a : Addr} : rid S a a = none := by unfold rid; rw [if_pos rfl]
theorem rid_up {S : Mem} {a : Addr} {o : MO} (h : S a = none) : rid (up S a o) a = S := by
  funext b; unfold rid up; split
  · next e => rw [e, h]
  · rfl

/-- the objects that are seen, all objects that may change, the heap -/
structure W where
  S : Mem
  M : Mem
  H : Hp

mutual
/-- what a value is, as data -/
inductive Rep (w : W) : V → D → Prop
  | non : Rep w .non .non
  | bl (b : Bool) : Rep w (.bl b) (.bl b)
  | int (i : Int) : Rep w (.int i) (.int i)
  | str (x : Str) : Rep w (.str x) (.str x)
  | tup {a : Addr} {vs : List V} {ds : List D} : w.H a = some (.tup vs) → w.M a = none → Reps w vs ds → ds.length ≤ sizeLine → Rep w (.ref a) (.tup ds)
  | kt {a : Addr} {o : Obj} {vs : List V} {ds : List D} : w.H a = some (.frz o (.tup vs)) → o.dict = none → w.M a = none → Reps w vs ds → ds.length ≤ sizeLine → Rep w (.ref a) (.kt ds)
  | lst {a : Addr} {vs : List V} {ds : List D} : w.H a = some (.lst vs) → w.M a = none → Reps w vs ds → ds.length ≤ sizeLine → Rep w (.ref a) (.lst ds)
  | fls {a : Addr} {o : Obj} {vs : List V} {ds : List D} : w.H a = some (.frz o (.lst vs)) → w.M a = none → Reps w vs ds → ds.length ≤ sizeLine → Rep w (.ref a) (.fls ds)
  | obj (a : Addr) : Rep w (.ref a) (.obj a)
inductive Reps (w : W) : List V → List D → Prop
  | nil : Reps w [] []
  | cons {v : V} {vs : List V} {d : D} {ds : List D} : Rep w v d → Reps w vs ds → Reps w (v :: vs) (d :: ds)
end

/-- the objects that may change, as they stand -/
inductive RepO (w : W) : MO → HO → Prop
  | lst {vs : List V} {ds : List D} : Reps w vs ds → ds.length ≤ sizeLine → RepO w (.lst ds) (.lst vs)
  | dk {kvs : List (Key × D)} {kws : List (Key × V)} : Paired (fun (p : Key × D) (q : Key × V) => p.1 = q.1 ∧ Rep w q.2 p.2) kvs kws → RepO w (.dk kvs) (.dK kws)
  | dt {kvs : List (List Key × D)} {kws : List (List Key × V)} : Paired (fun (p : List Key × D) (q : List Key × V) => p.1 = q.1 ∧ Rep w q.2 p.2) kvs kws → RepO w (.dt kvs) (.dT kws)
  | ins {C dx : Addr} {fs : List (Str × D)} {gs : List (Str × V)} : Paired (fun (p : Str × D) (q : Str × V) => p.1 = q.1 ∧ Rep w q.2 p.2) fs gs → RepO w (.ins C fs) (.ins C dx gs)
  | hid {u : HO} : RepO w .hid u

structure Ok (w : W) : Prop where
  sub : ∀ a o, w.S a = some o → w.M a = some o
  mem : ∀ a o, w.M a = some o → ∃ u, w.H a = some u ∧ RepO w o u

/-- what is not seen stays as it is -/
def Step (w w' : W) : Prop := ∀ a o, w.H a = some o → w.S a = none → w'.H a = some o ∧ w'.M a = w.M a ∧ w'.S a = none
theorem Step.refl {w : W} : Step w w := fun _ _ h n => ⟨h, rfl, n⟩
theorem Step.trans {w w1 w2 : W} (a : Step w w1) (b : Step w1 w2) : Step w w2 := fun c o h n =>
  let ⟨h1, m1, n1⟩ := a c o h n
  let ⟨h2, m2, n2⟩ := b c o h1 n1
  ⟨h2, m2.trans m1, n2⟩
theorem Ok.unseen {w : W} (k : Ok w) {a : Addr} (h : w.M a = none) : w.S a = none := by
  cases e : w.S a with
  | none => rfl
  | some o => rw [k.sub a o e] at h; cases h
theorem Step.at {w w' : W} (s : Step w w') (k : Ok w) {a : Addr} {o : HO} (h : w.H a = some o) (n : w.M a = none) : w'.H a = some o ∧ w'.M a = none :=
  let ⟨h1, h2, _⟩ := s a o h (k.unseen n)
  ⟨h1, h2.trans n⟩

/-- data stays data -/
def Keeps (w w' : W) : Prop := ∀ a o, w.H a = some o → w.M a = none → w'.H a = some o ∧ w'.M a = none
mutual
theorem Rep.keeps {w w' : W} (s : Keeps w w') : ∀ {v : V} {d : D}, Rep w v d → Rep w' v d
  | _, _, .non => .non
  | _, _, .bl b => .bl b
  | _, _, .int i => .int i
  | _, _, .str x => .str x
  | _, _, .tup h n r z => .tup (s _ _ h n).1 (s _ _ h n).2 (Reps.keeps s r) z
  | _, _, .kt h e n r z => .kt (s _ _ h n).1 e (s _ _ h n).2 (Reps.keeps s r) z
  | _, _, .lst h n r z => .lst (s _ _ h n).1 (s _ _ h n).2 (Reps.keeps s r) z
  | _, _, .fls h n r z => .fls (s _ _ h n).1 (s _ _ h n).2 (Reps.keeps s r) z
  | _, _, .obj a => .obj a
theorem Reps.keeps {w w' : W} (s : Keeps w w') : ∀ {vs : List V} {ds : List D}, Reps w vs ds → Reps w' vs ds
  | _, _, .nil => .nil
  | _, _, .cons r t => .cons (Rep.keeps s r) (Reps.keeps s t)
end
theorem RepO.keeps {w w' : W} (s : Keeps w w') {o : MO} {u : HO} (r : RepO w o u) : RepO w' o u := by
  cases r with
  | lst r z => exact .lst (r.keeps s) z
  | dk r => exact .dk (Paired.mapP r fun _ _ z => ⟨z.1, z.2.keeps s⟩)
  | dt r => exact .dt (Paired.mapP r fun _ _ z => ⟨z.1, z.2.keeps s⟩)
  | ins r => exact .ins (Paired.mapP r fun _ _ z => ⟨z.1, z.2.keeps s⟩)
  | hid => exact .hid
theorem Step.keeps {w w' : W} (s : Step w w') (k : Ok w) : Keeps w w' := fun _ _ h n => s.at k h n
theorem Rep.keep {w w' : W} (s : Step w w') (k : Ok w) {v : V} {d : D} (r : Rep w v d) : Rep w' v d := r.keeps (s.keeps k)
theorem Reps.keep {w w' : W} (s : Step w w') (k : Ok w) {vs : List V} {ds : List D} (r : Reps w vs ds) : Reps w' vs ds := r.keeps (s.keeps k)
theorem RepO.keep {w w' : W} (s : Step w w') (k : Ok w) {o : MO} {u : HO} (r : RepO w o u) : RepO w' o u := r.keeps (s.keeps k)

section
variable {w : W}
theorem Reps.length : ∀ {vs : List V} {ds : List D}, Reps w vs ds → vs.length = ds.length
  | _, _, .nil => rfl
  | _, _, .cons _ t => congrArg (· + 1) (Reps.length t)
theorem Reps.get : ∀ {vs : List V} {ds : List D} {i : Nat} {d : D}, Reps w vs ds → ds[i]? = some d → ∃ v, vs[i]? = some v ∧ Rep w v d
  | _, _, _, _, .nil, e => by simp at e
  | _, _, 0, _, .cons r _, e => by simp at e; subst e; exact ⟨_, rfl, r⟩
  | _, _, i + 1, _, .cons _ t, e => by
    obtain ⟨v, h1, h2⟩ := Reps.get (i := i) t (by simpa using e)
    exact ⟨v, by simpa using h1, h2⟩
theorem Reps.getV : ∀ {vs : List V} {ds : List D} {i : Nat} {v : V}, Reps w vs ds → vs[i]? = some v → ∃ d, ds[i]? = some d ∧ Rep w v d
  | _, _, _, _, .nil, e => by simp at e
  | _, _, 0, _, .cons r _, e => by simp at e; subst e; exact ⟨_, rfl, r⟩
  | _, _, i + 1, _, .cons _ t, e => by
    obtain ⟨v, h1, h2⟩ := Reps.getV (i := i) t (by simpa using e)
    exact ⟨v, by simpa using h1, h2⟩
theorem Reps.append : ∀ {vs ws : List V} {ds es : List D}, Reps w vs ds → Reps w ws es → Reps w (vs ++ ws) (ds ++ es)
  | _, _, _, _, .nil, s => s
  | _, _, _, _, .cons r t, s => .cons r (Reps.append t s)
theorem Reps.take : ∀ {vs : List V} {ds : List D} (n : Nat), Reps w vs ds → Reps w (vs.take n) (ds.take n)
  | _, _, 0, _ => .nil
  | _, _, _ + 1, .nil => .nil
  | _, _, n + 1, .cons r t => .cons r (Reps.take n t)
theorem Reps.drop : ∀ {vs : List V} {ds : List D} (n : Nat), Reps w vs ds → Reps w (vs.drop n) (ds.drop n)
  | _, _, 0, r => r
  | _, _, _ + 1, .nil => .nil
  | _, _, n + 1, .cons _ t => Reps.drop n t
theorem Reps.isEmpty {vs : List V} {ds : List D} (r : Reps w vs ds) : (!ds.isEmpty) = !vs.isEmpty := by cases r <;> rfl
theorem RepO.mut {o : MO} {u : HO} (r : RepO w o u) (h : o ≠ .hid) : Mut (some u) := by
  cases r with
  | hid => exact absurd rfl h
  | _ => exact True.intro
theorem Ok.lst {a : Addr} {ds : List D} (k : Ok w) (h : w.S a = some (.lst ds)) : ∃ vs, w.H a = some (.lst vs) ∧ Reps w vs ds ∧ ds.length ≤ sizeLine := by
  obtain ⟨u, hu, r⟩ := k.mem a _ (k.sub a _ h)
  cases r with
  | lst r z => exact ⟨_, hu, r, z⟩
theorem Ok.free {p : Addr} (k : Ok w) (h : w.H p = none) : w.M p = none := by
  cases e : w.M p with
  | none => rfl
  | some o => obtain ⟨u, hu, _⟩ := k.mem p o e; rw [h] at hu; cases hu
theorem Ok.freeS {p : Addr} (k : Ok w) (h : w.H p = none) : w.S p = none := k.unseen (k.free h)
end

/-! ### the steps of a heap -/
section
variable {S M : Mem} {H : Hp} {p a : Addr} {o : HO} {x y : MO}
/-- a new thing that is data -/
theorem Step.new (h : H p = none) : Step ⟨S, M, H⟩ ⟨S, M, upd H p o⟩ := fun a u ha n =>
  ⟨by show upd H p o a = _; rw [upd_ne (ne_of_none ha h)]; exact ha, rfl, n⟩
theorem Ok.new (k : Ok ⟨S, M, H⟩) (h : H p = none) : Ok ⟨S, M, upd H p o⟩ := ⟨k.sub, fun a x hx => by
  obtain ⟨u, hu, r⟩ := k.mem a x hx
  exact ⟨u, by show upd H p o a = _; rw [upd_ne (ne_of_none hu h)]; exact hu, r.keep (.new h) k⟩⟩
/-- a new object that may change -/
theorem Step.alloc (h : H p = none) : Step ⟨S, M, H⟩ ⟨up S p x, up M p y, upd H p o⟩ := fun a u ha n => by
  have ne := ne_of_none ha h
  exact ⟨by show upd H p o a = _; rw [upd_ne ne]; exact ha, up_ne ne, (up_ne ne).trans n⟩
theorem Step.allocM (h : H p = none) : Step ⟨S, M, H⟩ ⟨S, up M p y, upd H p o⟩ := fun a u ha n => by
  have ne := ne_of_none ha h
  exact ⟨by show upd H p o a = _; rw [upd_ne ne]; exact ha, up_ne ne, n⟩
theorem Ok.alloc (k : Ok ⟨S, M, H⟩) (h : H p = none) (r : RepO ⟨S, M, H⟩ x o) : Ok ⟨up S p x, up M p x, upd H p o⟩ := by
  refine ⟨fun a z hz => ?_, fun a z hz => ?_⟩
  · by_cases e : a = p
    · subst e; exact up_same.trans (up_same.symm.trans hz)
    · exact (up_ne e).trans (k.sub a z ((up_ne e).symm.trans hz))
  · by_cases e : a = p
    · subst e
      have : x = z := Option.some.inj (up_same.symm.trans hz)
      subst this
      exact ⟨o, upd_same, r.keep (Step.alloc (x := x) h) k⟩
    · obtain ⟨u, hu, q⟩ := k.mem a z ((up_ne e).symm.trans hz)
      exact ⟨u, by show upd H p o a = _; rw [upd_ne e]; exact hu, q.keep (Step.alloc (x := x) h) k⟩
/-- an object written -/
theorem Step.write (h : S a = some x) : Step ⟨S, M, H⟩ ⟨up S a y, up M a y, upd H a o⟩ := fun b u hb n => by
  have ne : b ≠ a := fun e => by subst e; exact nomatch (show none = some x from (show S b = none from n) ▸ h)
  exact ⟨by show upd H a o b = _; rw [upd_ne ne]; exact hb, up_ne ne, (up_ne ne).trans n⟩
theorem Ok.write (k : Ok ⟨S, M, H⟩) (h : S a = some x) (r : RepO ⟨S, M, H⟩ y o) : Ok ⟨up S a y, up M a y, upd H a o⟩ := by
  refine ⟨fun b z hz => ?_, fun b z hz => ?_⟩
  · by_cases e : b = a
    · subst e; exact up_same.trans (up_same.symm.trans hz)
    · exact (up_ne e).trans (k.sub b z ((up_ne e).symm.trans hz))
  · by_cases e : b = a
    · subst e
      have : y = z := Option.some.inj (up_same.symm.trans hz)
      subst this
      exact ⟨o, upd_same, r.keep (Step.write h) k⟩
    · obtain ⟨u, hu, q⟩ := k.mem b z ((up_ne e).symm.trans hz)
      exact ⟨u, by show upd H a o b = _; rw [upd_ne e]; exact hu, q.keep (Step.write h) k⟩
end

/-! ### slots -/
abbrev En := List (Option D)
structure Rel (r : En) (w : W) (s : L2.St) : Prop where
  ok : Ok w
  len : r.length = s.length
  slot : ∀ (i : Nat) (d : D), r[i]? = some (some d) → ∃ v, s[i]? = some (some v) ∧ Rep w v d
theorem Rel.keep {r : En} {w w' : W} {s : L2.St} (x : Rel r w s) (k : Step w w') (m : Ok w') : Rel r w' s :=
  ⟨m, x.len, fun i d e => let ⟨v, h1, h2⟩ := x.slot i d e; ⟨v, h1, h2.keep k x.ok⟩⟩
theorem Rel.set {r : En} {w : W} {s : L2.St} {i : Nat} {v : V} {d : D} (x : Rel r w s) (q : Rep w v d) : Rel (r.set i (some d)) w (s.set i (some v)) := by
  refine ⟨x.ok, by rw [List.length_set, List.length_set]; exact x.len, fun j e h => ?_⟩
  by_cases hj : j = i
  · subst hj
    have hl : j < r.length := by
      have := (List.getElem?_eq_some_iff.mp h).1
      rwa [List.length_set] at this
    rw [List.getElem?_set_self hl] at h
    cases h
    exact ⟨v, by rw [List.getElem?_set_self (by rw [← x.len]; exact hl)], q⟩
  · rw [List.getElem?_set_ne (Ne.symm hj)] at h
    obtain ⟨u, h1, h2⟩ := x.slot j e h
    exact ⟨u, by rw [List.getElem?_set_ne (Ne.symm hj)]; exact h1, h2⟩

/-! ### readings lifted from data -/
abbrev WK := D → Mem → Prop
abbrev DE := En → Mem → WK → Prop
abbrev DT := En → Mem → (Bool → Mem → Prop) → Prop
abbrev DA := En → Mem → (List D → Mem → Prop) → Prop
structure Nd where
  nx : En → Mem → Prop
  rt : WK
  bk : En → Mem → Prop := fun _ _ => False
  ct : En → Mem → Prop := fun _ _ => False
abbrev DS := Nd → En → Mem → Prop

def lE (t : DE) : TE := fun s H Q => ∃ r S M Q', Rel r ⟨S, M, H⟩ s ∧ t r S Q' ∧ ∀ d (w : W) v, Q' d w.S → Step ⟨S, M, H⟩ w → Ok w → Rep w v d → Q v w.H
def lT (t : DT) : TT := fun s H Q => ∃ r S M Q', Rel r ⟨S, M, H⟩ s ∧ t r S Q' ∧ ∀ b (w : W), Q' b w.S → Step ⟨S, M, H⟩ w → Ok w → Q b w.H
def lA (t : DA) : TA := fun s H Q => ∃ r S M Q', Rel r ⟨S, M, H⟩ s ∧ t r S Q' ∧ ∀ ds (w : W) vs, Q' ds w.S → Step ⟨S, M, H⟩ w → Ok w → Reps w vs ds → Q vs w.H
structure Fits (w : W) (D' : Nd) (D : Ends) : Prop where
  nx : ∀ r' (w' : W) s', D'.nx r' w'.S → Rel r' w' s' → Step w w' → D.nx s' w'.H
  rt : ∀ d (w' : W) v, D'.rt d w'.S → Step w w' → Ok w' → Rep w' v d → D.rt v w'.H
  bk : ∀ r' (w' : W) s', D'.bk r' w'.S → Rel r' w' s' → Step w w' → D.bk s' w'.H
  ct : ∀ r' (w' : W) s', D'.ct r' w'.S → Rel r' w' s' → Step w w' → D.ct s' w'.H
theorem Fits.after {w w1 : W} {D' : Nd} {D : Ends} (f : Fits w D' D) (k : Step w w1) : Fits w1 D' D :=
  ⟨fun r' w' s' a b c => f.nx r' w' s' a b (k.trans c), fun d w' v a b c e => f.rt d w' v a (k.trans b) c e, fun r' w' s' a b c => f.bk r' w' s' a b (k.trans c), fun r' w' s' a b c => f.ct r' w' s' a b (k.trans c)⟩
def lS (t : DS) : TS := fun D s H => ∃ r S M D', Rel r ⟨S, M, H⟩ s ∧ t D' r S ∧ Fits ⟨S, M, H⟩ D' D

section
variable {X : Cx}
theorem _root_.L2.PE.mi {e : Expr} {t t' : TE} (h : PE X e t) (i : ∀ s H Q, t' s H Q → t s H Q) : PE X e t' := ⟨fun pins s σ H Q I hw => h.run pins s σ H Q I (i σ H Q hw)⟩
theorem _root_.L2.PT.mi {e : Expr} {t t' : TT} (h : PT X e t) (i : ∀ s H Q, t' s H Q → t s H Q) : PT X e t' := ⟨fun pins s σ H Q I hw => h.run pins s σ H Q I (i σ H Q hw)⟩
theorem _root_.L2.PW.mi {e : Expr} {t t' : TT} (h : PW X e t) (i : ∀ s H Q, t' s H Q → t s H Q) : PW X e t' := ⟨fun wh pins s σ H Q I hw => h.run wh pins s σ H Q I (i σ H Q hw)⟩
theorem _root_.L2.PA.mi {es : List Expr} {t t' : TA} (h : PA X es t) (i : ∀ s H Q, t' s H Q → t s H Q) : PA X es t' := ⟨fun pos pins s σ H Q I hw => h.run pos pins s σ H Q I (i σ H Q hw)⟩
theorem _root_.L2.PS.mi {st : Stmt} {t t' : TS} (h : PS X st t) (i : ∀ D s H, t' D s H → t D s H) : PS X st t' := ⟨fun pins s σ H D I hw => h.run pins s σ H D I (i D σ H hw)⟩
theorem _root_.L2.PSs.mi {st : List Stmt} {t t' : TS} (h : PSs X st t) (i : ∀ D s H, t' D s H → t D s H) : PSs X st t' := ⟨fun pins s σ H D I hw => h.run pins s σ H D I (i D σ H hw)⟩
end
end ML

set_option maxRecDepth 100000
/-! ML2: expressions of data. -/
namespace ML
open PySem PySem.Spec PyProof.Rows L2

def opt {α : Type} (o : Option α) (k : α → Prop) : Prop := match o with | some d => k d | none => False
theorem opt_some {α : Type} {o : Option α} {d : α} {k : α → Prop} (e : o = some d) (h : k d) : opt o k := by subst e; exact h
theorem of_opt {α : Type} {o : Option α} {k : α → Prop} (h : opt o k) : ∃ d, o = some d ∧ k d := by
  cases o with
  | none => exact h.elim
  | some d => exact ⟨d, rfl, h⟩

def asT : D → Option (List D)
  | .tup xs => some xs
  | .kt xs => some xs
  | _ => none
/-- a list that is read -/
def asL (S : Mem) : D → Option (List D)
  | .lst xs => some xs
  | .fls xs => some xs
  | .obj a => match S a with
    | some (.lst xs) => some xs
    | _ => none
  | _ => none
/-- a list that is not the script -/
def asW (S : Mem) : D → Option (List D)
  | .lst xs => some xs
  | .obj a => match S a with
    | some (.lst xs) => some xs
    | _ => none
  | _ => none
def asQ (S : Mem) (d : D) : Option (List D) := match asT d with
  | some xs => some xs
  | none => asL S d
section
variable {K : PySem.W.Frag} {w : W} {d : D} {xs : List D} {v : V}
theorem asT_rep (h : asT d = some xs) (r : Rep w v d) : ∃ a vs, v = .ref a ∧ SqT K w.H a vs ∧ Reps w vs xs ∧ w.M a = none ∧ xs.length ≤ sizeLine := by
  cases d with
  | tup ys => cases h; cases r with | tup h n r z => exact ⟨_, _, rfl, .inl (.inl h), r, n, z⟩
  | kt ys => cases h; cases r with | kt h e n r z => exact ⟨_, _, rfl, .inl (.inr ⟨_, h⟩), r, n, z⟩
  | _ => cases h
theorem asW_rep (m : Ok w) (h : asW w.S d = some xs) (r : Rep w v d) : ∃ a vs, v = .ref a ∧ w.H a = some (.lst vs) ∧ Reps w vs xs ∧ xs.length ≤ sizeLine := by
  cases d with
  | lst ys => cases h; cases r with | lst h n r z => exact ⟨_, _, rfl, h, r, z⟩
  | obj a =>
    cases r
    unfold asW at h
    dsimp only at h
    split at h
    · next ys e =>
      cases h
      obtain ⟨vs, h1, h2, z⟩ := m.lst e
      exact ⟨a, vs, rfl, h1, h2, z⟩
    · cases h
  | _ => cases h
theorem asL_rep (m : Ok w) (h : asL w.S d = some xs) (r : Rep w v d) : ∃ a vs, v = .ref a ∧ SqL K w.H a vs ∧ Reps w vs xs ∧ xs.length ≤ sizeLine := by
  cases d with
  | lst ys => cases h; cases r with | lst h n r z => exact ⟨_, _, rfl, .inl (.inl h), r, z⟩
  | fls ys => cases h; cases r with | fls h n r z => exact ⟨_, _, rfl, .inl (.inr ⟨_, h⟩), r, z⟩
  | obj a =>
    cases r
    unfold asL at h
    dsimp only at h
    split at h
    · next ys e =>
      cases h
      obtain ⟨vs, h1, h2, z⟩ := m.lst e
      exact ⟨a, vs, rfl, .inl (.inl h1), h2, z⟩
    · cases h
  | _ => cases h
theorem asQ_rep (m : Ok w) (h : asQ w.S d = some xs) (r : Rep w v d) : ∃ a vs, v = .ref a ∧ (SqL K w.H a vs ∨ SqT K w.H a vs) ∧ Reps w vs xs ∧ xs.length ≤ sizeLine := by
  unfold asQ at h
  cases e : asT d with
  | some ys =>
    rw [e] at h; cases h
    obtain ⟨a, vs, e1, e2, e3, _, z⟩ := asT_rep (K := K) e r
    exact ⟨a, vs, e1, .inr e2, e3, z⟩
  | none =>
    rw [e] at h
    obtain ⟨a, vs, e1, e2, e3, z⟩ := asL_rep (K := K) m h r
    exact ⟨a, vs, e1, .inl e2, e3, z⟩
end

/-! ### names, constants -/
section
variable {X : Cx}
abbrev mVar (i : Nat) : DE := fun r S Q => match r[i]? with
  | some (some d) => Q d S
  | _ => False
theorem me_var (i : Nat) {x : Str} {pos : Pos} (hN : X.N[i]? = some x := by rfl) (hv : Vis X.env.scope x := by first | exact Or.inl rfl | exact Or.inr (Or.inl rfl) | exact Or.inr (Or.inr rfl)) (hd : (x == ("__debug__" : Str)) = false := by decide)
    (hcd : (x == ("__classdict__" : Str)) = false := by decide) : PE X (.Name x pos) (lE (mVar i)) := (pe_var hN hv hd hcd).mi fun s H Q ⟨r, S, M, Q', R, h, k⟩ => by
  unfold mVar at h
  split at h
  · next d e =>
    obtain ⟨v, hv, rep⟩ := R.slot i d e
    exact ⟨v, hv, k d _ v h .refl R.ok rep⟩
  · exact h.elim
abbrev mC (d : D) : DE := fun _ S Q => Q d S
theorem c_imp {v : V} {d : D} (h : ∀ w, Rep w v d) : ∀ s H Q, lE (mC d) s H Q → tC v s H Q := fun s H Q ⟨r, S, M, Q', R, q, k⟩ => k d ⟨S, M, H⟩ v q .refl R.ok (h _)
theorem me_int {i j pos} : PE X (.Constant (.int i) j pos) (lE (mC (.int i))) := pe_int.mi (c_imp fun _ => .int i)
theorem me_bl {b j pos} : PE X (.Constant (.bool b) j pos) (lE (mC (.bl b))) := pe_bl.mi (c_imp fun _ => .bl b)
theorem me_non {j pos} : PE X (.Constant .none j pos) (lE (mC .non)) := pe_non.mi (c_imp fun _ => .non)
theorem me_str {x j pos} : PE X (.Constant (.str x) j pos) (lE (mC (.str x))) := pe_str.mi (c_imp fun _ => .str x)
/-- a module's constant: an int, a text -/
def GlC (mg : Str → Option Value) (x : Str) (v : V) : Prop := ∃ u, mg x = some u ∧ RelV v u
theorem me_gint {x : Str} {i : Int} {pos : Pos} (hm : GlC X.mg x (.int i)) (hg : Gl X x := by rfl) (hd : (x == ("__debug__" : Str)) = false := by decide) : PE X (.Name x pos) (lE (mC (.int i))) :=
  let ⟨_, h1, h2⟩ := hm
  (pe_glob hg h1 h2 hd).mi (c_imp fun _ => .int i)
theorem me_gstr {x : Str} {i : Str} {pos : Pos} (hm : GlC X.mg x (.str i)) (hg : Gl X x := by rfl) (hd : (x == ("__debug__" : Str)) = false := by decide) : PE X (.Name x pos) (lE (mC (.str i))) :=
  let ⟨_, h1, h2⟩ := hm
  (pe_glob hg h1 h2 hd).mi (c_imp fun _ => .str i)
end

/-! ### two-place operators -/
abbrev O2 := D → D → Mem → WK → Prop
/-- what follows -/
abbrev Then (w : W) (Q' : WK) (Q : VK) : Prop := ∀ d (w' : W) z, Q' d w'.S → Step w w' → Ok w' → Rep w' z d → Q z w'.H
theorem Then.after {w w1 : W} {Q' : WK} {Q : VK} (k : Then w Q' Q) (s : Step w w1) : Then w1 Q' Q := fun d w' z q a b c => k d w' z q (s.trans a) b c
def Op2 (r : R2) (o : O2) : Prop := ∀ (x y : D) (v u : V) (w : W) (Q : VK) (Q' : WK), Ok w → Rep w v x → Rep w u y → o x y w.S Q' → Then w Q' Q → r v u w.H Q
abbrev mBin (o : O2) (a b : DE) : DE := fun r S Q => a r S fun x S1 => b r S1 fun y S2 => o x y S2 Q
theorem bin_imp {r : R2} {o : O2} {ta tb : DE} (h : Op2 r o) : ∀ s H Q, lE (mBin o ta tb) s H Q → tOp r (lE ta) (lE tb) s H Q := by
  rintro s H Q ⟨r, S, M, Q', R, t, k⟩
  refine ⟨r, S, M, _, R, t, fun x w1 v t1 k1 m1 r1 => ⟨r, w1.S, w1.M, _, R.keep k1 m1, t1, fun y w2 u t2 k2 m2 r2 => ?_⟩⟩
  exact h x y v u w2 Q Q' m2 (r1.keep k2 m1) r2 t2 (Then.after k (k1.trans k2))
theorem Op2.or {r r' : R2} {o o' p : O2} (h : Op2 r o) (h' : Op2 r' o') (hp : ∀ x y S Q, p x y S Q → o x y S Q ∨ o' x y S Q) : Op2 (fun x y H Q => r x y H Q ∨ r' x y H Q) p :=
  fun x y v u w Q Q' m rx ry q k => (hp x y w.S Q' q).elim (fun q => .inl (h x y v u w Q Q' m rx ry q k)) fun q => .inr (h' x y v u w Q Q' m rx ry q k)

def oI (g : Int → Int → D) : O2 := fun x y S Q => match x, y with
  | .int i, .int j => Q (g i j) S
  | _, _ => False
def oIC (C : Int → Int → Prop) (g : Int → Int → D) : O2 := fun x y S Q => match x, y with
  | .int i, .int j => C i j ∧ Q (g i j) S
  | _, _ => False
theorem op2_I {g : Int → Int → D} {gv : Int → Int → V} (hg : ∀ i j w, Rep w (gv i j) (g i j)) : Op2 (rI0 gv) (oI g) := by
  intro x y v u w Q Q' m rx ry h k
  unfold oI at h
  split at h
  · next i j =>
    cases rx; cases ry
    exact ⟨i, j, rfl, rfl, k _ w _ h .refl m (hg i j w)⟩
  · exact h.elim
theorem op2_IC {C : Int → Int → Prop} {g : Int → Int → D} {gv : Int → Int → V} (hg : ∀ i j w, Rep w (gv i j) (g i j)) : Op2 (rI C gv) (oIC C g) := by
  intro x y v u w Q Q' m rx ry h k
  unfold oIC at h
  split at h
  · next i j =>
    cases rx; cases ry
    exact ⟨i, j, rfl, rfl, h.1, k _ w _ h.2 .refl m (hg i j w)⟩
  · exact h.elim

/-- a + b: ints, texts, tuples, lists -/
def oAdd : O2 := fun x y S Q => match x, y with
  | .int i, .int j => Q (.int (i + j)) S
  | .str i, .str j => i.length + j.length ≤ sizeLine ∧ Q (.str (i ++ j)) S
  | .tup xs, .tup ys => xs.length + ys.length ≤ sizeLine ∧ Q (.tup (xs ++ ys)) S
  | x, y => (∃ xs ys, asT x = some xs ∧ asT y = some ys ∧ xs.length + ys.length ≤ sizeLine ∧ ∀ d, asT d = some (xs ++ ys) → Q d S) ∨
      ∃ xs ys, asW S x = some xs ∧ asW S y = some ys ∧ xs.length + ys.length ≤ sizeLine ∧ Q (.lst (xs ++ ys)) S
theorem catA_ok {K : PySem.W.Frag} {x y : D} {v u : V} {xs ys : List D} {w : W} {Q : VK} {Q' : WK} (m : Ok w) (rx : Rep w v x) (ry : Rep w u y) (ex : asT x = some xs) (ey : asT y = some ys) (hz : xs.length + ys.length ≤ sizeLine)
    (h0 : xs = [] → Q' y w.S) (h1 : xs ≠ [] → ys = [] → Q' x w.S) (h2 : xs ≠ [] → ys ≠ [] → Q' (.tup (xs ++ ys)) w.S)
    (k : Then w Q' Q) : rCatA K v u w.H Q := by
  obtain ⟨a, vs, rfl, hv, rv, _⟩ := asT_rep (K := K) ex rx
  obtain ⟨b, ws, rfl, hw, rw', _⟩ := asT_rep (K := K) ey ry
  have l1 := rv.length
  have l2 := rw'.length
  refine ⟨a, b, vs, ws, rfl, rfl, hv, hw, by omega, fun e => ?_, fun e1 e2 => ?_, fun e1 e2 p hp => ?_⟩
  · refine k _ w _ (h0 ?_) .refl m ry
    subst e; exact List.length_eq_zero_iff.mp l1.symm
  · refine k _ w _ (h1 (fun z => e1 ?_) ?_) .refl m rx
    · subst z; exact List.length_eq_zero_iff.mp l1
    · subst e2; exact List.length_eq_zero_iff.mp l2.symm
  · refine k _ ⟨w.S, w.M, _⟩ _ (h2 (fun z => e1 ?_) fun z => e2 ?_) (.new hp) (m.new hp) (.tup upd_same (m.free hp) ((rv.append rw').keep (.new hp) m) (by rw [List.length_append]; exact hz))
    · subst z; exact List.length_eq_zero_iff.mp l1
    · subst z; exact List.length_eq_zero_iff.mp l2
theorem catL_ok {x y : D} {v u : V} {xs ys : List D} {w : W} {Q : VK} {Q' : WK} (m : Ok w) (rx : Rep w v x) (ry : Rep w u y) (ex : asW w.S x = some xs) (ey : asW w.S y = some ys) (hz : xs.length + ys.length ≤ sizeLine)
    (h : Q' (.lst (xs ++ ys)) w.S) (k : Then w Q' Q) : rCat v u w.H Q := by
  obtain ⟨a, vs, rfl, hv, rv, _⟩ := asW_rep m ex rx
  obtain ⟨b, ws, rfl, hw, rw', _⟩ := asW_rep m ey ry
  have l1 := rv.length
  have l2 := rw'.length
  refine ⟨a, b, vs, ws, rfl, rfl, hv, hw, by omega, fun p hp => ?_⟩
  exact k _ ⟨w.S, w.M, _⟩ _ h (.new hp) (m.new hp) (.lst upd_same (m.free hp) ((rv.append rw').keep (.new hp) m) (by rw [List.length_append]; exact hz))
def rAddA (K : PySem.W.Frag) : R2 := fun x y H Q => rI0 (fun i j => .int (i + j)) x y H Q ∨ (∃ i j, x = .str i ∧ y = .str j ∧ i.length + j.length ≤ sizeLine ∧ Q (.str (i ++ j)) H) ∨ rCatA K x y H Q ∨ rCat x y H Q
theorem op2_add {K : PySem.W.Frag} : Op2 (rAddA K) oAdd := by
  intro x y v u w Q Q' m rx ry h k
  unfold oAdd at h
  split at h
  · next i j => cases rx; cases ry; exact .inl ⟨i, j, rfl, rfl, k _ w _ h .refl m (.int _)⟩
  · next i j => cases rx; cases ry; exact .inr (.inl ⟨i, j, rfl, rfl, h.1, k _ w _ h.2 .refl m (.str _)⟩)
  · next xs ys => exact .inr (.inr (.inl (catA_ok m rx ry rfl rfl h.1 (fun e => by subst e; exact h.2) (fun _ e => by subst e; rw [List.append_nil] at h; exact h.2) (fun _ _ => h.2) k)))
  · rcases h with ⟨xs, ys, ex, ey, hz, h⟩ | ⟨xs, ys, ex, ey, hz, h⟩
    · refine .inr (.inr (.inl (catA_ok m rx ry ex ey hz (fun e => ?_) (fun _ e => ?_) (fun _ _ => ?_) k)))
      · exact h _ (by rw [ey, e]; rfl)
      · exact h _ (by rw [ex, e, List.append_nil])
      · exact h _ rfl
    · exact .inr (.inr (.inr (catL_ok m rx ry ex ey hz h k)))

/-- a * b: ints; a list and an int -/
def oMul : O2 := fun x y S Q => match x, y with
  | .int i, .int j => CMul i j ∧ Q (.int (i * j)) S
  | x, .int k => ∃ xs, asW S x = some xs ∧ -(2 ^ 63) ≤ k ∧ k < 2 ^ 63 ∧ xs.length * k.toNat ≤ sizeLine ∧ Q (.lst (List.replicate k.toNat xs).flatten) S
  | _, _ => False
theorem reps_rep {w : W} {vs : List V} {ds : List D} (r : Reps w vs ds) : ∀ n : Nat, Reps w (List.replicate n vs).flatten (List.replicate n ds).flatten
  | 0 => .nil
  | n + 1 => by
    rw [List.replicate_succ, List.replicate_succ, List.flatten_cons, List.flatten_cons]
    exact r.append (reps_rep r n)
theorem rep_len (ds : List D) : ∀ n : Nat, (List.replicate n ds).flatten.length = n * ds.length
  | 0 => by simp
  | n + 1 => by rw [List.replicate_succ, List.flatten_cons, List.length_append, rep_len ds n, Nat.succ_mul, Nat.add_comm]
theorem op2_mul : Op2 (fun x y H Q => rI CMul (fun i j => .int (i * j)) x y H Q ∨ rRep x y H Q) oMul := by
  intro x y v u w Q Q' m rx ry h k
  unfold oMul at h
  split at h
  · next i j => cases rx; cases ry; exact .inl ⟨i, j, rfl, rfl, h.1, k _ w _ h.2 .refl m (.int _)⟩
  · next x n hx =>
    obtain ⟨xs, ex, h1, h2, h3, q⟩ := h
    cases ry
    obtain ⟨l, vs, rfl, hv, rv, _⟩ := asW_rep m ex rx
    have l1 := rv.length
    exact .inr ⟨l, _, vs, rfl, rfl, hv, h1, h2, by rw [l1]; exact h3, fun p hp => k _ ⟨w.S, w.M, _⟩ _ q (.new hp) (m.new hp) (.lst upd_same (m.free hp) ((reps_rep rv _).keep (.new hp) m) (by rw [rep_len]; rw [Nat.mul_comm]; exact h3))⟩
  · exact h.elim

section
variable {X : Cx} {a b c : Expr} {ta tb tc : DE} {pos : Pos}
theorem me_bin {op : Operator} {r : R2} {o : O2} (ho : OpR X (binaryOp op) r) (hh : Op2 r o) (ha : PE X a (lE ta)) (hb : PE X b (lE tb)) : PE X (.BinOp a op b pos) (lE (mBin o ta tb)) := (pe_op ho ha hb).mi (bin_imp hh)
theorem me_cmp {op : CmpOp} {r : R2} {o : O2} (ho : OpR X (compareOp op) r) (hh : Op2 r o) (ha : PE X a (lE ta)) (hb : PE X b (lE tb)) (hm : behindInMarks op b = false) : PE X (.Compare a [op] [b] pos) (lE (mBin o ta tb)) := (pe_cmpR ho ha hb hm).mi (bin_imp hh)

def oSub : O2 := fun x y S Q => match x, y with
  | .int i, .int j => Q (.int (i - j)) S
  | _, _ => False
theorem me_sub (ha : PE X a (lE ta)) (hb : PE X b (lE tb)) : PE X (.BinOp a .Sub b pos) (lE (mBin oSub ta tb)) := me_bin op_sub (show Op2 _ (oI fun i j => .int (i - j)) from op2_I fun _ _ _ => .int _) ha hb
def oMod : O2 := fun x y S Q => match x, y with
  | .int i, .int j => 0 < j ∧ Q (.int (i % j)) S
  | _, _ => False
theorem me_mod (ha : PE X a (lE ta)) (hb : PE X b (lE tb)) : PE X (.BinOp a .Mod b pos) (lE (mBin oMod ta tb)) := me_bin op_mod (show Op2 _ (oIC (fun _ j => 0 < j) fun i j => .int (i % j)) from op2_IC fun _ _ _ => .int _) ha hb
def oFdiv : O2 := fun x y S Q => match x, y with
  | .int i, .int j => (0 < j ∧ j < 1073741824) ∧ Q (.int (i / j)) S
  | _, _ => False
theorem me_fdiv (ha : PE X a (lE ta)) (hb : PE X b (lE tb)) : PE X (.BinOp a .FloorDiv b pos) (lE (mBin oFdiv ta tb)) := me_bin op_fdiv (show Op2 _ (oIC CDiv fun i j => .int (i / j)) from op2_IC fun _ _ _ => .int _) ha hb
theorem op_addA : OpR X (binaryOp .Add) (rAddA X.K) := OpR.or op_add (OpR.or op_add_str (OpR.or op_catA op_cat))
theorem me_add (ha : PE X a (lE ta)) (hb : PE X b (lE tb)) : PE X (.BinOp a .Add b pos) (lE (mBin oAdd ta tb)) := me_bin op_addA op2_add ha hb
theorem me_mul (ha : PE X a (lE ta)) (hb : PE X b (lE tb)) : PE X (.BinOp a .Mult b pos) (lE (mBin oMul ta tb)) := me_bin (OpR.or op_mul op_rep) op2_mul ha hb

def oNeg : D → Mem → WK → Prop := fun x S Q => match x with
  | .int i => Q (.int (-i)) S
  | _ => False
abbrev mUn (o : D → Mem → WK → Prop) (a : DE) : DE := fun r S Q => a r S fun x S1 => o x S1 Q
theorem me_neg (ha : PE X a (lE ta)) : PE X (.UnaryOp .USub a pos) (lE (mUn oNeg ta)) := (pe_un un_neg ha).mi fun s H Q ⟨r, S, M, Q', R, t, k⟩ => ⟨r, S, M, _, R, t, fun d w1 v h k1 m1 r1 => by
  cases d with
  | int i => cases r1; exact ⟨i, rfl, k _ w1 _ h k1 m1 (.int _)⟩
  | _ => exact False.elim h⟩

/-! ### comparisons of ints -/
def oLt : O2 := fun x y S Q => match x, y with
  | .int i, .int j => Q (.bl (decide (i < j))) S
  | _, _ => False
def oLe : O2 := fun x y S Q => match x, y with
  | .int i, .int j => Q (.bl (decide (i ≤ j))) S
  | _, _ => False
def oGt : O2 := fun x y S Q => match x, y with
  | .int i, .int j => Q (.bl (decide (j < i))) S
  | _, _ => False
def oGe : O2 := fun x y S Q => match x, y with
  | .int i, .int j => Q (.bl (decide (j ≤ i))) S
  | _, _ => False
theorem op2_lt : Op2 (rI0 fun i j => .bl (decide (i < j))) oLt := show Op2 _ (oI fun i j => .bl (decide (i < j))) from op2_I fun _ _ _ => .bl _
theorem op2_le : Op2 (rI0 fun i j => .bl (decide (i ≤ j))) oLe := show Op2 _ (oI fun i j => .bl (decide (i ≤ j))) from op2_I fun _ _ _ => .bl _
theorem op2_gt : Op2 (rI0 fun i j => .bl (decide (j < i))) oGt := show Op2 _ (oI fun i j => .bl (decide (j < i))) from op2_I fun _ _ _ => .bl _
theorem op2_ge : Op2 (rI0 fun i j => .bl (decide (j ≤ i))) oGe := show Op2 _ (oI fun i j => .bl (decide (j ≤ i))) from op2_I fun _ _ _ => .bl _
end

/-! ### tests -/
abbrev mTst (t : DE) : DT := fun r S Q => t r S fun d S1 => match d with
  | .bl b => Q b S1
  | _ => False
theorem tst_imp {t : DE} {s : L2.St} {H : Hp} {Q : Bool → Hp → Prop} (h : lT (mTst t) s H Q) : lE t s H fun x H' => ∃ k, x = .bl k ∧ Q k H' := by
  obtain ⟨r, S, M, Q', R, h, k⟩ := h
  refine ⟨r, S, M, _, R, h, fun d w1 v q k1 m1 r1 => ?_⟩
  cases d with
  | bl b => cases r1; exact ⟨b, rfl, k b w1 q k1 m1⟩
  | _ => exact False.elim q
def oTru : D → Mem → (Bool → Prop) → Prop := fun d S Q => match d with
  | .non => Q false
  | .bl b => Q b
  | .int i => Q (i != 0)
  | .str x => x.length ≤ sizeLine ∧ Q ((x.length : Int) != 0)
  | .tup xs => Q (!xs.isEmpty)
  | .kt xs => Q (!xs.isEmpty)
  | .lst xs => Q (!xs.isEmpty)
  | .fls xs => Q (!xs.isEmpty)
  | .obj a => match S a with
    | some (.lst xs) => Q (!xs.isEmpty)
    | some (.dk kvs) => Q (!kvs.isEmpty)
    | _ => False
theorem tru_rep {K : PySem.W.Frag} {w : W} {d : D} {v : V} {Q : Bool → Prop} (m : Ok w) (h : oTru d w.S Q) (r : Rep w v d) : ∃ k, TruV K v w.H k ∧ Q k := by
  cases r with
  | non => exact ⟨false, rfl, h⟩
  | bl b => exact ⟨b, rfl, h⟩
  | int i => exact ⟨_, rfl, h⟩
  | str x => exact ⟨_, ⟨h.1, rfl⟩, h.2⟩
  | tup e n r z => exact ⟨_, .inr (.inl ⟨_, .inl (.inl e), r.isEmpty⟩), h⟩
  | kt e _ n r z => exact ⟨_, .inr (.inl ⟨_, .inl (.inr ⟨_, e⟩), r.isEmpty⟩), h⟩
  | lst e n r z => exact ⟨_, .inl ⟨_, .inl (.inl e), r.isEmpty⟩, h⟩
  | fls e n r z => exact ⟨_, .inl ⟨_, .inl (.inr ⟨_, e⟩), r.isEmpty⟩, h⟩
  | obj a =>
    unfold oTru at h
    dsimp only at h
    split at h
    · next xs e =>
      obtain ⟨vs, h1, h2, _⟩ := m.lst e
      exact ⟨_, .inl ⟨vs, .inl (.inl h1), h2.isEmpty⟩, h⟩
    · next kvs e =>
      obtain ⟨u, hu, ro⟩ := m.mem a _ (m.sub a _ e)
      cases ro with
      | dk p => exact ⟨_, .inr (.inr ⟨_, hu, by cases p <;> rfl⟩), h⟩
    · exact h.elim
abbrev mTru (t : DE) : DT := fun r S Q => t r S fun d S1 => oTru d S1 fun b => Q b S1

section
variable {X : Cx} {a b c : Expr} {ta tb tc : DE} {pos : Pos}
theorem mt_cmp {op : CmpOp} {r : R2} {o : O2} (ho : OpR X (compareOp op) r) (hh : Op2 r o) (ha : PE X a (lE ta)) (hb : PE X b (lE tb)) (hm : behindInMarks op b = false) : PT X (.Compare a [op] [b] pos) (lT (mTst (mBin o ta tb))) :=
  (pt_cmpR ho ha hb hm).mi fun s H Q h => bin_imp hh _ _ _ (tst_imp h)
theorem mt_tru (ha : PE X a (lE ta)) (he : ∀ whole, isTrue a X.env whole = (do let v ← whole; standAt a.pos; holding [v] (truthy v)) := by intro _; rfl) : PT X a (lT (mTru ta)) :=
  (pt_truth ha he).mi fun s H Q ⟨r, S, M, Q', R, t, k⟩ => ⟨r, S, M, _, R, t, fun d w1 v h k1 m1 r1 => by
    obtain ⟨b, h1, h2⟩ := tru_rep (K := X.K) m1 h r1
    exact ⟨b, h1, k b w1 h2 k1 m1⟩⟩
/-- a op1 b op2 c -/
abbrev mChain (o o' : O2) (a b c : DE) : DE := fun r S Q => a r S fun x S1 => b r S1 fun y S2 => o x y S2 fun z S3 => match z with
  | .bl true => c r S3 fun w S4 => o' y w S4 Q
  | .bl false => Q (.bl false) S3
  | _ => False
theorem chain_imp {r r' : R2} {o o' : O2} (h : Op2 r o) (h' : Op2 r' o') : ∀ s H Q, lE (mChain o o' ta tb tc) s H Q → tChain r r' (lE ta) (lE tb) (lE tc) s H Q := by
  rintro s H Q ⟨r, S, M, Q', R, t, k⟩
  refine ⟨r, S, M, _, R, t, fun x w1 v t1 k1 m1 r1 => ⟨r, w1.S, w1.M, _, R.keep k1 m1, t1, fun y w2 u t2 k2 m2 r2 => ?_⟩⟩
  refine h x y v u w2 _ _ m2 (r1.keep k2 m1) r2 t2 fun d w3 z q k3 m3 r3 => ?_
  cases d with
  | bl b =>
    cases r3
    refine ⟨b, rfl, ?_⟩
    cases b with
    | true =>
      rw [if_pos rfl]
      refine ⟨r, w3.S, w3.M, _, R.keep ((k1.trans k2).trans k3) m3, q, fun z w4 u' q4 k4 m4 r4 => ?_⟩
      exact h' y z u u' w4 Q Q' m4 ((r2.keep k3 m2).keep k4 m3) r4 q4 (Then.after k (((k1.trans k2).trans k3).trans k4))
    | false =>
      rw [if_neg Bool.false_ne_true]
      exact k _ w3 _ q ((k1.trans k2).trans k3) m3 (.bl false)
  | _ => exact False.elim q
theorem me_chain {op op' : CmpOp} {r r' : R2} {o o' : O2} (ho : OpR X (compareOp op) r) (hh : Op2 r o) (ho' : OpR X (compareOp op') r') (hh' : Op2 r' o') (ha : PE X a (lE ta)) (hb : PE X b (lE tb)) (hc : PE X c (lE tc))
    (hm : lastMarks [op, op'] [b, c] = false := by with_unfolding_all rfl) : PE X (.Compare a [op, op'] [b, c] pos) (lE (mChain o o' ta tb tc)) := (pe_chain ho ho' ha hb hc hm).mi (chain_imp hh hh')
theorem mt_chain {op op' : CmpOp} {r r' : R2} {o o' : O2} (ho : OpR X (compareOp op) r) (hh : Op2 r o) (ho' : OpR X (compareOp op') r') (hh' : Op2 r' o') (ha : PE X a (lE ta)) (hb : PE X b (lE tb)) (hc : PE X c (lE tc))
    (hm : lastMarks [op, op'] [b, c] = false := by with_unfolding_all rfl) : PT X (.Compare a [op, op'] [b, c] pos) (lT (mTst (mChain o o' ta tb tc))) := (pt_chain ho ho' ha hb hc hm).mi fun s H Q h => chain_imp hh hh' _ _ _ (tst_imp h)

variable {tA tB : DT} {rest : List Expr}
abbrev mAnd (t u : DT) : DT := fun r S Q => t r S fun b S1 => match b with
  | true => u r S1 Q
  | false => Q false S1
abbrev mOr (t u : DT) : DT := fun r S Q => t r S fun b S1 => match b with
  | true => Q true S1
  | false => u r S1 Q
abbrev mNot (t : DT) : DT := fun r S Q => t r S fun b S1 => Q (!b) S1
theorem mw_and1 (ha : PT X a (lT tA)) : PW X (.BoolOp .And [a] pos) (lT tA) := pw_and1 ha
theorem mw_or1 (ha : PT X a (lT tA)) : PW X (.BoolOp .Or [a] pos) (lT tA) := pw_or1 ha
theorem mw_and (ha : PT X a (lT tA)) (hb : PW X (.BoolOp .And (b :: rest) pos) (lT tB)) : PW X (.BoolOp .And (a :: b :: rest) pos) (lT (mAnd tA tB)) := (pw_and ha hb).mi fun s H Q ⟨r, S, M, Q', R, t, k⟩ => ⟨r, S, M, _, R, t, fun d w1 h k1 m1 => by
  cases d with
  | true => rw [if_pos rfl]; exact ⟨r, w1.S, w1.M, Q', R.keep k1 m1, h, fun b w' q kk mm => k b w' q (k1.trans kk) mm⟩
  | false => rw [if_neg Bool.false_ne_true]; exact k _ w1 h k1 m1⟩
theorem mw_or (ha : PT X a (lT tA)) (hb : PW X (.BoolOp .Or (b :: rest) pos) (lT tB)) : PW X (.BoolOp .Or (a :: b :: rest) pos) (lT (mOr tA tB)) := (pw_or ha hb).mi fun s H Q ⟨r, S, M, Q', R, t, k⟩ => ⟨r, S, M, _, R, t, fun d w1 h k1 m1 => by
  cases d with
  | true => rw [if_pos rfl]; exact k _ w1 h k1 m1
  | false => rw [if_neg Bool.false_ne_true]; exact ⟨r, w1.S, w1.M, Q', R.keep k1 m1, h, fun b w' q kk mm => k b w' q (k1.trans kk) mm⟩⟩
theorem mt_not (ha : PT X a (lT tA)) : PT X (.UnaryOp .Not a pos) (lT (mNot tA)) := (pt_not ha).mi fun s H Q ⟨r, S, M, Q', R, t, k⟩ => ⟨r, S, M, _, R, t, fun d w1 h k1 m1 => k _ w1 h k1 m1⟩
/-- as values, bools all but the last -/
abbrev mAndV (t u : DE) : DE := fun r S Q => t r S fun d S1 => match d with
  | .bl true => u r S1 Q
  | .bl false => Q (.bl false) S1
  | _ => False
abbrev mOrV (t u : DE) : DE := fun r S Q => t r S fun d S1 => match d with
  | .bl true => Q (.bl true) S1
  | .bl false => u r S1 Q
  | _ => False
abbrev mNotV (t : DE) : DE := fun r S Q => t r S fun d S1 => match d with
  | .bl b => Q (.bl (!b)) S1
  | _ => False
theorem me_one {op} {t : DE} (h : PE X a (lE t)) : PE X (.BoolOp op [a] pos) (lE t) := pe_one h
theorem me_and (ha : PE X a (lE ta)) (hb : PE X (.BoolOp .And (b :: rest) pos) (lE tb)) : PE X (.BoolOp .And (a :: b :: rest) pos) (lE (mAndV ta tb)) := (pe_and ha hb).mi fun s H Q ⟨r, S, M, Q', R, t, k⟩ => ⟨r, S, M, _, R, t, fun d w1 v h k1 m1 r1 => by
  cases d with
  | bl c =>
    cases r1
    refine ⟨c, rfl, ?_⟩
    cases c with
    | true => rw [if_pos rfl]; exact ⟨r, w1.S, w1.M, Q', R.keep k1 m1, h, Then.after k k1⟩
    | false => rw [if_neg Bool.false_ne_true]; exact k _ w1 _ h k1 m1 (.bl false)
  | _ => exact False.elim h⟩
theorem me_or (ha : PE X a (lE ta)) (hb : PE X (.BoolOp .Or (b :: rest) pos) (lE tb)) : PE X (.BoolOp .Or (a :: b :: rest) pos) (lE (mOrV ta tb)) := (pe_or ha hb).mi fun s H Q ⟨r, S, M, Q', R, t, k⟩ => ⟨r, S, M, _, R, t, fun d w1 v h k1 m1 r1 => by
  cases d with
  | bl c =>
    cases r1
    refine ⟨c, rfl, ?_⟩
    cases c with
    | false => rw [if_neg Bool.false_ne_true]; exact ⟨r, w1.S, w1.M, Q', R.keep k1 m1, h, Then.after k k1⟩
    | true => rw [if_pos rfl]; exact k _ w1 _ h k1 m1 (.bl true)
  | _ => exact False.elim h⟩
theorem me_not (ha : PE X a (lE ta)) : PE X (.UnaryOp .Not a pos) (lE (mNotV ta)) := (pe_not ha).mi fun s H Q ⟨r, S, M, Q', R, t, k⟩ => ⟨r, S, M, _, R, t, fun d w1 v h k1 m1 r1 => by
  cases d with
  | bl c => cases r1; exact ⟨c, rfl, k _ w1 _ h k1 m1 (.bl _)⟩
  | _ => exact False.elim h⟩
abbrev mIfE (t : DT) (a b : DE) : DE := fun r S Q => t r S fun c S1 => match c with
  | true => a r S1 Q
  | false => b r S1 Q
theorem me_if {c : Expr} (hc : PT X c (lT tA)) (ha : PE X a (lE ta)) (hb : PE X b (lE tb)) : PE X (.IfExp c a b pos) (lE (mIfE tA ta tb)) := (pe_ifExp hc ha hb).mi fun s H Q ⟨r, S, M, Q', R, t, k⟩ => ⟨r, S, M, _, R, t, fun d w1 h k1 m1 => by
  cases d with
  | true => rw [if_pos rfl]; exact ⟨r, w1.S, w1.M, Q', R.keep k1 m1, h, Then.after k k1⟩
  | false => rw [if_neg Bool.false_ne_true]; exact ⟨r, w1.S, w1.M, Q', R.keep k1 m1, h, Then.after k k1⟩⟩

/-! ### arguments, displays -/
abbrev mNil : DA := fun _ S Q => Q [] S
abbrev mCons (a : DE) (t : DA) : DA := fun r S Q => a r S fun d S1 => t r S1 fun ds S2 => Q (d :: ds) S2
theorem ma_nil : PA X [] (lA mNil) := pa_nil.mi fun s H Q ⟨r, S, M, Q', R, t, k⟩ => k [] ⟨S, M, H⟩ [] t .refl R.ok .nil
theorem ma_cons {e : Expr} {es : List Expr} {te : DE} {t : DA} (ha : PE X e (lE te)) (hr : PA X es (lA t)) (hs : starEach (e :: es) X.env = (false, eval e X.env) :: starEach es X.env := by rfl) : PA X (e :: es) (lA (mCons te t)) :=
  (pa_cons ha hr hs).mi fun s H Q ⟨r, S, M, Q', R, t, k⟩ => ⟨r, S, M, _, R, t, fun d w1 v h k1 m1 r1 => ⟨r, w1.S, w1.M, _, R.keep k1 m1, h, fun ds w2 vs q k2 m2 r2 => k _ w2 _ q (k1.trans k2) m2 (.cons (r1.keep k2 m1) r2)⟩⟩
abbrev mTup (t : DA) : DE := fun r S Q => t r S fun ds S1 => match Nat.ble ds.length 1000 with
  | true => Q (.tup ds) S1
  | false => False
abbrev mLst (t : DA) : DE := fun r S Q => t r S fun ds S1 => match Nat.ble ds.length 1000 with
  | true => Q (.lst ds) S1
  | false => False
/-- a list that will change -/
abbrev mLstO (t : DA) : DE := fun r S Q => t r S fun ds S1 => match Nat.ble ds.length 1000 with
  | true => ∀ p, S1 p = none → Q (.obj p) (up S1 p (.lst ds))
  | false => False
theorem ble_line {n : Nat} (h : Nat.ble n 1000 = true) : n ≤ sizeLine := Nat.le_of_lt (small1000 (Nat.le_of_ble_eq_true h))
theorem me_tup {es : List Expr} {t : DA} {x1} (h : PA X es (lA t)) : PE X (.Tuple es x1 pos) (lE (mTup t)) := (pe_tup h).mi fun s H Q ⟨r, S, M, Q', R, t, k⟩ => ⟨r, S, M, _, R, t, fun ds w1 vs h k1 m1 r1 => by
  split at h
  · next e =>
    refine ⟨by rw [r1.length]; exact ble_line e, fun p hp => ?_⟩
    exact k _ ⟨w1.S, w1.M, _⟩ _ h (k1.trans (.new hp)) (m1.new hp) (.tup upd_same (m1.free hp) (r1.keep (.new hp) m1) (ble_line e))
  · exact h.elim⟩
theorem me_lst {es : List Expr} {t : DA} (h : PA X es (lA t)) : PE X (.List es pos) (lE (mLst t)) := (pe_lst h).mi fun s H Q ⟨r, S, M, Q', R, t, k⟩ => ⟨r, S, M, _, R, t, fun ds w1 vs h k1 m1 r1 => by
  split at h
  · next e =>
    refine ⟨by rw [r1.length]; exact ble_line e, fun p hp => ?_⟩
    exact k _ ⟨w1.S, w1.M, _⟩ _ h (k1.trans (.new hp)) (m1.new hp) (.lst upd_same (m1.free hp) (r1.keep (.new hp) m1) (ble_line e))
  · exact h.elim⟩
theorem me_lstO {es : List Expr} {t : DA} (h : PA X es (lA t)) : PE X (.List es pos) (lE (mLstO t)) := (pe_lst h).mi fun s H Q ⟨r, S, M, Q', R, t, k⟩ => ⟨r, S, M, _, R, t, fun ds w1 vs h k1 m1 r1 => by
  split at h
  · next e =>
    refine ⟨by rw [r1.length]; exact ble_line e, fun p hp => ?_⟩
    exact k _ ⟨up w1.S p (.lst ds), up w1.M p (.lst ds), _⟩ _ (h p (m1.freeS hp)) (k1.trans (.alloc hp)) (m1.alloc hp (.lst r1 (ble_line e))) (.obj p)
  · exact h.elim⟩

/-! ### calls of built-ins -/
abbrev OA := List D → Mem → WK → Prop
def OpA (r : List V → Hp → VK → Prop) (o : OA) : Prop := ∀ (ds : List D) (vs : List V) (w : W) (Q : VK) (Q' : WK), Ok w → Reps w vs ds → o ds w.S Q' → Then w Q' Q → r vs w.H Q
abbrev mCall (o : OA) (t : DA) : DE := fun r S Q => t r S fun ds S1 => o ds S1 Q
theorem call_imp {r : List V → Hp → VK → Prop} {o : OA} {t : DA} (h : OpA r o) : ∀ s H Q, lE (mCall o t) s H Q → tCB r (lA t) s H Q := fun s H Q ⟨r, S, M, Q', R, t, k⟩ => ⟨r, S, M, _, R, t, fun ds w1 vs q k1 m1 r1 =>
  h ds vs w1 Q Q' m1 r1 q (Then.after k k1)⟩
theorem me_callB {x : Str} {p : Pos} {e : Expr} {es : List Expr} {t : DA} {id : String} {r : List V → Hp → VK → Prop} {o : OA} (hc : CallR X (.builtin id) r) (hh : OpA r o) (hm : X.mg x = none) (ha : PA X (e :: es) (lA t)) (hv : bootBuiltins x = some (.builtin id)) (hg : Gl X x := by rfl)
    (hn : x ≠ "__name__" := by decide) (hdb : (x == ("__debug__" : Str)) = false := by decide)
    (he : starEach (e :: es) X.env = (false, eval e X.env) :: starEach es X.env := by rfl) (hpl : (backTo pos (starEach es X.env)).any (·.1) = false := by rfl) : PE X (.Call (.Name x p) (e :: es) [] pos) (lE (mCall o t)) :=
  (pe_callB hc hg hm hv ha hn hdb he hpl).mi (call_imp hh)
theorem me_callTy {x : Str} {p : Pos} {e : Expr} {es : List Expr} {t : DA} {T : String} {r : List V → Hp → VK → Prop} {o : OA} (hc : CallR X (.type T) r) (hh : OpA r o) (hm : X.mg x = none) (ha : PA X (e :: es) (lA t)) (hv : bootBuiltins x = some (.type T)) (hg : Gl X x := by rfl)
    (hn : x ≠ "__name__" := by decide) (hdb : (x == ("__debug__" : Str)) = false := by decide)
    (he : starEach (e :: es) X.env = (false, eval e X.env) :: starEach es X.env := by rfl) (hpl : (backTo pos (starEach es X.env)).any (·.1) = false := by rfl) : PE X (.Call (.Name x p) (e :: es) [] pos) (lE (mCall o t)) :=
  (pe_callTy hc hg hm hv ha hn hdb he hpl).mi (call_imp hh)
theorem reps1 {w : W} {vs : List V} {d : D} (r : Reps w vs [d]) : ∃ v, vs = [v] ∧ Rep w v d := by
  cases r with
  | cons a b => cases b; exact ⟨_, rfl, a⟩
theorem reps2 {w : W} {vs : List V} {d e : D} (r : Reps w vs [d, e]) : ∃ v u, vs = [v, u] ∧ Rep w v d ∧ Rep w u e := by
  cases r with
  | cons a b =>
    obtain ⟨u, rfl, q⟩ := reps1 b
    exact ⟨_, _, rfl, a, q⟩
end
end ML

set_option maxRecDepth 100000
/-! ML3: statements, targets, loops, comprehensions, calls of defs. -/
namespace ML
open PySem PySem.Spec PyProof.Rows L2

/-! ### blocks -/
abbrev mNx : DS := fun D r S => D.nx r S
abbrev mSeq (t u : DS) : DS := fun D r S => t { D with nx := u D } r S
section
variable {X : Cx} {st : Stmt} {rest : List Stmt} {t u : DS} {e : Expr} {te : DE} {pos : Pos}
theorem mss_nil : PSs X [] (lS mNx) := pss_nil.mi fun D s H ⟨r, S, M, D', R, h, f⟩ => f.nx r ⟨S, M, H⟩ s h R .refl
theorem mss_cons (h1 : PS X st (lS t)) (h2 : PSs X rest (lS u)) : PSs X (st :: rest) (lS (mSeq t u)) := (pss_cons h1 h2).mi fun D s H ⟨r, S, M, D', R, h, f⟩ =>
  ⟨r, S, M, { D' with nx := u D' }, R, h, ⟨fun r' w' s' q R' k => ⟨r', w'.S, w'.M, D', R', q, f.after k⟩, f.rt, f.bk, f.ct⟩⟩
theorem mss_one (h1 : PS X st (lS t)) : PSs X [st] (lS t) := pss_one h1
theorem ms_pass : PS X (.Pass pos) (lS mNx) := ps_pass.mi fun D s H ⟨r, S, M, D', R, h, f⟩ => f.nx r ⟨S, M, H⟩ s h R .refl
abbrev mCt : DS := fun D r S => D.ct r S
abbrev mBk : DS := fun D r S => D.bk r S
theorem ms_continue : PS X (.Continue pos) (lS mCt) := ps_continue.mi fun D s H ⟨r, S, M, D', R, h, f⟩ => f.ct r ⟨S, M, H⟩ s h R .refl
theorem ms_break : PS X (.Break pos) (lS mBk) := ps_break.mi fun D s H ⟨r, S, M, D', R, h, f⟩ => f.bk r ⟨S, M, H⟩ s h R .refl
abbrev mDrop (te : DE) : DS := fun D r S => te r S fun _ S1 => D.nx r S1
theorem ms_expr (he : PE X e (lE te)) (hs : swapsWith e none pos.line X.env = pure false := by rfl) : PS X (.Expr e pos) (lS (mDrop te)) := (ps_expr he hs).mi fun D s H ⟨r, S, M, D', R, h, f⟩ =>
  ⟨r, S, M, _, R, h, fun d w1 v q k m _ => f.nx r w1 s q (R.keep k m) k⟩
abbrev mRet (te : DE) : DS := fun D r S => te r S D.rt
theorem ms_ret (he : PE X e (lE te)) : PS X (.Return (some e) pos) (lS (mRet te)) := (ps_ret he).mi fun D s H ⟨r, S, M, D', R, h, f⟩ => ⟨r, S, M, _, R, h, fun d w1 v q k m rr => f.rt d w1 v q k m rr⟩
abbrev mRetN : DS := fun D _ S => D.rt .non S
theorem ms_retN : PS X (.Return none pos) (lS mRetN) := ps_retN.mi fun D s H ⟨r, S, M, D', R, h, f⟩ => f.rt .non ⟨S, M, H⟩ .non h .refl R.ok .non
abbrev mIfS (c : DT) (t u : DS) : DS := fun D r S => c r S fun b S1 => match b with
  | true => t D r S1
  | false => u D r S1
theorem ms_if {c : Expr} {a b : List Stmt} {tc : DT} (hc : PT X c (lT tc)) (ha : PSs X a (lS t)) (hb : PSs X b (lS u)) : PS X (.If c a b pos) (lS (mIfS tc t u)) := (ps_if hc ha hb).mi fun D s H ⟨r, S, M, D', R, h, f⟩ =>
  ⟨r, S, M, _, R, h, fun b w1 q k m => by
    cases b with
    | true => rw [if_pos rfl]; exact ⟨r, w1.S, w1.M, D', R.keep k m, q, f.after k⟩
    | false => rw [if_neg Bool.false_ne_true]; exact ⟨r, w1.S, w1.M, D', R.keep k m, q, f.after k⟩⟩
end

/-! ### targets -/
abbrev DG := D → En → Mem → (En → Mem → Prop) → Prop
abbrev DGs := List D → En → Mem → (En → Mem → Prop) → Prop
/-- all slots but those of vs are as they were -/
def But (vs : List Nat) (s s' : L2.St) : Prop := s'.length = s.length ∧ ∀ i, i ∉ vs → s'[i]? = s[i]?
theorem But.trans {vs : List Nat} {s s1 s2 : L2.St} (a : But vs s s1) (b : But vs s1 s2) : But vs s s2 := ⟨b.1.trans a.1, fun i h => (b.2 i h).trans (a.2 i h)⟩
theorem But.mono {vs ws : List Nat} {s s1 : L2.St} (a : But vs s s1) (h : ∀ i ∈ vs, i ∈ ws) : But ws s s1 := ⟨a.1, fun i hi => a.2 i fun z => hi (h i z)⟩
def lG (vs : List Nat) (g : DG) : TG := fun v s H Q => ∃ d r S M Q', Rel r ⟨S, M, H⟩ s ∧ Rep ⟨S, M, H⟩ v d ∧ g d r S Q' ∧ ∀ r' (w' : W) s', Q' r' w'.S → Rel r' w' s' → Step ⟨S, M, H⟩ w' → But vs s s' → Q s' w'.H
def lGs (vs : List Nat) (g : DGs) : TGs := fun ws s H Q => ∃ ds r S M Q', Rel r ⟨S, M, H⟩ s ∧ Reps ⟨S, M, H⟩ ws ds ∧ g ds r S Q' ∧ ∀ r' (w' : W) s', Q' r' w'.S → Rel r' w' s' → Step ⟨S, M, H⟩ w' → But vs s s' → Q s' w'.H
section
variable {X : Cx} {pos : Pos}
theorem _root_.L2.PG.mi {tg : Expr} {t t' : TG} (h : PG X tg t) (i : ∀ v s H Q, t' v s H Q → t v s H Q) : PG X tg t' := ⟨fun pins s σ H v u Q I r hw => h.run pins s σ H v u Q I r (i v σ H Q hw)⟩
theorem _root_.L2.PGs.mi {ts : List Expr} {t t' : TGs} (h : PGs X ts t) (i : ∀ v s H Q, t' v s H Q → t v s H Q) : PGs X ts t' := ⟨fun pins s σ H v u Q I r hw => h.run pins s σ H v u Q I r (i v σ H Q hw)⟩
abbrev bName (i : Nat) : DG := fun d r S Q => Q (r.set i (some d)) S
theorem mg_name {i : Nat} {x : Str} (hN : X.N.Nodup) (hi : X.N[i]? = some x) (hx : Loc X.env.scope x) (hf : X.fn x = true ∨ X.env.scope.names.lookup x = some .local := by first | exact .inl rfl | exact .inr rfl | assumption) : PG X (.Name x pos) (lG [i] (bName i)) :=
  (pg_name hN hi hx hf).mi fun v s H Q ⟨d, r, S, M, Q', R, rp, h, k⟩ => k _ ⟨S, M, H⟩ _ h (R.set rp) .refl ⟨by rw [List.length_set], fun j hj => by rw [List.getElem?_set_ne (fun e => hj (by simp [e]))]⟩
abbrev bNil : DGs := fun ds r S Q => match ds with
  | [] => Q r S
  | _ => False
abbrev bCons (g : DG) (gs : DGs) : DGs := fun ds r S Q => match ds with
  | d :: ds => g d r S fun r1 S1 => gs ds r1 S1 Q
  | [] => False
theorem mgs_nil : PGs X [] (lGs [] bNil) := pgs_nil.mi fun vs s H Q ⟨ds, r, S, M, Q', R, rp, h, k⟩ => by
  cases ds with
  | nil => cases rp; exact ⟨rfl, k r ⟨S, M, H⟩ s h R .refl ⟨rfl, fun _ _ => rfl⟩⟩
  | cons => exact h.elim
theorem mgs_cons {e : Expr} {es : List Expr} {g : DG} {gs : DGs} {is js : List Nat} (h1 : PG X e (lG is g)) (h2 : PGs X es (lGs js gs))
    (hs : (assignEach (e :: es) X.env).map (·.2) = assign e X.env :: (assignEach es X.env).map (·.2) := by rfl) : PGs X (e :: es) (lGs (is ++ js) (bCons g gs)) := (pgs_cons h1 h2 hs).mi fun vs s H Q ⟨ds, r, S, M, Q', R, rp, h, k⟩ => by
  cases ds with
  | nil => exact h.elim
  | cons d ds =>
    cases rp with
    | cons r1 r2 =>
      refine ⟨_, _, rfl, d, r, S, M, _, R, r1, h, fun r' w' s' q R' kk bt => ⟨ds, r', w'.S, w'.M, Q', R', r2.keep kk R.ok, q, fun r2 w2 s2 q2 R2 k2 b2 => ?_⟩⟩
      exact k r2 w2 s2 q2 R2 (kk.trans k2) ((bt.mono fun i hi => List.mem_append_left _ hi).trans (b2.mono fun i hi => List.mem_append_right _ hi))
/-- (a, b, ..) = a tuple -/
abbrev bTup (n : Nat) (gs : DGs) : DG := fun d r S Q => match asT d with
  | some ds => match Nat.beq ds.length n with
    | true => gs ds r S Q
    | false => False
  | none => False
theorem mg_tup {es : List Expr} {k : Nat} {gs : DGs} {is : List Nat} {n : Nat} (hc : X.calm = true) (h : PGs X es (lGs is gs)) (hn : (assignEach es X.env).length = n := by rfl) (hst : (assignEach es X.env).findIdx? (·.1) = none := by rfl) :
    PG X (.Tuple es k pos) (lG is (bTup n gs)) := (pg_tup hc h hn hst).mi fun v s H Q ⟨d, r, S, M, Q', R, rp, h, kk⟩ => by
  unfold bTup at h
  split at h
  · next ds e =>
    split at h
    · next e2 =>
      obtain ⟨a, vs, rfl, h1, h2, _, _⟩ := asT_rep (K := X.K) e rp
      exact ⟨a, vs, rfl, h1, by rw [h2.length]; exact Nat.eq_of_beq_eq_true e2, ds, r, S, M, Q', R, h2, h, kk⟩
    · exact h.elim
  · exact h.elim
/-- target = value -/
abbrev mAsg (te : DE) (g : DG) : DS := fun D r S => te r S fun d S1 => g d r S1 D.nx
theorem ms_asg {tg e : Expr} {te : DE} {g : DG} {is : List Nat} (he : PE X e (lE te)) (hg : PG X tg (lG is g)) (hs : swapsWithSole [tg] e pos.line X.env = pure false := by rfl) (hw : swappedStores [tg] e X.env = pure none := by rfl)
    (h1 : (assignEach [tg] X.env).map (·.2) = [assign tg X.env] := by rfl) : PS X (.Assign [tg] e pos) (lS (mAsg te g)) := (ps_asg he hg hs hw h1).mi fun D s H ⟨r, S, M, D', R, h, f⟩ =>
  ⟨r, S, M, _, R, h, fun d w1 v q k m rr => ⟨d, r, w1.S, w1.M, D'.nx, R.keep k m, rr, q, fun r' w' s' qq R' kk _ => f.nx r' w' s' qq R' (k.trans kk)⟩⟩
/-- name = value -/
abbrev mSet (i : Nat) (te : DE) : DS := fun D r S => te r S fun d S1 => D.nx (r.set i (some d)) S1
theorem ms_set {i : Nat} {x : Str} {e : Expr} {te : DE} {pos' : Pos} (hN : X.N.Nodup) (hi : X.N[i]? = some x) (hx : Loc X.env.scope x) (he : PE X e (lE te)) (hs : swapsWith e (some (.Name x pos')) pos.line X.env = pure false := by rfl) (hf : X.fn x = true ∨ X.env.scope.names.lookup x = some .local := by first | exact .inl rfl | exact .inr rfl | assumption) :
    PS X (.Assign [.Name x pos'] e pos) (lS (mSet i te)) := (ps_set hN hi hx he hs hf).mi fun D s H ⟨r, S, M, D', R, h, f⟩ => ⟨r, S, M, _, R, h, fun d w1 v q k m rr => f.nx _ w1 _ q ((R.keep k m).set rr) k⟩
/-- a, b = x, y -/
abbrev mPar (i j : Nat) (ta : DA) : DS := fun D r S => ta r S fun ds S1 => match ds with
  | [d, e] => D.nx ((r.set i (some d)).set j (some e)) S1
  | _ => False
theorem ms_par {i j : Nat} {x y : Str} {a b : Expr} {ta : DA} {px py pt : Pos} {kt k2 pt2} (hc : X.calm = true) (hN : X.N.Nodup) (hi : X.N[i]? = some x) (hj : X.N[j]? = some y) (hij : i ≠ j)
    (hx : X.env.scope.names.lookup x = some .local) (hy : X.env.scope.names.lookup y = some .local) (ha : PA X [a, b] (lA ta))
    (hw : swappedStores [.Tuple [.Name x px, .Name y py] kt pt] (.Tuple [a, b] k2 pt2) X.env = pure (some [x, y]) := by rfl)
    (hs : swapsWithSole [.Tuple [.Name x px, .Name y py] kt pt] (.Tuple [a, b] k2 pt2) pos.line X.env = pure false := by rfl) :
    PS X (.Assign [.Tuple [.Name x px, .Name y py] kt pt] (.Tuple [a, b] k2 pt2) pos) (lS (mPar i j ta)) := (ps_par hc hN hi hj hij hx hy ha hw hs).mi fun D s H ⟨r, S, M, D', R, h, f⟩ =>
  ⟨r, S, M, _, R, h, fun ds w1 vs q k m rr => by
    split at q
    · next d e =>
      obtain ⟨v, u, rfl, r1, r2⟩ := reps2 rr
      exact ⟨v, u, rfl, f.nx _ w1 _ q (((R.keep k m).set r1).set r2) k⟩
    · exact q.elim⟩
end

/-! ### what is walked -/
abbrev CK := Option (Addr × List D)
def wck (ck : CK) (S : Mem) (P : Prop) : Prop := match ck with
  | none => P
  | some (a, xs) => S a = some (.lst xs) ∧ P
def ckOk (ck : CK) (S : Mem) : Prop := match ck with
  | none => True
  | some (a, xs) => S a = some (.lst xs)
theorem wck_iff {ck : CK} {S : Mem} {P : Prop} (h : wck ck S P) : ckOk ck S ∧ P := by
  cases ck with
  | none => exact ⟨trivial, h⟩
  | some p => exact h
structure Wk (J : It) (ds : List D) (ck : CK) (w0 : W) : Prop where
  go : ∀ i (w : W) d, Keeps w0 w → Ok w → ckOk ck w.S → ds[i]? = some d → J.go i w.H ∧ ∀ x H', J.yld i w.H x H' → Step w ⟨w.S, w.M, H'⟩ ∧ Ok ⟨w.S, w.M, H'⟩ ∧ Rep ⟨w.S, w.M, H'⟩ x d
  stop : ∀ i (w : W), Keeps w0 w → Ok w → ckOk ck w.S → ds.length ≤ i → J.stop i w.H
  len : ds.length ≤ sizeLine
abbrev DI := En → Mem → (List D → CK → Mem → Prop) → Prop
def lI (i : DI) : TI := fun s H R => ∃ r S M R', Rel r ⟨S, M, H⟩ s ∧ i r S R' ∧ ∀ ds ck (w' : W) J, R' ds ck w'.S → Step ⟨S, M, H⟩ w' → Ok w' → Wk J ds ck w' → R J w'.H

def forL0 (ck : CK) (b : DG) (body : DS) (N : Nd) : List D → En → Mem → Prop
  | [], r, S => wck ck S (N.nx r S)
  | d :: ds, r, S => wck ck S (b d r S fun r1 S1 => body { N with nx := forL0 ck b body N ds, ct := forL0 ck b body N ds, bk := N.nx } r1 S1)
@[irreducible] def forL (ck : CK) (b : DG) (body : DS) (N : Nd) (ds : List D) : En → Mem → Prop := forL0 ck b body N ds
theorem forL_is (ck : CK) (b : DG) (body : DS) (N : Nd) (ds : List D) : forL ck b body N ds = forL0 ck b body N ds := by unfold forL; rfl
theorem forL_nil {ck : CK} {b : DG} {body : DS} {N : Nd} {r : En} {S : Mem} : forL ck b body N [] r S = wck ck S (N.nx r S) := by rw [forL_is]; rfl
theorem forL_cons {ck : CK} {b : DG} {body : DS} {N : Nd} {d : D} {ds : List D} {r : En} {S : Mem} :
    forL ck b body N (d :: ds) r S = wck ck S (b d r S fun r1 S1 => body { N with nx := forL ck b body N ds, ct := forL ck b body N ds, bk := N.nx } r1 S1) := by rw [forL_is, forL_is]; rfl
abbrev mFor (i : DI) (b : DG) (body : DS) : DS := fun N r S => i r S fun ds ck S1 => forL ck b body N ds r S1
def wipeD (r : En) : List Nat → En
  | [] => r
  | v :: vs => (wipeD r vs).set v none
def lcL0 (ck : CK) (vs : List Nat) (b : DG) (t : DT) (e : DE) (r : En) (Q : WK) : List D → List D → Mem → Prop
  | [], acc, S => wck ck S (Q (.lst acc) S)
  | d :: ds, acc, S => wck ck S (b d (wipeD r vs) S fun r1 S1 => t r1 S1 fun c S2 => match c with
      | true => e r1 S2 fun y S3 => lcL0 ck vs b t e r Q ds (acc ++ [y]) S3
      | false => lcL0 ck vs b t e r Q ds acc S2)
@[irreducible] def lcL (ck : CK) (vs : List Nat) (b : DG) (t : DT) (e : DE) (r : En) (Q : WK) (ds acc : List D) : Mem → Prop := lcL0 ck vs b t e r Q ds acc
theorem lcL_is (ck : CK) (vs : List Nat) (b : DG) (t : DT) (e : DE) (r : En) (Q : WK) (ds acc : List D) : lcL ck vs b t e r Q ds acc = lcL0 ck vs b t e r Q ds acc := by unfold lcL; rfl
theorem lcL_nil {ck : CK} {vs : List Nat} {b : DG} {t : DT} {e : DE} {r : En} {Q : WK} {acc : List D} {S : Mem} : lcL ck vs b t e r Q [] acc S = wck ck S (Q (.lst acc) S) := by rw [lcL_is]; rfl
theorem lcL_cons {ck : CK} {vs : List Nat} {b : DG} {t : DT} {e : DE} {r : En} {Q : WK} {d : D} {ds acc : List D} {S : Mem} :
    lcL ck vs b t e r Q (d :: ds) acc S = wck ck S (b d (wipeD r vs) S fun r1 S1 => t r1 S1 fun c S2 => match c with
      | true => e r1 S2 fun y S3 => lcL ck vs b t e r Q ds (acc ++ [y]) S3
      | false => lcL ck vs b t e r Q ds acc S2) := by simp only [lcL_is]; rfl
abbrev mLc (i : DI) (vs : List Nat) (b : DG) (t : DT) (e : DE) : DE := fun r S Q => i r S fun ds ck S1 => lcL ck vs b t e r Q ds [] S1
theorem drop_cons {α : Type} {ds : List α} {i : Nat} {d : α} (h : ds[i]? = some d) : ds.drop i = d :: ds.drop (i + 1) := by
  obtain ⟨hi, e⟩ := List.getElem?_eq_some_iff.mp h
  rw [List.drop_eq_getElem_cons hi, e]
theorem wipeD_length (r : En) : ∀ vs : List Nat, (wipeD r vs).length = r.length
  | [] => rfl
  | v :: vs => by unfold wipeD; rw [List.length_set, wipeD_length r vs]
theorem set_none_get {α : Type} {l : List (Option α)} {v i : Nat} {d : α} (h : (l.set v none)[i]? = some (some d)) : i ≠ v ∧ l[i]? = some (some d) := by
  by_cases e : i = v
  · subst e
    by_cases hl : i < l.length
    · rw [List.getElem?_set_self hl] at h; cases h
    · rw [List.getElem?_eq_none (by rw [List.length_set]; omega)] at h; cases h
  · exact ⟨e, by rw [List.getElem?_set_ne (Ne.symm e)] at h; exact h⟩
theorem rel_wipe {r : En} {w : W} {s : L2.St} (R : Rel r w s) : ∀ vs : List Nat, Rel (wipeD r vs) w (wipe s vs)
  | [] => R
  | v :: vs => by
    have ih := rel_wipe R vs
    refine ⟨R.ok, ?_, fun i d h => ?_⟩
    · rw [wipeD_length, wipe_length]; exact R.len
    · obtain ⟨ne, h⟩ := set_none_get (l := wipeD r vs) h
      obtain ⟨u, h1, h2⟩ := ih.slot i d h
      exact ⟨u, by unfold wipe; rw [List.getElem?_set_ne (Ne.symm ne)]; exact h1, h2⟩
theorem wipe_get (s : L2.St) : ∀ (vs : List Nat) (i : Nat), (wipe s vs)[i]? = if i ∈ vs ∧ i < s.length then some none else s[i]?
  | [], i => by simp [wipe]
  | v :: vs, i => by
    unfold wipe
    by_cases e : i = v
    · subst e
      by_cases hl : i < s.length
      · rw [List.getElem?_set_self (by rw [wipe_length]; exact hl), if_pos ⟨by simp, hl⟩]
      · rw [List.getElem?_eq_none (by rw [List.length_set, wipe_length]; omega), if_neg (fun z => hl z.2), List.getElem?_eq_none (by omega)]
    · rw [List.getElem?_set_ne (Ne.symm e), wipe_get s vs i]
      simp [e]
theorem wipe_but {vs : List Nat} {s s' : L2.St} (b : But vs (wipe s vs) s') : wipe s' vs = wipe s vs := by
  have hl : s'.length = s.length := by rw [b.1, wipe_length]
  apply List.ext_getElem?
  intro i
  rw [wipe_get s' vs i, wipe_get s vs i, hl]
  by_cases h : i ∈ vs ∧ i < s.length
  · rw [if_pos h, if_pos h]
  · rw [if_neg h, if_neg h]
    by_cases hv : i ∈ vs
    · have : ¬ i < s.length := fun z => h ⟨hv, z⟩
      rw [List.getElem?_eq_none (by omega), List.getElem?_eq_none (by omega)]
    · rw [b.2 i hv, wipe_get s vs i, if_neg h]

section
variable {X : Cx} {tg : Expr}
theorem _root_.L2.PI.mi {iter : Expr} {t t' : TI} (h : PI X tg iter t) (i : ∀ s H R, t' s H R → t s H R) : PI X tg iter t' := ⟨fun pins s σ H R I hw => h.run pins s σ H R I (i σ H R hw)⟩
theorem ms_for {iter : Expr} {body : List Stmt} {i : DI} {g : DG} {is : List Nat} {tb : DS} {pos : Pos} (hp : PassesOwn (model X.prog X.w) X.A X.env X.xe) (hc : X.calm = true) (hi : PI X tg iter (lI i)) (hg : PG X tg (lG is g)) (hb : PSs X body (lS tb))
    (hs : ∀ x, foldedSetIterable iter X.env x = pure x := by intro _; rfl) : PS X (.For tg iter body [] pos) (lS (mFor i g tb)) := (ps_for hp hc hi hg hb hs).mi fun D s H ⟨r, S, M, D', R, h, f⟩ =>
  ⟨r, S, M, _, R, h, fun ds ck w1 J q k1 m1 wk => by
    refine ⟨fun i m s2 H2 => ∃ r2 S2 M2, m = ds.length - i ∧ i ≤ ds.length ∧ Rel r2 ⟨S2, M2, H2⟩ s2 ∧ Step w1 ⟨S2, M2, H2⟩ ∧ forL ck g tb D' (ds.drop i) r2 S2, ⟨ds.length, r, w1.S, w1.M, by omega, by omega, R.keep k1 m1, .refl, q⟩, ?_⟩
    rintro i m s2 H2 ⟨r2, S2, M2, rfl, hi, R2, k2, q2⟩
    cases e : ds[i]? with
    | none =>
      have hl : ds.length ≤ i := List.getElem?_eq_none_iff.mp e
      rw [List.drop_eq_nil_of_le hl, forL_nil] at q2
      obtain ⟨c, q3⟩ := wck_iff q2
      exact .inl ⟨wk.stop i ⟨S2, M2, H2⟩ (k2.keeps m1) R2.ok c hl, f.nx r2 ⟨S2, M2, H2⟩ s2 q3 R2 (k1.trans k2)⟩
    | some d =>
      have hl : i < ds.length := (List.getElem?_eq_some_iff.mp e).1
      rw [drop_cons e, forL_cons] at q2
      obtain ⟨c, q3⟩ := wck_iff q2
      obtain ⟨go, yld⟩ := wk.go i ⟨S2, M2, H2⟩ d (k2.keeps m1) R2.ok c e
      refine .inr ⟨go, fun s3 H3 => ∃ r3 S3 M3, Rel r3 ⟨S3, M3, H3⟩ s3 ∧ Step w1 ⟨S3, M3, H3⟩ ∧ forL ck g tb D' (ds.drop (i + 1)) r3 S3, fun s3 H3 ⟨r3, S3, M3, R3, k3, q4⟩ => ⟨_, by omega, r3, S3, M3, rfl, hl, R3, k3, q4⟩, fun x H' hy => ?_⟩
      obtain ⟨ky, my, ry⟩ := yld x H' hy
      refine ⟨d, r2, S2, M2, _, R2.keep ky my, ry, q3, fun r3 w3 s3 q4 R3 k3 _ => ⟨r3, w3.S, w3.M, _, R3, q4, ?_⟩⟩
      have kk : Step w1 w3 := k2.trans (ky.trans k3)
      exact ⟨fun r' w' s' a b c => ⟨r', w'.S, w'.M, b, kk.trans c, a⟩, fun d w' v a b c e => f.rt d w' v a ((k1.trans kk).trans b) c e, fun r' w' s' a b c => f.nx r' w' s' a b ((k1.trans kk).trans c), fun r' w' s' a b c => ⟨r', w'.S, w'.M, b, kk.trans c, a⟩⟩⟩

/-- the reading of a comprehension -/
theorem lc_imp {i : DI} {g : DG} {is vs : List Nat} {tt : DT} {te : DE} (hiv : ∀ i ∈ is, i ∈ vs) : ∀ s H Q, lE (mLc i vs g tt te) s H Q → tLc (lI i) (lG is g) (lT tt) (lE te) vs s H Q := by
  rintro s H Q ⟨r, S, M, Q', R, h, k⟩
  refine ⟨r, S, M, _, R, h, fun ds ck w1 J q k1 m1 wk => ?_⟩
  intro L hL
  have k0 : Step w1 ⟨w1.S, up w1.M L .hid, upd w1.H L (.lst [])⟩ := Step.allocM hL
  have m0 : Ok ⟨w1.S, up w1.M L .hid, upd w1.H L (.lst [])⟩ := by
    refine ⟨fun a o ha => ?_, fun a o ha => ?_⟩
    · have ne : a ≠ L := fun z => by subst z; rw [m1.freeS hL] at ha; cases ha
      exact (up_ne ne).trans (m1.sub a o ha)
    · by_cases e : a = L
      · subst e
        have e2 : MO.hid = o := Option.some.inj (up_same.symm.trans ha)
        subst e2
        exact ⟨_, upd_same, .hid⟩
      · obtain ⟨u, hu, ro⟩ := m1.mem a o ((up_ne e).symm.trans ha)
        exact ⟨u, by show upd _ _ _ a = _; rw [upd_ne e]; exact hu, ro.keep k0 m1⟩
  refine ⟨fun i m H2 => ∃ acc accV S2 M2, m = ds.length - i ∧ i ≤ ds.length ∧ Ok ⟨S2, M2, H2⟩ ∧ H2 L = some (.lst accV) ∧ M2 L = some .hid ∧ S2 L = none ∧ Reps ⟨S2, M2, H2⟩ accV acc ∧ acc.length ≤ i ∧ Step w1 ⟨S2, M2, H2⟩ ∧ lcL ck vs g tt te r Q' (ds.drop i) acc S2,
    ⟨ds.length, [], [], w1.S, up w1.M L .hid, by omega, by omega, m0, upd_same, up_same, m1.freeS hL, .nil, Nat.le_refl _, k0, q⟩, ?_⟩
  rintro i m H2 ⟨acc, accV, S2, M2, rfl, hi, m2, hD, hM, nD, ra, la, k2, q2⟩
  have wl := wk.len
  cases e : ds[i]? with
  | none =>
    have hl : ds.length ≤ i := List.getElem?_eq_none_iff.mp e
    rw [List.drop_eq_nil_of_le hl, lcL_nil] at q2
    obtain ⟨c, q3⟩ := wck_iff q2
    refine .inl ⟨wk.stop i ⟨S2, M2, H2⟩ (k2.keeps m1) m2 c hl, ?_⟩
    have kk : Keeps ⟨S2, M2, H2⟩ ⟨S2, rid M2 L, H2⟩ := fun a o ha na => ⟨ha, by
      by_cases ea : a = L
      · subst ea; exact rid_same
      · exact (rid_ne ea).trans na⟩
    have me : Ok ⟨S2, rid M2 L, H2⟩ := by
      refine ⟨fun a o ha => ?_, fun a o ha => ?_⟩
      · have ne : a ≠ L := fun z => by subst z; exact nomatch (show none = some o from nD ▸ ha)
        exact (rid_ne ne).trans (m2.sub a o ha)
      · have ne : a ≠ L := fun z => by subst z; exact nomatch (show none = some o from rid_same (S := M2) ▸ ha)
        obtain ⟨u, hu, ro⟩ := m2.mem a o ((rid_ne ne).symm.trans ha)
        exact ⟨u, hu, ro.keeps kk⟩
    have se : Step w1 ⟨S2, rid M2 L, H2⟩ := fun a o ha na => by
      obtain ⟨h1, h2, h3⟩ := k2 a o ha na
      have ne : a ≠ L := ne_of_none ha hL
      exact ⟨h1, (rid_ne ne).trans h2, h3⟩
    exact k _ ⟨S2, rid M2 L, H2⟩ _ q3 (k1.trans se) me (.lst hD rid_same (ra.keeps kk) (by omega))
  | some d =>
    have hl : i < ds.length := (List.getElem?_eq_some_iff.mp e).1
    rw [drop_cons e, lcL_cons] at q2
    obtain ⟨c, q3⟩ := wck_iff q2
    obtain ⟨go, yld⟩ := wk.go i ⟨S2, M2, H2⟩ d (k2.keeps m1) m2 c e
    refine .inr ⟨go, fun H3 => ∃ acc accV S3 M3, Ok ⟨S3, M3, H3⟩ ∧ H3 L = some (.lst accV) ∧ M3 L = some .hid ∧ S3 L = none ∧ Reps ⟨S3, M3, H3⟩ accV acc ∧ acc.length ≤ i + 1 ∧ Step w1 ⟨S3, M3, H3⟩ ∧ lcL ck vs g tt te r Q' (ds.drop (i + 1)) acc S3,
      fun H3 ⟨acc, accV, S3, M3, a1, a2, a3, a4, a5, a6, a7, a8⟩ => ⟨ds.length - (i + 1), by omega, acc, accV, S3, M3, rfl, hl, a1, a2, a3, a4, a5, a6, a7, a8⟩, fun x H' hy => ?_⟩
    obtain ⟨ky, my, ry⟩ := yld x H' hy
    have R2 : Rel r ⟨S2, M2, H'⟩ s := (R.keep (k1.trans k2) m2).keep ky my
    refine ⟨d, wipeD r vs, S2, M2, _, rel_wipe R2 vs, ry, q3, fun r3 w3 s3 q4 R3 k3 b3 => ⟨wipe_but (b3.mono hiv), r3, w3.S, w3.M, _, R3, q4, fun b w4 q5 k4 m4 => ?_⟩⟩
    have hk : Step ⟨S2, M2, H2⟩ w4 := (ky.trans k3).trans k4
    obtain ⟨hD4, hM4, nD4⟩ := hk L _ hD nD
    cases b with
    | true =>
      show if true = true then _ else _
      rw [if_pos rfl]
      refine ⟨r3, w4.S, w4.M, _, R3.keep k4 m4, q5, fun y w5 v q6 k5 m5 r5 => ?_⟩
      obtain ⟨hD5, hM5, nD5⟩ := k5 L _ hD4 nD4
      have hh : w5.M L = some .hid := hM5.trans (hM4.trans hM)
      have lv := ra.length
      have gr : Keeps w5 ⟨w5.S, w5.M, upd w5.H L (.lst (accV ++ [v]))⟩ := fun a o ha na => by
        have ne : a ≠ L := fun z => by subst z; rw [hh] at na; cases na
        exact ⟨by show upd _ _ _ a = _; rw [upd_ne ne]; exact ha, na⟩
      refine ⟨accV, hD5, by omega, acc ++ [y], accV ++ [v], w5.S, w5.M, ⟨m5.sub, fun a o ha => ?_⟩, upd_same, hh, nD5, ?_, by rw [List.length_append, List.length_singleton]; omega, ?_, q6⟩
      · by_cases ea : a = L
        · subst ea
          have e2 : MO.hid = o := Option.some.inj (hh.symm.trans ha)
          subst e2
          exact ⟨_, upd_same, .hid⟩
        · obtain ⟨u, hu, ro⟩ := m5.mem a o ha
          exact ⟨u, by show upd _ _ _ a = _; rw [upd_ne ea]; exact hu, ro.keeps gr⟩
      · exact (((ra.keep hk m2).keep k5 m4).append (.cons r5 .nil)).keeps gr
      · intro a o ha na
        obtain ⟨h1, h2, h3⟩ := (k2.trans (hk.trans k5)) a o ha na
        have ne : a ≠ L := ne_of_none ha hL
        exact ⟨by show upd _ _ _ a = _; rw [upd_ne ne]; exact h1, h2, h3⟩
    | false =>
      show if false = true then _ else _
      rw [if_neg Bool.false_ne_true]
      exact ⟨acc, accV, w4.S, w4.M, m4, hD4, hM4.trans hM, nD4, ra.keep hk m2, by omega, k2.trans hk, q5⟩
/-- the tests of a comprehension -/
abbrev mYes : DT := fun _ S Q => Q true S
theorem _root_.L2.PTs.mi {ifs : List Expr} {t t' : TT} (h : PTs X ifs t) (i : ∀ s H Q, t' s H Q → t s H Q) : PTs X ifs t' := ⟨fun pins s σ H Q I hw => h.run pins s σ H Q I (i σ H Q hw)⟩
theorem mts_nil : PTs X [] (lT mYes) := pts_nil.mi fun s H Q ⟨r, S, M, Q', R, t, k⟩ => k true ⟨S, M, H⟩ t .refl R.ok
theorem mts_one {c : Expr} {t : DT} (h : PT X c (lT t)) : PTs X [c] (lT t) := pts_one h
theorem me_lc {elt iter : Expr} {ifs : List Expr} {scope : Scope} {own : List (Str × Nat)} {pos : Pos} {i : DI} {g : DG} {is : List Nat} {tt : DT} {te : DE} (hc : X.calm = true) (hN : X.N.Nodup) (hi : PI X tg iter (lI i)) (ok : BlkOk X.N X.env.scope scope own)
    (hg : ∀ (s : Shared) (H : Hp) (C : Addr) (cl : List (Str × Addr)) (fp : List Addr), PG (X.blk s H scope (compEnvC scope cl C X.env) fp) tg (lG is g)) (ht : ∀ (s : Shared) (H : Hp) (C : Addr) (cl : List (Str × Addr)) (fp : List Addr), PTs (X.blk s H scope (compEnvC scope cl C X.env) fp) ifs (lT tt))
    (he : ∀ (s : Shared) (H : Hp) (C : Addr) (cl : List (Str × Addr)) (fp : List Addr), PE (X.blk s H scope (compEnvC scope cl C X.env) fp) elt (lE te)) (hiv : ∀ i ∈ is, i ∈ own.map (·.2) := by decide) (hs : ∀ x, foldedSetIterable iter X.env x = pure x := by intro _; rfl) :
    PE X (.ListComp elt [⟨tg, iter, ifs, 0⟩] scope pos) (lE (mLc i (own.map (·.2)) g tt te)) := (pe_lc hc hN hi ok hg ht he hs).mi (lc_imp hiv)
end
end ML

set_option maxRecDepth 100000
/-! ML4: data that is compared, subscripts, slices, built-ins, what is walked. -/
namespace ML
open PySem PySem.Spec PyProof.Rows L2

/-! ### data as the library's data -/
mutual
def toPy : D → Option PyData
  | .non => some .none
  | .bl b => some (.bool b)
  | .int i => some (.int i)
  | .str x => some (.str x)
  | .tup xs => (toPys xs).map .tuple
  | .kt xs => (toPys xs).map .tuple
  | .lst xs => (toPys xs).map .list
  | .fls xs => (toPys xs).map .list
  | .obj _ => none
def toPys : List D → Option (List PyData)
  | [] => some []
  | d :: ds => match toPy d, toPys ds with
    | some p, some ps => some (p :: ps)
    | _, _ => none
end
/-- .. an object's list too -/
def toPyM (S : Mem) : D → Option PyData
  | .obj a => match S a with
    | some (.lst xs) => (toPys xs).map .list
    | _ => none
  | d => toPy d
mutual
theorem rep_dp {K : PySem.W.Frag} {w : W} : ∀ (d : D) (v : V) (p : PyData), toPy d = some p → Rep w v d → Dp K w.H v p
  | .non, _, _, h, r => by cases r; cases h; exact .non
  | .bl b, _, _, h, r => by cases r; cases h; exact .bl b
  | .int i, _, _, h, r => by cases r; cases h; exact .int i
  | .str x, _, _, h, r => by cases r; cases h; exact .str x
  | .tup xs, _, _, h, r => by
    cases r with
    | tup e n rr z =>
      obtain ⟨ps, h1, h2⟩ := Option.map_eq_some_iff.mp h
      subst h2
      exact .tup (.inl (.inl e)) (reps_dp xs _ ps h1 rr)
  | .kt xs, _, _, h, r => by
    cases r with
    | kt e _ n rr z =>
      obtain ⟨ps, h1, h2⟩ := Option.map_eq_some_iff.mp h
      subst h2
      exact .tup (.inl (.inr ⟨_, e⟩)) (reps_dp xs _ ps h1 rr)
  | .lst xs, _, _, h, r => by
    cases r with
    | lst e n rr z =>
      obtain ⟨ps, h1, h2⟩ := Option.map_eq_some_iff.mp h
      subst h2
      exact .lst (.inl (.inl e)) (reps_dp xs _ ps h1 rr)
  | .fls xs, _, _, h, r => by
    cases r with
    | fls e n rr z =>
      obtain ⟨ps, h1, h2⟩ := Option.map_eq_some_iff.mp h
      subst h2
      exact .lst (.inl (.inr ⟨_, e⟩)) (reps_dp xs _ ps h1 rr)
  | .obj a, _, _, h, _ => by cases h
theorem reps_dp {K : PySem.W.Frag} {w : W} : ∀ (ds : List D) (vs : List V) (ps : List PyData), toPys ds = some ps → Reps w vs ds → DpAll K w.H vs ps
  | [], _, _, h, r => by cases r; cases h; exact .nil
  | d :: ds, _, ps, h, r => by
    cases r with
    | cons r1 r2 =>
      have h : (match toPy d, toPys ds with | some p, some ps => some (p :: ps) | _, _ => none) = some ps := h
      cases e1 : toPy d with
      | none => rw [e1] at h; cases h
      | some p =>
        cases e2 : toPys ds with
        | none => rw [e1, e2] at h; cases h
        | some qs => rw [e1, e2] at h; cases h; exact .cons (rep_dp d _ p e1 r1) (reps_dp ds _ qs e2 r2)
end
theorem rep_dpM {K : PySem.W.Frag} {w : W} {d : D} {v : V} {p : PyData} (m : Ok w) (h : toPyM w.S d = some p) (r : Rep w v d) : Dp K w.H v p := by
  cases d with
  | obj a =>
    cases r
    unfold toPyM at h
    dsimp only at h
    split at h
    · next xs e =>
      obtain ⟨ps, h1, h2⟩ := Option.map_eq_some_iff.mp h
      subst h2
      obtain ⟨vs, e1, e2, _⟩ := m.lst e
      exact .lst (.inl (.inl e1)) (reps_dp xs _ ps h1 e2)
    · cases h
  | _ => exact rep_dp _ _ _ h r

/-- x == y, x != y -/
def oEqG (neg : Bool) : O2 := fun x y S Q => ∃ p q, toPyM S x = some p ∧ toPyM S y = some q ∧ SeqAt.shaped p = true ∧ SeqAt.shaped q = true ∧ Q (.bl (if neg then !PyData.eqv p q else PyData.eqv p q)) S
def oEq : O2 := fun x y S Q => match x, y with
  | .int i, .int j => Q (.bl (decide (i = j))) S
  | .str i, .str j => Q (.bl (decide (i = j))) S
  | .bl i, .bl j => Q (.bl (decide (i = j))) S
  | x, y => oEqG false x y S Q
def oNe : O2 := fun x y S Q => match x, y with
  | .int i, .int j => Q (.bl (!decide (i = j))) S
  | .str i, .str j => Q (.bl (!decide (i = j))) S
  | .bl i, .bl j => Q (.bl (!decide (i = j))) S
  | x, y => oEqG true x y S Q
def rEqA (K : PySem.W.Frag) : R2 := fun x y H Q => rEq x y H Q ∨ rEqD K x y H Q
def rNeA (K : PySem.W.Frag) : R2 := fun x y H Q => rNe x y H Q ∨ rNeD K x y H Q
theorem dec_congr {p q : Prop} [Decidable p] [Decidable q] (h : p ↔ q) : decide p = decide q := by
  by_cases hp : p
  · rw [decide_eq_true hp, decide_eq_true (h.mp hp)]
  · rw [decide_eq_false hp, decide_eq_false fun z => hp (h.mpr z)]
theorem op2_eq {K : PySem.W.Frag} : Op2 (rEqA K) oEq := fun x y v u w Q Q' m rx ry h k => by
  unfold oEq at h
  split at h
  · next i j => cases rx; cases ry; refine .inl ⟨rfl, ?_⟩; rw [dec_congr (show V.int i = V.int j ↔ i = j from ⟨fun e => V.int.inj e, fun e => by rw [e]⟩)]; exact k _ w _ h .refl m (.bl _)
  · next i j => cases rx; cases ry; refine .inl ⟨rfl, ?_⟩; rw [dec_congr (show V.str i = V.str j ↔ i = j from ⟨fun e => V.str.inj e, fun e => by rw [e]⟩)]; exact k _ w _ h .refl m (.bl _)
  · next i j => cases rx; cases ry; refine .inl ⟨rfl, ?_⟩; rw [dec_congr (show V.bl i = V.bl j ↔ i = j from ⟨fun e => V.bl.inj e, fun e => by rw [e]⟩)]; exact k _ w _ h .refl m (.bl _)
  · obtain ⟨p, q, h1, h2, h3, h4, h⟩ := h
    exact .inr ⟨p, q, rep_dpM m h1 rx, rep_dpM m h2 ry, h3, h4, k _ w _ h .refl m (.bl _)⟩
theorem op2_ne {K : PySem.W.Frag} : Op2 (rNeA K) oNe := fun x y v u w Q Q' m rx ry h k => by
  unfold oNe at h
  split at h
  · next i j => cases rx; cases ry; refine .inl ⟨rfl, ?_⟩; rw [dec_congr (show V.int i = V.int j ↔ i = j from ⟨fun e => V.int.inj e, fun e => by rw [e]⟩)]; exact k _ w _ h .refl m (.bl _)
  · next i j => cases rx; cases ry; refine .inl ⟨rfl, ?_⟩; rw [dec_congr (show V.str i = V.str j ↔ i = j from ⟨fun e => V.str.inj e, fun e => by rw [e]⟩)]; exact k _ w _ h .refl m (.bl _)
  · next i j => cases rx; cases ry; refine .inl ⟨rfl, ?_⟩; rw [dec_congr (show V.bl i = V.bl j ↔ i = j from ⟨fun e => V.bl.inj e, fun e => by rw [e]⟩)]; exact k _ w _ h .refl m (.bl _)
  · obtain ⟨p, q, h1, h2, h3, h4, h⟩ := h
    exact .inr ⟨p, q, rep_dpM m h1 rx, rep_dpM m h2 ry, h3, h4, k _ w _ h .refl m (.bl _)⟩

/-- x in y: a list or a tuple of data; a text in a text; a key of a dict -/
def pyItems : PyData → Option (List PyData)
  | .list xs => some xs
  | .tuple xs => some xs
  | _ => none
def rInA (K : PySem.W.Frag) (neg : Bool) : R2 := fun x y H Q => ∃ d ds e, Dp K H x d ∧ Dp K H y e ∧ pyItems e = some ds ∧ SeqAt.shaped d = true ∧ SeqAt.shaped e = true ∧ Q (.bl (if neg then !ds.any fun z => PyData.eqv z d else ds.any fun z => PyData.eqv z d)) H
def rInS (neg : Bool) : R2 := fun x y H Q => ∃ i j, x = .str i ∧ y = .str j ∧ Q (.bl (if neg then !(!(Builtin.Str.occurrences j i 0 j.length 1).isEmpty) else !(Builtin.Str.occurrences j i 0 j.length 1).isEmpty)) H
def rInDi (neg : Bool) : R2 := fun y x H Q => ∃ a o, x = .ref a ∧ DGet H a y o ∧ Q (.bl (if neg then !o.isSome else o.isSome)) H
section
variable {X : Cx}
theorem op_inA (hu : X.A.units + 65 < cLine) : OpR X (compareOp .In) (rInA X.K false) := by
  intro pins s σ H x y v u Q I rx ry h
  obtain ⟨d, ds, e, hd, he, hi, sd, se, q⟩ := h
  obtain ⟨as, r1⟩ := Dp.reads I d x v hd rx
  obtain ⟨bs, r2⟩ := Dp.reads I e y u he ry
  cases e with
  | list xs => cases hi; exact SeqAt.in_list_reads r2 r1 (SeqAt.canLay_of_shaped se) (SeqAt.canLay_of_shaped sd) (room_in_shaped sd hu) ⟨.bl _, H, I, rfl, q⟩
  | tuple xs => cases hi; exact SeqAt.in_tuple_reads r2 r1 (SeqAt.canLay_of_shaped se) (SeqAt.canLay_of_shaped sd) (room_in_shaped sd hu) ⟨.bl _, H, I, rfl, q⟩
  | _ => cases hi
theorem op_notInA (hu : X.A.units + 65 < cLine) : OpR X (compareOp .NotIn) (rInA X.K true) := by
  intro pins s σ H x y v u Q I rx ry h
  obtain ⟨d, ds, e, hd, he, hi, sd, se, q⟩ := h
  obtain ⟨as, r1⟩ := Dp.reads I d x v hd rx
  obtain ⟨bs, r2⟩ := Dp.reads I e y u he ry
  cases e with
  | list xs => cases hi; exact SeqAt.notIn_list_reads r2 r1 (SeqAt.canLay_of_shaped se) (SeqAt.canLay_of_shaped sd) (room_in_shaped sd hu) ⟨.bl _, H, I, rfl, q⟩
  | tuple xs => cases hi; exact SeqAt.notIn_tuple_reads r2 r1 (SeqAt.canLay_of_shaped se) (SeqAt.canLay_of_shaped sd) (room_in_shaped sd hu) ⟨.bl _, H, I, rfl, q⟩
  | _ => cases hi
theorem op_inDi (hu : X.A.units + 1 < cLine) : OpR X (compareOp .In) (rInDi false) := by
  intro pins s σ H y x v u Q I ry rx h
  obtain ⟨a, o, rfl, g, q⟩ := h
  cases rx
  exact d_in hu I g ry fun s3 I3 => ⟨.bl o.isSome, H, I3, rfl, q⟩
theorem op_notInDi (hu : X.A.units + 1 < cLine) : OpR X (compareOp .NotIn) (rInDi true) := by
  intro pins s σ H y x v u Q I ry rx h
  obtain ⟨a, o, rfl, g, q⟩ := h
  cases rx
  exact d_notIn hu I g ry fun s3 I3 => ⟨.bl (!o.isSome), H, I3, rfl, q⟩
end
/-- a dict's key as data -/
def keyOf : D → Option Key
  | .int i => some (.inl i)
  | .str x => some (.inr x)
  | _ => none
def keysOf : List D → Option (List Key)
  | [] => some []
  | d :: ds => match keyOf d, keysOf ds with
    | some k, some ks => some (k :: ks)
    | _, _ => none
def lookD {κ : Type} [DecidableEq κ] (kvs : List (κ × D)) (k : κ) : Option D := (kvs.find? fun kv => decide (kv.1 = k)).map (·.2)
/-- what a dict holds at a key; none where it is no dict or no key -/
def getD (S : Mem) (a : Addr) (y : D) : Option (Option D) := match S a, y with
  | some (.dk kvs), y => (keyOf y).map fun k => lookD kvs k
  | some (.dt kvs), .tup ds => (keysOf ds).map fun k => lookD kvs k
  | _, _ => none
theorem keyOf_rep {w : W} {d : D} {k : Key} {v : V} (h : keyOf d = some k) (r : Rep w v d) : v = kV k := by
  cases d with
  | int i => cases h; cases r; rfl
  | str x => cases h; cases r; rfl
  | _ => cases h
theorem keysOf_rep {w : W} : ∀ {ds : List D} {ks : List Key} {vs : List V}, keysOf ds = some ks → Reps w vs ds → vs = ks.map kV
  | [], _, _, h, r => by cases h; cases r; rfl
  | d :: ds, ks, _, h, r => by
    cases r with
    | cons r1 r2 =>
      have h : (match keyOf d, keysOf ds with | some k, some ks => some (k :: ks) | _, _ => none) = some ks := h
      cases e1 : keyOf d with
      | none => rw [e1] at h; cases h
      | some k =>
        cases e2 : keysOf ds with
        | none => rw [e1, e2] at h; cases h
        | some ls => rw [e1, e2] at h; cases h; rw [keyOf_rep e1 r1, keysOf_rep e2 r2]; rfl
def RepP (w : W) : Option D → Option V → Prop
  | some d, some v => Rep w v d
  | none, none => True
  | _, _ => False
theorem look_rep {κ : Type} [DecidableEq κ] {w : W} {k : κ} : ∀ {kvs : List (κ × D)} {kws : List (κ × V)}, Paired (fun (p : κ × D) (q : κ × V) => p.1 = q.1 ∧ Rep w q.2 p.2) kvs kws → RepP w (lookD kvs k) (valV kws k)
  | [], [], .nil => trivial
  | (k1, d1) :: kvs, (k2, v2) :: kws, .cons ⟨e, r⟩ t => by
    have e : k1 = k2 := e
    subst e
    by_cases h : k1 = k
    · subst h
      have e1 : lookD ((k1, d1) :: kvs) k1 = some d1 := by simp [lookD]
      have e2 : valV ((k1, v2) :: kws) k1 = some v2 := valV_pos rfl
      rw [e1, e2]; exact r
    · have e1 : lookD ((k1, d1) :: kvs) k = lookD kvs k := by simp [lookD, h]
      have e2 : valV ((k1, v2) :: kws) k = valV kws k := valV_neg h
      rw [e1, e2]; exact look_rep t
theorem getD_rep {w : W} {a : Addr} {y : D} {o : Option D} {v : V} (m : Ok w) (h : getD w.S a y = some o) (r : Rep w v y) : ∃ ov, DGet w.H a v ov ∧ RepP w o ov := by
  unfold getD at h
  cases e : w.S a with
  | none => simp only [e] at h; cases h
  | some ob =>
    obtain ⟨u, hu, ro⟩ := m.mem a _ (m.sub a _ e)
    cases ob with
    | dk kvs =>
      simp only [e] at h
      obtain ⟨k, h1, h2⟩ := Option.map_eq_some_iff.mp h
      subst h2
      cases ro with
      | @dk _ kws p =>
        have ev := keyOf_rep h1 r
        subst ev
        exact ⟨valV kws k, .inl ⟨kws, k, .inl hu, rfl, rfl⟩, look_rep p⟩
    | dt kvs =>
      cases y with
      | tup ds =>
        simp only [e] at h
        obtain ⟨k, h1, h2⟩ := Option.map_eq_some_iff.mp h
        subst h2
        cases ro with
        | @dt _ kws p =>
          cases r with
          | tup e1 n rr z =>
            have ev := keysOf_rep h1 rr
            subst ev
            exact ⟨valV kws k, .inr ⟨kws, k, _, .inl hu, rfl, e1, rfl⟩, look_rep p⟩
      | _ => simp only [e] at h; cases h
    | _ => simp only [e] at h; cases h
def oIn (neg : Bool) : O2 := fun x y S Q => match y with
  | .str j => match x with
    | .str i => Q (.bl (if neg then !(!(Builtin.Str.occurrences j i 0 j.length 1).isEmpty) else !(Builtin.Str.occurrences j i 0 j.length 1).isEmpty)) S
    | _ => False
  | .obj a => (∃ o, getD S a x = some o ∧ Q (.bl (if neg then !o.isSome else o.isSome)) S) ∨
      ∃ d xs ds, S a = some (.lst xs) ∧ toPyM S x = some d ∧ toPys xs = some ds ∧ SeqAt.shaped d = true ∧ SeqAt.shaped (.list ds) = true ∧ Q (.bl (if neg then !ds.any fun z => PyData.eqv z d else ds.any fun z => PyData.eqv z d)) S
  | y => ∃ d e ds, toPyM S x = some d ∧ toPy y = some e ∧ pyItems e = some ds ∧ SeqAt.shaped d = true ∧ SeqAt.shaped e = true ∧ Q (.bl (if neg then !ds.any fun z => PyData.eqv z d else ds.any fun z => PyData.eqv z d)) S
theorem op2_in {K : PySem.W.Frag} {neg : Bool} : Op2 (fun x y H Q => rInA K neg x y H Q ∨ rInS neg x y H Q ∨ rInDi neg x y H Q) (oIn neg) := by
  intro x y v u w Q Q' m rx ry h k
  unfold oIn at h
  split at h
  · next j =>
    split at h
    · next i => cases rx; cases ry; exact .inr (.inl ⟨i, j, rfl, rfl, k _ w _ h .refl m (.bl _)⟩)
    · exact h.elim
  · next a =>
    rcases h with ⟨o, h1, h2⟩ | ⟨d, xs, ds, h1, h2, h3, h4, h5, h6⟩
    · cases ry
      obtain ⟨ov, g, hm⟩ := getD_rep m h1 rx
      have e : o.isSome = ov.isSome := by
        cases o <;> cases ov <;> first | rfl | exact hm.elim
      rw [e] at h2
      exact .inr (.inr ⟨a, ov, rfl, g, k _ w _ h2 .refl m (.bl _)⟩)
    · cases ry
      obtain ⟨vs, e1, e2, _⟩ := m.lst h1
      exact .inl ⟨d, ds, .list ds, rep_dpM m h2 rx, .lst (.inl (.inl e1)) (reps_dp xs _ ds h3 e2), rfl, h4, h5, k _ w _ h6 .refl m (.bl _)⟩
  · obtain ⟨d, e, ds, h1, h2, h3, h4, h5, h6⟩ := h
    exact .inl ⟨d, ds, e, rep_dpM m h1 rx, rep_dp _ _ _ h2 ry, h3, h4, h5, k _ w _ h6 .refl m (.bl _)⟩
section
variable {X : Cx} {a b : Expr} {ta tb : DE} {pos : Pos}
theorem op_in (hu : X.A.units + 65 < cLine) : OpR X (compareOp .In) (fun x y H Q => rInA X.K false x y H Q ∨ rInS false x y H Q ∨ rInDi false x y H Q) :=
  OpR.or (op_inA hu) (OpR.or op_in_str (op_inDi (by omega)))
theorem op_notIn (hu : X.A.units + 65 < cLine) : OpR X (compareOp .NotIn) (fun x y H Q => rInA X.K true x y H Q ∨ rInS true x y H Q ∨ rInDi true x y H Q) :=
  OpR.or (op_notInA hu) (OpR.or op_notin_str (op_notInDi (by omega)))
theorem hu65 {A : Around} {k : Nat} (hr : Room k A) : A.units + 65 < cLine := by have := hr.un; omega
theorem hu64 {A : Around} {k : Nat} (hr : Room k A) : A.units + 64 < cLine := by have := hr.un; omega
end

/-! ### is None, is True -/
def rIsA (neg : Bool) : R2 := fun x y H Q => (y = .non ∧ Q (.bl (if neg then !decide (x = .non) else decide (x = .non))) H) ∨ ∃ a b : Bool, x = .bl a ∧ y = .bl b ∧ Q (.bl (if neg then !decide (a = b) else decide (a = b))) H
def isN : D → Bool
  | .non => true
  | _ => false
def oIs (neg : Bool) : O2 := fun x y S Q => match y with
  | .non => Q (.bl (if neg then !isN x else isN x)) S
  | .bl b => match x with
    | .bl a => Q (.bl (if neg then !decide (a = b) else decide (a = b))) S
    | _ => False
  | _ => False
theorem isN_rep {w : W} {v : V} {d : D} (r : Rep w v d) : isN d = decide (v = .non) := by
  cases r <;> first | rfl | exact (decide_eq_false (fun z => by cases z)).symm
theorem op2_is {neg : Bool} : Op2 (rIsA neg) (oIs neg) := by
  intro x y v u w Q Q' m rx ry h k
  unfold oIs at h
  split at h
  · rw [isN_rep rx] at h; cases ry; exact .inl ⟨rfl, k _ w _ h .refl m (.bl _)⟩
  · next b =>
    split at h
    · next a => cases rx; cases ry; exact .inr ⟨a, b, rfl, rfl, k _ w _ h .refl m (.bl _)⟩
    · exact h.elim
  · exact h.elim

/-! ### subscripts and slices -/
def oIx : O2 := fun x y S Q => match y with
  | .int i => match x with
    | .tup xs => opt (atI xs i) fun d => Q d S
    | .kt xs => opt (atI xs i) fun d => Q d S
    | .lst xs => opt (atI xs i) fun d => Q d S
    | .fls xs => opt (atI xs i) fun d => Q d S
    | .str z => z.length ≤ sizeLine ∧ opt (atI z.cps.toList i) fun c => Q (.str ⟨#[c]⟩) S
    | .obj a => match S a with
      | some (.lst xs) => opt (atI xs i) fun d => Q d S
      | _ => opt (getD S a (.int i)) fun o => opt o fun d => Q d S
    | _ => False
  | y => match x with
    | .obj a => opt (getD S a y) fun o => opt o fun d => Q d S
    | _ => False
def rIxA (K : PySem.W.Frag) : R2 := fun x y H Q => rIx K x y H Q ∨ ∃ a v, x = .ref a ∧ DGet H a y (some v) ∧ Q v H
theorem atI_rep {w : W} {vs : List V} {xs : List D} {i : Int} {d : D} (r : Reps w vs xs) (h : atI xs i = some d) : ∃ v, atI vs i = some v ∧ Rep w v d := by
  unfold atI at h ⊢
  rw [r.length]
  cases e : ixN xs.length i with
  | none => rw [e] at h; cases h
  | some j =>
    rw [e] at h
    obtain ⟨v, h1, h2⟩ := r.get (show xs[j]? = some d from h)
    exact ⟨v, h1, h2⟩
theorem op2_ix {K : PySem.W.Frag} : Op2 (rIxA K) oIx := by
  intro x y v u w Q Q' m rx ry h k
  have dict : ∀ (a : Addr) (y : D) (u : V), Rep w u y → (opt (getD w.S a y) fun o => opt o fun d => Q' d w.S) → rIxA K (.ref a) u w.H Q := by
    intro a y u ry h
    obtain ⟨o, h1, h2⟩ := of_opt h
    obtain ⟨d, h3, h4⟩ := of_opt h2
    subst h3
    obtain ⟨ov, g, hm⟩ := getD_rep m h1 ry
    cases ov with
    | none => exact hm.elim
    | some z => exact .inr ⟨a, z, rfl, g, k d w z h4 .refl m hm⟩
  unfold oIx at h
  split at h
  · next i =>
    cases ry
    split at h
    · next xs =>
      obtain ⟨d, h1, h2⟩ := of_opt h
      cases rx with | tup e n rr z => obtain ⟨z, hz, rz⟩ := atI_rep rr h1; exact .inl (.inr (.inl ⟨_, _, i, z, rfl, rfl, .inl (.inl e), hz, k d w z h2 .refl m rz⟩))
    · next xs =>
      obtain ⟨d, h1, h2⟩ := of_opt h
      cases rx with | kt e _ n rr z => obtain ⟨z, hz, rz⟩ := atI_rep rr h1; exact .inl (.inr (.inl ⟨_, _, i, z, rfl, rfl, .inl (.inr ⟨_, e⟩), hz, k d w z h2 .refl m rz⟩))
    · next xs =>
      obtain ⟨d, h1, h2⟩ := of_opt h
      cases rx with | lst e n rr z => obtain ⟨z, hz, rz⟩ := atI_rep rr h1; exact .inl (.inl ⟨_, _, i, z, rfl, rfl, .inl (.inl e), hz, k d w z h2 .refl m rz⟩)
    · next xs =>
      obtain ⟨d, h1, h2⟩ := of_opt h
      cases rx with | fls e n rr z => obtain ⟨z, hz, rz⟩ := atI_rep rr h1; exact .inl (.inl ⟨_, _, i, z, rfl, rfl, .inl (.inr ⟨_, e⟩), hz, k d w z h2 .refl m rz⟩)
    · next z =>
      obtain ⟨hz, h⟩ := h
      obtain ⟨c, h1, h2⟩ := of_opt h
      cases rx
      exact .inl (.inr (.inr ⟨z, i, c, rfl, rfl, hz, h1, k _ w _ h2 .refl m (.str _)⟩))
    · next a =>
      cases rx
      split at h
      · next xs e =>
        obtain ⟨d, h1, h2⟩ := of_opt h
        obtain ⟨vs, e1, e2, _⟩ := m.lst e
        obtain ⟨z, hz, rz⟩ := atI_rep e2 h1
        exact .inl (.inl ⟨_, _, i, z, rfl, rfl, .inl (.inl e1), hz, k d w z h2 .refl m rz⟩)
      · exact dict a (.int i) (.int i) (.int i) h
    · exact h.elim
  · split at h
    · next a => cases rx; exact dict a y u ry h
    · exact h.elim
section
variable {X : Cx} {a b : Expr} {ta tb : DE} {pos : Pos}
theorem ix_dict (hu : X.A.units + 1 < cLine) : IxR X (fun x y H Q => ∃ a v, x = .ref a ∧ DGet H a y (some v) ∧ Q v H) := by
  intro value slice pins s σ H x y v u Q I rx ry h hs
  obtain ⟨a, z, rfl, g, q⟩ := h
  cases rx
  exact tail_any (dict_typeIs I g) PySem.F.slot_dict_getitem.lookup (d_getItem hu I g ry fun w' s3 I3 rw' => ⟨z, H, I3, rw', q⟩) hs
end
end ML

set_option maxRecDepth 100000
/-! ML5: built-ins, methods, what is walked, while, calls of defs, a def's promise. -/
namespace ML
open PySem PySem.Spec PyProof.Rows L2

section
variable {X : Cx} {a b c : Expr} {ta tb tc : DE} {pos : Pos} {n : Nat}
theorem op_eqA (hr : Room n X.A) : OpR X (compareOp .Eq) (rEqA X.K) := OpR.or op_eq (op_eqD (hu64 hr))
theorem op_neA (hr : Room n X.A) : OpR X (compareOp .NotEq) (rNeA X.K) := OpR.or op_ne (op_neD (hu64 hr))
theorem me_eq (hr : Room n X.A) (ha : PE X a (lE ta)) (hb : PE X b (lE tb)) : PE X (.Compare a [.Eq] [b] pos) (lE (mBin oEq ta tb)) := me_cmp (op_eqA hr) op2_eq ha hb (nomark _)
theorem me_ne (hr : Room n X.A) (ha : PE X a (lE ta)) (hb : PE X b (lE tb)) : PE X (.Compare a [.NotEq] [b] pos) (lE (mBin oNe ta tb)) := me_cmp (op_neA hr) op2_ne ha hb (nomark _)
theorem mt_eq (hr : Room n X.A) (ha : PE X a (lE ta)) (hb : PE X b (lE tb)) : PT X (.Compare a [.Eq] [b] pos) (lT (mTst (mBin oEq ta tb))) := mt_cmp (op_eqA hr) op2_eq ha hb (nomark _)
theorem mt_ne (hr : Room n X.A) (ha : PE X a (lE ta)) (hb : PE X b (lE tb)) : PT X (.Compare a [.NotEq] [b] pos) (lT (mTst (mBin oNe ta tb))) := mt_cmp (op_neA hr) op2_ne ha hb (nomark _)
theorem me_in (hr : Room n X.A) (ha : PE X a (lE ta)) (hb : PE X b (lE tb)) (hm : behindInMarks .In b = false := by rfl) : PE X (.Compare a [.In] [b] pos) (lE (mBin (oIn false) ta tb)) := me_cmp (op_in (hu65 hr)) op2_in ha hb hm
theorem me_notIn (hr : Room n X.A) (ha : PE X a (lE ta)) (hb : PE X b (lE tb)) (hm : behindInMarks .NotIn b = false := by rfl) : PE X (.Compare a [.NotIn] [b] pos) (lE (mBin (oIn true) ta tb)) := me_cmp (op_notIn (hu65 hr)) op2_in ha hb hm
theorem mt_in (hr : Room n X.A) (ha : PE X a (lE ta)) (hb : PE X b (lE tb)) (hm : behindInMarks .In b = false := by rfl) : PT X (.Compare a [.In] [b] pos) (lT (mTst (mBin (oIn false) ta tb))) := mt_cmp (op_in (hu65 hr)) op2_in ha hb hm
theorem mt_notIn (hr : Room n X.A) (ha : PE X a (lE ta)) (hb : PE X b (lE tb)) (hm : behindInMarks .NotIn b = false := by rfl) : PT X (.Compare a [.NotIn] [b] pos) (lT (mTst (mBin (oIn true) ta tb))) := mt_cmp (op_notIn (hu65 hr)) op2_in ha hb hm
theorem op_isA : OpR X (compareOp .Is) (rIsA false) := OpR.or op_isN op_isBl
theorem op_isNotA : OpR X (compareOp .IsNot) (rIsA true) := OpR.or op_notN op_notBl
theorem me_is (ha : PE X a (lE ta)) (hb : PE X b (lE tb)) : PE X (.Compare a [.Is] [b] pos) (lE (mBin (oIs false) ta tb)) := me_cmp op_isA op2_is ha hb (nomark _)
theorem mt_is (ha : PE X a (lE ta)) (hb : PE X b (lE tb)) : PT X (.Compare a [.Is] [b] pos) (lT (mTst (mBin (oIs false) ta tb))) := mt_cmp op_isA op2_is ha hb (nomark _)
theorem me_isNot (ha : PE X a (lE ta)) (hb : PE X b (lE tb)) : PE X (.Compare a [.IsNot] [b] pos) (lE (mBin (oIs true) ta tb)) := me_cmp op_isNotA op2_is ha hb (nomark _)
theorem mt_isNot (ha : PE X a (lE ta)) (hb : PE X b (lE tb)) : PT X (.Compare a [.IsNot] [b] pos) (lT (mTst (mBin (oIs true) ta tb))) := mt_cmp op_isNotA op2_is ha hb (nomark _)
theorem me_lt (ha : PE X a (lE ta)) (hb : PE X b (lE tb)) : PE X (.Compare a [.Lt] [b] pos) (lE (mBin oLt ta tb)) := me_cmp op_lt op2_lt ha hb (nomark _)
theorem me_le (ha : PE X a (lE ta)) (hb : PE X b (lE tb)) : PE X (.Compare a [.LtE] [b] pos) (lE (mBin oLe ta tb)) := me_cmp op_le op2_le ha hb (nomark _)
theorem me_gt (ha : PE X a (lE ta)) (hb : PE X b (lE tb)) : PE X (.Compare a [.Gt] [b] pos) (lE (mBin oGt ta tb)) := me_cmp op_gt op2_gt ha hb (nomark _)
theorem me_ge (ha : PE X a (lE ta)) (hb : PE X b (lE tb)) : PE X (.Compare a [.GtE] [b] pos) (lE (mBin oGe ta tb)) := me_cmp op_ge op2_ge ha hb (nomark _)
theorem mt_lt (ha : PE X a (lE ta)) (hb : PE X b (lE tb)) : PT X (.Compare a [.Lt] [b] pos) (lT (mTst (mBin oLt ta tb))) := mt_cmp op_lt op2_lt ha hb (nomark _)
theorem mt_le (ha : PE X a (lE ta)) (hb : PE X b (lE tb)) : PT X (.Compare a [.LtE] [b] pos) (lT (mTst (mBin oLe ta tb))) := mt_cmp op_le op2_le ha hb (nomark _)
theorem mt_gt (ha : PE X a (lE ta)) (hb : PE X b (lE tb)) : PT X (.Compare a [.Gt] [b] pos) (lT (mTst (mBin oGt ta tb))) := mt_cmp op_gt op2_gt ha hb (nomark _)
theorem mt_ge (ha : PE X a (lE ta)) (hb : PE X b (lE tb)) : PT X (.Compare a [.GtE] [b] pos) (lT (mTst (mBin oGe ta tb))) := mt_cmp op_ge op2_ge ha hb (nomark _)

/-! ### subscripts, slices -/
theorem me_ix (hr : Room n X.A) (ha : PE X a (lE ta)) (hb : PE X b (lE tb)) (hs : PlainIx b := by exact fun _ _ => rfl) : PE X (.Subscript a b pos) (lE (mBin oIx ta tb)) :=
  (pe_ix (IxR.or ix_seq (ix_dict (by have := hr.un; omega))) ha hb hs).mi (bin_imp op2_ix)
abbrev DO := En → Mem → (Option Int → Mem → Prop) → Prop
def lO (t : DO) : TO := fun s H Q => ∃ r S M Q', Rel r ⟨S, M, H⟩ s ∧ t r S Q' ∧ ∀ o (w : W), Q' o w.S → Step ⟨S, M, H⟩ w → Ok w → Q o w.H
theorem _root_.L2.PO.mi {e : Option Expr} {t t' : TO} (h : PO X e t) (i : ∀ s H Q, t' s H Q → t s H Q) : PO X e t' := ⟨fun pins s σ H Q I hw => h.run pins s σ H Q I (i σ H Q hw)⟩
abbrev mNoPart : DO := fun _ S Q => Q none S
abbrev mPart (t : DE) : DO := fun r S Q => t r S fun d S1 => match d with
  | .int i => Q (some i) S1
  | _ => False
theorem mo_none : PO X none (lO mNoPart) := po_none.mi fun s H Q ⟨r, S, M, Q', R, t, k⟩ => k none ⟨S, M, H⟩ t .refl R.ok
theorem mo_some (h : PE X a (lE ta)) : PO X (some a) (lO (mPart ta)) := (po_some h).mi fun s H Q ⟨r, S, M, Q', R, t, k⟩ => ⟨r, S, M, _, R, t, fun d w1 v q k1 m1 r1 => by
  cases d with
  | int i => cases r1; exact ⟨i, rfl, k _ w1 q k1 m1⟩
  | _ => exact False.elim q⟩
/-- the items of xs[lo:hi] -/
def cutX {α : Type} (xs : List α) (lo hi : Option Int) : List α := (xs.drop (HT.sIx xs.length 0 lo)).take (HT.sIx xs.length xs.length hi - HT.sIx xs.length 0 lo)
abbrev cutQ (xs : List D) (lo hi : Option Int) : List D := cutX xs lo hi
theorem cut_rep {w : W} {vs : List V} {xs : List D} (r : Reps w vs xs) (lo hi : Option Int) : Reps w (cutV vs lo hi) (cutQ xs lo hi) := by
  unfold cutV cutQ cutX
  rw [r.length]
  exact (r.drop _).take _
theorem cutQ_len (xs : List D) (lo hi : Option Int) : (cutQ xs lo hi).length ≤ xs.length := by
  unfold cutQ cutX
  rw [List.length_take, List.length_drop]
  omega
theorem cutQ_whole {xs : List D} {lo hi : Option Int} (h : HT.sIx xs.length 0 lo = 0 ∧ HT.sIx xs.length xs.length hi = xs.length) : cutQ xs lo hi = xs := by
  unfold cutQ cutX
  rw [h.1, h.2, List.drop_zero, Nat.sub_zero]
  exact List.take_length
def oSl : D → Option Int → Option Int → Mem → WK → Prop := fun x lo hi S Q => match x with
  | .tup xs => Q (.tup (cutQ xs lo hi)) S
  | .kt xs => ∀ d, asT d = some (cutQ xs lo hi) → Q d S
  | .str z => z.length ≤ sizeLine ∧ Q (.str (cutS z lo hi)) S
  | x => opt (asL S x) fun xs => Q (.lst (cutQ xs lo hi)) S
abbrev mSl (te : DE) (tl th : DO) : DE := fun r S Q => te r S fun x S1 => tl r S1 fun l S2 => th r S2 fun u S3 => oSl x l u S3 Q
theorem sl_ok {K : PySem.W.Frag} {x : D} {v : V} {lo hi : Option Int} {w : W} {Q : VK} {Q' : WK} (m : Ok w) (rx : Rep w v x) (h : oSl x lo hi w.S Q') (k : Then w Q' Q) : rSlA K v lo hi w.H Q ∨ rSlL K v lo hi w.H Q ∨ rSlS v lo hi w.H Q := by
  unfold oSl at h
  split at h
  · next xs =>
    cases rx with
    | @tup a vs _ e n rr z =>
      refine .inl ⟨a, vs, rfl, .inl (.inl e), fun hw => ?_, fun _ p hp => ?_⟩
      · rw [rr.length] at hw
        rw [cutQ_whole hw] at h
        exact k _ w _ h .refl m (.tup e n rr z)
      · exact k _ ⟨w.S, w.M, _⟩ _ h (.new hp) (m.new hp) (.tup upd_same (m.free hp) ((cut_rep rr lo hi).keep (.new hp) m) (Nat.le_trans (cutQ_len _ _ _) z))
  · next xs =>
    cases rx with
    | @kt a o vs _ e eo n rr z =>
      refine .inl ⟨a, vs, rfl, .inl (.inr ⟨_, e⟩), fun hw => ?_, fun _ p hp => ?_⟩
      · rw [rr.length] at hw
        exact k _ w _ (h (.kt xs) (by rw [cutQ_whole hw]; rfl)) .refl m (.kt e eo n rr z)
      · exact k _ ⟨w.S, w.M, _⟩ _ (h _ rfl) (.new hp) (m.new hp) (.tup upd_same (m.free hp) ((cut_rep rr lo hi).keep (.new hp) m) (Nat.le_trans (cutQ_len _ _ _) z))
  · next z => cases rx; exact .inr (.inr ⟨z, rfl, h.1, k _ w _ h.2 .refl m (.str _)⟩)
  · obtain ⟨xs, h1, h2⟩ := of_opt h
    obtain ⟨a, vs, rfl, e1, e2, z⟩ := asL_rep (K := K) m h1 rx
    exact .inr (.inl ⟨a, vs, rfl, e1, fun p hp => k _ ⟨w.S, w.M, _⟩ _ h2 (.new hp) (m.new hp) (.lst upd_same (m.free hp) ((cut_rep e2 lo hi).keep (.new hp) m) (Nat.le_trans (cutQ_len _ _ _) z))⟩)
theorem me_slice {lo hi : Option Expr} {tl th : DO} {p2 : Pos} (he : PE X a (lE ta)) (hl : PO X lo (lO tl)) (hu : PO X hi (lO th)) : PE X (.Subscript a (.Slice lo hi none p2) pos) (lE (mSl ta tl th)) :=
  (pe_slice (SlR.or sl_tupA (SlR.or sl_list sl_str)) he hl hu).mi fun s H Q ⟨r, S, M, Q', R, t, k⟩ => ⟨r, S, M, _, R, t, fun x w1 v q k1 m1 r1 => ⟨r, w1.S, w1.M, _, R.keep k1 m1, q, fun l w2 q2 k2 m2 => ⟨r, w2.S, w2.M, _, R.keep (k1.trans k2) m2, q2, fun u w3 q3 k3 m3 =>
    sl_ok m3 ((r1.keep k2 m1).keep k3 m2) q3 (Then.after k ((k1.trans k2).trans k3))⟩⟩⟩

/-! ### built-in functions -/
def oLen : OA := fun ds S Q => match ds with
  | [.tup xs] => Q (.int xs.length) S
  | [.kt xs] => Q (.int xs.length) S
  | [.str z] => z.length ≤ sizeLine ∧ Q (.int z.length) S
  | [.obj a] => match S a with
    | some (.lst xs) => Q (.int xs.length) S
    | some (.dk kvs) => Q (.int kvs.length) S
    | _ => False
  | [d] => opt (asL S d) fun xs => Q (.int xs.length) S
  | _ => False
def rLenA (K : PySem.W.Frag) : List V → Hp → VK → Prop := fun xs H Q => (∃ x n, xs = [x] ∧ LenV K x H n ∧ Q (.int n) H) ∨ ∃ a kvs, xs = [.ref a] ∧ H a = some (.dK kvs) ∧ Q (.int kvs.length) H
theorem paired_len {α β : Type} {P : α → β → Prop} : ∀ {xs : List α} {ys : List β}, Paired P xs ys → xs.length = ys.length
  | _, _, .nil => rfl
  | _, _, .cons _ t => congrArg (· + 1) (paired_len t)
theorem opA_len {K : PySem.W.Frag} : OpA (rLenA K) oLen := by
  intro ds vs w Q Q' m rr h k
  unfold oLen at h
  split at h
  · obtain ⟨v, rfl, r⟩ := reps1 rr
    cases r with | tup e n r z => exact .inl ⟨_, _, rfl, .inr ⟨_, .inl (.inl e), r.length.symm⟩, k _ w _ h .refl m (.int _)⟩
  · obtain ⟨v, rfl, r⟩ := reps1 rr
    cases r with | kt e _ n r z => exact .inl ⟨_, _, rfl, .inr ⟨_, .inl (.inr ⟨_, e⟩), r.length.symm⟩, k _ w _ h .refl m (.int _)⟩
  · obtain ⟨v, rfl, r⟩ := reps1 rr
    cases r
    exact .inl ⟨_, _, rfl, ⟨h.1, rfl⟩, k _ w _ h.2 .refl m (.int _)⟩
  · next a =>
    obtain ⟨v, rfl, r⟩ := reps1 rr
    cases r
    split at h
    · next xs e =>
      obtain ⟨vs, e1, e2, _⟩ := m.lst e
      exact .inl ⟨_, _, rfl, .inl ⟨_, .inl (.inl e1), e2.length.symm⟩, k _ w _ h .refl m (.int _)⟩
    · next kvs e =>
      obtain ⟨u, hu, ro⟩ := m.mem a _ (m.sub a _ e)
      cases ro with
      | dk p => exact .inr ⟨a, _, rfl, hu, by rw [← paired_len p]; exact k _ w _ h .refl m (.int _)⟩
    · exact h.elim
  · obtain ⟨v, rfl, r⟩ := reps1 rr
    obtain ⟨xs, h1, h2⟩ := of_opt h
    obtain ⟨a, vs, rfl, e1, e2, z⟩ := asL_rep (K := K) m h1 r
    exact .inl ⟨_, _, rfl, .inl ⟨_, e1, e2.length.symm⟩, k _ w _ h2 .refl m (.int _)⟩
  · exact h.elim
theorem me_len {e : Expr} {p : Pos} {t : DA} (hm : X.mg "len" = none) (ha : PA X [e] (lA t)) (hg : Gl X "len" := by rfl) (hs : starEach [e] X.env = (false, eval e X.env) :: starEach [] X.env := by rfl) : PE X (.Call (.Name "len" p) [e] [] pos) (lE (mCall oLen t)) :=
  me_callB (CallR.or call_len call_lenD) opA_len hm ha PySem.boot_len hg (by decide) (by decide) hs
def oMax2 : OA := fun ds S Q => match ds with
  | [.int i, .int j] => Q (.int (if j > i then j else i)) S
  | _ => False
def oMin2 : OA := fun ds S Q => match ds with
  | [.int i, .int j] => Q (.int (if j < i then j else i)) S
  | _ => False
theorem opA_max2 : OpA (fun xs H Q => ∃ i j, xs = [.int i, .int j] ∧ Q (.int (if j > i then j else i)) H) oMax2 := by
  intro ds vs w Q Q' m rr h k
  unfold oMax2 at h
  split at h
  · obtain ⟨v, u, rfl, r1, r2⟩ := reps2 rr
    cases r1; cases r2
    exact ⟨_, _, rfl, k _ w _ h .refl m (.int _)⟩
  · exact h.elim
theorem opA_min2 : OpA (fun xs H Q => ∃ i j, xs = [.int i, .int j] ∧ Q (.int (if j < i then j else i)) H) oMin2 := by
  intro ds vs w Q Q' m rr h k
  unfold oMin2 at h
  split at h
  · obtain ⟨v, u, rfl, r1, r2⟩ := reps2 rr
    cases r1; cases r2
    exact ⟨_, _, rfl, k _ w _ h .refl m (.int _)⟩
  · exact h.elim
theorem me_max2 {e f : Expr} {p : Pos} {t : DA} (hc : X.calm = true) (hm : X.mg "max" = none) (ha : PA X [e, f] (lA t)) (hg : Gl X "max" := by rfl) (hs : starEach [e, f] X.env = (false, eval e X.env) :: starEach [f] X.env := by rfl) (hp : (backTo pos (starEach [f] X.env)).any (·.1) = false := by rfl) : PE X (.Call (.Name "max" p) [e, f] [] pos) (lE (mCall oMax2 t)) :=
  me_callB (call_max2 hc) opA_max2 hm ha (by decide +kernel) hg (by decide) (by decide) hs hp
theorem me_min2 {e f : Expr} {p : Pos} {t : DA} (hc : X.calm = true) (hm : X.mg "min" = none) (ha : PA X [e, f] (lA t)) (hg : Gl X "min" := by rfl) (hs : starEach [e, f] X.env = (false, eval e X.env) :: starEach [f] X.env := by rfl) (hp : (backTo pos (starEach [f] X.env)).any (·.1) = false := by rfl) : PE X (.Call (.Name "min" p) [e, f] [] pos) (lE (mCall oMin2 t)) :=
  me_callB (call_min2 hc) opA_min2 hm ha (by decide +kernel) hg (by decide) (by decide) hs hp

/-- tuple(list): a new tuple; tuple(tuple): itself -/
def oTuple : OA := fun ds S Q => match ds with
  | [d] => match asT d with
    | some _ => Q d S
    | none => opt (asL S d) fun xs => Q (.tup xs) S
  | _ => False
theorem opA_tuple {K : PySem.W.Frag} : OpA (fun xs H Q => ∃ p ys, xs = [.ref p] ∧ ((SqL K H p ys ∧ ∀ l, H l = none → Q (.ref l) (upd H l (.tup ys))) ∨ (SqT K H p ys ∧ Q (.ref p) H))) oTuple := by
  intro ds vs w Q Q' m rr h k
  unfold oTuple at h
  split at h
  · next d =>
    obtain ⟨v, rfl, r⟩ := reps1 rr
    split at h
    · next xs e =>
      obtain ⟨a, vs, rfl, e1, _⟩ := asT_rep (K := K) e r
      exact ⟨a, vs, rfl, .inr ⟨e1, k _ w _ h .refl m r⟩⟩
    · obtain ⟨xs, h1, h2⟩ := of_opt h
      obtain ⟨a, vs, rfl, e1, e2, z⟩ := asL_rep (K := K) m h1 r
      exact ⟨a, vs, rfl, .inl ⟨e1, fun p hp => k _ ⟨w.S, w.M, _⟩ _ h2 (.new hp) (m.new hp) (.tup upd_same (m.free hp) (e2.keep (.new hp) m) z)⟩⟩
  · exact h.elim
theorem me_tuple {e : Expr} {p : Pos} {t : DA} (hm : X.mg "tuple" = none) (ha : PA X [e] (lA t)) (hg : Gl X "tuple" := by rfl) (hs : starEach [e] X.env = (false, eval e X.env) :: starEach [] X.env := by rfl) : PE X (.Call (.Name "tuple" p) [e] [] pos) (lE (mCall oTuple t)) :=
  me_callTy call_tuple_of opA_tuple hm ha (by decide +kernel) hg (by decide) (by decide) hs
/-- tuple(list), the tuple known to have no dict -/
def oTupleK : OA := fun ds S Q => match ds with
  | [d] => opt (asL S d) fun xs => Q (.kt xs) S
  | _ => False
def rTupK (K : PySem.W.Frag) : List V → Hp → VK → Prop := fun xs H Q => ∃ p ys, xs = [.ref p] ∧ SqL K H p ys ∧ ∀ l o, H l = none → o.dict = none → Q (.ref l) (upd H l (.frz o (.tup ys)))
theorem call_tupK : CallR X (.type "tuple") (rTupK X.K) := by
  intro pins s σ H xs us Q I r h
  obtain ⟨p, ys, rfl, hq, q⟩ := h
  obtain ⟨u, rfl, rx⟩ := vals1 r
  cases rx
  obtain ⟨its, r', pl, hz⟩ := I.list hq
  have hlen := r'.length
  refine call_tuple_list pl.isList (fun h' kp => ?_) (by simp only [List.size_toArray] <;> omega)
  have I1 : Inv X pins σ H { s with heap := h' } := I.kept (t' := s.toks) kp
  have I2 : Inv X pins σ (upd H h'.objs.size (.frz { cls := .type "tuple", data := .seq its.toArray } (.tup ys))) { s with heap := h'.push { cls := .type "tuple", data := .seq its.toArray } } :=
    I1.laid (t' := s.toks) (fun b o e => Heap.get?_push_of_some _ e) (Nat.le_refl _) (show ObjOk X.prog X.w _ _ _ (.frz _ (.tup ys)) from ⟨Heap.get?_push_size _ rfl, hz, its, r', IsTup.new _ _⟩)
  exact ⟨.ref h'.objs.size, _, I2, rfl, q _ _ (I1.hok.fresh (Nat.le_refl _)) rfl⟩
theorem opA_tupK {K : PySem.W.Frag} : OpA (rTupK K) oTupleK := by
  intro ds vs w Q Q' m rr h k
  unfold oTupleK at h
  split at h
  · next d =>
    obtain ⟨v, rfl, r⟩ := reps1 rr
    obtain ⟨xs, h1, h2⟩ := of_opt h
    obtain ⟨a, vs, rfl, e1, e2, z⟩ := asL_rep (K := K) m h1 r
    exact ⟨a, vs, rfl, e1, fun p o hp ho => k _ ⟨w.S, w.M, _⟩ _ h2 (.new hp) (m.new hp) (.kt upd_same ho (m.free hp) (e2.keep (.new hp) m) z)⟩
  · exact h.elim
theorem me_tupleK {e : Expr} {p : Pos} {t : DA} (hm : X.mg "tuple" = none) (ha : PA X [e] (lA t)) (hg : Gl X "tuple" := by rfl) (hs : starEach [e] X.env = (false, eval e X.env) :: starEach [] X.env := by rfl) : PE X (.Call (.Name "tuple" p) [e] [] pos) (lE (mCall oTupleK t)) :=
  me_callTy call_tupK opA_tupK hm ha (by decide +kernel) hg (by decide) (by decide) hs
/-- list(list), list(tuple) -/
def oList : OA := fun ds S Q => match ds with
  | [d] => opt (asQ S d) fun xs => Q (.lst xs) S
  | _ => False
theorem opA_list {K : PySem.W.Frag} : OpA (fun xs H Q => ∃ p ys, xs = [.ref p] ∧ (SqL K H p ys ∨ SqT K H p ys) ∧ ∀ l, H l = none → Q (.ref l) (upd H l (.lst ys))) oList := by
  intro ds vs w Q Q' m rr h k
  unfold oList at h
  split at h
  · next d =>
    obtain ⟨v, rfl, r⟩ := reps1 rr
    obtain ⟨xs, h1, h2⟩ := of_opt h
    obtain ⟨a, vs, rfl, e1, e2, z⟩ := asQ_rep (K := K) m h1 r
    exact ⟨a, vs, rfl, e1, fun p hp => k _ ⟨w.S, w.M, _⟩ _ h2 (.new hp) (m.new hp) (.lst upd_same (m.free hp) (e2.keep (.new hp) m) z)⟩
  · exact h.elim
theorem me_list {e : Expr} {p : Pos} {t : DA} (hm : X.mg "list" = none) (ha : PA X [e] (lA t)) (hg : Gl X "list" := by rfl) (hs : starEach [e] X.env = (false, eval e X.env) :: starEach [] X.env := by rfl) : PE X (.Call (.Name "list" p) [e] [] pos) (lE (mCall oList t)) :=
  me_callTy call_list_of opA_list hm ha (by decide +kernel) hg (by decide) (by decide) hs

theorem reps_bls {w : W} : ∀ {bs : List Bool} {vs : List V}, Reps w vs (bs.map D.bl) → vs = bs.map V.bl
  | [], _, r => by cases r; rfl
  | b :: bs, _, r => by
    cases r with
    | cons r1 r2 => cases r1; rw [reps_bls r2]; rfl
theorem reps_ints {w : W} : ∀ {bs : List Int} {vs : List V}, Reps w vs (bs.map D.int) → vs = bs.map V.int
  | [], _, r => by cases r; rfl
  | b :: bs, _, r => by
    cases r with
    | cons r1 r2 => cases r1; rw [reps_ints r2]; rfl
theorem ints_reps {w : W} : ∀ (bs : List Int), Reps w (bs.map V.int) (bs.map D.int)
  | [] => .nil
  | b :: bs => .cons (.int b) (ints_reps bs)
def oAny : OA := fun ds S Q => match ds with
  | [d] => ∃ bs : List Bool, asL S d = some (bs.map D.bl) ∧ Q (.bl (bs.any id)) S
  | _ => False
def oAll : OA := fun ds S Q => match ds with
  | [d] => ∃ bs : List Bool, asL S d = some (bs.map D.bl) ∧ Q (.bl (bs.all id)) S
  | _ => False
theorem opA_any {K : PySem.W.Frag} : OpA (rAny K) oAny := by
  intro ds vs w Q Q' m rr h k
  unfold oAny at h
  split at h
  · obtain ⟨v, rfl, r⟩ := reps1 rr
    obtain ⟨bs, h1, h2⟩ := h
    obtain ⟨a, vs, rfl, e1, e2, z⟩ := asL_rep (K := K) m h1 r
    rw [reps_bls e2] at e1
    exact ⟨a, bs, rfl, e1, k _ w _ h2 .refl m (.bl _)⟩
  · exact h.elim
theorem opA_all {K : PySem.W.Frag} : OpA (rAll K) oAll := by
  intro ds vs w Q Q' m rr h k
  unfold oAll at h
  split at h
  · obtain ⟨v, rfl, r⟩ := reps1 rr
    obtain ⟨bs, h1, h2⟩ := h
    obtain ⟨a, vs, rfl, e1, e2, z⟩ := asL_rep (K := K) m h1 r
    rw [reps_bls e2] at e1
    exact ⟨a, bs, rfl, e1, k _ w _ h2 .refl m (.bl _)⟩
  · exact h.elim
theorem me_any {e : Expr} {p : Pos} {t : DA} (hc : X.calm = true) (hm : X.mg "any" = none) (ha : PA X [e] (lA t)) (hg : Gl X "any" := by rfl) (hs : starEach [e] X.env = (false, eval e X.env) :: starEach [] X.env := by rfl) : PE X (.Call (.Name "any" p) [e] [] pos) (lE (mCall oAny t)) :=
  me_callB (cr_any hc) opA_any hm ha (by decide +kernel) hg (by decide) (by decide) hs
theorem me_all {e : Expr} {p : Pos} {t : DA} (hc : X.calm = true) (hm : X.mg "all" = none) (ha : PA X [e] (lA t)) (hg : Gl X "all" := by rfl) (hs : starEach [e] X.env = (false, eval e X.env) :: starEach [] X.env := by rfl) : PE X (.Call (.Name "all" p) [e] [] pos) (lE (mCall oAll t)) :=
  me_callB (cr_all hc) opA_all hm ha (by decide +kernel) hg (by decide) (by decide) hs

/-- sorted(list of ints): the one list that rises and has the same items -/
def oSortI : OA := fun ds S Q => match ds with
  | [d] => ∃ ns : List Int, asL S d = some (ns.map D.int) ∧ ∀ ns' : List Int, ns'.Perm ns → ns'.Pairwise (· ≤ ·) → Q (.lst (ns'.map D.int)) S
  | _ => False
theorem opA_sortI {K : PySem.W.Frag} : OpA (rSortedI K) oSortI := by
  intro ds vs w Q Q' m rr h k
  unfold oSortI at h
  split at h
  · obtain ⟨v, rfl, r⟩ := reps1 rr
    obtain ⟨ns, h1, h2⟩ := h
    obtain ⟨a, vs, rfl, e1, e2, z⟩ := asL_rep (K := K) m h1 r
    rw [reps_ints e2] at e1
    refine ⟨a, ns, rfl, e1, fun ns' p hp hs hn => k _ ⟨w.S, w.M, _⟩ _ (h2 ns' hp hs) (.new hn) (m.new hn) (.lst upd_same (m.free hn) (ints_reps ns') ?_)⟩
    rw [List.length_map] at z ⊢
    rw [hp.length_eq]; exact z
  · exact h.elim
theorem me_sortI {e : Expr} {p : Pos} {t : DA} (hm : X.mg "sorted" = none) (ha : PA X [e] (lA t)) (hg : Gl X "sorted" := by rfl) (hs : starEach [e] X.env = (false, eval e X.env) :: starEach [] X.env := by rfl) : PE X (.Call (.Name "sorted" p) [e] [] pos) (lE (mCall oSortI t)) :=
  me_callB cr_sortedI opA_sortI hm ha (by decide +kernel) hg (by decide) (by decide) hs

/-! ### methods of lists and tuples -/
abbrev OM := D → List D → Mem → WK → Prop
abbrev mMeth (o : OM) (te : DE) (t : DA) : DE := fun r S Q => te r S fun d S1 => t r S1 fun ds S2 => o d ds S2 Q
/-- x.append(y) -/
def isLst (S : Mem) : D → Prop := fun d => match d with
  | .obj a => match S a with
    | some (.lst _) => True
    | _ => False
  | _ => False
abbrev mAppend (te : DE) (t : DA) : DE := fun r S Q => te r S fun d S1 => isLst S1 d ∧ t r S1 fun ds S2 => match d, ds with
  | .obj a, [y] => ∃ xs, S2 a = some (.lst xs) ∧ xs.length < sizeLine ∧ Q .non (up S2 a (.lst (xs ++ [y])))
  | _, _ => False
theorem me_append {o e : Expr} {apos : Pos} {to : DE} {t : DA} (ho : PE X o (lE to)) (ha : PA X [e] (lA t)) (hbase : attributeBase o "append" X.env (eval o X.env) = eval o X.env := by rfl)
    (hfew : ((backTo pos (starEach [e] X.env)).all (fun x => !x.1) && (backToKw pos (keywordEach [] X.env)).all (fun x => x.1.isSome) && decide ([e].length + ([] : List Keyword).length + (if ([] : List Keyword).isEmpty then 0 else 1) < 30)) = true := by rfl)
    (hline : (apos.endLine == pos.line) = true := by rfl) (hs : starEach [e] X.env = (false, eval e X.env) :: starEach [] X.env := by rfl) (hpl : (backTo pos (starEach [] X.env)).any (·.1) = false := by rfl) : PE X (.Call (.Attribute o "append" apos) [e] [] pos) (lE (mAppend to t)) :=
  (pe_bm PySem.F.plainAttrs_list PySem.F.slot_list_append PySem.F.type_list_append mt_append ho ha hbase hfew hline hs hpl).mi fun s H Q ⟨r, S, M, Q', R, t, k⟩ => ⟨r, S, M, _, R, t, fun d w1 v q k1 m1 r1 => by
    obtain ⟨hd, q⟩ := q
    cases d with
    | obj a =>
      cases r1
      refine ⟨?_, r, w1.S, w1.M, _, R.keep k1 m1, q, fun ds w2 vs q2 k2 m2 r2 => ?_⟩
      · unfold isLst at hd
        dsimp only at hd
        split at hd
        · next xs e =>
          obtain ⟨vs, e1, _, _⟩ := m1.lst e
          exact .inl ⟨rfl, vs, .inl (.inl e1)⟩
        · exact hd.elim
      · split at q2
        · next a y eq =>
          cases eq
          obtain ⟨xs, h1, h2, h3⟩ := q2
          obtain ⟨vy, rfl, ry⟩ := reps1 r2
          obtain ⟨vs, e1, e2, z⟩ := m2.lst h1
          have hl := e2.length
          refine ⟨a, vs, vy, rfl, rfl, e1, by omega, k _ ⟨up w2.S a (.lst (xs ++ [y])), up w2.M a (.lst (xs ++ [y])), _⟩ _ h3 ((k1.trans k2).trans (.write h1)) (m2.write h1 (.lst (e2.append (.cons ry .nil)) ?_)) .non⟩
          rw [List.length_append, List.length_singleton]; omega
        · exact q2.elim
    | _ => exact hd.elim⟩
end
end ML

set_option maxRecDepth 100000
/-! ML6: what is walked, while, more statements, calls of defs, a def's promise. -/
namespace ML
open PySem PySem.Spec PyProof.Rows L2

/-! ### what is walked -/
/-- a list, a tuple, a text -/
def iSeq (K : PySem.W.Frag) (tl : TE) : TI := fun s H R => tl s H fun x H1 => (∃ a, x = .ref a ∧ (∃ xs, SqL K H1 a xs) ∧ R (Itl K a) H1) ∨ (∃ a, x = .ref a ∧ (∃ xs, SqT K H1 a xs) ∧ R (Itt K a) H1) ∨ ∃ z, x = .str z ∧ R (Its z) H1
section
variable {X : Cx} {tg : Expr}
theorem pi_seq {l : Expr} {tl : TE} (hl : PE X l tl) : PI X tg l (iSeq X.K tl) := by
  refine ⟨fun pins s0 sg H R I h => thn (hl.run pins s0 sg H _ I h) fun v s1 ⟨x, H1, I1, r1, q1⟩ => ?_⟩
  rcases q1 with ⟨a, ex, ⟨xs, hq⟩, q⟩ | ⟨a, ex, ⟨xs, hq⟩, q⟩ | ⟨z, ex, q⟩
  · subst ex; cases r1
    obtain ⟨_, _, pl, _⟩ := I1.list hq
    exact wpAny_pyIter_list pl.isList (pi_one (tk := s1.toks) I1 _ (turn_list a _) ⟨_, Heap.get?_push_size _ rfl, rfl, rfl⟩ q)
  · subst ex; cases r1
    obtain ⟨its, _, pl, _⟩ := I1.tuple hq
    exact wpAny_pyIter_tuple (show s1.heap.IsTuple a its.toArray from pl) (pi_one (tk := s1.toks) I1 _ (turn_tuple a _) ⟨_, Heap.get?_push_size _ rfl, rfl, rfl⟩ q)
  · subst ex
    obtain ⟨t, rfl⟩ := r1
    cases hz : z.cps.all (· < 128)
    · exact wpAny_pyIter_wide hz (pi_one (tk := s1.toks) I1 _ (turn_str _ z t "str_iterator" (.inr rfl)) ⟨_, Heap.get?_push_size _ rfl, rfl, rfl⟩ q)
    · exact wpAny_pyIter_ascii hz (pi_one (tk := s1.toks) I1 _ (turn_str _ z t "str_ascii_iterator" (.inl rfl)) ⟨_, Heap.get?_push_size _ rfl, rfl, rfl⟩ q)
end
/-- a text's signs -/
def signs (z : Str) : List D := z.cps.toList.map fun c => D.str ⟨#[c]⟩
abbrev wSeq (te : DE) : DI := fun r S R => te r S fun d S1 => match d with
  | .tup xs => R xs none S1
  | .kt xs => R xs none S1
  | .lst xs => R xs none S1
  | .fls xs => R xs none S1
  | .str z => z.length ≤ sizeLine ∧ R (signs z) none S1
  | .obj a => match S1 a with
    | some (.lst xs) => R xs (some (a, xs)) S1
    | _ => False
  | _ => False
section
variable {X : Cx} {tg : Expr}
/-- facts about a walk of a list in data -/
theorem wk_list' {K : PySem.W.Frag} {w : W} {a : Addr} {xs : List D} {ck : CK} (hr : ∀ w', Keeps w w' → Ok w' → ckOk ck w'.S → ∃ vs, Rd w'.H a (.lst vs) ∧ Reps w' vs xs) (hz : xs.length ≤ sizeLine) : Wk (Itl K a) xs ck w := by
  refine ⟨fun i w' d kk m c e => ?_, fun i w' kk m c e => ?_, hz⟩
  · obtain ⟨vs, h1, h2⟩ := hr w' kk m c
    obtain ⟨v, e1, e2⟩ := h2.get e
    refine ⟨⟨vs, v, .inl h1, e1⟩, fun x H' ⟨eH, y⟩ => ?_⟩
    subst eH
    have := y vs (.inl h1)
    rw [e1] at this; cases this
    exact ⟨.refl, m, e2⟩
  · obtain ⟨vs, h1, h2⟩ := hr w' kk m c
    exact ⟨vs, .inl h1, by rw [h2.length]; exact e⟩
theorem wk_tup {K : PySem.W.Frag} {w : W} {a : Addr} {xs : List D} (hr : ∀ w', Keeps w w' → ∃ vs, Rd w'.H a (.tup vs) ∧ Reps w' vs xs) (hz : xs.length ≤ sizeLine) : Wk (Itt K a) xs none w := by
  refine ⟨fun i w' d kk m c e => ?_, fun i w' kk m c e => ?_, hz⟩
  · obtain ⟨vs, h1, h2⟩ := hr w' kk
    obtain ⟨v, e1, e2⟩ := h2.get e
    refine ⟨⟨vs, v, .inl h1, e1⟩, fun x H' ⟨eH, y⟩ => ?_⟩
    subst eH
    have := y vs (.inl h1)
    rw [e1] at this; cases this
    exact ⟨.refl, m, e2⟩
  · obtain ⟨vs, h1, h2⟩ := hr w' kk
    exact ⟨vs, .inl h1, by rw [h2.length]; exact e⟩
theorem wk_str {w : W} {z : Str} (hz : z.length ≤ sizeLine) : Wk (Its z) (signs z) none w := by
  refine ⟨fun i w' d kk m c e => ?_, fun i w' kk m c e => ?_, ?_⟩
  · unfold signs at e
    rw [List.getElem?_map] at e
    obtain ⟨ch, h1, h2⟩ := Option.map_eq_some_iff.mp e
    subst h2
    have hi : i < z.cps.size := by
      have := (List.getElem?_eq_some_iff.mp h1).1
      simpa using this
    refine ⟨hi, fun x H' ⟨eH, c', hc, ex⟩ => ?_⟩
    subst eH; subst ex
    have : c' = ch := by
      rw [Array.getElem?_toList] at h1
      rw [hc] at h1; exact Option.some.inj h1
    subst this
    exact ⟨.refl, m, .str _⟩
  · unfold signs at e
    rw [List.length_map] at e
    show z.cps.size ≤ i
    simpa using e
  · unfold signs
    rw [List.length_map, Array.length_toList]
    exact hz
theorem mi_seq {l : Expr} {te : DE} (hl : PE X l (lE te)) : PI X tg l (lI (wSeq te)) := (pi_seq hl).mi fun s H Rr ⟨r, S, M, R', R, t, k⟩ => ⟨r, S, M, _, R, t, fun d w1 v q k1 m1 r1 => by
  cases r1 with
  | @tup a vs ds e n rr z => exact .inr (.inl ⟨a, rfl, ⟨_, .inl (.inl e)⟩, k _ _ w1 _ q k1 m1 (wk_tup (fun w' kk => ⟨vs, .inl (kk _ _ e n).1, rr.keeps kk⟩) z)⟩)
  | @kt a o vs ds e _ n rr z => exact .inr (.inl ⟨a, rfl, ⟨_, .inl (.inr ⟨_, e⟩)⟩, k _ _ w1 _ q k1 m1 (wk_tup (fun w' kk => ⟨vs, .inr ⟨_, (kk _ _ e n).1⟩, rr.keeps kk⟩) z)⟩)
  | @lst a vs ds e n rr z => exact .inl ⟨a, rfl, ⟨_, .inl (.inl e)⟩, k _ _ w1 _ q k1 m1 (wk_list' (fun w' kk _ _ => ⟨vs, .inl (kk _ _ e n).1, rr.keeps kk⟩) z)⟩
  | @fls a o vs ds e n rr z => exact .inl ⟨a, rfl, ⟨_, .inl (.inr ⟨_, e⟩)⟩, k _ _ w1 _ q k1 m1 (wk_list' (fun w' kk _ _ => ⟨vs, .inr ⟨_, (kk _ _ e n).1⟩, rr.keeps kk⟩) z)⟩
  | str z => exact .inr (.inr ⟨z, rfl, k _ _ w1 _ q.2 k1 m1 (wk_str q.1)⟩)
  | obj a =>
    dsimp only at q
    split at q
    · next xs e =>
      obtain ⟨vs, e1, e2, z⟩ := m1.lst e
      exact .inl ⟨a, rfl, ⟨vs, .inl (.inl e1)⟩, k _ _ w1 _ q k1 m1 (wk_list' (ck := some (a, xs)) (fun w' kk m' c => by
        obtain ⟨vs', f1, f2, _⟩ := m'.lst c
        exact ⟨vs', .inl f1, f2⟩) z)⟩
    · exact q.elim
  | _ => exact False.elim q⟩

/-- range(n), range(a, b), range(a, b, -1) -/
def intsD (lo : Int) (n : Nat) : List D := (List.range n).map fun i => D.int (lo + (i : Nat))
theorem wk_rng {w : W} {lo : Int} {n : Nat} (hz : n ≤ sizeLine) : Wk (Itr lo n) (intsD lo n) none w := by
  refine ⟨fun i w' d kk m c e => ?_, fun i w' kk m c e => ?_, by unfold intsD; rw [List.length_map, List.length_range]; exact hz⟩
  · unfold intsD at e
    rw [List.getElem?_map] at e
    obtain ⟨j, h1, h2⟩ := Option.map_eq_some_iff.mp e
    subst h2
    obtain ⟨hi, ej⟩ := List.getElem?_eq_some_iff.mp h1
    rw [List.length_range] at hi
    rw [List.getElem_range] at ej
    subst ej
    exact ⟨hi, fun x H' ⟨eH, ex⟩ => by subst eH; subst ex; exact ⟨.refl, m, .int _⟩⟩
  · unfold intsD at e
    rw [List.length_map, List.length_range] at e
    exact e
abbrev wRng1 (t : DA) : DI := fun r S R => t r S fun ds S1 => match ds with
  | [.int j] => (-16777216 ≤ j ∧ j ≤ 16777216) ∧ R (intsD 0 j.toNat) none S1
  | _ => False
abbrev wRng2 (t : DA) : DI := fun r S R => t r S fun ds S1 => match ds with
  | [.int i, .int j] => (-16777216 ≤ i ∧ i ≤ 16777216 ∧ -16777216 ≤ j ∧ j - i ≤ 16777216) ∧ R (intsD i (j - i).toNat) none S1
  | _ => False
theorem mi_rng1 {e : Expr} {p pos : Pos} {t : DA} (hm : X.mg "range" = none) (ha : PA X [e] (lA t)) (hg : Gl X "range" := by rfl) (hs : starEach [e] X.env = [(false, eval e X.env)] := by rfl) : PI X tg (.Call (.Name "range" p) [e] [] pos) (lI (wRng1 t)) :=
  (pi_range1 hg hm ha hs).mi fun s H Rr ⟨r, S, M, R', R, t, k⟩ => ⟨r, S, M, _, R, t, fun ds w1 vs q k1 m1 r1 => by
    have hl := sizeLine_eq
    split at q
    · next j =>
      obtain ⟨v, rfl, rv⟩ := reps1 r1
      cases rv
      exact ⟨j, rfl, by have := q.1; omega, by have := q.1; omega, k _ _ w1 _ q.2 k1 m1 (wk_rng (by have := q.1; omega))⟩
    · exact q.elim⟩
theorem mi_rng2 {e f : Expr} {p pos : Pos} {t : DA} (hm : X.mg "range" = none) (ha : PA X [e, f] (lA t)) (hg : Gl X "range" := by rfl) (hs : starEach [e, f] X.env = [(false, eval e X.env), (false, eval f X.env)] := by rfl) (hs2 : starEach [f] X.env = [(false, eval f X.env)] := by rfl) : PI X tg (.Call (.Name "range" p) [e, f] [] pos) (lI (wRng2 t)) :=
  (pi_range2 hg hm ha hs hs2).mi fun s H Rr ⟨r, S, M, R', R, t, k⟩ => ⟨r, S, M, _, R, t, fun ds w1 vs q k1 m1 r1 => by
    have hl := sizeLine_eq
    split at q
    · next i j =>
      obtain ⟨v, u, rfl, rv, ru⟩ := reps2 r1
      cases rv; cases ru
      have := q.1
      exact ⟨i, j, rfl, by omega, k _ _ w1 _ q.2 k1 m1 (wk_rng (by omega))⟩
    · exact q.elim⟩
/-- zip of two lists or of two tuples, into a target of several names -/
def zipD (xs ys : List D) : List D := (xs.zip ys).map fun p => D.tup [p.1, p.2]
abbrev wZip (t : DA) : DI := fun r S R => t r S fun ds S1 => match ds with
  | [.lst xs, .lst ys] => R (zipD xs ys) none S1
  | [x, y] => opt (asT x) fun xs => opt (asT y) fun ys => R (zipD xs ys) none S1
  | _ => False
theorem zipD_get {xs ys : List D} {i : Nat} {d : D} (h : (zipD xs ys)[i]? = some d) : ∃ x y, xs[i]? = some x ∧ ys[i]? = some y ∧ d = .tup [x, y] := by
  unfold zipD at h
  rw [List.getElem?_map] at h
  obtain ⟨p, h1, h2⟩ := Option.map_eq_some_iff.mp h
  rw [List.getElem?_zip_eq_some] at h1
  exact ⟨p.1, p.2, h1.1, h1.2, h2.symm⟩
theorem wk_zip {K : PySem.W.Frag} {w : W} {a b : Addr} {vs us : List V} {xs ys : List D} (h1 : w.H a = some (.lst vs)) (n1 : w.M a = none) (r1 : Reps w vs xs) (z1 : xs.length ≤ sizeLine) (h2 : w.H b = some (.lst us)) (n2 : w.M b = none) (r2 : Reps w us ys) : Wk (Itz K a b) (zipD xs ys) none w := by
  refine ⟨fun i w' d kk m c e => ?_, fun i w' kk m c e => ?_, ?_⟩
  · obtain ⟨x, y, ex, ey, ed⟩ := zipD_get e
    subst ed
    obtain ⟨v, e1, e2⟩ := (r1.keeps kk).get ex
    obtain ⟨u, f1, f2⟩ := (r2.keeps kk).get ey
    have q1 : SqL K w'.H a vs := .inl (.inl (kk _ _ h1 n1).1)
    have q2 : SqL K w'.H b us := .inl (.inl (kk _ _ h2 n2).1)
    refine ⟨⟨vs, us, v, u, q1, q2, e1, f1⟩, fun X' H' ⟨T, v', u', eX, nT, eH, g1, g2⟩ => ?_⟩
    have ev : v' = v := Option.some.inj ((g1 vs q1).symm.trans e1)
    have eu : u' = u := Option.some.inj ((g2 us q2).symm.trans f1)
    subst eX; subst eH; subst ev; subst eu
    exact ⟨.new nT, m.new nT, .tup upd_same (m.free nT) (.cons (e2.keep (.new nT) m) (.cons (f2.keep (.new nT) m) .nil)) (by show 2 ≤ sizeLine; decide)⟩
  · refine ⟨vs, us, .inl (.inl (kk _ _ h1 n1).1), .inl (.inl (kk _ _ h2 n2).1), ?_⟩
    unfold zipD at e
    rw [List.length_map, List.length_zip] at e
    have l1 := r1.length
    have l2 := r2.length
    omega
  · unfold zipD
    rw [List.length_map, List.length_zip]
    omega
theorem wk_zipT {K : PySem.W.Frag} {w : W} {a b : Addr} {vs us : List V} {xs ys : List D} (h1 : ∀ w', Keeps w w' → SqT K w'.H a vs) (r1 : Reps w vs xs) (z1 : xs.length ≤ sizeLine) (h2 : ∀ w', Keeps w w' → SqT K w'.H b us) (r2 : Reps w us ys) : Wk (RZ.ItzT K a b) (zipD xs ys) none w := by
  refine ⟨fun i w' d kk m c e => ?_, fun i w' kk m c e => ?_, ?_⟩
  · obtain ⟨x, y, ex, ey, ed⟩ := zipD_get e
    subst ed
    obtain ⟨v, e1, e2⟩ := (r1.keeps kk).get ex
    obtain ⟨u, f1, f2⟩ := (r2.keeps kk).get ey
    refine ⟨⟨vs, us, v, u, h1 w' kk, h2 w' kk, e1, f1⟩, fun X' H' ⟨T, v', u', eX, nT, eH, g1, g2⟩ => ?_⟩
    have ev : v' = v := Option.some.inj ((g1 vs (h1 w' kk)).symm.trans e1)
    have eu : u' = u := Option.some.inj ((g2 us (h2 w' kk)).symm.trans f1)
    subst eX; subst eH; subst ev; subst eu
    exact ⟨.new nT, m.new nT, .tup upd_same (m.free nT) (.cons (e2.keep (.new nT) m) (.cons (f2.keep (.new nT) m) .nil)) (by show 2 ≤ sizeLine; decide)⟩
  · refine ⟨vs, us, h1 w' kk, h2 w' kk, ?_⟩
    unfold zipD at e
    rw [List.length_map, List.length_zip] at e
    have l1 := r1.length
    have l2 := r2.length
    omega
  · unfold zipD
    rw [List.length_map, List.length_zip]
    omega
theorem asT_repK {K : PySem.W.Frag} {w : W} {d : D} {xs : List D} {v : V} (h : asT d = some xs) (r : Rep w v d) : ∃ a vs, v = .ref a ∧ (∀ w', Keeps w w' → SqT K w'.H a vs) ∧ Reps w vs xs ∧ xs.length ≤ sizeLine := by
  cases d with
  | tup ys => cases h; cases r with | tup h n r z => exact ⟨_, _, rfl, fun w' kk => .inl (.inl (kk _ _ h n).1), r, z⟩
  | kt ys => cases h; cases r with | kt h e n r z => exact ⟨_, _, rfl, fun w' kk => .inl (.inr ⟨_, (kk _ _ h n).1⟩), r, z⟩
  | _ => cases h
theorem mi_zip {e e2 : Expr} {t : DA} {p pos tpos : Pos} {elts : List Expr} {kk : Nat} (hm : X.mg "zip" = none) (ha : PA X [e, e2] (lA t)) (hg : Gl X "zip" := by rfl)
    (hs : starEach [e, e2] X.env = (false, eval e X.env) :: starEach [e2] X.env := by rfl) (hpl : (backTo pos (starEach [e2] X.env)).any (·.1) = false := by rfl) :
    PI X (.Tuple elts kk tpos) (.Call (.Name "zip" p) [e, e2] [] pos) (lI (wZip t)) :=
  (RZ.pi_zipA hg hm ha hs hpl).mi fun s H Rr ⟨r, S, M, R', R, t, k⟩ => ⟨r, S, M, _, R, t, fun ds w1 vs q k1 m1 r1 => by
    unfold wZip at t
    split at q
    · next xs ys =>
      obtain ⟨v, u, rfl, rv, ru⟩ := reps2 r1
      cases rv with
      | @lst a vs _ ea na ra za =>
        cases ru with
        | @lst b us _ eb nb rb zb => exact ⟨a, b, vs, us, rfl, .inl ⟨.inl (.inl ea), .inl (.inl eb), k _ _ w1 _ q k1 m1 (wk_zip ea na ra za eb nb rb)⟩⟩
    · next x y _ =>
      obtain ⟨v, u, rfl, rv, ru⟩ := reps2 r1
      obtain ⟨xs, hx, q⟩ := of_opt q
      obtain ⟨ys, hy, q⟩ := of_opt q
      obtain ⟨a, vs, rfl, ha, ra, za⟩ := asT_repK (K := X.K) hx rv
      obtain ⟨b, us, rfl, hb, rb, zb⟩ := asT_repK (K := X.K) hy ru
      exact ⟨a, b, vs, us, rfl, .inr ⟨ha w1 (fun _ _ h n => ⟨h, n⟩), hb w1 (fun _ _ h n => ⟨h, n⟩), k _ _ w1 _ q k1 m1 (wk_zipT ha ra za hb rb)⟩⟩
    · exact q.elim⟩

/-! ### while -/
def whileL0 (c : DT) (b : DS) (N : Nd) : Nat → En → Mem → Prop
  | 0, _, _ => False
  | n + 1, r, S => c r S fun t S1 => match t with
    | true => b { N with nx := whileL0 c b N n, ct := whileL0 c b N n, bk := N.nx } r S1
    | false => N.nx r S1
@[irreducible] def whileL (c : DT) (b : DS) (N : Nd) (n : Nat) : En → Mem → Prop := whileL0 c b N n
theorem whileL_is (c : DT) (b : DS) (N : Nd) (n : Nat) : whileL c b N n = whileL0 c b N n := by unfold whileL; rfl
theorem whileL_zero {c : DT} {b : DS} {N : Nd} {r : En} {S : Mem} : whileL c b N 0 r S = False := by rw [whileL_is]; rfl
theorem whileL_succ {c : DT} {b : DS} {N : Nd} {n : Nat} {r : En} {S : Mem} : whileL c b N (n + 1) r S = c r S fun t S1 => match t with
    | true => b { N with nx := whileL c b N n, ct := whileL c b N n, bk := N.nx } r S1
    | false => N.nx r S1 := by rw [whileL_is, whileL_is]; rfl
abbrev mWhile (c : DT) (b : DS) : DS := fun N r S => ∃ n, whileL c b N n r S
theorem ms_while {c : Expr} {body : List Stmt} {tc : DT} {tb : DS} {pos : Pos} (hp : PassesOwn (model X.prog X.w) X.A X.env X.xe) (hc : PT X c (lT tc)) (hb : PSs X body (lS tb)) : PS X (.While c body [] pos) (lS (mWhile tc tb)) :=
  (ps_while hp hc hb).mi fun N s H ⟨r, S, M, N', R, ⟨n, h⟩, f⟩ => by
    refine ⟨fun m s2 H2 => ∃ r2 S2 M2, Rel r2 ⟨S2, M2, H2⟩ s2 ∧ Step ⟨S, M, H⟩ ⟨S2, M2, H2⟩ ∧ whileL tc tb N' m r2 S2, ⟨n, r, S, M, R, .refl, h⟩, ?_⟩
    rintro m s2 H2 ⟨r2, S2, M2, R2, k2, q2⟩
    cases m with
    | zero => rw [whileL_zero] at q2; exact q2.elim
    | succ m =>
      rw [whileL_succ] at q2
      refine ⟨r2, S2, M2, _, R2, q2, fun b w3 q3 k3 m3 => ?_⟩
      cases b with
      | true =>
        rw [if_pos rfl]
        refine ⟨fun s4 H4 => ∃ r4 S4 M4, Rel r4 ⟨S4, M4, H4⟩ s4 ∧ Step ⟨S, M, H⟩ ⟨S4, M4, H4⟩ ∧ whileL tc tb N' m r4 S4, fun s4 H4 h4 => ⟨m, Nat.lt_succ_self m, h4⟩, r2, w3.S, w3.M, _, R2.keep k3 m3, q3, ?_⟩
        have kk := k2.trans k3
        exact ⟨fun r' w' s' a b c => ⟨r', w'.S, w'.M, b, kk.trans c, a⟩, fun d w' v a b c e => f.rt d w' v a (kk.trans b) c e, fun r' w' s' a b c => f.nx r' w' s' a b (kk.trans c), fun r' w' s' a b c => ⟨r', w'.S, w'.M, b, kk.trans c, a⟩⟩
      | false =>
        rw [if_neg Bool.false_ne_true]
        exact f.nx r2 w3 s2 q3 (R2.keep k3 m3) (k2.trans k3)

/-! ### name = [..] -/
theorem ms_setLc {i : Nat} {y : Str} {py : Pos} {elt iter : Expr} {ifs : List Expr} {scope : Scope} {own : List (Str × Nat)} {pos spos : Pos} {wi : DI} {g : DG} {is : List Nat} {tt : DT} {te : DE} (hc : X.calm = true) (hN : X.N.Nodup) (hy : X.N[i]? = some y) (hyl : X.env.scope.names.lookup y = some .local)
    (hk : X.env.scope.kind = .function) (hl : (py.line == pos.line) = true) (hn : (scope.names.any fun (n, k) => n == y && (k == .local || k == .cell)) = false) (hi : PI X tg iter (lI wi)) (ok : BlkOk X.N X.env.scope scope own)
    (hg : ∀ (s : Shared) (H : Hp) (C : Addr) (cl : List (Str × Addr)) (fp : List Addr), PG (X.blk s H scope (compEnvC scope cl C X.env) fp) tg (lG is g)) (ht : ∀ (s : Shared) (H : Hp) (C : Addr) (cl : List (Str × Addr)) (fp : List Addr), PTs (X.blk s H scope (compEnvC scope cl C X.env) fp) ifs (lT tt))
    (he : ∀ (s : Shared) (H : Hp) (C : Addr) (cl : List (Str × Addr)) (fp : List Addr), PE (X.blk s H scope (compEnvC scope cl C X.env) fp) elt (lE te)) (hiv : ∀ i ∈ is, i ∈ own.map (·.2) := by decide) (hs : ∀ x, foldedSetIterable iter X.env x = pure x := by intro _; rfl) :
    PS X (.Assign [.Name y py] (.ListComp elt [⟨tg, iter, ifs, 0⟩] scope pos) spos) (lS (mSet i (mLc wi (own.map (·.2)) g tt te))) :=
  (ps_setLc hc hN hy hyl (sw_true hk hyl hl hn) hi ok hg ht he hs).mi fun N s H ⟨r, S, M, N', R, h, f⟩ => lc_imp hiv s H _ ⟨r, S, M, _, R, h, fun d w1 v q k m rr => f.nx _ w1 _ q ((R.keep k m).set rr) k⟩
end

/-! ### defs: what they promise, how they are called -/
/-- a def's promise in data -/
abbrev DSp := List D → Mem → WK → Prop
def lSp (f : DSp) : Sp := fun vs H Q _ => ∃ S M ds Q', Ok ⟨S, M, H⟩ ∧ Reps ⟨S, M, H⟩ vs ds ∧ f ds S Q' ∧ Then ⟨S, M, H⟩ Q' Q
/-- the def named x keeps its promise, by at most level k -/
structure Cal (P : Program) (w : World) (K : PySem.W.Frag) (mg : Str → Option Value) (base : Heap) (x : Str) (k : Nat) (f : DSp) : Prop where
  ex : ∃ (a : Addr) (fd : FuncData) (ps : List Str), FnOk P w K mg base CX0 k a fd ps (lSp f) ∧ mg x = some (.ref a) ∧ PySem.W.keepIn K (.ref a) = true ∧ Binds K fd ps []
theorem Cal.mono {P : Program} {w : World} {K : PySem.W.Frag} {mg : Str → Option Value} {base : Heap} {x : Str} {j k : Nat} {f : DSp} (c : Cal P w K mg base x j f) (h : j ≤ k) : Cal P w K mg base x k f :=
  let ⟨a, fd, ps, h1, h2, h3, h4⟩ := c.ex
  ⟨a, fd, ps, h1.mono h, h2, h3, h4⟩
theorem Cal.imp {P : Program} {w : World} {K : PySem.W.Frag} {mg : Str → Option Value} {base : Heap} {x : Str} {k : Nat} {f g : DSp} (c : Cal P w K mg base x k f) (h : ∀ ds S Q, g ds S Q → f ds S Q) : Cal P w K mg base x k g :=
  let ⟨a, fd, ps, h1, h2, h3, h4⟩ := c.ex
  ⟨a, fd, ps, h1.imp fun _ _ _ _ ⟨S, M, ds, Q', o, r, q, t⟩ => ⟨S, M, ds, Q', o, r, h _ _ _ q, t⟩, h2, h3, h4⟩
section
variable {X : Cx}
theorem me_call {x : Str} {p pos : Pos} {e : Expr} {es : List Expr} {t : DA} {k n : Nat} {f : DSp} (c : Cal X.prog X.w X.K X.mg X.base x k f) (hr : Room n X.A) (ha : PA X (e :: es) (lA t)) (hk : k ≤ n := by omega) (hg : Gl X x := by rfl)
    (hdb : (x == ("__debug__" : Str)) = false := by decide) (he : starEach (e :: es) X.env = (false, eval e X.env) :: starEach es X.env := by rfl) (hpl : (backTo pos (starEach es X.env)).any (·.1) = false := by rfl) :
    PE X (.Call (.Name x p) (e :: es) [] pos) (lE (mCall f t)) := by
  obtain ⟨a, fd, ps, h1, h2, h3, h4⟩ := c.ex
  refine (pe_call h1 (hr.mono hk) hg h2 h3 h4 .nil pass0 ha hdb he hpl).mi fun s H Q ⟨r, S, M, Q', R, t, k⟩ => ⟨r, S, M, _, R, t, fun ds w1 vs q k1 m1 r1 => ?_⟩
  show lSp f (vs ++ []) w1.H Q E0
  rw [List.append_nil]
  exact ⟨w1.S, w1.M, ds, Q', m1, r1, q, Then.after k k1⟩
end
/-- the slots at a def's begin -/
abbrev startD (n : Nat) (ds : List D) : En := ds.map some ++ List.replicate (n - ds.length) none
theorem reps_start {w : W} {N : List Str} {vs : List V} {ds : List D} (m : Ok w) (r : Reps w vs ds) : Rel (startD N.length ds) w (L2.start N vs) := by
  have hl := r.length
  refine ⟨m, by unfold startD L2.start; simp [hl], fun i d h => ?_⟩
  unfold startD at h
  by_cases hi : i < ds.length
  · rw [List.getElem?_append_left (by simpa using hi), List.getElem?_map] at h
    obtain ⟨d', h1, h2⟩ := Option.map_eq_some_iff.mp h
    cases h2
    obtain ⟨v, e1, e2⟩ := r.get h1
    refine ⟨v, ?_, e2⟩
    unfold L2.start
    rw [List.getElem?_append_left (by rw [List.length_map]; omega), List.getElem?_map, e1]
    rfl
  · rw [List.getElem?_append_right (by simpa using hi), List.getElem?_replicate] at h
    split at h <;> cases h
/-- what may be forgotten or taken as data at a def's end -/
def Shift (S : Mem) (d : D) (S' : Mem) (d' : D) : Prop := ∀ (M : Mem) (H : Hp) (v : V), Ok ⟨S, M, H⟩ → Rep ⟨S, M, H⟩ v d → ∃ M', Ok ⟨S', M', H⟩ ∧ Rep ⟨S', M', H⟩ v d' ∧ ∀ a, (S a = none → S' a = none ∧ M' a = M a)
theorem Shift.refl {S : Mem} {d : D} : Shift S d S d := fun M _ _ o r => ⟨M, o, r, fun _ h => ⟨h, rfl⟩⟩
/-- a list that changed is now data -/
theorem Shift.freeze {S : Mem} {p : Addr} {xs : List D} (h : S p = some (.lst xs)) : Shift S (.obj p) (rid S p) (.lst xs) := fun M H v o r => by
  cases r
  have kk : Keeps ⟨S, M, H⟩ ⟨rid S p, rid M p, H⟩ := fun a u ha na => ⟨ha, by
    by_cases e : a = p
    · subst e; exact rid_same
    · exact (rid_ne e).trans na⟩
  obtain ⟨vs, e1, e2, z⟩ := o.lst h
  refine ⟨rid M p, ⟨fun a u ha => ?_, fun a u ha => ?_⟩, .lst e1 rid_same (e2.keeps kk) z, fun a ha => ?_⟩
  · have ne : a ≠ p := fun e => by subst e; exact nomatch (show none = some u from rid_same (S := S) ▸ ha)
    exact (rid_ne ne).trans (o.sub a u ((rid_ne ne).symm.trans ha))
  · have ne : a ≠ p := fun e => by subst e; exact nomatch (show none = some u from rid_same (S := M) ▸ ha)
    obtain ⟨ho, hu, ro⟩ := o.mem a u ((rid_ne ne).symm.trans ha)
    exact ⟨ho, hu, ro.keeps kk⟩
  · have ne : a ≠ p := fun e => by subst e; rw [h] at ha; cases ha
    exact ⟨(rid_ne ne).trans ha, rid_ne ne⟩
theorem drop_keeps (S : Mem) (p : Addr) (M : Mem) (H : Hp) : Keeps ⟨S, M, H⟩ ⟨rid S p, M, H⟩ := fun _ _ h n => ⟨h, n⟩
/-- an object that is needed no more -/
theorem Shift.drop {S : Mem} {p : Addr} {d : D} : Shift S d (rid S p) d := fun M H v o r =>
  ⟨M, ⟨fun a u ha => by
    by_cases e : a = p
    · subst e; exact nomatch (show none = some u from rid_same (S := S) ▸ ha)
    · exact o.sub a u ((rid_ne e).symm.trans ha), fun a u ha => by
      obtain ⟨ho, hu, ro⟩ := o.mem a u ha
      exact ⟨ho, hu, ro.keeps (drop_keeps S p M H)⟩⟩, r.keeps (drop_keeps S p M H), fun a ha => ⟨by
    by_cases e : a = p
    · subst e; exact rid_same
    · exact (rid_ne e).trans ha, rfl⟩⟩
theorem Shift.trans {S S1 S2 : Mem} {d d1 d2 : D} (a : Shift S d S1 d1) (b : Shift S1 d1 S2 d2) : Shift S d S2 d2 := fun M H v o r => by
  obtain ⟨M1, o1, r1, k1⟩ := a M H v o r
  obtain ⟨M2, o2, r2, k2⟩ := b M1 H v o1 r1
  exact ⟨M2, o2, r2, fun c h => let ⟨x1, x2⟩ := k1 c h; let ⟨y1, y2⟩ := k2 c x1; ⟨y1, y2.trans x2⟩⟩

section
variable {P : Program} {w : World} {K : PySem.W.Frag} {mg : Str → Option Value} {base : Heap}
/-- what is asked of a def's body -/
abbrev endD (Q : WK) : Nd := { nx := fun _ S' => Q .non S', rt := fun d S' => ∃ S'' d', Shift S' d S'' d' ∧ Q d' S'' }
/-- THE RULE for a def -/
theorem def_ok {x qual : Str} {st : Stmt} {a : Addr} {fd : FuncData} {N ps : List Str} {k : Nat} {f : DSp} (F : Fun K x qual st a fd) (hm : mg x = some (.ref a)) (hb : Binds K fd ps []) (Sc : FnScope N ps (defScope st)) (t : DS) (len : ∀ ds S Q, f ds S Q → ds.length = ps.length)
    (der : ∀ (cdv : Value) (A : Around) (outer : List Env) (s : Shared) (H : Hp) (E : XK), Room k (A.deeper (envOfC qual (defScope st) s.heap.objs.size a cdv)) → PSs (cxOf CX0 P w K mg base N qual (defScope st) a cdv A outer s H E).nox (defBody st) (lS t))
    (sem : ∀ ds S Q, f ds S Q → t (endD Q) (startD N.length ds) S) : Cal P w K mg base x (k + 1) f := by
  refine ⟨a, fd, ps, F.ok Sc (fun vs H Q E ⟨S, M, ds, Q', o, r, q, _⟩ => r.length.trans (len ds S Q' q)) (fun cdv A outer s H vs Q E hr ⟨S, M, ds, Q', o, r, q, k⟩ => ?_), hm, F.kp, hb⟩
  refine ⟨_, der cdv A outer s H E hr, startD N.length ds, S, M, endD Q', reps_start o r, sem ds S Q' q, ⟨fun r' w' s' a b c => ?_, fun d w' v a b c e => ?_, fun _ _ _ a _ _ => a.elim, fun _ _ _ a _ _ => a.elim⟩⟩
  · exact k .non w' .non a c b.ok .non
  · obtain ⟨S'', d', sh, q'⟩ := a
    obtain ⟨M', o', r', kk⟩ := sh w'.M w'.H v c e
    refine k d' ⟨S'', M', w'.H⟩ v q' (fun c0 ob h n => ?_) o' r'
    obtain ⟨h1, h2, h3⟩ := b c0 ob h n
    obtain ⟨h4, h5⟩ := kk c0 h3
    exact ⟨h1, h5.trans h2, h4⟩
end
end ML

set_option maxRecDepth 100000
/-! ML7: index of lists and tuples. -/
namespace ML
open PySem PySem.Spec PyProof.Rows L2

/-- the first place of an equal one -/
def IdxAt (ys : List PyData) (p : PyData) (j : Nat) : Prop := (∃ z, ys[j]? = some z ∧ PyData.eqv z p = true) ∧ ∀ (m : Nat) (z : PyData), m < j → ys[m]? = some z → PyData.eqv z p = false
def rIdxT (K : PySem.W.Frag) : V → List V → Hp → VK → Prop := fun x xs H Q => ∃ (a : Addr) (y : V) (d : PyData) (ds : List PyData) (j : Nat), x = V.ref a ∧ xs = [y] ∧ Dp K H (V.ref a) (.tuple ds) ∧ Dp K H y d ∧
  SeqAt.shaped (.tuple ds) = true ∧ SeqAt.shaped d = true ∧ IdxAt ds d j ∧ Q (.int (j : Nat)) H
section
variable {X : Cx}
theorem mt_idxT (hu : X.A.units + 65 < cLine) : MtR X "tuple.index" (rIdxT X.K) := by
  intro pins s sg H x xs v us Q I rx rxs ⟨a, y, d, ds, j, ex, exs, hl, hy, sl, sd, ⟨⟨z, hz, hzj⟩, hno⟩, q⟩
  subst ex exs; cases rx
  obtain ⟨uy, rfl, ry⟩ := vals1 rxs
  obtain ⟨bs, r1⟩ := Dp.reads I d y uy hy ry
  have hxs : PyData.canLayAll0 ds = true := SeqAt.canLay_of_shaped sl
  cases hl with
  | tup hs ha =>
    obtain ⟨its, rv, ⟨⟨cls, dd, data, sls⟩, ho, hc, n, hdt⟩, hlen⟩ := I.tuple hs
    simp only at hc hdt; subst hc hdt
    obtain ⟨as, h4⟩ := Dp.readsAll I ds _ its ha rv
    have hn : its.length = ds.length := SeqAt.ReadsAll.length ds its as h4
    have hmap : its.map (SeqAt.readOf s.heap) = ds := SeqAt.readsAll_map ds its as hxs h4
    have hjl : j < its.length := by rw [hn]; exact (List.getElem?_eq_some_iff.mp hz).1
    have at2 : ∀ (m : Nat) (hm : m < its.toArray.size) (z' : PyData), ds[m]? = some z' → SeqAt.readOf s.heap its.toArray[m] = z' := fun m hm z' hz' => by
      have hml : m < its.length := by simpa using hm
      rw [← hmap, List.getElem?_map, List.getElem?_eq_getElem hml] at hz'
      simpa using Option.some.inj (show some (SeqAt.readOf s.heap its[m]) = some z' from hz')
    refine call_meets PySem.F.slot_tuple_index ⟨_, ho, rfl⟩ PySem.F.entry_tuple_index (PySem.F.args_tuple_index_2 _ _)
      (TI.tuple_indexAt a its.toArray n dd sls uy (fun u => PyData.eqv (SeqAt.readOf s.heap u) d) j (by simpa using hjl) ?_ ?_) ⟨ho, SeqAt.items_eqAt (vs := its.toArray) (show ReadsAll s.heap its.toArray.toList ds as from h4) r1 hxs (SeqAt.canLay_of_shaped sd) (room_in_shaped sd hu), ⟨.int (j : Nat), H, I.tok _, ⟨_, rfl⟩, q⟩⟩
    · show PyData.eqv (SeqAt.readOf s.heap its.toArray[j]) d = true
      rw [at2 j (by simpa using hjl) z hz]; exact hzj
    · intro m hm hmj
      have hmd : m < ds.length := by omega
      show PyData.eqv (SeqAt.readOf s.heap its.toArray[m]) d = false
      rw [at2 m hm _ (List.getElem?_eq_getElem hmd)]
      exact hno m _ hmj (List.getElem?_eq_getElem hmd)
def tIdx (K : PySem.W.Frag) (to : TE) (t : TA) : TE := fun s H Q => to s H fun x H1 => (tyV K "list" x H1 ∧ t s H1 fun xs H2 => rIndexD K x xs H2 Q) ∨
  ((∃ a o xs, x = .ref a ∧ H1 a = some (.frz o (.tup xs)) ∧ o.dict = none) ∧ t s H1 fun xs H2 => rIdxT K x xs H2 Q)
theorem pe_idx {o e : Expr} {apos cpos : Pos} {to : TE} {t : TA} (hu : X.A.units + 65 < cLine) (ho : PE X o to) (ha : PA X [e] t) (hbase : attributeBase o "index" X.env (eval o X.env) = eval o X.env)
    (hfew : ((backTo cpos (starEach [e] X.env)).all (fun x => !x.1) && (backToKw cpos (keywordEach [] X.env)).all (fun x => x.1.isSome) && decide ([e].length + ([] : List Keyword).length + (if ([] : List Keyword).isEmpty then 0 else 1) < 30)) = true)
    (hline : (apos.endLine == cpos.line) = true) (hs : starEach [e] X.env = (false, eval e X.env) :: starEach [] X.env) (hpl : (backTo cpos (starEach [] X.env)).any (·.1) = false) : PE X (.Call (.Attribute o "index" apos) [e] [] cpos) (tIdx X.K to t) := by
  refine ⟨fun pins s sg H Q I h => wpAny_Call_method_late hbase hfew hline rfl (thn (ho.run pins s sg H _ I h) fun v s1 ⟨x, H1, I1, r1, q1⟩ => ?_)⟩
  rcases q1 with ⟨ty, q1⟩ | ⟨⟨a, ob, xs, ex, eH, ed⟩, q1⟩
  · obtain ⟨h1, h2⟩ := tyV_is I1 r1 ty
    refine ⟨"list", "list.index", PySem.F.plainAttrs_list, PySem.F.slot_list_index, PySem.F.type_list_index, h1, h2, ?_⟩
    have hA := ha.run cpos pins s1 sg H1 _ I1 q1
    rw [hs] at hA ⊢
    exact Calls.callWith_builtin (by show (false || (backTo cpos (starEach [] X.env)).any (·.1)) = false; rw [hpl]; rfl) (Calls.evalArgs_plain (thn hA fun us s2 ⟨vs, H2, I2, r2, q2⟩ => mt_indexD hu pins s2 sg H2 x vs v us Q I2 r1 r2 q2))
  · subst ex; cases r1
    have ok : s1.heap.get? a = some ob ∧ ObjOk X.prog X.w H1 s1.heap a (.tup xs) := I1.hok a _ eH
    obtain ⟨g1, _, its, _, pt⟩ := ok
    refine ⟨"tuple", "tuple.index", PySem.F.plainAttrs_tuple, PySem.F.slot_tuple_index, PySem.F.type_tuple_index, pt.typeIs, fun b eb => ⟨ob, by cases eb; exact g1, ed⟩, ?_⟩
    have hA := ha.run cpos pins s1 sg H1 _ I1 q1
    rw [hs] at hA ⊢
    exact Calls.callWith_builtin (by show (false || (backTo cpos (starEach [] X.env)).any (·.1)) = false; rw [hpl]; rfl) (Calls.evalArgs_plain (thn hA fun us s2 ⟨vs, H2, I2, r2, q2⟩ => mt_idxT hu pins s2 sg H2 (.ref a) vs _ us Q I2 rfl r2 q2))
end
/-- x.index(y): x a list, or a tuple that is known -/
def isSeq (S : Mem) : D → Prop := fun d => match d with
  | .kt _ => True
  | .lst _ => True
  | .fls _ => True
  | .obj a => match S a with
    | some (.lst _) => True
    | _ => False
  | _ => False
abbrev mIdx (te : DE) (t : DA) : DE := fun r S Q => te r S fun d S1 => isSeq S1 d ∧ t r S1 fun ds S2 => match ds with
  | [y] => ∃ xs ys p j, asQ S2 d = some xs ∧ toPys xs = some ys ∧ toPyM S2 y = some p ∧ SeqAt.shaped (.list ys) = true ∧ SeqAt.shaped p = true ∧ IdxAt ys p j ∧ Q (.int (j : Nat)) S2
  | _ => False
theorem shaped_lt (ys : List PyData) : SeqAt.shaped (.tuple ys) = SeqAt.shaped (.list ys) := by
  unfold SeqAt.shaped
  simp only [PyData.canLay0, PyData.depth]
  rfl
section
variable {X : Cx}
theorem me_idx {o e : Expr} {apos cpos : Pos} {to : DE} {t : DA} {n : Nat} (hr : Room n X.A) (ho : PE X o (lE to)) (ha : PA X [e] (lA t)) (hbase : attributeBase o "index" X.env (eval o X.env) = eval o X.env := by rfl)
    (hfew : ((backTo cpos (starEach [e] X.env)).all (fun x => !x.1) && (backToKw cpos (keywordEach [] X.env)).all (fun x => x.1.isSome) && decide ([e].length + ([] : List Keyword).length + (if ([] : List Keyword).isEmpty then 0 else 1) < 30)) = true := by rfl)
    (hline : (apos.endLine == cpos.line) = true := by rfl) (hs : starEach [e] X.env = (false, eval e X.env) :: starEach [] X.env := by rfl) (hpl : (backTo cpos (starEach [] X.env)).any (·.1) = false := by rfl) : PE X (.Call (.Attribute o "index" apos) [e] [] cpos) (lE (mIdx to t)) :=
  (pe_idx (hu65 hr) ho ha hbase hfew hline hs hpl).mi fun s H Q ⟨r, S, M, Q', R, t, k⟩ => ⟨r, S, M, _, R, t, fun d w1 v q k1 m1 r1 => by
    obtain ⟨hd, q⟩ := q
    have list : ∀ a, v = .ref a → (∀ w2, Keeps w1 w2 → Ok w2 → ∀ xs, asQ w2.S d = some xs → ∃ vs, SqL X.K w2.H a vs ∧ Reps w2 vs xs) → (lA _ s w1.H fun xs H2 => rIndexD X.K v xs H2 Q) := fun a ev hq =>
      ⟨r, w1.S, w1.M, _, R.keep k1 m1, q, fun ds w2 vs q2 k2 m2 r2 => by
        subst ev
        split at q2
        · next y =>
          obtain ⟨xs, ys, p, j, h1, h2, h3, h4, h5, ⟨⟨z, hz, hzj⟩, hno⟩, h7⟩ := q2
          obtain ⟨vy, rfl, ry⟩ := reps1 r2
          obtain ⟨vs', e1, e2⟩ := hq w2 (k2.keeps m1) m2 xs h1
          exact ⟨a, vy, p, ys, j, z, rfl, rfl, .lst e1 (reps_dp xs _ ys h2 e2), rep_dpM m2 h3 ry, h4, h5, hz, hzj, hno, k _ w2 _ h7 (k1.trans k2) m2 (.int _)⟩
        · exact q2.elim⟩
    cases r1 with
    | @kt a ob vs ds e ed n rr z =>
      refine .inr ⟨⟨a, ob, vs, rfl, e, ed⟩, r, w1.S, w1.M, _, R.keep k1 m1, q, fun es w2 us q2 k2 m2 r2 => ?_⟩
      split at q2
      · next y =>
        obtain ⟨xs, ys, p, j, h1, h2, h3, h4, h5, h6, h7⟩ := q2
        have h1 : some ds = some xs := h1
        cases h1
        obtain ⟨vy, rfl, ry⟩ := reps1 r2
        have kk := k2.keeps m1
        exact ⟨a, vy, p, ys, j, rfl, rfl, .tup (.inl (.inr ⟨_, (kk _ _ e n).1⟩)) (reps_dp ds _ ys h2 (rr.keeps kk)), rep_dpM m2 h3 ry, by rw [shaped_lt]; exact h4, h5, h6, k _ w2 _ h7 (k1.trans k2) m2 (.int _)⟩
      · exact q2.elim
    | @lst a vs ds e n rr z =>
      exact .inl ⟨.inl ⟨rfl, vs, .inl (.inl e)⟩, list a rfl fun w2 kk _ xs h1 => by
        have h1 : some ds = some xs := h1
        cases h1
        exact ⟨vs, .inl (.inl (kk _ _ e n).1), rr.keeps kk⟩⟩
    | @fls a ob vs ds e n rr z =>
      exact .inl ⟨.inl ⟨rfl, vs, .inl (.inr ⟨_, e⟩)⟩, list a rfl fun w2 kk _ xs h1 => by
        have h1 : some ds = some xs := h1
        cases h1
        exact ⟨vs, .inl (.inr ⟨_, (kk _ _ e n).1⟩), rr.keeps kk⟩⟩
    | obj a =>
      unfold isSeq at hd
      dsimp only at hd
      split at hd
      · next xs0 e =>
        obtain ⟨vs, e1, _, _⟩ := m1.lst e
        exact .inl ⟨.inl ⟨rfl, vs, .inl (.inl e1)⟩, list a rfl fun w2 kk m2 xs h1 => by
          obtain ⟨b, vs', eb, f1, f2, _⟩ := asL_rep (K := X.K) m2 (show asL w2.S (.obj a) = some xs from h1) (.obj a)
          cases eb
          exact ⟨vs', f1, f2⟩⟩
      · exact hd.elim
    | _ => exact hd.elim⟩
end
end ML

set_option maxRecDepth 100000
/-! MX: words for proofs in data. -/
namespace ML
open PySem PySem.Spec PyProof.Rows L2
theorem isLst_obj {S : Mem} {a : Addr} {xs : List D} (h : S a = some (.lst xs)) : isLst S (.obj a) := by
  unfold isLst; simp only [h]
/-- a comprehension whose step is pure -/
theorem lcL_fm {α : Type} {vs : List Nat} {b : DG} {t : DT} {e : DE} {r : En} {Q : WK} {S : Mem} {enc f : α → D} {p : α → Bool} : ∀ (xs : List α) (acc : List D),
    (∀ x ∈ xs, ∀ (K : WK) (K0 : Mem → Prop), (p x = true → K (f x) S) → (p x = false → K0 S) → b (enc x) (wipeD r vs) S fun r1 S1 => t r1 S1 fun c S2 => match c with
      | true => e r1 S2 K
      | false => K0 S2) → Q (.lst (acc ++ (xs.filter p).map f)) S → lcL none vs b t e r Q (xs.map enc) acc S
  | [], acc, _, q => by
    rw [List.map_nil, lcL_nil]
    show Q (.lst acc) S
    simpa using q
  | x :: xs, acc, h, q => by
    rw [List.map_cons, lcL_cons]
    refine h x List.mem_cons_self _ _ (fun hp => lcL_fm xs _ (fun y hy => h y (List.mem_cons_of_mem _ hy)) ?_) (fun hp => lcL_fm xs _ (fun y hy => h y (List.mem_cons_of_mem _ hy)) ?_)
    · rw [List.filter_cons_of_pos hp] at q
      simpa using q
    · rw [List.filter_cons_of_neg (by simp [hp])] at q
      exact q
theorem lcL_map {α : Type} {vs : List Nat} {b : DG} {e : DE} {r : En} {Q : WK} {S : Mem} {enc f : α → D} : ∀ (xs : List α) (acc : List D),
    (∀ x ∈ xs, ∀ K : WK, K (f x) S → b (enc x) (wipeD r vs) S fun r1 S1 => e r1 S1 K) → Q (.lst (acc ++ xs.map f)) S → lcL none vs b mYes e r Q (xs.map enc) acc S
  | [], acc, _, q => by
    rw [List.map_nil, lcL_nil]
    show Q (.lst acc) S
    simpa using q
  | x :: xs, acc, h, q => by
    rw [List.map_cons, lcL_cons]
    exact h x List.mem_cons_self _ (lcL_map xs _ (fun y hy => h y (List.mem_cons_of_mem _ hy)) (by simpa using q))
/-- a loop by what holds ahead of the rest -/
theorem forL_inv {α : Type} {b : DG} {body : DS} {N : Nd} {enc : α → D} (I : List α → En → Mem → Prop)
    (h : ∀ x rest r S (nx : En → Mem → Prop), I (x :: rest) r S → (∀ r' S', I rest r' S' → nx r' S') → b (enc x) r S fun r1 S1 => body { N with nx := nx, ct := nx, bk := N.nx } r1 S1)
    (hd : ∀ r S, I [] r S → N.nx r S) : ∀ (xs : List α) (r : En) (S : Mem), I xs r S → forL none b body N (xs.map enc) r S
  | [], r, S, q => by rw [List.map_nil, forL_nil]; exact hd r S q
  | x :: xs, r, S, q => by rw [List.map_cons, forL_cons]; exact h x xs r S _ q fun r' S' q' => forL_inv I h hd xs r' S' q'
theorem intsD_eq (lo : Int) (n : Nat) : intsD lo n = (List.range n).map fun i => D.int (lo + (i : Nat)) := rfl
/-! ### data that is compared -/
theorem toPys_map {α : Type} {enc : α → D} {f : α → PyData} : ∀ {xs : List α}, (∀ x ∈ xs, toPy (enc x) = some (f x)) → toPys (xs.map enc) = some (xs.map f)
  | [], _ => rfl
  | x :: xs, h => by
    show (match toPy (enc x), toPys (xs.map enc) with | some p, some ps => some (p :: ps) | _, _ => none) = _
    rw [h x List.mem_cons_self, toPys_map fun y hy => h y (List.mem_cons_of_mem _ hy)]
    rfl
theorem canLay_map {α : Type} {f : α → PyData} : ∀ {xs : List α}, (∀ x ∈ xs, (f x).canLay0 = true) → PyData.canLayAll0 (xs.map f) = true
  | [], _ => by simp [PyData.canLayAll0]
  | x :: xs, h => by
    rw [List.map_cons]
    simp only [PyData.canLayAll0, Bool.and_eq_true]
    exact ⟨h x List.mem_cons_self, canLay_map fun y hy => h y (List.mem_cons_of_mem _ hy)⟩
theorem depth_map {α : Type} {f : α → PyData} {n : Nat} : ∀ {xs : List α}, (∀ x ∈ xs, (f x).depth ≤ n) → PyData.depthAll (xs.map f) ≤ n
  | [], _ => by simp [PyData.depthAll]
  | x :: xs, h => by
    rw [List.map_cons]
    simp only [PyData.depthAll]
    have h1 := h x List.mem_cons_self
    have h2 := depth_map (xs := xs) fun y hy => h y (List.mem_cons_of_mem _ hy)
    omega
theorem shaped_of {p : PyData} (h1 : p.canLay0 = true) (h2 : p.depth ≤ 64) : SeqAt.shaped p = true := by
  unfold SeqAt.shaped
  rw [h1, decide_eq_true h2]; rfl
theorem shaped_list {ps : List PyData} {n : Nat} (h1 : PyData.canLayAll0 ps = true) (h2 : PyData.depthAll ps ≤ n) (hn : n < 64) : SeqAt.shaped (.list ps) = true :=
  shaped_of (by simpa only [PyData.canLay0] using h1) (by simp only [PyData.depth]; omega)
theorem shaped_tuple {ps : List PyData} {n : Nat} (h1 : PyData.canLayAll0 ps = true) (h2 : PyData.depthAll ps ≤ n) (hn : n < 64) : SeqAt.shaped (.tuple ps) = true :=
  shaped_of (by simpa only [PyData.canLay0] using h1) (by simp only [PyData.depth]; omega)
theorem shaped_int (i : Int) : SeqAt.shaped (.int i) = true := shaped_of (by simp [PyData.canLay0]) (by simp [PyData.depth])
theorem shaped_none : SeqAt.shaped .none = true := shaped_of (by simp [PyData.canLay0]) (by simp [PyData.depth])
theorem eqv_int (i j : Int) : PyData.eqv (.int i) (.int j) = (i == j) := by simp only [PyData.eqv]
theorem eqvAll_map {α : Type} {f : α → PyData} (h : ∀ x y, PyData.eqv (f x) (f y) = true ↔ x = y) : ∀ xs ys : List α, PyData.eqvAll (xs.map f) (ys.map f) = true ↔ xs = ys
  | [], [] => by simp [PyData.eqvAll]
  | [], y :: ys => by simp [PyData.eqvAll]
  | x :: xs, [] => by simp [PyData.eqvAll]
  | x :: xs, y :: ys => by
    rw [List.map_cons, List.map_cons]
    simp only [PyData.eqvAll, Bool.and_eq_true, h, eqvAll_map h xs ys, List.cons.injEq]
theorem eqv_tuple (xs ys : List PyData) : PyData.eqv (.tuple xs) (.tuple ys) = PyData.eqvAll xs ys := by simp only [PyData.eqv]
theorem eqv_list (xs ys : List PyData) : PyData.eqv (.list xs) (.list ys) = PyData.eqvAll xs ys := by simp only [PyData.eqv]
/-- lists of ints -/
theorem toPys_ints (ns : List Int) : toPys (ns.map D.int) = some (ns.map PyData.int) := toPys_map fun _ _ => rfl
theorem shaped_ints (ns : List Int) : SeqAt.shaped (.list (ns.map PyData.int)) = true :=
  shaped_list (n := 0) (canLay_map fun _ _ => by simp [PyData.canLay0]) (depth_map fun _ _ => by simp [PyData.depth]) (by decide)
theorem shaped_intsT (ns : List Int) : SeqAt.shaped (.tuple (ns.map PyData.int)) = true :=
  shaped_tuple (n := 0) (canLay_map fun _ _ => by simp [PyData.canLay0]) (depth_map fun _ _ => by simp [PyData.depth]) (by decide)
theorem eqv_ints (xs ys : List Int) : PyData.eqv (.list (xs.map PyData.int)) (.list (ys.map PyData.int)) = decide (xs = ys) := by
  rw [eqv_list, Bool.eq_iff_iff, decide_eq_true_iff]
  exact eqvAll_map (fun x y => by rw [eqv_int]; simp) xs ys
theorem eqv_intsT (xs ys : List Int) : PyData.eqv (.tuple (xs.map PyData.int)) (.tuple (ys.map PyData.int)) = decide (xs = ys) := by
  rw [eqv_tuple, Bool.eq_iff_iff, decide_eq_true_iff]
  exact eqvAll_map (fun x y => by rw [eqv_int]; simp) xs ys
/-- two lists of ints that rise and have the same items -/
theorem sorted_unique : ∀ {xs ys : List Int}, xs.Perm ys → xs.Pairwise (· ≤ ·) → ys.Pairwise (· ≤ ·) → xs = ys
  | [], ys, p, _, _ => (List.Perm.nil_eq p)
  | x :: xs, [], p, _, _ => absurd p.length_eq (by simp)
  | x :: xs, y :: ys, p, h1, h2 => by
    obtain ⟨a1, a2⟩ := List.pairwise_cons.mp h1
    obtain ⟨b1, b2⟩ := List.pairwise_cons.mp h2
    have e : x = y := by
      have m1 : x ∈ y :: ys := p.mem_iff.mp List.mem_cons_self
      have m2 : y ∈ x :: xs := p.mem_iff.mpr List.mem_cons_self
      rcases List.mem_cons.mp m1 with e | e
      · exact e
      · rcases List.mem_cons.mp m2 with f | f
        · exact f.symm
        · have := a1 y f; have := b1 x e; omega
    subst e
    rw [sorted_unique (List.Perm.cons_inv p) a2 b2]

/-! ### cuts -/
theorem cutX_map {α β : Type} (f : α → β) (xs : List α) (lo hi : Option Int) : cutX (xs.map f) lo hi = (cutX xs lo hi).map f := by
  unfold cutX
  rw [List.length_map, List.map_take, List.map_drop]
theorem cutX_take {α : Type} (xs : List α) (n : Nat) : cutX xs none (some (n : Int)) = xs.take n := by
  unfold cutX
  rw [HT.sIx_none, HT.sIx_nat, List.drop_zero, Nat.sub_zero]
  by_cases h : n ≤ xs.length
  · rw [Nat.min_eq_left h]
  · rw [Nat.min_eq_right (by omega), List.take_length, List.take_of_length_le (by omega)]
theorem cutX_drop {α : Type} (xs : List α) (n : Nat) : cutX xs (some (n : Int)) none = xs.drop n := by
  unfold cutX
  rw [HT.sIx_none, HT.sIx_nat]
  by_cases h : n ≤ xs.length
  · rw [Nat.min_eq_left h]
    exact List.take_of_length_le (by rw [List.length_drop]; omega)
  · rw [Nat.min_eq_right (by omega), Nat.sub_self, List.take_zero, List.drop_eq_nil_of_le (by omega)]
theorem cutX_init {α : Type} (xs : List α) : cutX xs none (some (-1)) = xs.dropLast := by
  unfold cutX
  rw [HT.sIx_none, List.drop_zero, Nat.sub_zero, List.dropLast_eq_take]
  congr 1
  show (if (-1 : Int) < 0 then ((-1 : Int) + (xs.length : Int)).toNat else min (-1 : Int).toNat xs.length) = _
  rw [if_pos (by decide)]
  omega
theorem atI_neg1 {α : Type} {xs : List α} {x : α} (h : xs[xs.length - 1]? = some x) : atI xs (-1) = some x := by
  have hl := (List.getElem?_eq_some_iff.mp h).1
  unfold atI ixN
  rw [if_neg (by decide), if_pos (by omega), show ((-1 : Int) + (xs.length : Int)).toNat = xs.length - 1 by omega]
  exact h
theorem asT_cases {d : D} {xs : List D} (h : asT d = some xs) : d = .tup xs ∨ d = .kt xs := by
  cases d <;> first | exact .inl (congrArg D.tup (Option.some.inj h)) | exact .inr (congrArg D.kt (Option.some.inj h)) | exact nomatch h
/-- the counter of draws as it stands -/
def Town (S : Mem) (t : Addr) (k : Nat) : Prop := ∃ zs, S t = some (.lst zs) ∧ zs.length ≤ k
theorem Town.up {S : Mem} {t : Addr} {k : Nat} {zs : List D} (h : zs.length ≤ k) : Town (up S t (.lst (zs ++ [.int 0]))) t (k + 1) := ⟨_, up_same, by rw [List.length_append, List.length_singleton]; omega⟩
theorem Town.mono {S : Mem} {t : Addr} {j k : Nat} (h : Town S t j) (l : j ≤ k) : Town S t k := let ⟨zs, h1, h2⟩ := h; ⟨zs, h1, Nat.le_trans h2 l⟩
/-! ### the laws' own helpers -/
/-- a draw: any number below many; the counter grows by one -/
def drawS : DSp := fun ds S Q => ∃ (ns : List Int) (t : Addr) (zs : List D) (many : Int), ds = [.fls (ns.map .int), .obj t, .int many] ∧ S t = some (.lst zs) ∧ zs.length < 1000000 ∧ 0 < many ∧ ∀ r : Int, 0 ≤ r → r < many → Q (.int r) (up S t (.lst (zs ++ [.int 0])))
theorem atI_ints {ns : List Int} {i : Int} (h0 : 0 ≤ i) (h1 : i < ns.length) : ∃ c, atI (ns.map D.int) i = some (.int c) := by
  obtain ⟨j, rfl⟩ := Int.eq_ofNat_of_zero_le h0
  have hj : j < ns.length := by omega
  exact ⟨ns[j], atI_nat (by rw [List.getElem?_map, List.getElem?_eq_getElem hj]; rfl)⟩
theorem atI_map {α : Type} {enc : α → D} {xs : List α} {i : Int} (h0 : 0 ≤ i) (h1 : i < xs.length) : ∃ (x : α), xs[i.toNat]? = some x ∧ atI (xs.map enc) i = some (enc x) := by
  obtain ⟨j, rfl⟩ := Int.eq_ofNat_of_zero_le h0
  have hj : j < xs.length := by omega
  exact ⟨xs[j], by simp [hj], atI_nat (by rw [List.getElem?_map, List.getElem?_eq_getElem hj]; rfl)⟩
theorem ifB {b : Bool} {P Q : Prop} (h1 : b = true → P) (h2 : b = false → Q) : match b with | true => P | false => Q := by
  cases b with
  | true => exact h1 rfl
  | false => exact h2 rfl
end ML

set_option maxRecDepth 100000
namespace ML
open PySem PySem.Spec PyProof.Rows L2
/-! ### the head: a Hook that keeps no list -/
def notL (g : Addr → Option Obj) (a : Addr) : Bool := match g a with
  | some o => o.cls != .type "list"
  | none => true
def kN (n : Nat) (g : Addr → Option Obj) : PySem.W.Frag := He.frG g ((He.asD g n).filter (notL g))
def noL (K : PySem.W.Frag) : Bool := K.all fun p => p.2.cls != .type "list"
def obsN (n : Nat) (fa : List He.Fa) (fn : List He.DefD) (g : Addr → Option Obj) : Bool × He.AlD := (noL (kN n g), He.obsD fa fn (kN n g))
def hookN (n : Nat) (fa : List He.Fa) (fn : List He.DefD) : PySem.W.Hook where
  α := Bool × He.AlD
  obs := fun s => obsN n fa fn s.heap.get?
  val := fun _ => (true, He.valD fn)
  says := fun _ h => ∃ K : PySem.W.Frag, K.In h ∧ noL K = true ∧ He.SaysD fa fn K
  of := fun _ _ e => ⟨_, He.frG_in, congrArg (fun z : Bool × He.AlD => z.1) e, congrArg (fun z : Bool × He.AlD => z.2) e⟩
  keeps := fun _ _ _ ⟨K, hK, c⟩ k => ⟨K, PySem.W.Frag.In.keeps hK k, c⟩
theorem obsN_eq {n : Nat} {fa : List He.Fa} {fn : List He.DefD} {g : Addr → Option Obj} {s : Shared} (h : ∀ a, g a = s.heap.get? a) : obsN n fa fn g = (hookN n fa fn).obs s := by
  obtain rfl : g = s.heap.get? := funext h
  rfl
theorem noL_at {K : PySem.W.Frag} (h : noL K = true) {a : Addr} {o : Obj} (e : K.lookup a = some o) : o.cls ≠ .type "list" := by
  have m : ∀ (L : List (Addr × Obj)), (L.all fun p => p.2.cls != .type "list") = true → L.lookup a = some o → o.cls ≠ .type "list" := by
    intro L
    induction L with
    | nil => intro _ e; cases e
    | cons p r ih =>
      obtain ⟨b, u⟩ := p
      intro hh e
      rw [List.all_cons, Bool.and_eq_true] at hh
      rw [List.lookup_cons] at e
      split at e
      · cases e
        have := hh.1
        intro z
        simp [z] at this
      · exact ih hh.2 e
  exact m K h e
section
variable {P : Program} {w : World} {K : PySem.W.Frag} {mg : Str → Option Value} {base : Heap}
theorem def_okF {x : Str} {st : Stmt} {dvs : List V} {kws : List (Str × V)} {a : Addr} {fd : FuncData} {N ps : List Str} {k : Nat} {f : DSp} (F : FunD K x x (defArgs st) (defBody st) (defScope st) dvs kws a fd) (Sc : FnScope N ps (defScope st)) (t : DS) (len : ∀ ds S Q, f ds S Q → ds.length = ps.length)
    (der : ∀ (cdv : Value) (A : Around) (outer : List Env) (s : Shared) (H : Hp) (E : XK), Room k (A.deeper (envOfC x (defScope st) s.heap.objs.size a cdv)) → PSs (cxOf CX0 P w K mg base N x (defScope st) a cdv A outer s H E).nox (defBody st) (lS t))
    (sem : ∀ ds S Q, f ds S Q → t (endD Q) (startD N.length ds) S) : FnOk P w K mg base CX0 (k + 1) a fd ps (lSp f) := by
  refine F.ok Sc (fun vs H Q E ⟨S, M, ds, Q', o, r, q, _⟩ => r.length.trans (len ds S Q' q)) (fun cdv A outer s H vs Q E hr ⟨S, M, ds, Q', o, r, q, k⟩ => ?_)
  refine ⟨_, PSs.nox (der cdv A outer s H E hr), startD N.length ds, S, M, endD Q', reps_start o r, sem ds S Q' q, ⟨fun r' w' s' a b c => ?_, fun d w' v a b c e => ?_, fun _ _ _ a _ _ => a.elim, fun _ _ _ a _ _ => a.elim⟩⟩
  · exact k .non w' .non a c b.ok .non
  · obtain ⟨S'', d', sh, q'⟩ := a
    obtain ⟨M', o', r', kk⟩ := sh w'.M w'.H v c e
    refine k d' ⟨S'', M', w'.H⟩ v q' (fun c0 ob h n => ?_) o' r'
    obtain ⟨h1, h2, h3⟩ := b c0 ob h n
    obtain ⟨h4, h5⟩ := kk c0 h3
    exact ⟨h1, h5.trans h2, h4⟩
theorem def_okD {x : Str} {st : Stmt} {a : Addr} {fd : FuncData} {N ps : List Str} {k : Nat} {f : DSp} (F : FunD K x x (defArgs st) (defBody st) (defScope st) [] [] a fd) (hm : mg x = some (.ref a)) (hb : Binds K fd ps []) (Sc : FnScope N ps (defScope st)) (t : DS) (len : ∀ ds S Q, f ds S Q → ds.length = ps.length)
    (der : ∀ (cdv : Value) (A : Around) (outer : List Env) (s : Shared) (H : Hp) (E : XK), Room k (A.deeper (envOfC x (defScope st) s.heap.objs.size a cdv)) → PSs (cxOf CX0 P w K mg base N x (defScope st) a cdv A outer s H E).nox (defBody st) (lS t))
    (sem : ∀ ds S Q, f ds S Q → t (endD Q) (startD N.length ds) S) : Cal P w K mg base x (k + 1) f :=
  ⟨a, fd, ps, def_okF F Sc t len der sem, hm, F.kp, hb⟩
end
/-- what the law's def is asked -/
theorem law_sp {K : PySem.W.Frag} {H : Hp} {a : Addr} {ns : List Int} (nl : noL K = true) (hl : ns.length ≤ sizeLine) (hO : Only H) (hS : SqL K H a (ns.map V.int)) {f : DSp} (hf : ∀ S, f [.fls (ns.map .int)] S fun d _ => d = .bl true) : lSp f [.ref a] H (fun v _ => v = .bl true) fun _ _ _ => False := by
  have hA : ∃ o, H a = some (.frz o (.lst (ns.map V.int))) := by
    rcases hS with h | ⟨o, its, n, h, hc, _⟩
    · rcases h with h | ⟨o, h⟩
      · rcases hO a with z | ⟨o, xs, z⟩
        · rw [h] at z; cases z
        · rw [h] at z; cases z
      · exact ⟨o, h⟩
    · exact absurd hc (noL_at nl h)
  obtain ⟨o, hA⟩ := hA
  refine ⟨fun _ => none, fun _ => none, [.fls (ns.map .int)], _, ⟨fun _ _ h => (by cases h), fun _ _ h => (by cases h)⟩, .cons (.fls hA rfl ?_ (by rw [List.length_map]; exact hl)) .nil, hf _, fun d w' v e _ _ r => ?_⟩
  · clear hA hS hl hO hf
    induction ns with
    | nil => exact .nil
    | cons n ns ih => exact .cons (.int _) ih
  · have e' : d = D.bl true := e
    subst e'
    cases r
    rfl
theorem walkML {l : PySem.W.OpenLaw} {n k m : Nat} {q : Program} {loose : List Str} {XP : (Str → Option Value) → Heap → Prop} {d : DefRec} {fa : List He.Fa} {fn : List He.DefD} {f : DSp}
    (hn : l.most = some n) (hn2 : n ≤ sizeLine) (hdf : d.params.defaults = []) (hnm : d.name = ("law" : Str)) (hr : Room k callerA)
    (F : ∀ (w : World) (K : PySem.W.Frag) (mg : Str → Option Value) (fA : Addr) (h : Heap), K.In h → h.Ns mainGlobals mg → mg ("law" : Str) = some (.ref fA) → He.SaysD fa fn K →
      ∃ fd : FuncData, (∀ (s : Shared) (u : Value), BindsTo s fd ⟨[u], []⟩ [("script", u)]) ∧
        ∀ base : Heap, K.In base → base.Ns mainGlobals mg → FnOk l.prog w K mg base CX0 k fA fd ["script"] (lSp f))
    (hf : ∀ (ns : List Int) S, f [.fls (ns.map .int)] S fun d _ => d = .bl true) :
    PySem.W.WalkO q loose XP (fun w h => (hookN m fa fn).says w h) l.row.toRowW d [] (fun f vs => PySem.call f vs) := by
  refine L2.walk_ofE (n := n) (k := k) (x := "script") (CX := L2.CX0) hn hn2 hdf hr (fun w mg fA h Y G hmg0 => ?_) (fun _ _ _ _ z => z)
  obtain ⟨K, KX, nl, c⟩ := Y
  rw [hnm] at hmg0
  obtain ⟨fd, hb, hF⟩ := F w K mg fA h KX G hmg0 c
  exact ⟨K, fd, lSp f, KX, hb, fun H a ns hl hO hS => law_sp nl (Nat.le_trans hl hn2) hO hS (hf ns), hF⟩
theorem glint {mg : Str → Option Value} {x : Str} {i : Int} (h : ∃ t, mg x = some (.int i t)) : GlC mg x (.int i) := h.elim fun t e => ⟨_, e, t, rfl⟩
theorem glstr {mg : Str → Option Value} {x : Str} {i : Str} (h : ∃ t, mg x = some (.str i t)) : GlC mg x (.str i) := h.elim fun t e => ⟨_, e, t, rfl⟩
end ML

set_option maxRecDepth 100000
namespace LW
open PySem PySem.Spec PyProof.Rows L2 ML
section
variable {P : Program} {w : World} {K : PySem.W.Frag} {mg : Str → Option Value} {base : Heap}
def topS (i : Nat) : Stmt := PySem.Challenge.pw_parttree_k22_whole_around_a_place.main.body.getD i (.Pass ⟨0, 0, 0, 0⟩)
/-! ### around -/
abbrev s_around : Stmt := topS 1
abbrev nm_around : List Str := ["rows", "at", "high", "first"]
theorem sc_around : FnScope nm_around ["rows", "at", "high"] (defScope s_around) := ⟨rfl, rfl, rfl, by decide +kernel, rfl, by decide +kernel, by decide +kernel⟩
abbrev m_around : DS :=
    (mSeq (mSet 3 (mCall oMax2 (mCons (mC (.int 0)) (mCons (mCall oMin2 (mCons (mBin oSub (mVar 1) (mBin oFdiv (mVar 2) (mC (.int 2)))) (mCons (mBin oSub (mCall oLen (mCons (mVar 0) mNil)) (mVar 2)) mNil))) mNil))))
    (mRet (mSl (mVar 0) (mPart (mVar 3)) (mPart (mBin oAdd (mVar 3) (mVar 2))))))
theorem d_around {n : Nat} (b_len : mg "len" = none) (b_max : mg "max" = none) (b_min : mg "min" = none) {a : Addr} {cdv : Value} {A : Around} {outer : List Env} {s : Shared} {H : Hp} {E : XK} (hr : Room n (A.deeper (envOfC "around" (defScope s_around) s.heap.objs.size a cdv))) :
    PSs (cxOf CX0 P w K mg base nm_around "around" (defScope s_around) a cdv A outer s H E).nox (defBody s_around) (lS (m_around)) :=
    (mss_cons (ms_set (i := 3) sc_around.nd rfl (by first | exact Or.inl rfl | exact Or.inr rfl) (me_max2 rfl b_max (ma_cons me_int (ma_cons (me_min2 rfl b_min (ma_cons (me_sub (me_var 1) (me_fdiv (me_var 2) me_int)) (ma_cons (me_sub (me_len b_len (ma_cons (me_var 0) ma_nil)) (me_var 2)) ma_nil))) ma_nil))))
    (mss_one (ms_ret (me_slice (me_var 0) (mo_some (me_var 3)) (mo_some (me_add (me_var 3) (me_var 2)))))))
/-! ### _law_draw -/
abbrev s__law_draw : Stmt := topS 3
abbrev nm__law_draw : List Str := ["script", "town", "many", "k", "cell", "number", "more"]
theorem sc__law_draw : FnScope nm__law_draw ["script", "town", "many"] (defScope s__law_draw) := ⟨rfl, rfl, rfl, by decide +kernel, rfl, by decide +kernel, by decide +kernel⟩
abbrev m__law_draw : DS :=
    (mSeq (mDrop (mAppend (mVar 1) (mCons (mC (.int 0)) mNil)))
    (mSeq (mSet 3 (mCall oLen (mCons (mVar 1) mNil)))
    (mSeq (mSet 4 (mC (.int 0)))
    (mSeq (mIfS (mTru (mVar 0)) (mSet 4 (mBin oIx (mVar 0) (mBin oMod (mVar 3) (mCall oLen (mCons (mVar 0) mNil))))) mNx)
    (mSeq (mSet 5 (mBin oMod (mBin oAdd (mVar 4) (mBin oMul (mC (.int 104729)) (mVar 3))) (mC (.int 4294967291))))
    (mSeq (mSet 5 (mBin oMod (mBin oMul (mBin oMod (mBin oMul (mVar 5) (mVar 5)) (mC (.int 4294967279))) (mC (.int 48271))) (mC (.int 4294967291))))
    (mSeq (mSet 6 (mBin oMod (mBin oMul (mBin oMod (mBin oMul (mVar 5) (mVar 5)) (mC (.int 4294967279))) (mC (.int 69621))) (mC (.int 4294967291))))
    (mRet (mBin oMod (mBin oAdd (mBin oMul (mBin oFdiv (mVar 5) (mC (.int 64))) (mC (.int 67108864))) (mBin oFdiv (mVar 6) (mC (.int 64)))) (mVar 2))))))))))
theorem d__law_draw {n : Nat} (b_len : mg "len" = none) {a : Addr} {cdv : Value} {A : Around} {outer : List Env} {s : Shared} {H : Hp} {E : XK} (hr : Room n (A.deeper (envOfC "_law_draw" (defScope s__law_draw) s.heap.objs.size a cdv))) :
    PSs (cxOf CX0 P w K mg base nm__law_draw "_law_draw" (defScope s__law_draw) a cdv A outer s H E).nox (defBody s__law_draw) (lS (m__law_draw)) :=
    (mss_cons (ms_expr (me_append (me_var 1) (ma_cons me_int ma_nil)))
    (mss_cons (ms_set (i := 3) sc__law_draw.nd rfl (by first | exact Or.inl rfl | exact Or.inr rfl) (me_len b_len (ma_cons (me_var 1) ma_nil)))
    (mss_cons (ms_set (i := 4) sc__law_draw.nd rfl (by first | exact Or.inl rfl | exact Or.inr rfl) me_int)
    (mss_cons (ms_if (mt_tru (me_var 0)) (mss_one (ms_set (i := 4) sc__law_draw.nd rfl (by first | exact Or.inl rfl | exact Or.inr rfl) (me_ix hr (me_var 0) (me_mod (me_var 3) (me_len b_len (ma_cons (me_var 0) ma_nil)))))) mss_nil)
    (mss_cons (ms_set (i := 5) sc__law_draw.nd rfl (by first | exact Or.inl rfl | exact Or.inr rfl) (me_mod (me_add (me_var 4) (me_mul me_int (me_var 3))) me_int))
    (mss_cons (ms_set (i := 5) sc__law_draw.nd rfl (by first | exact Or.inl rfl | exact Or.inr rfl) (me_mod (me_mul (me_mod (me_mul (me_var 5) (me_var 5)) me_int) me_int) me_int))
    (mss_cons (ms_set (i := 6) sc__law_draw.nd rfl (by first | exact Or.inl rfl | exact Or.inr rfl) (me_mod (me_mul (me_mod (me_mul (me_var 5) (me_var 5)) me_int) me_int) me_int))
    (mss_one (ms_ret (me_mod (me_add (me_mul (me_fdiv (me_var 5) me_int) me_int) (me_fdiv (me_var 6) me_int)) (me_var 2)))))))))))
/-! ### _law_place -/
abbrev s__law_place : Stmt := topS 5
abbrev nm__law_place : List Str := ["some", "at", "high", "told", "first", "ahead"]
theorem sc__law_place : FnScope nm__law_place ["some", "at", "high"] (defScope s__law_place) := ⟨rfl, rfl, rfl, by decide +kernel, rfl, by decide +kernel, by decide +kernel⟩
abbrev m__law_place (f_around : DSp) : DS :=
    (mSeq (mSet 3 (mCall f_around (mCons (mVar 0) (mCons (mVar 1) (mCons (mVar 2) mNil)))))
    (mSeq (mIfS (mOr (mTst (mBin oNe (mCall oLen (mCons (mVar 3) mNil)) (mCall oMin2 (mCons (mVar 2) (mCons (mCall oLen (mCons (mVar 0) mNil)) mNil))))) (mTst (mBin (oIn true) (mBin oIx (mVar 0) (mVar 1)) (mVar 3)))) (mRet (mC .non)) mNx)
    (mSeq (mSet 4 (mIdx (mVar 0) (mCons (mBin oIx (mVar 3) (mC (.int 0))) mNil)))
    (mSeq (mIfS (mTst (mBin oNe (mVar 3) (mSl (mVar 0) (mPart (mVar 4)) (mPart (mBin oAdd (mVar 4) (mCall oLen (mCons (mVar 3) mNil))))))) (mRet (mC .non)) mNx)
    (mSeq (mSet 5 (mBin oSub (mVar 1) (mVar 4)))
    (mSeq (mIfS (mAnd (mTst (mBin oNe (mVar 5) (mBin oFdiv (mVar 2) (mC (.int 2))))) (mAnd (mTst (mBin oNe (mVar 4) (mC (.int 0)))) (mTst (mBin oNe (mBin oAdd (mVar 4) (mCall oLen (mCons (mVar 3) mNil))) (mCall oLen (mCons (mVar 0) mNil)))))) (mRet (mC .non)) mNx)
    (mRet (mVar 4))))))))
theorem d__law_place {n : Nat} {f_around : DSp} {n_around : Nat} (c_around : Cal P w K mg base "around" n_around f_around) (l_around : n_around ≤ n) (b_len : mg "len" = none) (b_min : mg "min" = none) {a : Addr} {cdv : Value} {A : Around} {outer : List Env} {s : Shared} {H : Hp} {E : XK} (hr : Room n (A.deeper (envOfC "_law_place" (defScope s__law_place) s.heap.objs.size a cdv))) :
    PSs (cxOf CX0 P w K mg base nm__law_place "_law_place" (defScope s__law_place) a cdv A outer s H E).nox (defBody s__law_place) (lS (m__law_place f_around)) :=
    (mss_cons (ms_set (i := 3) sc__law_place.nd rfl (by first | exact Or.inl rfl | exact Or.inr rfl) (me_call c_around hr (ma_cons (me_var 0) (ma_cons (me_var 1) (ma_cons (me_var 2) ma_nil)))))
    (mss_cons (ms_if (mw_or (mt_ne hr (me_len b_len (ma_cons (me_var 3) ma_nil)) (me_min2 rfl b_min (ma_cons (me_var 2) (ma_cons (me_len b_len (ma_cons (me_var 0) ma_nil)) ma_nil)))) (mw_or1 (mt_notIn hr (me_ix hr (me_var 0) (me_var 1)) (me_var 3)))).pt (mss_one (ms_ret me_non)) mss_nil)
    (mss_cons (ms_set (i := 4) sc__law_place.nd rfl (by first | exact Or.inl rfl | exact Or.inr rfl) (me_idx hr (me_var 0) (ma_cons (me_ix hr (me_var 3) me_int) ma_nil)))
    (mss_cons (ms_if (mt_ne hr (me_var 3) (me_slice (me_var 0) (mo_some (me_var 4)) (mo_some (me_add (me_var 4) (me_len b_len (ma_cons (me_var 3) ma_nil)))))) (mss_one (ms_ret me_non)) mss_nil)
    (mss_cons (ms_set (i := 5) sc__law_place.nd rfl (by first | exact Or.inl rfl | exact Or.inr rfl) (me_sub (me_var 1) (me_var 4)))
    (mss_cons (ms_if (mw_and (mt_ne hr (me_var 5) (me_fdiv (me_var 2) me_int)) (mw_and (mt_ne hr (me_var 4) me_int) (mw_and1 (mt_ne hr (me_add (me_var 4) (me_len b_len (ma_cons (me_var 3) ma_nil))) (me_len b_len (ma_cons (me_var 0) ma_nil)))))).pt (mss_one (ms_ret me_non)) mss_nil)
    (mss_one (ms_ret (me_var 4)))))))))
/-! ### law -/
abbrev s_law : Stmt := topS 6
abbrev nm_law : List Str := ["script", "town", "k", "many", "some", "high", "places", "at", "one", "two"]
theorem sc_law : FnScope nm_law ["script"] (defScope s_law) := ⟨rfl, rfl, rfl, by decide +kernel, rfl, by decide +kernel, by decide +kernel⟩
abbrev m_law (f__law_draw : DSp) (f__law_place : DSp) (f_around : DSp) : DS :=
    (mSeq (mSet 1 (mLstO mNil))
    (mSeq (mFor (wRng1 (mCons (mC (.int 12)) mNil)) (bName 2) (mSeq (mSet 3 (mBin oAdd (mC (.int 1)) (mCall f__law_draw (mCons (mVar 0) (mCons (mVar 1) (mCons (mC (.int 20)) mNil))))))
    (mSeq (mSet 4 (mCall oTupleK (mCons (mLc (wRng1 (mCons (mVar 3) mNil)) [7] (bName 7) mYes (mTup (mCons (mVar 7) (mCons (mC (.str "n")) mNil)))) mNil)))
    (mSeq (mFor (wSeq (mTup (mCons (mC (.int 1)) (mCons (mC (.int 2)) (mCons (mC (.int 3)) (mCons (mC (.int 4)) (mCons (mBin oAdd (mC (.int 1)) (mCall f__law_draw (mCons (mVar 0) (mCons (mVar 1) (mCons (mC (.int 22)) mNil))))) (mCons (mVar 3) (mCons (mBin oAdd (mVar 3) (mC (.int 1))) mNil))))))))) (bName 5) (mSeq (mSet 6 (mLc (wRng1 (mCons (mVar 3) mNil)) [7] (bName 7) mYes (mCall f__law_place (mCons (mVar 4) (mCons (mVar 7) (mCons (mVar 5) mNil))))))
    (mSeq (mIfS (mOr (mTst (mBin (oIn false) (mC .non) (mVar 6))) (mOr (mTst (mBin oNe (mVar 6) (mCall oSortI (mCons (mVar 6) mNil)))) (mTst (mBin oNe (mBin oIx (mVar 6) (mC (.int 0))) (mC (.int 0)))))) (mRet (mC (.bl false))) mNx)
    (mSeq (mIfS (mTst (mBin oNe (mBin oIx (mVar 6) (mUn oNeg (mC (.int 1)))) (mCall oMax2 (mCons (mC (.int 0)) (mCons (mBin oSub (mVar 3) (mVar 5)) mNil))))) (mRet (mC (.bl false))) mNx)
    (mSeq (mIfS (mTru (mCall oAny (mCons (mLc (wZip (mCons (mSl (mVar 6) mNoPart (mPart (mUn oNeg (mC (.int 1))))) (mCons (mSl (mVar 6) (mPart (mC (.int 1))) mNoPart) mNil))) [8, 9] (bTup 2 (bCons (bName 8) (bCons (bName 9) bNil))) mYes (mBin oGt (mBin oSub (mVar 9) (mVar 8)) (mC (.int 1)))) mNil))) (mRet (mC (.bl false))) mNx)
    (mFor (wRng1 (mCons (mVar 3) mNil)) (bName 7) (mIfS (mTst (mBin oNe (mBin oIx (mVar 6) (mVar 7)) (mCall oMax2 (mCons (mC (.int 0)) (mCons (mCall oMin2 (mCons (mBin oSub (mVar 7) (mBin oFdiv (mVar 5) (mC (.int 2)))) (mCons (mBin oSub (mVar 3) (mVar 5)) mNil))) mNil))))) (mRet (mC (.bl false))) mNx)))))))
    (mIfS (mTst (mBin oNe (mCall f_around (mCons (mVar 4) (mCons (mCall f__law_draw (mCons (mVar 0) (mCons (mVar 1) (mCons (mVar 3) mNil)))) (mCons (mVar 3) mNil)))) (mVar 4))) (mRet (mC (.bl false))) mNx)))))
    (mRet (mC (.bl true)))))
theorem d_law {n : Nat} {f__law_draw : DSp} {n__law_draw : Nat} (c__law_draw : Cal P w K mg base "_law_draw" n__law_draw f__law_draw) (l__law_draw : n__law_draw ≤ n) {f__law_place : DSp} {n__law_place : Nat} (c__law_place : Cal P w K mg base "_law_place" n__law_place f__law_place) (l__law_place : n__law_place ≤ n) {f_around : DSp} {n_around : Nat} (c_around : Cal P w K mg base "around" n_around f_around) (l_around : n_around ≤ n) (b_any : mg "any" = none) (b_max : mg "max" = none) (b_min : mg "min" = none) (b_range : mg "range" = none) (b_sorted : mg "sorted" = none) (b_tuple : mg "tuple" = none) (b_zip : mg "zip" = none) {a : Addr} {cdv : Value} {A : Around} {outer : List Env} {s : Shared} {H : Hp} {E : XK} (hr : Room n (A.deeper (envOfC "law" (defScope s_law) s.heap.objs.size a cdv))) :
    PSs (cxOf CX0 P w K mg base nm_law "law" (defScope s_law) a cdv A outer s H E).nox (defBody s_law) (lS (m_law f__law_draw f__law_place f_around)) :=
    (mss_cons (ms_set (i := 1) sc_law.nd rfl (by first | exact Or.inl rfl | exact Or.inr rfl) (me_lstO ma_nil))
    (mss_cons (ms_for PassesOwn.never rfl (mi_rng1 b_range (ma_cons me_int ma_nil)) (mg_name (i := 2) sc_law.nd rfl (by first | exact Or.inl rfl | exact Or.inr rfl)) (mss_cons (ms_set (i := 3) sc_law.nd rfl (by first | exact Or.inl rfl | exact Or.inr rfl) (me_add me_int (me_call c__law_draw hr (ma_cons (me_var 0) (ma_cons (me_var 1) (ma_cons me_int ma_nil))))))
    (mss_cons (ms_set (i := 4) sc_law.nd rfl (by first | exact Or.inl rfl | exact Or.inr rfl) (me_tupleK b_tuple (ma_cons (me_lc (own := [("at", 7)]) rfl sc_law.nd (mi_rng1 b_range (ma_cons (me_var 3) ma_nil)) (blkOk_by (N := nm_law) (sc := defScope s_law) (by decide +kernel)) (fun _ _ _ _ _ => (mg_name (i := 7) sc_law.nd rfl (by first | exact Or.inl rfl | exact Or.inr rfl))) (fun _ _ _ _ _ => mts_nil) (fun _ _ _ _ _ => (me_tup (ma_cons (me_var 7) (ma_cons me_str ma_nil))))) ma_nil)))
    (mss_cons (ms_for PassesOwn.never rfl (mi_seq (me_tup (ma_cons me_int (ma_cons me_int (ma_cons me_int (ma_cons me_int (ma_cons (me_add me_int (me_call c__law_draw hr (ma_cons (me_var 0) (ma_cons (me_var 1) (ma_cons me_int ma_nil))))) (ma_cons (me_var 3) (ma_cons (me_add (me_var 3) me_int) ma_nil))))))))) (mg_name (i := 5) sc_law.nd rfl (by first | exact Or.inl rfl | exact Or.inr rfl)) (mss_cons (ms_setLc (i := 6) (own := [("at", 7)]) rfl sc_law.nd rfl rfl rfl rfl (by decide +kernel) (mi_rng1 b_range (ma_cons (me_var 3) ma_nil)) (blkOk_by (N := nm_law) (sc := defScope s_law) (by decide +kernel)) (fun _ _ _ _ _ => (mg_name (i := 7) sc_law.nd rfl (by first | exact Or.inl rfl | exact Or.inr rfl))) (fun _ _ _ _ _ => mts_nil) (fun _ _ _ _ _ => (me_call c__law_place hr (ma_cons (me_var 4) (ma_cons (me_var 7) (ma_cons (me_var 5) ma_nil))))))
    (mss_cons (ms_if (mw_or (mt_in hr me_non (me_var 6)) (mw_or (mt_ne hr (me_var 6) (me_sortI b_sorted (ma_cons (me_var 6) ma_nil))) (mw_or1 (mt_ne hr (me_ix hr (me_var 6) me_int) me_int)))).pt (mss_one (ms_ret me_bl)) mss_nil)
    (mss_cons (ms_if (mt_ne hr (me_ix hr (me_var 6) (me_neg me_int)) (me_max2 rfl b_max (ma_cons me_int (ma_cons (me_sub (me_var 3) (me_var 5)) ma_nil)))) (mss_one (ms_ret me_bl)) mss_nil)
    (mss_cons (ms_if (mt_tru (me_any rfl b_any (ma_cons (me_lc (own := [("one", 8), ("two", 9)]) rfl sc_law.nd (mi_zip b_zip (ma_cons (me_slice (me_var 6) mo_none (mo_some (me_neg me_int))) (ma_cons (me_slice (me_var 6) (mo_some me_int) mo_none) ma_nil))) (blkOk_by (N := nm_law) (sc := defScope s_law) (by decide +kernel)) (fun _ _ _ _ _ => (mg_tup rfl (mgs_cons (mg_name (i := 8) sc_law.nd rfl (by first | exact Or.inl rfl | exact Or.inr rfl)) (mgs_cons (mg_name (i := 9) sc_law.nd rfl (by first | exact Or.inl rfl | exact Or.inr rfl)) mgs_nil)))) (fun _ _ _ _ _ => mts_nil) (fun _ _ _ _ _ => (me_gt (me_sub (me_var 9) (me_var 8)) me_int))) ma_nil))) (mss_one (ms_ret me_bl)) mss_nil)
    (mss_one (ms_for PassesOwn.never rfl (mi_rng1 b_range (ma_cons (me_var 3) ma_nil)) (mg_name (i := 7) sc_law.nd rfl (by first | exact Or.inl rfl | exact Or.inr rfl)) (mss_one (ms_if (mt_ne hr (me_ix hr (me_var 6) (me_var 7)) (me_max2 rfl b_max (ma_cons me_int (ma_cons (me_min2 rfl b_min (ma_cons (me_sub (me_var 7) (me_fdiv (me_var 5) me_int)) (ma_cons (me_sub (me_var 3) (me_var 5)) ma_nil))) ma_nil)))) (mss_one (ms_ret me_bl)) mss_nil)))))))))
    (mss_one (ms_if (mt_ne hr (me_call c_around hr (ma_cons (me_var 4) (ma_cons (me_call c__law_draw hr (ma_cons (me_var 0) (ma_cons (me_var 1) (ma_cons (me_var 3) ma_nil)))) (ma_cons (me_var 3) ma_nil)))) (me_var 4)) (mss_one (ms_ret me_bl)) mss_nil))))))
    (mss_one (ms_ret me_bl))))
end
end LW

set_option maxRecDepth 100000
local macro_rules | `(tactic| walk_at "w") => `(tactic| conv => whnf)
namespace LW
open PySem PySem.Spec PyProof.Rows L2 ML
theorem e__law_draw : ∀ ds S Q, drawS ds S Q → m__law_draw (endD Q) (startD 7 ds) S := by
  rintro _ S Q ⟨ns, t, zs, many, rfl, hS, hz, hm, h⟩
  have hl := sizeLine_eq
  refine ⟨isLst_obj hS, zs, hS, by omega, ?_⟩
  walk_at "w"
  simp only [up_same]
  generalize hk : (((zs ++ [D.int 0]).length : Nat) : Int) = k
  have k0 : 0 ≤ k ∧ k < 16777216 := by rw [List.length_append, List.length_singleton] at hk; omega
  have fin : ∀ cell : Int, (mSeq (mSet 5 (mBin oMod (mBin oAdd (mVar 4) (mBin oMul (mC (.int 104729)) (mVar 3))) (mC (.int 4294967291))))
    (mSeq (mSet 5 (mBin oMod (mBin oMul (mBin oMod (mBin oMul (mVar 5) (mVar 5)) (mC (.int 4294967279))) (mC (.int 48271))) (mC (.int 4294967291))))
    (mSeq (mSet 6 (mBin oMod (mBin oMul (mBin oMod (mBin oMul (mVar 5) (mVar 5)) (mC (.int 4294967279))) (mC (.int 69621))) (mC (.int 4294967291))))
    (mRet (mBin oMod (mBin oAdd (mBin oMul (mBin oFdiv (mVar 5) (mC (.int 64))) (mC (.int 67108864))) (mBin oFdiv (mVar 6) (mC (.int 64)))) (mVar 2))))))
      (endD Q) [some (.fls (ns.map D.int)), some (.obj t), some (.int many), some (.int k), some (.int cell), none, none] (up S t (.lst (zs ++ [.int 0]))) := by
    intro cell
    refine ⟨.inl ⟨by omega, by omega⟩, by decide, ?_⟩
    have a1 : 0 ≤ (cell + 104729 * k) % 4294967291 ∧ (cell + 104729 * k) % 4294967291 < 4294967291 := by omega
    generalize (cell + 104729 * k) % 4294967291 = n1 at a1 ⊢
    refine ⟨.inl ⟨by omega, by omega⟩, by decide, .inr ⟨by omega, by omega⟩, by decide, ?_⟩
    have a2 : 0 ≤ n1 * n1 % 4294967279 * 48271 % 4294967291 ∧ n1 * n1 % 4294967279 * 48271 % 4294967291 < 4294967291 := ⟨Int.emod_nonneg _ (by decide), Int.emod_lt_of_pos _ (by decide)⟩
    generalize n1 * n1 % 4294967279 * 48271 % 4294967291 = n2 at a2 ⊢
    refine ⟨.inl ⟨by omega, by omega⟩, by decide, .inr ⟨by omega, by omega⟩, by decide, ?_⟩
    have a3 : 0 ≤ n2 * n2 % 4294967279 * 69621 % 4294967291 ∧ n2 * n2 % 4294967279 * 69621 % 4294967291 < 4294967291 := ⟨Int.emod_nonneg _ (by decide), Int.emod_lt_of_pos _ (by decide)⟩
    generalize n2 * n2 % 4294967279 * 69621 % 4294967291 = n3 at a3 ⊢
    refine ⟨⟨by decide, by decide⟩, .inr ⟨by omega, by omega⟩, ⟨by decide, by decide⟩, hm, _, _, .refl, h _ (Int.emod_nonneg _ (by omega)) (Int.emod_lt_of_pos _ hm)⟩
  cases ns with
  | nil => exact fin 0
  | cons n0 ns =>
    walk_at "w"
    have hp : (0 : Int) < ((n0 :: ns).map D.int).length := by rw [List.length_map, List.length_cons]; omega
    refine ⟨hp, ?_⟩
    obtain ⟨c, hc⟩ := atI_ints (ns := n0 :: ns) (i := k % ((n0 :: ns).map D.int).length) (Int.emod_nonneg _ (by omega)) (by
      have := Int.emod_lt_of_pos k hp
      rw [List.length_map] at this ⊢; exact this)
    exact opt_some hc (fin c)

/-! ### the mathematics -/
/-- where the part around a place begins -/
def fst (n h i : Int) : Int := if (if n - h < i - h / 2 then n - h else i - h / 2) > 0 then (if n - h < i - h / 2 then n - h else i - h / 2) else 0
def rw1 (i : Nat) : D := .tup [.int (i : Nat), .str "n"]
def rp1 (i : Nat) : PyData := .tuple [.int (i : Nat), .str "n"]
def wid (n h : Int) : Int := if n < h then n else h
theorem fst_le {n h i : Int} (h0 : 0 ≤ i) (h1 : i < n) (h2 : 1 ≤ h) : 0 ≤ fst n h i ∧ fst n h i ≤ i ∧ i < fst n h i + wid n h ∧ fst n h i + wid n h ≤ n := by
  unfold fst wid
  split <;> split <;> (try split) <;> omega
theorem fst_mid {n h i : Int} (h0 : 0 ≤ i) (h1 : i < n) (h2 : 1 ≤ h) : i - fst n h i = h / 2 ∨ fst n h i = 0 ∨ fst n h i + wid n h = n := by
  unfold fst wid
  split <;> split <;> (try split) <;> omega
theorem fst_mono {n h i j : Int} (h0 : i ≤ j) : fst n h i ≤ fst n h j := by
  unfold fst
  split <;> split <;> (try split) <;> (try split) <;> omega
theorem fst_zero {n h : Int} (h2 : 1 ≤ h) : fst n h 0 = 0 := by
  unfold fst
  split <;> (try split) <;> omega
theorem fst_last {n h : Int} (h1 : 1 ≤ n) (h2 : 1 ≤ h) : fst n h (n - 1) = if n - h > 0 then n - h else 0 := by
  unfold fst
  split <;> split <;> (try split) <;> omega
theorem fst_next {n h i : Int} : fst n h (i + 1) - fst n h i ≤ 1 := by
  unfold fst
  split <;> split <;> (try split) <;> (try split) <;> omega
theorem fst_eq (n h i : Int) : (if (if n - h < i - h / 2 then n - h else i - h / 2) > 0 then (if n - h < i - h / 2 then n - h else i - h / 2) else 0) = fst n h i := rfl

theorem take_rng (s n k : Nat) : (List.range' s n).take k = List.range' s (min k n) := by
  apply List.ext_getElem?
  intro i
  rw [List.getElem?_take]
  by_cases h : i < k
  · rw [if_pos h]
    by_cases h2 : i < n
    · rw [List.getElem?_range' (by omega), List.getElem?_range' (by omega)]
    · rw [List.getElem?_eq_none (by rw [List.length_range']; omega), List.getElem?_eq_none (by rw [List.length_range']; omega)]
  · rw [if_neg h, List.getElem?_eq_none (by rw [List.length_range']; omega)]
theorem cut_rows {n : Nat} {f l : Int} (h0 : 0 ≤ f) (hl : 0 ≤ l) : cutQ ((List.range n).map rw1) (some f) (some (f + l)) = (List.range' (min f.toNat n) (min (f + l).toNat n - min f.toNat n)).map rw1 := by
  obtain ⟨a, rfl⟩ := Int.eq_ofNat_of_zero_le h0
  obtain ⟨b, rfl⟩ := Int.eq_ofNat_of_zero_le hl
  unfold cutQ cutX
  rw [List.length_map, List.length_range, show ((a : Nat) : Int) + ((b : Nat) : Int) = ((a + b : Nat) : Int) by omega, HT.sIx_nat, HT.sIx_nat, ← List.map_drop, ← List.map_take]
  congr 1
  rw [Int.toNat_natCast, Int.toNat_natCast, List.range_eq_range', List.drop_range', take_rng]
  congr 1 <;> omega
/-- the part -/
def prt (n h i : Int) : List Nat := List.range' (fst n h i).toNat (wid n h).toNat
theorem cut_prt {n : Nat} {h i : Int} (h0 : 0 ≤ i) (h1 : i < n) (h2 : 1 ≤ h) : cutQ ((List.range n).map rw1) (some (fst n h i)) (some (fst n h i + h)) = (prt n h i).map rw1 := by
  obtain ⟨a1, a2, a3, a4⟩ := fst_le (h := h) h0 h1 h2
  rw [cut_rows a1 (by omega)]
  unfold prt
  have e1 : min (fst n h i).toNat n = (fst n h i).toNat := by omega
  have e2 : min (fst n h i + h).toNat n - (fst n h i).toNat = (wid n h).toNat := by
    have hh : wid n h = (if (n : Int) < h then (n : Int) else h) := rfl
    have : (n : Int) < h → fst n h i = 0 := fun q => by rw [if_pos q] at hh; omega
    split at hh <;> omega
  rw [e1, e2]
theorem cut_prt2 {n : Nat} {h i : Int} (h0 : 0 ≤ i) (h1 : i < n) (h2 : 1 ≤ h) : cutQ ((List.range n).map rw1) (some (fst n h i)) (some (fst n h i + wid n h)) = (prt n h i).map rw1 := by
  obtain ⟨a1, a2, a3, a4⟩ := fst_le (h := h) h0 h1 h2
  have hw : 0 ≤ wid n h := by unfold wid; split <;> omega
  rw [cut_rows a1 hw]
  unfold prt
  have e1 : min (fst n h i).toNat n = (fst n h i).toNat := by omega
  have e2 : min (fst n h i + wid n h).toNat n - (fst n h i).toNat = (wid n h).toNat := by omega
  rw [e1, e2]
theorem toPys_rows (xs : List Nat) : toPys (xs.map rw1) = some (xs.map rp1) := toPys_map fun _ _ => rfl
theorem lay_row (i : Nat) : (rp1 i).canLay0 = true := by
  simp only [rp1, PyData.canLay0, PyData.canLayAll0]
  decide +kernel
theorem dep_row (i : Nat) : (rp1 i).depth ≤ 1 := by simp [rp1, PyData.depth, PyData.depthAll]
theorem shp_rows (xs : List Nat) : SeqAt.shaped (.list (xs.map rp1)) = true := shaped_list (n := 1) (canLay_map fun i _ => lay_row i) (depth_map fun i _ => dep_row i) (by decide)
theorem shp_rowsT (xs : List Nat) : SeqAt.shaped (.tuple (xs.map rp1)) = true := by rw [shaped_lt]; exact shp_rows xs
theorem shp_row (i : Nat) : SeqAt.shaped (rp1 i) = true := shaped_of (lay_row i) (by have := dep_row i; omega)
theorem eqv_row (i j : Nat) : PyData.eqv (rp1 i) (rp1 j) = decide (i = j) := by
  simp only [rp1, PyData.eqv, PyData.eqvAll]
  rw [Bool.eq_iff_iff]
  simp
  omega
theorem eqv_rows (xs ys : List Nat) : PyData.eqv (.tuple (xs.map rp1)) (.tuple (ys.map rp1)) = decide (xs = ys) := by
  rw [eqv_tuple, Bool.eq_iff_iff, decide_eq_true_iff]
  exact eqvAll_map (fun x y => by rw [eqv_row]; simp) xs ys

/-! ### around, _law_place -/
def aroundS : DSp := fun ds S Q => ∃ (n : Nat) (i h : Int), ds = [.kt ((List.range n).map rw1), .int i, .int h] ∧ 0 ≤ i ∧ i < n ∧ 1 ≤ h ∧ ∀ d, asT d = some ((prt n h i).map rw1) → Q d S
theorem e_around : ∀ ds S Q, aroundS ds S Q → m_around (endD Q) (startD 4 ds) S := by
  rintro _ S Q ⟨n, i, h, rfl, h0, h1, h2, q⟩
  refine ⟨⟨by decide, by decide⟩, ?_⟩
  have e : (((List.range n).map rw1).length : Int) = n := by rw [List.length_map, List.length_range]
  intro d hd
  have hd : asT d = some (cutQ ((List.range n).map rw1) (some (fst (((List.range n).map rw1).length : Int) h i)) (some (fst (((List.range n).map rw1).length : Int) h i + h))) := hd
  rw [e, cut_prt h0 h1 h2] at hd
  exact ⟨_, _, .refl, q d hd⟩

theorem prt_len (n h i : Int) : (prt n h i).length = (wid n h).toNat := by unfold prt; rw [List.length_range']
theorem prt_mem {n h i : Int} {j : Nat} (h0 : 0 ≤ i) (h1 : i < n) (h2 : 1 ≤ h) : j ∈ prt n h i ↔ fst n h i ≤ j ∧ (j : Int) < fst n h i + wid n h := by
  obtain ⟨a1, a2, a3, a4⟩ := fst_le (h := h) h0 h1 h2
  unfold prt
  rw [List.mem_range'_1]
  omega
def placeS : DSp := fun ds S Q => ∃ (n : Nat) (i h : Int), ds = [.kt ((List.range n).map rw1), .int i, .int h] ∧ 0 ≤ i ∧ i < n ∧ n ≤ 20 ∧ 1 ≤ h ∧ Q (.int (fst n h i)) S
theorem idx_rows {n f : Nat} (h : f < n) : IdxAt ((List.range n).map rp1) (rp1 f) f := by
  refine ⟨⟨rp1 f, by rw [List.getElem?_map, List.getElem?_range h]; rfl, by rw [eqv_row]; simp⟩, fun m z hm hz => ?_⟩
  rw [List.getElem?_map, List.getElem?_range (by omega)] at hz
  cases hz
  rw [eqv_row]
  exact decide_eq_false (by omega)
theorem e__law_place : ∀ ds S Q, placeS ds S Q → m__law_place aroundS (endD Q) (startD 6 ds) S := by
  rintro _ S Q ⟨n, i, h, rfl, h0, h1, hn, h2, q⟩
  refine ⟨n, i, h, rfl, h0, h1, h2, fun d hd => ?_⟩
  obtain ⟨a1, a2, a3, a4⟩ := fst_le (h := h) h0 h1 h2
  have hw : 0 ≤ wid n h := by unfold wid; split <;> omega
  have el : (((prt n h i).map rw1).length : Int) = wid n h := by rw [List.length_map, prt_len]; omega
  have en : (((List.range n).map rw1).length : Int) = n := by rw [List.length_map, List.length_range]
  have cs : d = .tup ((prt n h i).map rw1) ∨ d = .kt ((prt n h i).map rw1) := by
    cases d <;> first | exact .inl (congrArg D.tup (Option.some.inj hd)) | exact .inr (congrArg D.kt (Option.some.inj hd)) | exact nomatch hd
  have hmem : ((prt n h i).map rp1).any (fun z => PyData.eqv z (rp1 i.toNat)) = true := by
    rw [List.any_map, List.any_eq_true]
    exact ⟨i.toNat, (prt_mem h0 h1 h2).mpr (by omega), by show PyData.eqv (rp1 _) (rp1 _) = true; rw [eqv_row]; simp⟩
  have hfst : (prt n h i)[0]? = some (fst n h i).toNat := by
    unfold prt
    rw [List.getElem?_range' (by omega)]
    simp
  have hat0 : atI ((prt n h i).map rw1) 0 = some (rw1 (fst n h i).toNat) := atI_nat (j := 0) (by rw [List.getElem?_map, hfst]; rfl)
  have hati : atI ((List.range n).map rw1) i = some (rw1 i.toNat) := by
    obtain ⟨x, e1, e2⟩ := atI_map (enc := rw1) (xs := List.range n) h0 (by rw [List.length_range]; exact h1)
    rw [List.getElem?_range (by omega)] at e1
    cases e1
    exact e2
  have hw1 : decide (wid (n : Int) h = if (n : Int) < h then (n : Int) else h) = true := decide_eq_true rfl
  have hf : (((fst n h i).toNat : Nat) : Int) = fst n h i := Int.toNat_of_nonneg a1
  have same : PyData.eqv (.tuple ((prt n h i).map rp1)) (.tuple ((prt n h i).map rp1)) = true := by rw [eqv_rows]; exact decide_eq_true rfl
  have py : toPy (.tup ((prt n h i).map rw1)) = some (.tuple ((prt n h i).map rp1)) := by show (toPys _).map _ = _; rw [toPys_rows]; rfl
  have py2 : ∀ d, asT d = some ((prt n h i).map rw1) → toPyM S d = some (.tuple ((prt n h i).map rp1)) := fun d hd => by
    cases d <;> first | (cases hd; exact py) | exact nomatch hd
  have c3 : ¬ i - fst n h i = h / 2 → ¬ fst n h i = 0 → fst n h i + wid n h = n := fun c1 c2 => by
    rcases fst_mid (n := n) (h := h) h0 h1 h2 with e | e | e
    · exact absurd e c1
    · exact absurd e c2
    · exact e
  have fin : ∃ S'' d', Shift S (.int (fst n h i)) S'' d' ∧ Q d' S'' := ⟨S, _, .refl, q⟩
  rcases cs with rfl | rfl
  all_goals
    walk_at "w"
    rw [el, en]
    simp only [hw1, Bool.not_true]
    walk_at "w"
    simp only [hati]
    refine ⟨rp1 i.toNat, .tuple ((prt n h i).map rp1), _, rfl, py, rfl, shp_row _, shp_rowsT _, ?_⟩
    simp only [if_true, hmem, Bool.not_true]
    refine ⟨trivial, ?_⟩
    walk_at "w"
    simp only [hat0]
    refine ⟨_, _, rp1 (fst n h i).toNat, (fst n h i).toNat, rfl, toPys_rows _, rfl, shp_rows _, shp_row _, idx_rows (by omega), ?_⟩
    rw [hf]
    intro d2 hd2
    have hd2 : asT d2 = some (cutQ ((List.range n).map rw1) (some (fst n h i)) (some (fst n h i + (((prt n h i).map rw1).length : Int)))) := hd2
    rw [el, cut_prt2 h0 h1 h2] at hd2
    have cs2 : d2 = .tup ((prt n h i).map rw1) ∨ d2 = .kt ((prt n h i).map rw1) := by
      cases d2 <;> first | exact .inl (congrArg D.tup (Option.some.inj hd2)) | exact .inr (congrArg D.kt (Option.some.inj hd2)) | exact nomatch hd2
    rcases cs2 with rfl | rfl
    all_goals
      refine ⟨_, _, py, py, shp_rowsT _, shp_rowsT _, ?_⟩
      simp only [if_true, same, Bool.not_true]
      refine ⟨⟨by decide, by decide⟩, ?_⟩
      walk_at "w"
      simp only [el, en]
      by_cases c1 : i - fst n h i = h / 2
      · rw [decide_eq_true c1]; exact fin
      · rw [decide_eq_false c1]
        walk_at "w"
        by_cases c2 : fst n h i = 0
        · rw [decide_eq_true c2]; exact fin
        · rw [decide_eq_false c2]
          walk_at "w"
          simp only [el, en]
          rw [decide_eq_true (c3 c1 c2)]; exact fin

/-! ### law -/
def lawS : DSp := fun ds S Q => ∃ ns : List Int, ds = [.fls (ns.map .int)] ∧ ∀ S', Q (.bl true) S'
theorem e_law : ∀ ds S Q, lawS ds S Q → m_law drawS placeS aroundS (endD Q) (startD 10 ds) S := by
  rintro _ S Q ⟨ns, rfl, q⟩
  intro t ht
  refine ⟨⟨by decide, by decide⟩, ?_⟩
  show forL none _ _ _ ((List.range 12).map fun i => D.int (0 + (i : Nat))) _ _
  refine forL_inv (fun rest r S => ∃ x2 x3 x4 x5 x6 x7 x8 x9, r = [some (.fls (ns.map .int)), some (.obj t), x2, x3, x4, x5, x6, x7, x8, x9] ∧ Town S t (1000 * (12 - rest.length)) ∧ rest.length ≤ 12) ?_ ?_ (List.range 12) _ _ ⟨none, none, none, none, none, none, none, none, rfl, ⟨[], up_same, Nat.zero_le _⟩, by decide⟩
  · rintro k rest r S nx ⟨x2, x3, x4, x5, x6, x7, x8, x9, rfl, ⟨zs, hz, lz⟩, hr⟩ hnx
    refine ⟨ns, t, zs, 20, rfl, hz, by omega, by decide, fun r0 r1 r2 => ?_⟩
    obtain ⟨N, hN⟩ := Int.eq_ofNat_of_zero_le (show 0 ≤ 1 + r0 by omega)
    have hN1 : 1 ≤ N ∧ N ≤ 20 := by omega
    walk_at "w"
    rw [hN]
    refine ⟨by omega, ?_⟩
    show lcL none _ _ _ _ _ _ ((List.range N).map fun i => D.int (0 + (i : Nat))) [] _
    refine lcL_map (f := rw1) (List.range N) [] (fun i hi K hK => ?_) ?_
    · show K (.tup [.int (0 + (i : Nat)), .str "n"]) _
      rw [Int.zero_add]; exact hK
    refine ⟨ns, t, _, 22, rfl, up_same, by rw [List.length_append, List.length_singleton]; omega, by decide, fun r3 r4 r5 => ?_⟩
    walk_at "w"
    show forL none _ _ _ (([1, 2, 3, 4, 1 + r3, (N : Int), (N : Int) + 1] : List Int).map D.int) _ _
    have hz2 := Town.up (S := up S t (.lst (zs ++ [.int 0]))) (t := t) (k := 1000 * (12 - (k :: rest).length) + 1) (zs := zs ++ [.int 0]) (by rw [List.length_append, List.length_singleton]; omega)
    refine forL_inv (fun rest' r S => ∃ x2 x5 x6 x7 x8 x9, r = [some (.fls (ns.map .int)), some (.obj t), x2, some (.int N), some (.kt ((List.range N).map rw1)), x5, x6, x7, x8, x9] ∧ Town S t (1000 * (12 - (k :: rest).length) + 1 + 1) ∧ ∀ h ∈ rest', 1 ≤ h ∧ h ≤ 30) ?_ ?_ _ _ _ ⟨_, _, _, _, _, _, rfl, hz2, ?_⟩
    · rintro h rest' r S nx' ⟨x2, x5, x6, x7, x8, x9, rfl, hT, hh⟩ hnx'
      obtain ⟨hh1, hh2⟩ := hh h List.mem_cons_self
      refine ⟨by omega, ?_⟩
      walk_at "w"
      show lcL none _ _ _ _ _ _ ((List.range N).map fun i => D.int (0 + (i : Nat))) [] _
      refine lcL_map (f := fun i => D.int (fst N h (i : Nat))) (List.range N) [] (fun i hi K hK => ?_) ?_
      · have hi := List.mem_range.mp hi
        refine ⟨N, (i : Nat), h, ?_, by omega, by omega, by omega, hh1, hK⟩
        rw [Int.zero_add]
      have eps : [] ++ (List.range N).map (fun i : Nat => D.int (fst N h (i : Nat))) = ((List.range N).map fun i : Nat => fst N h (i : Nat)).map D.int := by rw [List.nil_append, List.map_map]; rfl
      rw [eps]
      generalize hps : ((List.range N).map fun i : Nat => fst N h (i : Nat)) = ps
      have lps : ps.length = N := by rw [← hps, List.length_map, List.length_range]
      have gps : ∀ i : Nat, i < N → ps[i]? = some (fst N h (i : Nat)) := fun i hi => by rw [← hps, List.getElem?_map, List.getElem?_range hi]; rfl
      have sps : ps.Pairwise (· ≤ ·) := by
        rw [← hps, List.pairwise_map]
        exact List.Pairwise.imp (fun q => fst_mono (by omega)) (List.pairwise_lt_range (n := N))
      have pyps : toPy (.lst (ps.map D.int)) = some (.list (ps.map .int)) := by show (toPys _).map _ = _; rw [toPys_ints]; rfl
      have nops : (ps.map PyData.int).any (fun z => PyData.eqv z .none) = false := by
        rw [List.any_map, List.any_eq_false]
        intro x _
        show ¬ PyData.eqv (.int x) .none = true
        simp [PyData.eqv]
      refine ⟨.none, .list (ps.map .int), _, rfl, pyps, rfl, shaped_none, shaped_ints ps, ?_⟩
      simp only [nops, Bool.false_eq_true, if_false]
      refine ⟨ps, rfl, fun ns' hp hs => ?_⟩
      have e2 : ns' = ps := sorted_unique hp hs sps
      subst e2
      refine ⟨_, _, pyps, pyps, shaped_ints ns', shaped_ints ns', ?_⟩
      simp only [if_true, eqv_ints, decide_true, Bool.not_true]
      walk_at "w"
      have a0 : atI (ns'.map D.int) 0 = some (.int 0) := atI_nat (j := 0) (by rw [List.getElem?_map, gps 0 (by omega)]; show some (D.int (fst N h 0)) = _; rw [fst_zero hh1])
      simp only [a0]
      walk_at "w"
      have a1 : atI (ns'.map D.int) (-1) = some (.int (if (N : Int) - h > 0 then (N : Int) - h else 0)) := atI_neg1 (by
        rw [List.length_map, List.getElem?_map, lps, gps (N - 1) (by omega)]
        show some (D.int (fst N h ((N - 1 : Nat) : Int))) = _
        rw [show ((N - 1 : Nat) : Int) = (N : Int) - 1 by omega, fst_last (by omega) hh1])
      simp only [a1]
      walk_at "w"
      simp only [decide_true, Bool.not_true]
      walk_at "w"
      have ez : zipD (cutQ (ns'.map D.int) none (some (-1))) (cutQ (ns'.map D.int) (some 1) none) = (ns'.dropLast.zip (ns'.drop 1)).map fun p => D.tup [.int p.1, .int p.2] := by
        show zipD (cutX _ none (some (-1))) (cutX _ (some ((1 : Nat) : Int)) none) = _
        rw [cutX_init, cutX_drop, ← List.map_dropLast, ← List.map_drop]
        unfold zipD
        rw [List.zip_map, List.map_map]; rfl
      show lcL none _ _ _ _ _ _ (zipD (cutQ (ns'.map D.int) none (some (-1))) (cutQ (ns'.map D.int) (some 1) none)) [] _
      rw [ez]
      refine lcL_map (f := fun p : Int × Int => D.bl (decide (1 < p.2 - p.1))) _ [] (fun p hp K hK => hK) ?_
      refine ⟨(ns'.dropLast.zip (ns'.drop 1)).map fun p => decide (1 < p.2 - p.1), by show some ([] ++ _) = _; rw [List.nil_append, List.map_map]; rfl, ?_⟩
      have hany : (((ns'.dropLast.zip (ns'.drop 1)).map fun p => decide (1 < p.2 - p.1)).any id) = false := by
        rw [List.any_map, List.any_eq_false]
        rintro ⟨x, y⟩ hxy
        obtain ⟨i, hi⟩ := List.getElem?_of_mem hxy
        rw [List.getElem?_zip_eq_some] at hi
        obtain ⟨e1, e2⟩ := hi
        have hil : i < ns'.length - 1 := by
          have := (List.getElem?_eq_some_iff.mp e1).1
          rwa [List.length_dropLast] at this
        rw [List.dropLast_eq_take, List.getElem?_take, if_pos (by omega), gps i (by omega)] at e1
        rw [List.getElem?_drop, Nat.add_comm 1 i, gps (i + 1) (by omega)] at e2
        cases e1; cases e2
        have := fst_next (n := N) (h := h) (i := (i : Nat))
        show ¬ decide (1 < fst N h ((i + 1 : Nat) : Int) - fst N h (i : Nat)) = true
        rw [show ((i + 1 : Nat) : Int) = (i : Int) + 1 by omega]
        simp only [decide_eq_true_eq]
        omega
      rw [hany]
      refine ⟨by omega, ?_⟩
      walk_at "w"
      show forL none _ _ _ ((List.range N).map fun i => D.int (0 + (i : Nat))) _ _
      refine forL_inv (fun rr r S => ∃ x7, r = [some (.fls (ns.map .int)), some (.obj t), x2, some (.int N), some (.kt ((List.range N).map rw1)), some (.int h), some (.lst (ns'.map D.int)), x7, x8, x9] ∧ Town S t (1000 * (12 - (k :: rest).length) + 1 + 1) ∧ ∀ i ∈ rr, i < N) ?_ ?_ _ _ _ ⟨_, rfl, hT, fun i hi => List.mem_range.mp hi⟩
      · rintro i rr r S nx2 ⟨x7, rfl, hT, hi⟩ hnx2
        have hi0 := hi i List.mem_cons_self
        walk_at "w"
        have ai : atI (ns'.map D.int) (0 + (i : Nat)) = some (.int (fst N h (i : Nat))) := by
          rw [Int.zero_add]; exact atI_nat (by rw [List.getElem?_map, gps i hi0]; rfl)
        simp only [ai]
        refine ⟨⟨by decide, by decide⟩, ?_⟩
        walk_at "w"
        rw [Int.zero_add, fst_eq]
        simp only [decide_true, Bool.not_true]
        exact hnx2 _ _ ⟨_, rfl, hT, fun j hj => hi j (List.mem_cons_of_mem _ hj)⟩
      · rintro r S ⟨x7, rfl, hT, _⟩
        exact hnx' _ _ ⟨_, _, _, _, _, _, rfl, hT, fun g hg => hh g (List.mem_cons_of_mem _ hg)⟩
    · rintro r S ⟨x2, x5, x6, x7, x8, x9, rfl, ⟨zs', hz', lz'⟩, _⟩
      refine ⟨ns, t, zs', (N : Int), rfl, hz', by omega, by omega, fun r6 r7 r8 => ⟨N, r6, (N : Int), rfl, r7, r8, by omega, fun d hd => ?_⟩⟩
      have e0 : prt N N r6 = List.range N := by
        unfold prt
        obtain ⟨b1, b2, b3, b4⟩ := fst_le (h := (N : Int)) r7 r8 (by omega)
        have ew : wid N N = N := by unfold wid; rw [if_neg (by omega)]
        rw [ew] at b4 ⊢
        rw [show fst N N r6 = 0 by omega, List.range_eq_range']
        rfl
      rw [e0] at hd
      have pyr : toPy (.tup ((List.range N).map rw1)) = some (.tuple ((List.range N).map rp1)) := by show (toPys _).map _ = _; rw [toPys_rows]; rfl
      rcases asT_cases hd with rfl | rfl
      all_goals
        refine ⟨_, _, pyr, pyr, shp_rowsT _, shp_rowsT _, ?_⟩
        simp only [if_true, eqv_rows, decide_true, Bool.not_true]
        exact hnx _ _ ⟨_, _, _, _, _, _, _, _, rfl, (Town.up (S := S) (t := t) lz').mono (by rw [List.length_cons] at hr ⊢; omega), by rw [List.length_cons] at hr; omega⟩
    · simp only [List.mem_cons, List.not_mem_nil, or_false]
      rintro h (e | e | e | e | e | e | e) <;> omega
  · rintro r S ⟨x2, x3, x4, x5, x6, x7, x8, x9, rfl, _, _⟩
    exact ⟨S, _, .refl, q _⟩
end LW
namespace LW
open PySem PySem.Spec PyProof.Rows L2 ML
theorem l_around : ∀ ds S Q, aroundS ds S Q → ds.length = 3 := by rintro _ _ _ ⟨_, _, _, rfl, _⟩; rfl
theorem l__law_draw : ∀ ds S Q, drawS ds S Q → ds.length = 3 := by rintro _ _ _ ⟨_, _, _, _, rfl, _⟩; rfl
theorem l__law_place : ∀ ds S Q, placeS ds S Q → ds.length = 3 := by rintro _ _ _ ⟨_, _, _, rfl, _⟩; rfl
theorem l_law : ∀ ds S Q, lawS ds S Q → ds.length = 1 := by rintro _ _ _ ⟨_, rfl, _⟩; rfl
theorem h_law (ns : List Int) (S : Mem) : lawS [.fls (ns.map .int)] S fun d _ => d = .bl true := ⟨ns, rfl, fun _ => rfl⟩
end LW

set_option maxRecDepth 100000
namespace LW
open PySem PySem.Spec PyProof.Rows L2 ML
def dd_around : He.DefD := ⟨("around", none), "around", "around", defArgs s_around, defBody s_around, defScope s_around, [], []⟩
def dd__law_draw : He.DefD := ⟨("_law_draw", none), "_law_draw", "_law_draw", defArgs s__law_draw, defBody s__law_draw, defScope s__law_draw, [], []⟩
def dd__law_place : He.DefD := ⟨("_law_place", none), "_law_place", "_law_place", defArgs s__law_place, defBody s__law_place, defScope s__law_place, [], []⟩
def dd_law : He.DefD := ⟨("law", none), "law", "law", defArgs s_law, defBody s_law, defScope s_law, [], []⟩
def fn : List He.DefD := [dd_around, dd__law_draw, dd__law_place, dd_law]
def fa : List He.Fa := [.glo "around", .glo "_law_draw", .glo "_law_place", .glo "law", .free "any", .free "len", .free "max", .free "min", .free "range", .free "sorted", .free "tuple", .free "zip"]
theorem facts {P : Program} {w : World} {K : PySem.W.Frag} {h : Heap} {mg : Str → Option Value} {f : Addr} (X : K.In h) (G : h.Ns mainGlobals mg) (hfa : mg ("law" : Str) = some (.ref f)) (c : He.SaysD fa fn K) :
    ∃ fd : FuncData, (∀ (s : Shared) (v : Value), BindsTo s fd ⟨[v], []⟩ [("script", v)]) ∧ ∀ base : Heap, K.In base → base.Ns mainGlobals mg → FnOk P w K mg base CX0 3 f fd ["script"] (lSp lawS) := by
  obtain ⟨fd_around, F_around⟩ := c.def_ 0 (d := dd_around) rfl
  have g_around := He.glo_ok X G (c.fact 0 (f := .glo "around") rfl)
  obtain ⟨fd__law_draw, F__law_draw⟩ := c.def_ 1 (d := dd__law_draw) rfl
  have g__law_draw := He.glo_ok X G (c.fact 1 (f := .glo "_law_draw") rfl)
  obtain ⟨fd__law_place, F__law_place⟩ := c.def_ 2 (d := dd__law_place) rfl
  have g__law_place := He.glo_ok X G (c.fact 2 (f := .glo "_law_place") rfl)
  obtain ⟨fd_law, F_law⟩ := c.def_ 3 (d := dd_law) rfl
  have g_law := He.glo_ok X G (c.fact 3 (f := .glo "law") rfl)
  have b_any := He.free_ok X G (c.fact 4 (f := .free "any") rfl)
  have b_len := He.free_ok X G (c.fact 5 (f := .free "len") rfl)
  have b_max := He.free_ok X G (c.fact 6 (f := .free "max") rfl)
  have b_min := He.free_ok X G (c.fact 7 (f := .free "min") rfl)
  have b_range := He.free_ok X G (c.fact 8 (f := .free "range") rfl)
  have b_sorted := He.free_ok X G (c.fact 9 (f := .free "sorted") rfl)
  have b_tuple := He.free_ok X G (c.fact 10 (f := .free "tuple") rfl)
  have b_zip := He.free_ok X G (c.fact 11 (f := .free "zip") rfl)
  have c_around : ∀ base : Heap, Cal P w K mg base "around" 1 aroundS := fun base => def_okD (st := s_around) F_around g_around (F_around.bindsN fun _ _ _ _ _ _ us hl => match us, hl with | [_, _, _], _ => rfl) sc_around _ l_around (fun cdv A outer s H E hr => d_around b_len b_max b_min hr) e_around
  have c__law_draw : ∀ base : Heap, Cal P w K mg base "_law_draw" 1 drawS := fun base => def_okD (st := s__law_draw) F__law_draw g__law_draw (F__law_draw.bindsN fun _ _ _ _ _ _ us hl => match us, hl with | [_, _, _], _ => rfl) sc__law_draw _ l__law_draw (fun cdv A outer s H E hr => d__law_draw b_len hr) e__law_draw
  have c__law_place : ∀ base : Heap, Cal P w K mg base "_law_place" 2 placeS := fun base => def_okD (st := s__law_place) F__law_place g__law_place (F__law_place.bindsN fun _ _ _ _ _ _ us hl => match us, hl with | [_, _, _], _ => rfl) sc__law_place _ l__law_place (fun cdv A outer s H E hr => d__law_place (c_around base) (by omega) b_len b_min hr) e__law_place
  have e := hfa.symm.trans g_law
  cases e
  have b := FunD.bindsA (ps := ["script"]) F_law fun _ _ _ _ _ _ us hl => match us, hl with | [_], _ => rfl
  exact ⟨fd_law, fun s v => b s [v] rfl, fun base _ _ => def_okF (st := s_law) F_law sc_law _ l_law (fun cdv A outer s H E hr => d_law (c__law_draw base) (by omega) (c__law_place base) (by omega) (c_around base) (by omega) b_any b_max b_min b_range b_sorted b_tuple b_zip hr) e_law⟩
abbrev Rw : PySem.W.OpenRow := PySem.W.OpenLaw.row PySem.Challenge.rw_parttree_k22_whole_around_a_place
abbrev hk : PySem.W.Hook := hookN 4 fa fn
def ob (s : PySem.W.SharedT) : Bool × He.AlD := obsN 4 fa fn (HandSHeadRun.getT s)
theorem ob_is (s : PySem.W.SharedT) : ob s = hk.obs s.abs := obsN_eq (HandSHeadRun.getT_eq s)
theorem runs (w : World) : HandSHeadRun.RunEq Rw (PySem.W.view Rw.prog [6]) hk ob 2000 ["around", "_law_draw", "_law_pick", "_law_place"] w := fun os => by kernel_rfl
end LW
open PySem PySem.W PySem.Calls PyProof.Rows
theorem PySem.Challenge.cw_parttree_k22_whole_around_a_place_holds : PySem.Challenge.rw_parttree_k22_whole_around_a_place.Holds := by
  w_on; o_law
  refine HandSHeadRun.head_any (r := OpenLaw.row PySem.Challenge.rw_parttree_k22_whole_around_a_place) (q := view (OpenLaw.row PySem.Challenge.rw_parttree_k22_whole_around_a_place).prog [6]) (H := LW.hk) (ob := LW.ob) (M := 2000) (loose := ["around", "_law_draw", "_law_pick", "_law_place"]) (d := HandSHeadRun.topDef (OpenLaw.row PySem.Challenge.rw_parttree_k22_whole_around_a_place).prog 6) (kwd := []) LW.ob_is
    (by kernel_rfl) (fun s => by kernel_rfl) LW.runs (by kernel_rfl) (by kernel_rfl)
    (by kernel_rfl) (by rfl) (by first | assumption | decide +kernel) (by decide +kernel) ⟨rfl, rfl, rfl, rfl, rfl, by decide +kernel⟩ ?hw ?hc
  case hw => w_witness2
  case hc => exact ML.walkML (l := PySem.Challenge.rw_parttree_k22_whole_around_a_place) (n := 63) (k := 3) (f := LW.lawS) rfl (by decide) (by kernel_rfl) (by kernel_rfl) ⟨rfl, by decide, by decide⟩ (fun w K mg fA h KX G hm c => LW.facts KX G hm c) LW.h_law
